import PyProof.Rows.All
import Wide.All
import OpenK.AllK
import Wide.FinOn
import KE.KLam
import Lean
import PySem.Challenge.RW_tk0075_01
set_option Elab.async false
set_option genInjectivity false
set_option genSizeOf false
set_option maxRecDepth 100000
set_option maxHeartbeats 0
set_option compiler.extract_closed false
set_option tactic.hygienic false
set_option synthInstance.maxSize 1000
set_option linter.all false
namespace Mine.Internal
theorem bx{P Q g:Prop}(h:P/\Q)(k:P->Q->g):g:=k h.1 h.2
theorem zF{P Q R g:Prop}(h:P/\Q/\R)(k:P->Q->R->g):g:=k h.1 h.2.1 h.2.2
theorem GS{P Q R S g:Prop}(h:P/\Q/\R/\S)(k:P->Q->R->S->g):g:=k h.1 h.2.1 h.2.2.1 h.2.2.2
theorem Lz{P Q R S T g:Prop}(h:P/\Q/\R/\S/\T)(k:P->Q->R->S->T->g):g:=k h.1 h.2.1 h.2.2.1 h.2.2.2.1 h.2.2.2.2
theorem Nj{P Q R S T U g:Prop}(h:P/\Q/\R/\S/\T/\U)(k:P->Q->R->S->T->U->g):g:=k h.1 h.2.1 h.2.2.1 h.2.2.2.1 h.2.2.2.2.1 h.2.2.2.2.2
theorem db{u:Sort _}{P:u->Prop}{g:Prop}(h:∃a,P a)(k:∀a,P a->g):g:=Exists.elim h k
theorem aN{u:Sort _}{P Q:u->Prop}{g:Prop}(h:∃a,P a/\Q a)(k:∀a,P a->Q a->g):g:=Exists.elim h λa q=>k a q.1 q.2
theorem fk{u:Sort _}{P Q R:u->Prop}{g:Prop}(h:∃a,P a/\Q a/\R a)(k:∀a,P a->Q a->R a->g):g:=Exists.elim h λa q=>k a q.1 q.2.1 q.2.2
theorem GT{u:Sort _}{P Q R S:u->Prop}{g:Prop}(h:∃a,P a/\Q a/\R a/\S a)(k:∀a,P a->Q a->R a->S a->g):g:=Exists.elim h λa q=>k a q.1 q.2.1 q.2.2.1 q.2.2.2
theorem qW{u:Sort _}{P Q R S T:u->Prop}{g:Prop}(h:∃a,P a/\Q a/\R a/\S a/\T a)(k:∀a,P a->Q a->R a->S a->T a->g):g:=Exists.elim h λa q=>k a q.1 q.2.1 q.2.2.1 q.2.2.2.1 q.2.2.2.2
theorem LA{u:Sort _}{P Q R S T U:u->Prop}{g:Prop}(h:∃a,P a/\Q a/\R a/\S a/\T a/\U a)(k:∀a,P a->Q a->R a->S a->T a->U a->g):g:=Exists.elim h λa q=>k a q.1 q.2.1 q.2.2.1 q.2.2.2.1 q.2.2.2.2.1 q.2.2.2.2.2
theorem Nk{u:Sort _}{P Q R S T U V:u->Prop}{g:Prop}(h:∃a,P a/\Q a/\R a/\S a/\T a/\U a/\V a)(k:∀a,P a->Q a->R a->S a->T a->U a->V a->g):g:=Exists.elim h λa q=>k a q.1 q.2.1 q.2.2.1 q.2.2.2.1 q.2.2.2.2.1 q.2.2.2.2.2.1 q.2.2.2.2.2.2
theorem IZ{u Y:Sort _}{P:u->Y->Prop}{g:Prop}(h:∃a b,P a b)(k:∀a b,P a b->g):g:=Exists.elim h λa q=>db q (k a)
theorem i5{u Y:Sort _}{P Q:u->Y->Prop}{g:Prop}(h:∃a b,P a b/\Q a b)(k:∀a b,P a b->Q a b->g):g:=Exists.elim h λa q=>aN q (k a)
theorem d9{u Y:Sort _}{P Q R:u->Y->Prop}{g:Prop}(h:∃a b,P a b/\Q a b/\R a b)(k:∀a b,P a b->Q a b->R a b->g):g:=Exists.elim h λa q=>fk q (k a)
theorem I0{u Y:Sort _}{P Q R S:u->Y->Prop}{g:Prop}(h:∃a b,P a b/\Q a b/\R a b/\S a b)(k:∀a b,P a b->Q a b->R a b->S a b->g):g:=Exists.elim h λa q=>GT q (k a)
theorem GU{u Y:Sort _}{P Q R S T:u->Y->Prop}{g:Prop}(h:∃a b,P a b/\Q a b/\R a b/\S a b/\T a b)(k:∀a b,P a b->Q a b->R a b->S a b->T a b->g):g:=Exists.elim h λa q=>qW q (k a)
theorem LB{u Y:Sort _}{P Q R S T U:u->Y->Prop}{g:Prop}(h:∃a b,P a b/\Q a b/\R a b/\S a b/\T a b/\U a b)(k:∀a b,P a b->Q a b->R a b->S a b->T a b->U a b->g):g:=Exists.elim h λa q=>LA q (k a)
theorem GV{u Y i:Sort _}{P:u->Y->i->Prop}{g:Prop}(h:∃a b c,P a b c)(k:∀a b c,P a b c->g):g:=Exists.elim h λa q=>IZ q (k a)
theorem qs{u Y i:Sort _}{P Q:u->Y->i->Prop}{g:Prop}(h:∃a b c,P a b c/\Q a b c)(k:∀a b c,P a b c->Q a b c->g):g:=Exists.elim h λa q=>i5 q (k a)
theorem uU{u Y i:Sort _}{P Q R:u->Y->i->Prop}{g:Prop}(h:∃a b c,P a b c/\Q a b c/\R a b c)(k:∀a b c,P a b c->Q a b c->R a b c->g):g:=Exists.elim h λa q=>d9 q (k a)
theorem xM{u Y i:Sort _}{P Q R S:u->Y->i->Prop}{g:Prop}(h:∃a b c,P a b c/\Q a b c/\R a b c/\S a b c)(k:∀a b c,P a b c->Q a b c->R a b c->S a b c->g):g:=Exists.elim h λa q=>I0 q (k a)
theorem LC{u Y i:Sort _}{P Q R S T:u->Y->i->Prop}{g:Prop}(h:∃a b c,P a b c/\Q a b c/\R a b c/\S a b c/\T a b c)(k:∀a b c,P a b c->Q a b c->R a b c->S a b c->T a b c->g):g:=Exists.elim h λa q=>GU q (k a)
theorem Nl{u Y i:Sort _}{P Q R S T U:u->Y->i->Prop}{g:Prop}(h:∃a b c,P a b c/\Q a b c/\R a b c/\S a b c/\T a b c/\U a b c)(k:∀a b c,P a b c->Q a b c->R a b c->S a b c->T a b c->U a b c->g):g:=Exists.elim h λa q=>LB q (k a)
theorem Nm{u Y i l:Sort _}{P:u->Y->i->l->Prop}{g:Prop}(h:∃a b c d,P a b c d)(k:∀a b c d,P a b c d->g):g:=Exists.elim h λa q=>GV q (k a)
theorem K7{u Y i l:Sort _}{P Q R S:u->Y->i->l->Prop}{g:Prop}(h:∃a b c d,P a b c d/\Q a b c d/\R a b c d/\S a b c d)(k:∀a b c d,P a b c d->Q a b c d->R a b c d->S a b c d->g):g:=Exists.elim h λa q=>xM q (k a)
theorem LF{u Y i l m:Sort _}{P Q R:u->Y->i->l->m->Prop}{g:Prop}(h:∃a b c d e,P a b c d e/\Q a b c d e/\R a b c d e)(k:∀a b c d e,P a b c d e->Q a b c d e->R a b c d e->g):g:=Exists.elim h λa q=>Exists.elim q λb q=>Exists.elim q λc q=>Exists.elim q λd q=>Exists.elim q λe q=>k a b c d e q.1 q.2.1 q.2.2
@[elab_as_elim]theorem rwl{T:Sort _}{a b:T}{P:T->Prop}(e:a=b)(h:P b):P a:=e▸h
@[elab_as_elim]theorem rwr{T:Sort _}{a b:T}{P:T->Prop}(e:b=a)(h:P b):P a:=e▸h
@[elab_as_elim]theorem K8{u:Sort _}{P:u->Prop}(x:u)(k:∀z,x=z->P z):P x:=k x rfl
@[elab_as_elim]theorem cM{u:Type _}{P:Option u->Prop}(x:Option u)(k:x=none->P none)(l:∀a,x=some a->P (some a)):P x:=match x with|none=>k rfl|some a=>l a rfl
@[elab_as_elim]theorem cO{P:Bool->Prop}(x:Bool)(k:x=true->P true)(l:x=false->P false):P x:=match x with|true=>k rfl|false=>l rfl
@[elab_as_elim]theorem LG{u:Type _}{P:List u->Prop}(x:List u)(k:x=[]->P [])(l:∀a r,x=a::r->P (a::r)):P x:=match x with|[]=>k rfl|a::r=>l a r rfl
theorem bG{u:Type _}{a:u}{g:Prop}(h:none=some a):g:=nomatch h
theorem iy{u:Type _}{a:u}{g:Prop}(h:some a=none):g:=nomatch h
theorem sK{g:Prop}(h:true=false):g:=nomatch h
theorem cT{g:Prop}(h:false=true):g:=nomatch h
theorem Nn{u:Type _}{a:u}{l:List u}{g:Prop}(h:[]=a::l):g:=nomatch h
theorem Dt{u:Type _}{a:u}{l:List u}{g:Prop}(h:a::l=[]):g:=nomatch h
theorem xN{a b:Nat}{g:Prop}(h:a=b)(n:Nat.beq a b=false):g:=cT (n.symm.trans (h▸Nat.beq_refl a))
theorem xK{u:Type _}(f:u->Nat){a b:u}{g:Prop}(h:a=b)(n:Nat.beq (f a) (f b)=false):g:=xN (congrArg f h) n
theorem zL{u:Type}(i:Nonempty u)(P:u->Prop):Nonempty {x:u//P x->∀y,P y}:=(Classical.em (∃y,¬P y)).elim (λh=>h.elim λy n=>⟨⟨y,λz=>(n z).elim⟩⟩) λh=>i.elim λx=>⟨⟨x,λJ y=>Classical.byContradiction λn=>h ⟨y,n⟩⟩⟩
noncomputable def zM{u:Type}{i:Nonempty u}(P:u->Prop):u:=(Classical.choice (zL i P)).1
theorem gW{u:Type}{i:Nonempty u}{P:u->Prop}(h:P (zM (i:=i) P)):∀x,P x:=(Classical.choice (zL i P)).2 h
noncomputable def ch1{a:Type}{i:Nonempty (a)}(P:a->Prop):a:=zM (i:=i) λt=>P t
theorem g1{a:Type} [i:Nonempty (a)]{P:a->Prop}(h:P (ch1 (i:=i) P)):∀Z,P Z:=λZ=>gW (i:=i) (P:=λt=>P t) h Z
noncomputable def ch2{a j:Type}{i:Nonempty (a×j)}(P:a->j->Prop):a×j:=zM (i:=i) λt=>P t.1 t.2
theorem g2{a j:Type} [i:Nonempty (a×j)]{P:a->j->Prop}(h:P (ch2 (i:=i) P).1 (ch2 (i:=i) P).2):∀Z G,P Z G:=λZ G=>gW (i:=i) (P:=λt=>P t.1 t.2) h (Z,G)
noncomputable def ch3{a j k:Type}{i:Nonempty (a×j×k)}(P:a->j->k->Prop):a×j×k:=zM (i:=i) λt=>P t.1 t.2.1 t.2.2
theorem g3{a j k:Type} [i:Nonempty (a×j×k)]{P:a->j->k->Prop}(h:P (ch3 (i:=i) P).1 (ch3 (i:=i) P).2.1 (ch3 (i:=i) P).2.2):∀Z G T,P Z G T:=λZ G T=>gW (i:=i) (P:=λt=>P t.1 t.2.1 t.2.2) h (Z,G,T)
noncomputable def ch4{a j k l:Type}{i:Nonempty (a×j×k×l)}(P:a->j->k->l->Prop):a×j×k×l:=zM (i:=i) λt=>P t.1 t.2.1 t.2.2.1 t.2.2.2
theorem g4{a j k l:Type} [i:Nonempty (a×j×k×l)]{P:a->j->k->l->Prop}(h:P (ch4 (i:=i) P).1 (ch4 (i:=i) P).2.1 (ch4 (i:=i) P).2.2.1 (ch4 (i:=i) P).2.2.2):∀Z G T I,P Z G T I:=λZ G T I=>gW (i:=i) (P:=λt=>P t.1 t.2.1 t.2.2.1 t.2.2.2) h (Z,G,T,I)
noncomputable def ch5{a j k l m:Type}{i:Nonempty (a×j×k×l×m)}(P:a->j->k->l->m->Prop):a×j×k×l×m:=zM (i:=i) λt=>P t.1 t.2.1 t.2.2.1 t.2.2.2.1 t.2.2.2.2
theorem g5{a j k l m:Type} [i:Nonempty (a×j×k×l×m)]{P:a->j->k->l->m->Prop}(h:P (ch5 (i:=i) P).1 (ch5 (i:=i) P).2.1 (ch5 (i:=i) P).2.2.1 (ch5 (i:=i) P).2.2.2.1 (ch5 (i:=i) P).2.2.2.2):∀Z G T I B,P Z G T I B:=λZ G T I B=>gW (i:=i) (P:=λt=>P t.1 t.2.1 t.2.2.1 t.2.2.2.1 t.2.2.2.2) h (Z,G,T,I,B)
noncomputable def ch6{a j k l m n:Type}{i:Nonempty (a×j×k×l×m×n)}(P:a->j->k->l->m->n->Prop):a×j×k×l×m×n:=zM (i:=i) λt=>P t.1 t.2.1 t.2.2.1 t.2.2.2.1 t.2.2.2.2.1 t.2.2.2.2.2
theorem g6{a j k l m n:Type} [i:Nonempty (a×j×k×l×m×n)]{P:a->j->k->l->m->n->Prop}(h:P (ch6 (i:=i) P).1 (ch6 (i:=i) P).2.1 (ch6 (i:=i) P).2.2.1 (ch6 (i:=i) P).2.2.2.1 (ch6 (i:=i) P).2.2.2.2.1 (ch6 (i:=i) P).2.2.2.2.2):∀Z G T I B z,P Z G T I B z:=λZ G T I B z=>gW (i:=i) (P:=λt=>P t.1 t.2.1 t.2.2.1 t.2.2.2.1 t.2.2.2.2.1 t.2.2.2.2.2) h (Z,G,T,I,B,z)
noncomputable def ch7{a j k l m n o:Type}{i:Nonempty (a×j×k×l×m×n×o)}(P:a->j->k->l->m->n->o->Prop):a×j×k×l×m×n×o:=zM (i:=i) λt=>P t.1 t.2.1 t.2.2.1 t.2.2.2.1 t.2.2.2.2.1 t.2.2.2.2.2.1 t.2.2.2.2.2.2
theorem g7{a j k l m n o:Type} [i:Nonempty (a×j×k×l×m×n×o)]{P:a->j->k->l->m->n->o->Prop}(h:P (ch7 (i:=i) P).1 (ch7 (i:=i) P).2.1 (ch7 (i:=i) P).2.2.1 (ch7 (i:=i) P).2.2.2.1 (ch7 (i:=i) P).2.2.2.2.1 (ch7 (i:=i) P).2.2.2.2.2.1 (ch7 (i:=i) P).2.2.2.2.2.2):∀Z G T I B z E,P Z G T I B z E:=λZ G T I B z E=>gW (i:=i) (P:=λt=>P t.1 t.2.1 t.2.2.1 t.2.2.2.1 t.2.2.2.2.1 t.2.2.2.2.2.1 t.2.2.2.2.2.2) h (Z,G,T,I,B,z,E)
noncomputable def ch8{a j k l m n o p:Type}{i:Nonempty (a×j×k×l×m×n×o×p)}(P:a->j->k->l->m->n->o->p->Prop):a×j×k×l×m×n×o×p:=zM (i:=i) λt=>P t.1 t.2.1 t.2.2.1 t.2.2.2.1 t.2.2.2.2.1 t.2.2.2.2.2.1 t.2.2.2.2.2.2.1 t.2.2.2.2.2.2.2
theorem g8{a j k l m n o p:Type} [i:Nonempty (a×j×k×l×m×n×o×p)]{P:a->j->k->l->m->n->o->p->Prop}(h:P (ch8 (i:=i) P).1 (ch8 (i:=i) P).2.1 (ch8 (i:=i) P).2.2.1 (ch8 (i:=i) P).2.2.2.1 (ch8 (i:=i) P).2.2.2.2.1 (ch8 (i:=i) P).2.2.2.2.2.1 (ch8 (i:=i) P).2.2.2.2.2.2.1 (ch8 (i:=i) P).2.2.2.2.2.2.2):∀Z G T I B z E L,P Z G T I B z E L:=λZ G T I B z E L=>gW (i:=i) (P:=λt=>P t.1 t.2.1 t.2.2.1 t.2.2.2.1 t.2.2.2.2.1 t.2.2.2.2.2.1 t.2.2.2.2.2.2.1 t.2.2.2.2.2.2.2) h (Z,G,T,I,B,z,E,L)
noncomputable def ch9{a j k l m n o p q:Type}{i:Nonempty (a×j×k×l×m×n×o×p×q)}(P:a->j->k->l->m->n->o->p->q->Prop):a×j×k×l×m×n×o×p×q:=zM (i:=i) λt=>P t.1 t.2.1 t.2.2.1 t.2.2.2.1 t.2.2.2.2.1 t.2.2.2.2.2.1 t.2.2.2.2.2.2.1 t.2.2.2.2.2.2.2.1 t.2.2.2.2.2.2.2.2
theorem g9{a j k l m n o p q:Type} [i:Nonempty (a×j×k×l×m×n×o×p×q)]{P:a->j->k->l->m->n->o->p->q->Prop}(h:P (ch9 (i:=i) P).1 (ch9 (i:=i) P).2.1 (ch9 (i:=i) P).2.2.1 (ch9 (i:=i) P).2.2.2.1 (ch9 (i:=i) P).2.2.2.2.1 (ch9 (i:=i) P).2.2.2.2.2.1 (ch9 (i:=i) P).2.2.2.2.2.2.1 (ch9 (i:=i) P).2.2.2.2.2.2.2.1 (ch9 (i:=i) P).2.2.2.2.2.2.2.2):∀Z G T I B z E L b,P Z G T I B z E L b:=λZ G T I B z E L b=>gW (i:=i) (P:=λt=>P t.1 t.2.1 t.2.2.1 t.2.2.2.1 t.2.2.2.2.1 t.2.2.2.2.2.1 t.2.2.2.2.2.2.1 t.2.2.2.2.2.2.2.1 t.2.2.2.2.2.2.2.2) h (Z,G,T,I,B,z,E,L,b)
noncomputable def ch10{a j k l m n o p q r:Type}{i:Nonempty (a×j×k×l×m×n×o×p×q×r)}(P:a->j->k->l->m->n->o->p->q->r->Prop):a×j×k×l×m×n×o×p×q×r:=zM (i:=i) λt=>P t.1 t.2.1 t.2.2.1 t.2.2.2.1 t.2.2.2.2.1 t.2.2.2.2.2.1 t.2.2.2.2.2.2.1 t.2.2.2.2.2.2.2.1 t.2.2.2.2.2.2.2.2.1 t.2.2.2.2.2.2.2.2.2
theorem g10{a j k l m n o p q r:Type} [i:Nonempty (a×j×k×l×m×n×o×p×q×r)]{P:a->j->k->l->m->n->o->p->q->r->Prop}(h:P (ch10 (i:=i) P).1 (ch10 (i:=i) P).2.1 (ch10 (i:=i) P).2.2.1 (ch10 (i:=i) P).2.2.2.1 (ch10 (i:=i) P).2.2.2.2.1 (ch10 (i:=i) P).2.2.2.2.2.1 (ch10 (i:=i) P).2.2.2.2.2.2.1 (ch10 (i:=i) P).2.2.2.2.2.2.2.1 (ch10 (i:=i) P).2.2.2.2.2.2.2.2.1 (ch10 (i:=i) P).2.2.2.2.2.2.2.2.2):∀Z G T I B z E L b c,P Z G T I B z E L b c:=λZ G T I B z E L b c=>gW (i:=i) (P:=λt=>P t.1 t.2.1 t.2.2.1 t.2.2.2.1 t.2.2.2.2.1 t.2.2.2.2.2.1 t.2.2.2.2.2.2.1 t.2.2.2.2.2.2.2.1 t.2.2.2.2.2.2.2.2.1 t.2.2.2.2.2.2.2.2.2) h (Z,G,T,I,B,z,E,L,b,c)
open Lean in
def walkK(s:Syntax):String:=match s.getKind with|.str _ x=>x|_=>""
open Lean in
def walkN(k:Name)(a:Array Syntax):Syntax:=.node .none k a
open Lean in
def walkA(f:Syntax->Syntax)(s:Syntax):Syntax:=s.rewriteBottomUp f
open Lean in
def walkB(m:NameMap Syntax)(s:Syntax):Syntax:=match s with
  |.ident _ _ v _=>(m.find? v).getD (s.setInfo .none)
  |.atom _ v=>.atom .none v
  |_=>s
open Lean in
def walkC(m:NameMap Syntax)(s:Syntax):Syntax:=
  let f:=s[0]
  let t:=f[1]
  let b:=s[1]
  match walkK s with
  |"null"=>walkN `null (s.getArgs.flatMap fun b=>if walkK b=="instBinder"&&walkK b[2]=="forall" then b[2][1].getArgs else #[b])
  |"app"=>if walkK f=="app" then s.setArgs #[f[0],t.setArgs (t.getArgs++b.getArgs)]
    else if walkK f=="fun" then walkA (walkB (t[0].getArgs.size.fold (fun i _ m=>m.insert t[0][i].getId b[i]) {})) t[3]
    else s
  |"declaration"=>if ["definition","abbrev","instance"].contains (walkK b) then s.setArg 0 (f.setArg 4 (walkN `null #[walkN ``Parser.Command.noncomputable #[mkAtom "noncomputable"]])) else s
  |"section"=>match s[2][0].getId with
    |.str n x=>if n==`E then walkN ``Parser.Command.end #[mkAtom "end",walkN `null #[mkIdent (.mkSimple x),walkN `null #[]]] else if x=="E" then walkN ``Parser.Command.end #[mkAtom "end",walkN `null #[]] else s
    |_=>s
  |k=>
    let t:=if k=="exact" then b else if k=="ext" then b[0][0][0] else .missing
    if walkK t=="byTactic" then walkN ``Parser.Tactic.paren #[mkAtom "(",t[1],mkAtom ")"] else walkB m s
open Lean in
local macro_rules
  | `(command| mutual $cs* end) => do
    let c:Array Syntax:=cs
    if walkK c[0]!!="variable" then Macro.throwUnsupported
    let v:=c[0]![1].getArgs
    let m:=v.size.fold (fun i _ m=>m.insert v[i]![1][0].getId (walkA (walkC m) v[i]![2][1])) {}
    return walkN `null ((c.extract 1 c.size).map (walkA (walkC m)))
section
open PySem PySem.W PySem.Calls PyProof.Rows PySem.SeqAt Builtin Builtin.ObjectAttr
mutual
variable(rwR:λa1=>by refine rwr a1 ?_)
 (rwLL:λa1 b1=>by refine rwl a1 (rwl b1 ?_))
 (rwLLR:λa1 b1 c1=>by refine rwl a1 (rwl b1 (rwr c1 ?_)))
 (rwL:λa1=>by refine rwl a1 ?_)
 (rwLLL:λa1 b1 c1=>by refine rwl a1 (rwl b1 (rwl c1 ?_)))
 (bcH:λh1 p1=>by refine Classical.byCases (p:=p1) (λh1=>?_) λh1=>?_)
 (dl4:λa1 b1 c1 d1=>by revert a1 b1 c1 d1;apply g4;generalize (ch4 _).1=a1,(ch4 _).2.1=b1,(ch4 _).2.2.1=c1,(ch4 _).2.2.2=d1;intros)
 (dl6:λa1 b1 c1 d1 e1 f1=>by revert a1 b1 c1 d1 e1 f1;apply g6;generalize (ch6 _).1=a1,(ch6 _).2.1=b1,(ch6 _).2.2.1=c1,(ch6 _).2.2.2.1=d1,(ch6 _).2.2.2.2.1=e1,(ch6 _).2.2.2.2.2=f1;intros)
 (rwRR:λa1 b1=>by refine rwr a1 (rwr b1 ?_))
 (dl7:λa1 b1 c1 d1 e1 f1 g1=>by revert a1 b1 c1 d1 e1 f1 g1;apply g7;generalize (ch7 _).1=a1,(ch7 _).2.1=b1,(ch7 _).2.2.1=c1,(ch7 _).2.2.2.1=d1,(ch7 _).2.2.2.2.1=e1,(ch7 _).2.2.2.2.2.1=f1,(ch7 _).2.2.2.2.2.2=g1;intros)
 (dl9:λa1 b1 c1 d1 e1 f1 g1 h1 i1=>by revert a1 b1 c1 d1 e1 f1 g1 h1 i1;apply g9;generalize (ch9 _).1=a1,(ch9 _).2.1=b1,(ch9 _).2.2.1=c1,(ch9 _).2.2.2.1=d1,(ch9 _).2.2.2.2.1=e1,(ch9 _).2.2.2.2.2.1=f1,(ch9 _).2.2.2.2.2.2.1=g1,(ch9 _).2.2.2.2.2.2.2.1=h1,(ch9 _).2.2.2.2.2.2.2.2=i1;intros)
 (dl10:λa1 b1 c1 d1 e1 f1 g1 h1 i1 j1=>by revert a1 b1 c1 d1 e1 f1 g1 h1 i1 j1;apply g10;generalize (ch10 _).1=a1,(ch10 _).2.1=b1,(ch10 _).2.2.1=c1,(ch10 _).2.2.2.1=d1,(ch10 _).2.2.2.2.1=e1,(ch10 _).2.2.2.2.2.1=f1,(ch10 _).2.2.2.2.2.2.1=g1,(ch10 _).2.2.2.2.2.2.2.1=h1,(ch10 _).2.2.2.2.2.2.2.2.1=i1,(ch10 _).2.2.2.2.2.2.2.2.2=j1;intros)
 (dl1:λa1=>by revert a1;apply g1;generalize (ch1 _)=a1;intros)
 (dl8:λa1 b1 c1 d1 e1 f1 g1 h1=>by revert a1 b1 c1 d1 e1 f1 g1 h1;apply g8;generalize (ch8 _).1=a1,(ch8 _).2.1=b1,(ch8 _).2.2.1=c1,(ch8 _).2.2.2.1=d1,(ch8 _).2.2.2.2.1=e1,(ch8 _).2.2.2.2.2.1=f1,(ch8 _).2.2.2.2.2.2.1=g1,(ch8 _).2.2.2.2.2.2.2=h1;intros)
 (dl5:λa1 b1 c1 d1 e1=>by revert a1 b1 c1 d1 e1;apply g5;generalize (ch5 _).1=a1,(ch5 _).2.1=b1,(ch5 _).2.2.1=c1,(ch5 _).2.2.2.1=d1,(ch5 _).2.2.2.2=e1;intros)
 (dl3:λa1 b1 c1=>by revert a1 b1 c1;apply g3;generalize (ch3 _).1=a1,(ch3 _).2.1=b1,(ch3 _).2.2=c1;intros)
 (rwLR:λa1 b1=>by refine rwl a1 (rwr b1 ?_))
 (rwRL:λa1 b1=>by refine rwr a1 (rwl b1 ?_))
 (rwLLLL:λa1 b1 c1 d1=>by refine rwl a1 (rwl b1 (rwl c1 (rwl d1 ?_))))
 (rwLRR:λa1 b1 c1=>by refine rwl a1 (rwr b1 (rwr c1 ?_)))
 (rwRLL:λa1 b1 c1=>by refine rwr a1 (rwl b1 (rwl c1 ?_)))
 (rwRRL:λa1 b1 c1=>by refine rwr a1 (rwr b1 (rwl c1 ?_)))
 (rwLRL:λa1 b1 c1=>by refine rwl a1 (rwr b1 (rwl c1 ?_)))
 (dl2:λa1 b1=>by revert a1 b1;apply g2;generalize (ch2 _).1=a1,(ch2 _).2=b1;intros)
 (rwLLLR:λa1 b1 c1 d1=>by refine rwl a1 (rwl b1 (rwl c1 (rwr d1 ?_))))
 (z1:∀(i : Nat),_)
 (q_:∀(k : Nat),_)
 (b2:Bool)
 (Pu:∀(b : Bool),_)
 (a0Q:∀[Pu] (x y : LT),_)
 (dk:List)
 (QI:dk Nat)
 (OS:pL xs)
 (t4:dk Int)
 (T2:Int.ofNat)
 (R8:uV xs ys)
 (a5:Prop)
 (bL:cond)
 (y1:fj xs ys)
 (gj:False)
 (ki:Nat->Int)
 (fq:i+1)
 (WU:Int.zero_add)
 (T6:Int.add_zero)
 (WR:Int.add_assoc)
 (av:false)
 (am:true)
 (lj:Nat.ble)
 (QP:dk Lf)
 (bm:k+1)
 (li:List.casesOn)
 (sp:by exact cT h)
 (SO:Nat.le_of_ble_eq_true)
 (Qn:Nat.casesAuxOn)
 (VJ:List.mem_append.mp)
 (WJ:List.mem_map.mp)
 (SS:List.mem_filter.mp)
 (V_:λH F=> ? _)
 (b_:this)
 (a2u:λl T e=> ? _)
 (UK:Bool.and_eq_true_iff.mp)
 (b6:absurd)
 (F_:List.replicate)
 (c5:p.1)
 (a56:λp=>(c5,mY k p.2))
 (nr:List.mem_cons.mp)
 (TO:List.mem_singleton.mpr rfl)
 (a3t:List.mem_flatMap.mpr)
 (a1R:List.mem_map.mpr)
 (Ys:vl xs ys)
 (a3:rwLL)
 (c4:if_pos)
 (OU:List.mem_cons_self)
 (TT:Int.natCast_nonneg)
 (pn:List.mem_cons_of_mem _)
 (a0j:Int.ofNat_le.mpr)
 (H_:(0:Int))
 (ai:rwL)
 (Td:by exact rwL h;rfl)
 (b9:if_neg)
 (Yr:DD xs ys b)
 (Wi:Cq xs ys)
 (u':Bool.casesOn)
 (ec:rwLLL)
 (a5x:List.mem_append_left _)
 (a3b:List.mem_append_right _)
 (a2t:Int.le_of_eq)
 (a25:Classical.byContradiction)
 (Ok:h.elim)
 (b7:.inl)
 (ba:.inr)
 (v1:∀{k:Nat},_)
 (Qg:List.all_eq_true.mp)
 (c0:Nat.beq)
 (a0W:sN k (c/16))
 (WW:y1 (hy 0 c))
 (od:λe=> ? _)
 (Qp:by replace h:=e▸h)
 (WG:c0 (uN c).length)
 (w8:λi W=> ? _)
 (TQ:Nat.eq_of_beq_eq_true)
 (L_:List.getElem?_eq_some_iff.mp)
 (a5w:Nat.lt_of_succ_lt_succ)
 (PZ:Nat->a5)
 (Qk:Nat.not_lt_zero)
 (a3N:Nat.lt_or_eq_of_le)
 (oc:Nat.le_of_lt_succ)
 (pk:lin0)
 (X3:lin (UK u).1)
 (YB:(UK u).2)
 (bn:lin1)
 (c6:lin2)
 (kq:lin3)
 (a6K:∀(G:y1 (hy 1 c))(T:y1 (hy 2 c))(I:y1 (hy 3 c)),_)
 (a2R:nx (nx (nx (nx n0 G) T) I) B)
 (a4q:∀[a6K](B:y1 (hy 4 c))(z:y1 (hy 5 c)),_)
 (f0:∀(n : Nat),_)
 (E2:Nonempty)
 (bv:.mk)
 (ap:none)
 (d7:dk UInt8)
 (xi:∀(i : Id),_)
 (SC:∀(n : Str),_)
 (b5:dk V)
 (Vw:∀(vs : b5),_)
 (hq:body)
 (hC:Expr)
 (lD:scope)
 (X5:∀(scope : Scope),_)
 (mz:cells)
 (OX:dk (Str × Id))
 (a1:.none)
 (dd:dk (Str × V))
 (RO:dk (Int × V))
 (ez:Option)
 (ii:ez V)
 (sw:.tab)
 (d_:dk ae)
 (M_:dk (Nat × d_))
 (cv:Type)
 (a_:pure)
 (Yy:Decidable)
 (fl:decide)
 (aj:some)
 (C1:aj a)
 (w0:default)
 (ss:∀(v : V),_)
 (hH:.next)
 (e_:dk Stmt)
 (C2:aj b)
 (hP:.bool)
 (B_:hP b)
 (a4:.int)
 (f6:a4 i)
 (c1:.str)
 (ek:.bytes)
 (hj:ek b)
 (jn:.Name)
 (eI:aj x)
 (RQ:.Constant)
 (UG:.Assign)
 (d0:aj v)
 (Uj:dk (K×V))
 (Wb:Id->ez ae)
 (ck:aj o)
 (oq:bo s)
 (m5:∀(m:ac),_)
 (Yx:az s m.L)
 (b4:λq=> ? _)
 (hK:az t)
 (a9:bcH)
 (s_:c4 rfl)
 (UA:by exact rwL s_)
 (Wv:by rewrite [Nat.beq_refl];rfl)
 (Rt:b9 h)
 (LL:Ne.symm)
 (S':c0 c5 t)
 (V':λh=> ? _)
 (w2:b9 q)
 (Od:by exact rwL b_)
 (a3i:Nat.ne_of_beq_eq_false)
 (xj:Ev ac)
 (f_:∀{m:ac},_)
 (eX:∀{i:Id},_)
 (Fc:m.H i)
 (RC:Fc=ck)
 (pj:m.upd)
 (Xi:Id.mk.inj)
 (Uo:bv t k)
 (Vy:List.getElem?_append_right)
 (a24:List.getElem?_append_left)
 (QY:Nat.le_add_right)
 (v2:m.mk1)
 (PY:λG=> ? _)
 (a3a:Nat.add_sub_cancel_left)
 (cb:[_,_])
 (a0:.refl am)
 (O1:Nat.le_of_eq)
 (l0:Unit)
 (VQ:bv d (m.c d))
 (j_:E α)
 (wj:λJ=>gj)
 (a8:Ev.bad)
 (a2:.ref)
 (eF:a2 i)
 (hD:.tup)
 (bC:.list)
 (Oj:bC vs)
 (F2:.flist)
 (QH:∀(e:Expr),_)
 (eP:dk hC)
 (L0:.Tuple)
 (On:.Call)
 (TG:.Return)
 (UW:.ExceptHandler)
 (A':a_ av)
 (i4:Ev.need)
 (nw:b.length)
 (Zk:nw<=16777216)
 (ka:vs.length)
 (Qb:ez b2)
 (S5:V->V->Qb)
 (OO:V->b2)
 (di:a4 _)
 (F3:hP _)
 (kN:I.length)
 (Pf:∀(a b:V),_)
 (L2:x==y)
 (I':c1 x)
 (a6S:(hZ f I p).map λr=>r&&kN==p.length)
 (YW:pN (q6 m.H 5) m.H a b)
 (un:aj r)
 (rv:a2 _)
 (a1V:λa b=>bV (a-b))
 (Tj:Int.fdiv)
 (a2B:λa b=>i4 (0<b/\b<1073741824) (bV (Tj a b)))
 (xz:Int.fmod)
 (ZQ:λa b=>i4 (b≠0) (bV (xz a b)))
 (YS:λa b=>a_ (fl (a<b)))
 (a5n:λa b=>a_ (fl (b<a)))
 (x0:ez Int)
 (t_:aj 0)
 (QC:Ev.ofOpt)
 (lI:.idc)
 (f4:.barr)
 (Rm:j.toNat)
 (Ts:u.toNat)
 (w_:hD vs)
 (a4g:es.length<=1000)
 (Wh:nw<=1000)
 (PJ:UInt8.ofNat)
 (pb:dk Str)
 (hL:"Pipe")
 (SJ:"size")
 (V0:"read_count")
 (WQ:"write_count")
 (Yh:"read_open")
 (X9:"write_open")
 (Qr:"PipeTable")
 (s3:"ProcessCalls")
 (U8:"OpenFile")
 (We:"holders")
 (N1:"pipe")
 (r_:"FileTable")
 (Pm:"Descriptors")
 (Qv:"Process")
 (UF:"state")
 (Un:"channel")
 (Xq:"killed")
 (fI:"Table")
 (P1:"first")
 (VZ:Str.ofString)
 (Om:.inst)
 (sh:Om c)
 (TL:vs[k]?)
 (a7N:(b[k]?).map λu=> a4 Ts)
 (Uy:.enum i)
 (v0:a4 k)
 (Uv:-1000000)
 (a6:args)
 (wl:∀(args:b5),_)
 (o_:.rng 0)
 (ZG:ka<=1000)
 (v_:aj k)
 (NS:hP av)
 (UE:"bytes")
 (C4:"bytearray")
 (y2:hP am)
 (Q_:"append")
 (Zv:n==(Q_:Str))
 (YV:λY r=>gL r.1 r.2 Y)
 (m_:Fl × dd)
 (bj:call)
 (w':∀(call:aD),_)
 (w7:"BadCall")
 (Qu:"_law_store")
 (T9:"_law_draw")
 (QZ:"_law_lined_up")
 (Qt:"_law_plan")
 (a2h:"_law_is_due")
 (XF:"_law_kills_right")
 (V2:"_law_ends")
 (Zn:"_law_writes")
 (Zu:"_law_reads")
 (a0f:"_law_turn_right")
 (UO:"_law_first_right")
 (D2:"enumerate")
 (xd:∀(x:Str),_)
 (a3h:x==("__debug__":Str))
 (lF:∀(fm:Fm),_)
 (RI:fm.scope.names.lookup)
 (xw:aj .local)
 (f2:.cell)
 (OM:aj f2)
 (TW:fm.cells.lookup)
 (Uz:f2 d0)
 (Ws:.globalImplicit)
 (tn:fm.loc)
 (lP:"__init__")
 (Oe:"write")
 (RB:"read")
 (A_:"close")
 (OC:"process")
 (Pd:"wait")
 (QO:"find")
 (Xa:"children")
 (qi:"ready")
 (a2s:"channel_of")
 (Pz:"wakeup")
 (Tm:.fn c f)
 (WL:.clos b sc cl)
 (a0V:mE.contains)
 (U3:1000000+d)
 (tb:R.ev e fm)
 (gm:Ev.br)
 (Qa:R.test)
 (kp:gm b)
 (TA:a_ am)
 (a0E:zY op a b)
 (P4:aj e)
 (Zw:dk (ez hC))
 (cp:n+1)
 (QK:a_ ())
 (Yw:bK R .And)
 (mc:{fm with loc})
 (Qh:dk (Str×NameKind))
 (a7m:λx=>(TW x.1).map λc=>(x.1,c))
 (V3:bv 3000000)
 (Wd:.function)
 (a0P:qt R a6 fm)
 (O_:∀(pos:Pos),_)
 (W':.Attribute)
 (qj:pos.line)
 (Qw:R.ev o fm)
 (TM:cj src)
 (V1:scope.names)
 (ej:bC [])
 (VE:dx R elt tgt ifs src i)
 (a1Y:⟨lD,[],mz⟩)
 (Xp:Z.length)
 (a14:.Subscript o k)
 (a2E:.ListComp elt gens)
 (X8:a_ (hH,tn))
 (kE:(hH,loc))
 (Yg:(.cont,loc))
 (Yq:(.brk,loc))
 (a9Z:vs.all (foldedForSure 8)|| ! vs.all (constantsAlone 8))
 (Yv:ts.length)
 (a3X:dk ExceptHandler)
 (LO:.ret v)
 (w1:(·.1))
 (a0J:B.lookup x)
 (X':m.c 2000000)
 (nn:bv 2000000)
 (R7:c.length)
 (Ve:ds.length)
 (Q3:d.scope.names)
 (SQ:d.scope.names.lookup)
 (Rl:Nat->aD)
 (hN:prog)
 (g_:∀{v:V},_)
 (z5:ae.casesOn)
 (a5D:λv e=>(s v e).mono h)
 (u_:Option.casesOn)
 (ep:trivial)
 (ef:ac->a5)
 (si:V->ef)
 (w9:ez (E V))
 (UZ:ez Addr)
 (Oi:λJ=>0)
 (a8d:⟨λJ J=>0,{strHash:=Oi,shareClass:=Oi,mergeTok:=id,idOf:=Oi,idOfShared:=λJ J=>0,followText:=λJ=>av,idOfImm:=Oi}⟩)
 (m9:Value)
 (q4:∀(C : Cx),_)
 (iv:∀(σ : Sg),_)
 (Ro:∀[q4] [iv],_)
 (D':VR C)
 (dm:D' σ)
 (NP:b.toArray)
 (hM:σ.m)
 (Ql:ao hM)
 (C3:Ql i)
 (tp:σ.ρ)
 (eT:tp i)
 (e0:a2 eT)
 (er:a2 a)
 (O0:bootBuiltins)
 (kn:items)
 (j':σ.h.get?)
 (lL:.type)
 (PQ:lL "tuple")
 (Wp:aj { cls := PQ, data := .seq kn })
 (xb:bW C σ)
 (OV:xb vs)
 (Pn:items.toList)
 (Uu:.rng G W)
 (a0p:lL "function")
 (eS:dk m9)
 (II:ez m9)
 (Oo:aj w)
 (FI:dm v w)
 (a2g:dk (K × m9))
 (OG:PR C σ)
 (Qx:σ.δ i)
 (B2:o.data)
 (a18:B2= .dict Y j)
 (Qs:lL "list")
 (ZR:{cls:= Qs,data:= .seq kn n})
 (PO:C.gb.get?)
 (x2:lL C4)
 (a0D:codeAmong pos)
 (nk:σ.m.H)
 (lc:nk i)
 (Wk:jS o=av)
 (NR:.fields)
 (U2:lL "range")
 (PP:j' b = ck)
 (QE:gJ σ b)
 (ZF:PO b = ap)
 (Oa:a + 1)
 (Th:h.get?)
 (Xo:Th b=ck)
 (E':h'.get?)
 (Ou:E' b=ck)
 (TH:D.ρ i)
 (Qy:D.h.get?)
 (ey:Addr->a5)
 (eC:.builtin)
 (a07:Builtin.Bytes.decodersThatHold.contains)
 (OF:∀(A:Around),_)
 (i1:Shared->a5)
 (el:m9->i1)
 (Rj:∀(s:Shared),_)
 (e5:s.heap)
 (x_:bH C σ)
 (UD:m9->a5)
 (B5:bz S σ)
 (Ob:At C D U)
 (N7:At C σ s)
 (P2:bM S σ)
 (NN:cH C X S σ)
 (QS:model C.prog C.w)
 (q0:bp QS A)
 (PT:mainGlobals)
 (W_:builtinsNs)
 (X2:e.frame=aj L)
 (p_:dk Env)
 (P8:∀(l : p_),_)
 (QD:∀(env : Env),_)
 (YT:∀ e ∈ l, dG C σ e)
 (KX:env.kindOf)
 (np:env.locals)
 (h_:∀{σ:Sg},_)
 (q':∀{vs:b5},_)
 (M':∀[q']{ws:eS},_)
 (tq:OV ws)
 (Rf:ws.length)
 (t6:.cons)
 (us:dk (Str × m9))
 (Qc:∀(K:Frag),_)
 (a1U:findIn K (a2 A))
 (a64:aj (aj (eC "object.__setattr__")))
 (o2:∀{s:Shared},_)
 (FL:∀(at_:N7),_)
 (QT:∀[o2][FL],_)
 (eZ:at_.heap)
 (SB:∀(a : Addr),_)
 (a17:Shared → a5)
 (PM:wpAny)
 (H':PM M A)
 (a47:d.params.args.map (·.arg))
 (ZW:@LT.lt Nat _ sysModules C.lo)
 (Za:C.ca w7 = aj K)
 (B6:a2 K)
 (a5J:lL "BaseException")
 (a0L:lL "type")
 (Yp:Around.inC)
 (Vu:A.units)
 (Rp:∀{M:Model},_)
 (kS:bp M A)
 (a0e:Nat.le_succ_of_le)
 (p0:s.heap.get?)
 (a7w:bH C ⟨D.ρ, D.δ, D.m, B⟩)
 (a7I:∃ o', B.get? b = aj o')
 (a2F:l.filterMap (·.frame))
 (a4I:aa C (Yp A) (Xc C l) S0 σ D')
 (Uh:PySem.call)
 (WV:aa C A X)
 (hO:WV S σ)
 (h9:hO R)
 (wa:h9 t)
 (U7:h s at_)
 (YA:U7 p Q E)
 (SV:A.guards = aj [])
 (G2:A.handled = ap)
 (hG:2 * n)
 (a13:recursionLimit)
 (OL:cw C l)
 (k_:OL σ env fm)
 (a1F:RI (w7:Str)=aj Ws)
 (TY:aa C A (Xc C l))
 (hr:eval)
 (a7d:On (jn w7 p) [RQ I' k U] [])
 (b3:Pure.pure)
 (QW:"ValueError")
 (R6:lL QW)
 (P_:"self")
 (QB:"reason")
 (Ut:K.lookup)
 (NU:a2 76)
 (h7:Str->II)
 (a8N:∀n c args x,s n c a6=eI->∀P PX m,x P PX m->∃P',l7 m P' P/\i n c a6 P' PX m)
 (U6:λJ=>ap)
 (s1:Bool.noConfusion)
 (hh:congrArg)
 (hA:b7 rfl)
 (hR:Option.some.inj)
 (RK:by have O:=hR e;clear e;subst O)
 (UM:Option.isSome_iff_exists.mp)
 (m2:∀(I:x_),_)
 (eH:bM.none)
 (WK:λJ q=>q.elim)
 (R0:∀[eX]{o:ae},_)
 (Q9:λJ J=>rfl)
 (SI:x.live)
 (TF:x.fresh)
 (RV:∀{σ D:Sg},_)
 (SN:bz S0 σ)
 (ty:SN D)
 (mv:∀{j:Nat},_)
 (a46:∀{o:Obj}{Y:Array DictEntry}[mv],_)
 (VC:Data.noConfusion)
 (a1v:VC (hd.symm.trans q))
 (y_:Array m9)
 (G':Eq.symm)
 (e3:∀{n:Nat},_)
 (a8K:by refine aN R λK U J=> ? _;clear R;refine xM U λo a j P Y hd J=> ? _;clear U;exact⟨o,P,dw hd⟩)
 (a4E:by replace r:=e▸r;have O:=hR r;clear r;subst O)
 (a05:∀{S:ey}[RV][m2](x:B5 D)(p:P2),_)
 (lS:∀{a:Addr},_)
 (a0G:∀[RV](x:ku σ D),_)
 (mm:∀{w:Value},_)
 (US:∀[g_][mm](h:FI),_)
 (a3x:by rintro⟨_,_,q⟩;cases q)
 (a7M:.clos hq sc mz a name g cl)
 (ZO:∀{F:Uj}{d:a2g}(h:OG F d),_)
 (a83:∀(W:lc=ck)(H:Wk->Qy eT=j' eT)(F:df o=am->Qy Qx=j' Qx)(R:fE C σ i o),_)
 (NZ:by exact rwL g)
 (O9:b6 rfl)
 (a4h:by exact a3 g H;exact G)
 (a9N:by refine aN R λd U I=> ? _;clear R;refine qs U λo Y j G h=> ? _;clear U)
 (ei:Nat.le_trans)
 (a2r:Heap.lt_size)
 (P6:∀{h':Heap},_)
 (l_:{σ with h:=h'})
 (Zt:λo e J=> ? _)
 (ea:by exact rwL e)
 (Zi:I.base b o e)
 (a8Q:∀[h_][P6][eX]{o o':ae}[lS][m2](W:lc=ck)(l:dv o'=dv o)(m:a=eT\/(df o=am/\a=Qx)),_)
 (a5C:∀b o,b≠a->PP->Ou)
 (Tc:σ.m.upd i)
 (Vx:⟨tp,σ.δ,(Tc o'),h'⟩)
 (PH:c4 q)
 (XY:(hR e).symm)
 (Q6:by replace e:=q▸e)
 (a0X:by replace e:=z▸e)
 (pf:by exact bG e)
 (XW:I.tabs t P e)
 (T5:Heap.SameBut)
 (b0j:∀[RV][m2](m:∀i o,lc=ck->D.m.H i=ck)(n:∀i,C3->TH=eT),_)
 (Xy:@LE.le Nat _ σ.h.objs.size)
 (W9:λo q=> ? _)
 (NT:ba rfl)
 (UR:Heap.get?_none_of_le)
 (a0I:e.symm.trans)
 (Y':σ.mk1 i m1 a d)
 (p2:by replace h:=q▸h)
 (vh:c4 z)
 (K':b9 z)
 (a1J:by subst G;intro U;subst U)
 (Q':Result->i1)
 (x4:bp.of)
 (kk:Sem α)
 (O':α->i1)
 (Q1:.error e)
 (o1:holding)
 (P7:Sem m9)
 (O7:∀{pos:Pos},_)
 (Rh:∀{Q:l0->i1},_)
 (Oh:standAt)
 (xv:Oh pos)
 (RN:∀{c:a5} [Yy c],_)
 (a6i:λr U=>match r with| .ok LO=>Q v U| .ok _=>gj| Q1=>E e U)
 (a1S:λe U=>R Q1 U)
 (a2q:Code.builtin)
 (WC:Bool.false_ne_true)
 (O5:λJ=> ? _)
 (VT:entryFor table)
 (h6:model hN w)
 (QN:bp _ _)
 (F1:by exact rwL a)
 (a0O:⟨a6,[]⟩)
 (VN:checkBuiltinCall)
 (R5:s.TypeIs)
 (yy:Sg->β->α->a5)
 (i2:xj β)
 (Vn:∀(B:X.Mono),_)
 (T0:decide_eq_true)
 (S1:decide_eq_false)
 (Ol:∀{d:Nat},_)
 (a4m:Sg->δ->γ->a5)
 (T':∀{t:kk}{x:i2},_)
 (a27:by refine d9 O λP PX N Y h=> ? _)
 (a50:λa m'=>f a P PX m')
 (th:aa.bind)
 (a87:∀[Vn]{R:yy}{R':a4m}{t:kk}{k:α->Sem γ}{x:i2}{f:β->xj δ},_)
 (z0:aa.pure)
 (s2:by intro s at_ p Q E O)
 (Q2:bz.refl _ _)
 (lv:at_.inv)
 (RH:aa.bad)
 (mn:aa.stand)
 (B4:aa.hold)
 (R4:aa.lookE)
 (wn:aa.need)
 (hE:aa.ite)
 (Pa:c4 h)
 (O3:∀(F:k_)[m2],_)
 (W6:λJ J q=>q)
 (a2p:λy c e=> ? _)
 (a98:by refine qs B λo J J P J=> ? _;clear B;replace q:=P▸q;exact iy q)
 (oi:aa.val)
 (D1:PM QS A)
 (Yk:D1 t Q E s)
 (eG:hO D')
 (Qj:at_.tok _)
 (U9:h _ _ Qj)
 (i_:s.toks)
 (d6:by exact RH)
 (N2:∀{x:Str},_)
 (gs:dl10)
 (nz:λJ=>RH)
 (OI:by exact rwL q)
 (Tg:λL=> ? _)
 (Ug:λo P=> ? _)
 (a3B:λs at_ Q E h=> ? _)
 (Ye:at_.inv.obj)
 (RY:λT=> ? _)
 (a5h:List.contains_iff_mem.mp)
 (Xh:s.heap.Ns)
 (U1:⟨_,rfl⟩)
 (OP:∀{b:d7},_)
 (a4L:by refine d9 h.cons_inv λw o d=> ? _;subst d)
 (Vg:by simpa using e)
 (ZE:λt U=> ? _)
 (Oc:aa.onInt)
 (kb:V.casesOn)
 (a3v:λu=>h9 (T u) (k i))
 (Vk:aa.onRef)
 (Xg:aa.onInts)
 (Q0:lc=aj Oj)
 (UC:aa.arg0)
 (QG:∀{e:Expr},_)
 (Ux:jn x p)
 (Ox:Expr.casesOn)
 (Vj:aa.argv1)
 (YU:bv d (σ.m.c d))
 (l5:s.heap.objs.size)
 (G1:s.heap.push)
 (a7k:eG t (do return a2 (<-ci d o)))
 (L':Heap.get?_push_of_some _)
 (Wg:eZ▸e)
 (oa:Nat.le_refl)
 (nl:oa _)
 (og:V.ref)
 (P9:p.ext0)
 (ZT:⟨rfl,I,at_.gens,at_.os⟩)
 (a7s:σ.mk1 YU (σ.m.mk1 d o) l5 0)
 (WN:lc=aj (bC I))
 (PW:binaryOp)
 (a2o:a2 (tp j))
 (SR:Array.length_toList)
 (NM:sizeLine_eq)
 (Rb:[_,_,_,_])
 (a7:[_])
 (b0m:bn (nat_lit 0x1190100000020019000003e820010) [] a7)
 (YN:∀{a b:V}{u v:Value},_)
 (a3j:∀[YN](o:dm a u)(Z:dm b v),_)
 (Pi:a4 a)
 (t5:a4 n)
 (a5Z:Int.toNat_of_nonneg)
 (P5:∀[QT][eX],_)
 (a3W:s.heap.IsList eT)
 (Tb:items.size)
 (a2X:λw=>hO (ny C) (truthy w) _)
 (XT:k s _ at_ rfl)
 (Xx:λs at_ Q E k=> ? _)
 (a4v:λw=>isSame a1 w=A'/\(av=av->isSame w a1=A'))
 (hS:λJ=>rfl)
 (Po:by exact bcH q (i=j))
 (f1:eq_of_beq)
 (b8:wpAny_bind)
 (W2:wpAny_load)
 (f':wpAny_pure)
 (a5p:hO (ny C) (isSame u v))
 (Xf:λm=> ? _)
 (Zd:dk (Str×Addr))
 (XA:List.filter_cons_of_pos)
 (YR:List.filter_cons_of_neg)
 (D_:λz=> ? _)
 (a8i:∀ i o, m1.H i = ck ↔ (RC ∨ (Fc = ap ∧ ∃ j x, c[j]? = eI ∧ i = nn (X' + j) ∧ o = f2 a0J)))
 (VI:List.isEmpty_iff.mp)
 (R3:F.lookup)
 (a6Z:by rewrite [List.lookup_eq_none_iff];intro p O)
 (Z4:List.mem_map_of_mem)
 (s0:List.lookup_cons)
 (rs:by exact bG h)
 (A1:∀(n j:Nat),_)
 (Y1:List.mem_reverse.mp)
 (c_:j+1)
 (eb:[_,_,_])
 (a2f:List.map_cons)
 (a0v:σ.m.c 2000000)
 (Qq:h.objs.size)
 (a4Y:Option.isNone_iff_eq_none.mp)
 (su:h₁)
 (hB:∀(j:Nat),_)
 (a0C:Nat.add_assoc)
 (QM:l5+1)
 (Ri:env::l)
 (N_:λb=>b=np)
 (Wa:by exact rwL m;rfl)
 (TX:List.append_nil)
 (SP:List.mem_of_getElem?)
 (a3A:(·.key.isStr name))
 (ON:by dsimp only)
 (Us:F.length)
 (XQ:List.length_cons)
 (PD:by ext ea;rfl)
 (py:Bool.and_eq_true)
 (V6:∀{Q:el}{E:el},_)
 (XI:∀[Rp][o2]{E:el},_)
 (UN:{s with heap:=h',toks:=t})
 (Z3:{s with toks:=i_+1})
 (a29:Heap.get?_update_self _)
 (Wx:by rewrite [Bool.and_false])
 (s4:⟨rfl,rfl⟩)
 (Xj:λy=> ? _)
 (N':Array UInt8)
 (a2e:⟨_,rfl,h⟩)
 (RE:by rewrite [typeLookup_type];exact rwL builtinLookup_eq_fast;kernel_rfl)
 (ij:by decide+kernel)
 (QV:by rewrite [isSubtype_type];kernel_rfl)
 (VY:typeIs_bytes)
 (Qm:wpAny_of_eq)
 (S3:wpAny_holding)
 (zf:λa=> ? _)
 (Vm:Nat->b2)
 (a4f:List.length_nil)
 (ZS:Option.bind_eq_some_iff.mp h)
 (ZV:Option.map_eq_some_iff.mp)
 (w3:rwLLLL)
 (F4:List.getElem?_eq_getElem)
 (Z':∀(m:dm a u)(M:dm b v),_)
 (Ur:a4 x t)
 (WM:beq_iff_eq.mpr)
 (OE:l.length)
 (TV:beq_self_eq_true)
 (a8R:by have h:(if gx a b=am then aj am else pN (q6 nk d) nk a b)=un:=h;exact bcH e (gx a b=am))
 (xp:by have O:=hR h;clear h;subst O)
 (a6l:∀a b u v r,dm a u->dm b v->f a b=un->EqAt A.in1 s u v r)
 (a0d:of_decide_eq_true)
 (a4R:by refine d9 O λP PX N Y q=> ? _;clear O)
 (Y_:Vu+6<cLine)
 (Um:compareOp)
 (a0Z:aa.made Xx)
 (YG:bn (nat_lit 0x1090100000020009000003e820001) a7 [])
 (Vz:Heap.get?_push_size _ rfl)
 (Y6:List.mem_cons)
 (Zr:beq_iff_eq)
 (a90:by rewrite [Bool.eq_iff_iff];rewrite [Zr];rewrite [Zr];exact eq_comm)
 (Op:WV S0 σ)
 (PC:Op D')
 (N8:hr e env)
 (U':Op (ny C))
 (Uq:starEach)
 (S4:bh C A X l R)
 (Qf:∀[Vn](n:S4),_)
 (Yo:backTo pos)
 (VF:n.ev e env fm σ F I)
 (vd:F.ext I)
 (Zh:VR.ext d t eH)
 (W8:markedEach)
 (a8G:by show [markedBehindIn op e N8]=_;unfold markedBehindIn;rewrite [Bool.not_eq_true]at M;exact rwL M;rfl)
 (ZD:o1 [u] N8)
 (PU:op2::ops)
 (a1d:o1 [u,f] (Um op u f))
 (a1O:release [u,f] [c])
 (a1n:o1 [c,f] (truthy c))
 (R9:b3 av)
 (b0i:tb>>=λb=>a0E>>=λr=>gm r (jb R b PU [] fm) R9)
 (a00:by refine th B (B4 VF) λj w v x d z=>mn ? _;refine th B (B4 (gQ o (VR.ext I x eH h) z)) λT c r t W L=>aa.release ? _;subst L;refine aa.silent (λs J Q E k=>S3 (wpAny_truthy_bool k)) ? _)
 (Qz:e2::Y)
 (a3M:evalEach Qz env)
 (b0h:tb>>=λb=>a0E>>=λr=>gm r (jb R b [] Qz fm) R9)
 (b0f:tb>>=λb=>a0E>>=λr=>gm r (jb R b PU Qz fm) R9)
 (Wz:∀{K:cv} [DecidableEq K],_)
 (a3V:(d.map w1).Nodup)
 (a6s:by replace B:=a2f▸B;rewrite [List.nodup_cons]at B)
 (a4H:bn (nat_lit 0x1c1a010019000110) [] a7)
 (ZX:PySem.strKind C.prog C.w)
 (Z2:PySem.intKind C.prog)
 (TC:getItem)
 (a3z:List.filterMap_cons)
 (S7:λv e=> ? _)
 (W7:typeLookup)
 (a6v:W7 (lL T) "__getitem__"=a_ (aj (eC id)))
 (VW:subscriptTail)
 (VP:wpAny_specialOf)
 (a28:"bytearray.__getitem__")
 (a1t:x7 C A X S σ v c pos)
 (a7H:<-ci d (bC (bO I G W y)))
 (PE:by exact rwL u)
 (D3:λt=> ? _)
 (NX:PM _ _)
 (VB:Int.eq_ofNat_of_zero_le)
 (O8:f' ? _)
 (Yj:setItem e0)
 (a2d:d9 (eO at_ m))
 (a42:by refine aN (ky at_ m) λd l O=> ? _)
 (a0S:by rewrite [py]at L)
 (a2G:['y','a','r','r','a','e','t','y','b'])
 (a5Y:"bytearray.__len__")
 (a36:.of (owner:=C4))
 (a32:entryFor_of_tree)
 (a5m:"bytearray.__setitem__")
 (WB:"bytearray.append")
 (a1k:Builtin.Bytes.fitsIndex)
 (a5g:Builtin.Bytes.subscript?)
 (a1N:{s with heap:=h'})
 (a0z:lc=aj (f4 b))
 (VV:⟨_,g,rfl⟩)
 (a6h:by show NX (Builtin.Bytes.payload e0>>=λr=>_) _ _ s;refine b8 (iG g ? _))
 (Qd:a4 u)
 (a3s:Bool.or_eq_false_iff)
 (X4:PJ x.toNat)
 (a96:by refine aA ? _;unfold Builtin.Bytes.exportsOf;refine b8 (W2 g O8))
 (a0o:Bool.or_eq_true)
 (a9M:λd l J=>uU (id l) λo a j P Y J=>⟨l.typeIs,o,P,Y.2.1⟩)
 (a1E:beq_eq_false_iff_ne)
 (Z_:λs at_ Q E c=> ? _)
 (a5U:eC "list.append")
 (a4t:c6 (nat_lit 0x1090100000020009000003e82100b001002) cb [])
 (l1:a4 0)
 (tt:a4 1)
 (R2:p0 b=ck)
 (a3g:List.take_of_length_le)
 (RU:lL UE)
 (Z0:bj (eC "isinstance"))
 (a3y:by refine bm_if_false rfl ? _)
 (a2U:Qm (a:=()) rfl ? _)
 (a7U:by unfold Builtin.«bytes.__new__»;refine b8 (Qm (a:=am) rfl ? _);ext a3y;refine b8 (Qm PySem.F.bm_sub ? _);ext a3y;refine b8 (Qm (PySem.F.bm_bind _) ? _);refine b8 a2U;refine b8 a2U;ext a3y)
 (a35:wpAny_rule ? _)
 (a9J:NX (Builtin.Bytes.buffer? "bytes.__new__" er am>>=_) _ _ _)
 (a8J:by refine⟨_,rfl,x,ZT,dg _ _ _,? _⟩;show(m1.H i).isSome=am;ext PE;unfold sO;ext UA;rfl)
 (a8g:∀h' r,(∀b x,p0 b=eI->E' b=eI)->(∀D i,ty->D.h=h'->TH=l5->fE C D i o)->Q (a2 l5) {s with heap:=h',toks:=r})
 (a5F:by refine bx O.newE λq O=> ? _)
 (a7Z:by refine qW (at_.newIn (i:= YU) (o:=o) (m1:=σ.m.mk1 d o) r dA q P N λD x g u=>F D _ x g u) λD m1 x K g u=> ? _;refine O.ok (b:=og (Id.mk d (σ.m.c d))) D _ _ m1 x.of0 (P9 x) K ? _;exact rwR g;exact rv u)
 (a5N:Code.quiet_builtin _)
 (VO:"type.__call__")
 (Zq:by refine aW rfl ? _)
 (Wy:"bytearray.__new__")
 (VA:"bytearray.__init__")
 (a7r:Builtin.«bytearray.__init__»)
 (a80:signature?_of (id:=VA) (n:=['_','_','t','i','n','i','_','_']) (o:=a2G))
 (Yc:bN #[] 0)
 (a9p:Builtin.Bytes.bindOptional VA C4 ["source","encoding","errors"])
 (b0e:by ext ON;refine aA a2U;refine aA a2U;refine ad (ox D g ? _);ext Zq)
 (Q8:Nat.zero_le)
 (a9v:ow (Q₁:=λj f=>j= a2 l5/\f={s with heap:=G1 Yc}) BA.called)
 (XC:λw=>eG (bj w ws) _)
 (Wj:ba hA)
 (lN:∀(G:GF C mg mb),_)
 (a2O:Yo (Uq a6 env))
 (a0Y:WV S0 j R')
 (a79:by show a0Y (if(Yo (Uq a6 env)).length+2*([]:dk (ez Str×P7)).length>30 then _ else _) (k vs);exact i (tail Z) (tail (m _)))
 (a3P:⟨er::rest,[]⟩)
 (VH:(G1 emptyDict).push)
 (TZ:instObj K l5)
 (W1:Nat.le_succ)
 (Ta:Xc.mono l)
 (OK:V.bool)
 (a1Q:n.ev o env fm σ)
 (a9i:k_->x_->PC (hr (.Lambda H hq sc pos) env) (z6 H (Ha hq sc fm)))
 (a8p:∀elt gens sc pos env fm σ,k_->x_->PC (hr (a2E sc pos) env) (fT gens λg=>wF g (qu R elt sc pos fm)))
 (a8P:∀Z vs pos env fm σ,k_->x_->PC (hr (.Dict Z vs pos) env) (z7 R Z vs pos fm))
 (a9u:bn (nat_lit 0x10a10361000a103000000142355010002) cb [] b_ a0)
 (a6j:by refine LF (oE h) λx y p v vs' N=> ? _;subst N;intro c;subst c;intro h')
 (a2L:{cls:= lL "dict",data:= .dict #[]})
 (zn:dk Addr)
 (a3q:σ.h.IsListIter a eT)
 (YQ:Builtin.Range.rangeSize)
 (QJ:a2 e)
 (w6:List.mem_singleton.mp)
 (QQ:∀{src:V},_)
 (a2y:∀{it:Value}{fp:zn}[v1][QQ](h:oF C σ it fp k src),_)
 (Sz:iI C σ)
 (a7K:by refine fk d λo P L hd=> ? _;clear d)
 (YJ:List.mem_singleton_self a)
 (e4:σ₀)
 (N9:σ₀.h.get?)
 (a8T:λi o W=>(I.obj i o W).vsame v Q9 W (λd=>t _ (l8 W d)) (λq=>t _ (wO W q)))
 (Y0:letOwnedTupleGo tgt)
 (a55:qE C σ s er [a] k)
 (a5b:oI C A tgt er Q E E₂ s)
 (a84:by refine fk (cg at_ W) λitems U Z B=> ? _;have h:s.heap.IsListIter a eT k:=eZ▸d)
 (a68:cM TL (λN=> ? _) λv N=> ? _)
 (a7q:List.getElem?_eq_none_iff.mp N)
 (a5S:λh' y=>n a h' YJ y)
 (a6J:by replace n:=N▸n;refine aN (Z.arr N) λw g u=> ? _)
 (a7D:D.elim λo x=>⟨o,x.1⟩)
 (a10:((bm:Nat):Int))
 (RR:Nat.ne_of_gt)
 (Vo:by exact rwL K')
 (a34:A2 C l env fm)
 (X7:bindName env)
 (Zc:assign t env)
 (RW:assignEach)
 (a7l:assignInOrder (ts.map λt=>Zc))
 (J':Nat.ne_of_lt)
 (Xm:∀{σ₀:Sg},_)
 (G3:Int.le_trans)
 (V8:λb q=>q)
 (a4N:.ListComp elt [⟨tgt,it,ifs,0⟩])
 (YD:a4N lD pos)
 (a5I:.compLoop YD 0 g acc)
 (a4e:List.forIn_cons)
 (XZ:∀{scope:Scope},_)
 (a7n:∀{elt tgt it:Expr}{ifs:eP}[XZ][O7],_)
 (Vt:l0->ef)
 (Xn:W.locals)
 (a1l:Around.under_of_weight)
 (a8U:by replace h:=c4 e▸h;refine aN ZS λc H F=> ? _;refine aN (ZV F) λcs Q d=> ? _;subst d)
 (a9y:∀x c,cells.lookup x=aj c->Ql c/\cl.lookup x=aj (tp c))
 (a31:Nat.succ_ne_self)
 (a6Q:λv=>dB v λi=>q5 i λJ=>b3 (V.enum i))
 (a0h:ez (m9->Sem l0))
 (a8M:vs.flatMap λ(n,k)=>if k== f2 then((W.cells.lookup n).map Value.ref).toList else [])
 (a9m:scope.names.filter λ(n,k)=>(k== .local||k== f2)&&n !=(".0":Str))
 (a1s:comprehension.letGo W)
 (a4w:∀x∈V1,x.2= .local->W.kindOf x.1=xw)
 (a4s:fJ C A X l lD use)
 (a9t:λb m' d D U a u y g K z=>k D U a b y K z ⟨P,PX,N,Y,u▸d⟩)
 (a2M:x.2= .local\/x.2= .free\/x.2= Ws)
 (a2Z:env.scope.kind== Wd)
 (a59:if(x.2== .free&&a2Z&&KX x.1==OM)=am then(x.1,NameKind.cell)else(x.1,x.2))
 (W3:λx Y=> ? _)
 (a0g:by replace this:=e▸b_)
 (ZL:a4s σ Q E)
 (a7R:{cls:= Qs,data:= .seq #[]})
 (a6r:(H.heap.push a7R).objs.size)
 (a7p:[rawInt p.line,rawInt p.col,c])
 (WT:bL (c0 t s))
 (a8c:by have h:Yx[n]? =ck:=h;refine db (L_ h) λB e=> ? _;show ac.mk (oq ((az s m.L).set n o) m.L)=m;exact rwR e;rewrite [List.set_getElem_self])
 (a8H:kla_obj "<lambda>" (env.qual++"<lambda>") jc hq lD cl ((mg "__name__").getD a1) y u)
 (F':Nat.lt_succ_self)
 (a8h:{cls:= a0p,data:= .func (kla_fn "<lambda>" (env.qual++"<lambda>") jc hq lD cl ((mg "__name__").getD a1) Z u)})
 (a3w:∀{σ₀ D:Sg}{U:Shared},_)
 (a5s:by have O:=hR j;clear j;subst O)
 (a9w:∀(at_:Ob)(x:bz S e4 D)(Y:Xc C (env::c) e4 D U e)(p:∀b,S b->N9 b=ap),_)
 (a0N:leaving env)
 (a3c:by have O:=hR g;clear g;subst O)
 (k2:exec)
 (a0y:pY C A l env R)
 (RF:TY N_ σ (mo C l env fm))
 (Vd:swapsWith)
 (ZK:a2E sc q)
 (a78:env.blockKind== Wd&&KX x==xw&&p.line==(Expr.ListComp elt gens sc q).pos.line&& !(sc.names.any λ(n,k)=>n==x&&(k== .local||k== f2)))
 (SU:bh C A (Xc C l) l)
 (TR:aa.bind0 Ta)
 (Pw:Fl.next)
 (XG:λJ=>b3 Flow.next)
 (a0B:swappedStores)
 (a53:by rewrite [arm_exec_Assign])
 (a7Q:.forLoop tgt g hq [] env)
 (a6C:λx=>do noteFrame x env;theTreesLotGoes x)
 (lR:m_->ef)
 (U0:{a with loc})
 (a8E:by generalize(λe U=>q0 (do noteFrame e env;theTreesLotGoes e) (λJ t=>Rr Q1 t) (λe U=>Rr Q1 U) U:el)=y)
 (oj:w bm)
 (a2n:Nat.succ.inj)
 (a1I:hideAll σ.h (a2F))
 (a2c:hideAll_get _)
 (a3r:⟨tp,σ.δ,hM,B⟩)
 (a5H:⟨D.ρ,D.δ,hM,B⟩)
 (a7G:k2 (.Raise P4 ap pos) env)
 (a8o:∀{q:Str}(k:A.depth<a13)(P:p0 a=ck)(j:B2= .func fd)(b:fd.scope.isCoroutine=av)(d:fd.scope.isGenerator=av),_)
 (a8l:PM h6 A.in1 (newFunctionEnv fd.scope fd.globals fd.closure binds (q++".<locals>.") C1 fd.code ap fd.builtins))
 (a7T:by refine aR ? _;show bp _ A.in1 (callAny er a6) _ _ s;unfold callAny;refine x4 (b8 (W2 P ? _));refine K7 W λc y vs t L n g B=> ? _;clear W;rewrite [j];show NX (callFunction a fd a6) _ _ s;unfold callFunction;rewrite [L,i,d,b];replace h:=L▸h;refine b8 (m:=field (a2 c) 1) (wpAny_field n g B (b8 O8));exact b8 (wpAny_mono h (λbinds f h₁=>b8 (wpAny_mono su (λenv H m=>b8 (wpAny_enterFrame m.1 k (f' ⟨rfl,rfl,m.2⟩))) λJ J h'=>h')) λJ J h'=>h'))
 (a11:A.deeper env)
 (V4:λj D=> ? _)
 (VM:env.frame=aj np)
 (a5M:List.mem_of_mem_take)
 (a8C:by show A.depth+1<a13;have:=D.d;refine bn (nat_lit 0x10a10311000a10321325311200003) eb [] b_ a0)
 (a8m:by show A.depth+1+1+hG+2<a13;have:=D.d;refine bn (nat_lit 0x10a2032132510311311000a20321325311100003) eb [] b_ a0)
 (a8k:by show Vu+1+3+5*n+20<cLine;have:=D.u;refine bn (nat_lit 0x10a20300000014235510331311000a203000000142355311100003) eb [] b_ a0)
 (a7c:N a1 e6 L T n8 a1 u k8 eH F a1)
 (a4T:k2 (.Try b Z [] [] pos) env)
 (b0o:by rewrite [mP];refine ad (aO ? _);unfold tryStmt;refine jo rfl ? _)
 (a5B:[RQ a h pa,RQ b i n])
 (b0l:.handlers er [UW (aj (jn w7 y)) ap [] j] env)
 (J_:env::outer)
 (a0c:cw C J_ σ env fm)
 (ZZ:bh C A (Xc C J_) J_)
 (a03:aa C A (Xc C J_) N_ σ (mo C J_ env fm))
 (a1h:.Try [TG P4 rp])
 (a6d:[UW (aj (jn w7 a)) ap [TG un j] k])
 (a9a:noteFrame h env>>=λJ=>setFlight h ap>>=λJ=>handleBy h env a6d)
 (Tq:f.length)
 (a5v:(f.zip vs).reverse.map)
 (a9B:(∀e fm,tb=a8)\/∃R',ZZ R'/\∀e fm,tb=l6 C.P bj R' e fm)
 (a9F:⟨λJ J J J J J J J J J=>RH,λJ J J J J J J J J J J=>RH⟩)
 (a3R:(c.zip ws).lookup)
 (UH:OU ..)
 (UQ:R7 - Ve)
 (a1r:List.take_append_drop)
 (SY:List.length_take)
 (SZ:Nat.min_eq_left)
 (a8O:lin4 (nat_lit 0x10b30320410000900100900300910430000b204430001004) Rb [] d T e D a0)
 (XO:List.length_drop)
 (a5A:fd.params.args.length)
 (Tp:t.length)
 (a0n:List.length_map)
 (Qi:List.length_append)
 (Wm:Str->UZ)
 (a8r:match Ut c with|aj ⟨_,_,NR vs,_⟩=>(match(vs[1]? :II)with|aj (c1 _ _)=>am|_=>av)|_=>av)
 (a9Y:match qw e with|d0=>Ld (λJ J=>ap) U6 v w| a1=>av)
 (S_:[_,_,_,_,_])
 (a3o:[841,855,862,876,886])
 (a2m:Th 76=aj iT)
 (XN:⟨h,g,d,t,os⟩)
 (a2V:by have F:=PySem.F.excBase_ValueError)
 (a1e:(Value.ref 76::kX).contains)
 (WE:wpAny_loadPart_at)
 (a5X:wpAny_isSubtype_exc)
 (a8w:(h.push {cls:= PQ,data:= .seq rest.toArray}).push {cls:= NU,data:= NR #[a2 Qq,a1,a1,a1,NS,a1]})
 (a5f:{cls:= NU,data:= NR vs})
 (a6t:{cls:=o.cls,dict:=aj Qq,data:=B2,slots:=o.slots})
 (a3n:"ValueError.__init__")
 (b0p:aj {cls:= NU,data:= NR #[a2 l,a1,a1,a1,NS,a1]})
 (XH:callEnv uP L 36)
 (ih:regs)
 (jm:∀(f:Nat),_)
 (D4:bv 31 i)
 (m4:p.wc)
 (x1:aq j)
 (f5:a2 x1)
 (RA:r.rest)
 (PL:r.ended)
 (OD:r.killed)
 (a30:⟨0,0,am,am⟩)
 (k3:∀(s:St),_)
 (l9:∀(c:Cf)[k3],_)
 (LR:∀[f0][l9],_)
 (Xw:(3000000,[sw,sw,sw,sw,sw]))
 (Ov:bv 598)
 (TK:Ov 0)
 (Xl:aj t5)
 (N0:c.text)
 (Zb:bv 1000728 1)
 (js:a2 (aq 0))
 (XR:a2 (bv 636 1))
 (RX:"great")
 (UB:"small")
 (x3:s.at_)
 (a6c:(598,.sd [(RX,a2 (bv 601 s.gi)),(UB,a2 (Ov (c.sk+1))),("at",a4 x3)]::c.so))
 (SX:a2 (bv 460 0))
 (a8D:Om fI [("places",SX),("next_pid",a4 (n+2:Nat)),("last",t5),(P1,js),("running",a1)])
 (VG:bC (F_ 32 l1))
 (f3:c.room)
 (NO:bv 77 0)
 (a9L:Om Qr [(SJ,a4 f3),("made",t5),("pipes",a2 NO)])
 (Yi:bv 1000727)
 (Ui:a2 (bS f))
 (OY:bv 1000726 0)
 (a71:(1000728,[Om "Parts" [("table",a2 OY),("files",a2 (Yi 1)),("nodes",a1),("paths",a1),("journal",a1),("devices",a2 (bv 109 0)),("ticks",l1)],Om s3 [("kernel",a2 (bv 1000728 0))]]))
 (a9s:(1000729,[Om Pm [("most",a4 4),("slots",a2 (bv 378 1))]]))
 (gw:2*j)
 (a9b:aF (λj=> Om Pm [("most",a4 4),("slots",a2 (bv 378 (gw+3)))]))
 (hI:x/2)
 (a4D:if x%2=0 then bC [a1]else bC (s.SL hI))
 (oD:s.RG)
 (SH:s.lend)
 (a74:.sd [(OC,js),("pid",tt),("in",l1),(SJ,a4 c.lsz),("bye",o7 s.lbye),("ended",o7 SH),("rest",ek s.lrest),("is_killed",NS),("is_told",NS)])
 (X_:bv 634 0)
 (B1:bv 619)
 (w5:n-1)
 (a2k:B1 (w5-k))
 (I_:s.left)
 (S6:bv 734 0)
 (a7X:.sd [("calls",a2 Zb),(P1,js),("rows",XR),("text",ek N0),("room",a4 f3),("left",a4 I_),("out",ek s.out),("came",a2 (bv 733 1)),("gone",a2 (bv 733 3)),("plans",a2 S6)])
 (NL:bC [l1])
 (zz:s.came)
 (Oz:s.gone)
 (t0:bw j)
 (E_:s.P j)
 (a5l:aF (λj=>t0 E_) cp)
 (a4Q:jU n c_ (c.sz c_) (c.stays c_))
 (dl:s.R)
 (a01:aF (λj=>a4Q (s.R c_)) n)
 (l2:∀{X:ef},_)
 (Vs:x K X m)
 (QF:by exact rwL aM)
 (a6N:bn (nat_lit 0x10a31110000a100002) cb [])
 (RT:Nat.sub_self)
 (a5z:List.getElem?_eq_none)
 (Og:"child")
 (a1K:by rewrite [Bool.and_true])
 (Ra:"sleeping")
 (WO:bo 1000460)
 (a0l:az 1000460 m.L)
 (h8:Nat->Pr)
 (m3:P j)
 (Ow:Nat.zero_add)
 (Uk:∀(h:cy n P m),_)
 (gp:j<=n)
 (a6y:bn (nat_lit 0x10a311100009100002) cb [] D a0)
 (QL:m.setP)
 (a0u:hh List.length)
 (a3U:ac.mk (WO _ m.L))
 (Qe:∀(X:ef)[m5],_)
 (p3:∀(K:si)[Qe],_)
 (OQ:f+1)
 (n_:au hN OQ)
 (OH:.fn fI)
 (V7:a_ V.none)
 (a8y:λJ=>bE jy "running">>=λr=>uO r f5>>=λb=>kp (gy jy "running" a1>>=λJ=>V7) V7)
 (N5:∀{K:si}[l2][f_],_)
 (a63:λi=>if i=j then gh (P i)else P i)
 (a58:⟨(P j).pid,qi,(P j).par,(P j).regs,(P j).fil,(P j).nam,(P j).chan,(P j).killed,(P j).status,(P j).prog⟩)
 (a6o:if ed M n=am then aX i>>=λM=>cA bj i M n vs else a8)
 (Rz:"many")
 (N4:cu fI)
 (a2I:bif b then [((OC:Str),u)]else [])
 (wb:ops hN)
 (WZ:wb n_ 39)
 (Ry:eW A P)
 (b0d:bn (nat_lit 0x10910000b311103311200003) eb [] hd a0)
 (VU:Nat.lt_irrefl)
 (Yd:(P j).state)
 (Va:λR=> ? _)
 (a8Y:c6 (nat_lit 0x1e1973110000190001190001197000011) a7 a7 hcj.1 hcj.2 a0)
 (kz:au hN (f+2))
 (a0x:aB (wb n_ 40))
 (YC:(match r with|(LO,_)=>a_ v|_=>V7:E V))
 (a5R:λr m'=>YC K X m')
 (a8e:λr m'=>(match r with|kE=>a0x ((bq fI Pz).drop 2) ⟨N4 Pz,loc,[]⟩|f=>a_ f) a5R X m')
 (Ze:("unused":Str))
 (a95:bif bu m3&&(P j).pid==q then aj j else ew P q d c_)
 (a5k:n_ (.fn Qv "is_there"))
 (W4:λb=>a_ ! b)
 (tz:∀{Y:cv},_)
 (WX:∀(K:Y->ef)[Qe],_)
 (ZJ:Gk (a4 q))
 (a8B:(aX x1>>=λM=>if ed M "is_there"=am then aX x1>>=λM=>cA n_ x1 M "is_there" []else a8)>>=cG)
 (a8f:λr m'=>(match r with|kE=>a0x ((bq fI QO).drop 1) ⟨N4 QO,loc,[]⟩|f=>a_ f) a5R X m')
 (we:Nat.succ_pos)
 (YK:Nat.lt_add_of_pos_right (we d))
 (WS:oq _ m.L)
 (a0i:pj i (bC acc))
 (T4:λb=>G loc b)
 (XE:Nat.add_right_comm)
 (OZ:Nat.le_of_lt)
 (C_:∀{K:Y->ef}[l2][f_],_)
 (NQ:bf m)
 (Y9:λJ=>a_ (og i))
 (UL:∀(G:dd->b2->E l0)(K:Vt)[Qe],_)
 (Vr:"other")
 (SK:kp TA A')
 (UV:by cases w<;>kernel_rfl)
 (WA:bv 493 (m.c 493))
 (N6:a2 (aq q))
 (a0b:(uQ N6 m).mk1 493)
 (T8:cR P N6 n)
 (Pc:m1.mk1)
 (a1z:bv 493 (m1.c 493))
 (Rx:aj ej)
 (SW:by exact rwL dA;exact s_)
 (XM:aF (λj=>og x1))
 (a0M:by replace e:=aG▸e)
 (a3m:by replace e:=b9 N▸e;ext pf)
 (a0k:by rewrite [List.map_id])
 (a37:by intro acc k v Z w G A)
 (a40:by refine bx (a Z) ZE;subst U)
 (Wo:∀(f i:Nat),_)
 (a33:!(s==0||s==1))
 (nL:aE i)
 (wd:a2 nL)
 (a44:n_ (.fn hL A_) [wd,a4 s])
 (N3:bE wd)
 (a57:λJ=>N3 Yh>>=cG>>=λa=>gm (! a) (N3 X9>>=cG>>=λb=>a_ (OK (! b))) (a_ (OK (! a))))
 (KI:aS sz i)
 (a0a:m.H nL=aj (KI p))
 (R1:bB s p)
 (a6k:aj (Om Qr [(SJ,a4 sz),("made",t5),("pipes",a2 NO)]))
 (QA:S.length)
 (Of:(i:Int))
 (Rq:V->E Y)
 (j1:V.int)
 (Ru:a2 dK)
 (a1a:match o with| Uz=>a_ v|_=>a8)
 (RS:a2 (bS x))
 (Y5:au hN (f+3))
 (QR:bP NQ)
 (YF:(qP RS m).upd (bS x))
 (a7O:∀{m':ac}[tz]{g:Rq}{K:Y->ef}[l2],_)
 (a9I:m'.H NQ=aj (f2 (aj RS))->g RS K X m'->(QR>>=g) K X m')
 (RL:beq_eq_false_iff_ne.mpr)
 (T7:aj (bC L))
 (PV:L.length)
 (Tv:aE hI)
 (Vc:bB (eY x))
 (a1Z:((hI:Nat):Int))
 (a5j:bC (L.filter (qc x)))
 (TJ:bv 310)
 (Y8:(YF (cX x 0)).H)
 (OW:a2 (bv 0 0))
 (Zp:by ext ea;kernel_rfl)
 (Z7:TJ (R.c 310))
 (Yn:λi U=> ? _)
 (a1G:by replace A:=q▸A;exact A)
 (Z6:.fn hL "waiting")
 (Ph:a4 t)
 (WY:wb kz 39)
 (a8I:match r with|kE=>aB (wb kz 40) ((bq hL Oe).drop 3) ⟨cu hL Oe,loc,[]⟩|f=>a_ f)
 (a1M:Int.toNat_natCast)
 (Vf:bv s j)
 (a94:ac.mk (oq ((az s (bo t _ m.L)).set j a) (bo t _ m.L)))
 (a8Z:rwl aZ (rwl aZ (rwl Rt (rwl (b9 (LL h)) (rwl (qQ h (xm H)) ? _)))))
 (a6u:0<=p.rc/\p.rc<=m4/\m4<=p.rc+sz/\m4<=100000)
 (NW:(T:Int))
 (z_:m4-p.rc)
 (UT:cY sz m4 b y)
 (a8q:kq (nat_lit 0x1e19000f424024100019410008000f4240219100119001019000186a020020) [] cb Q.1 Q.2.1 Q.2.2.2 a0)
 (a4X:(pj D4 (f4 (UT k))).upd nL)
 (Zg:KI (gE p k))
 (Os:Nat.lt_of_lt_of_le)
 (a3L:List.getElem?_take)
 (a3f:Int.fmod_nonneg_of_pos)
 (Xv:bn (nat_lit 0x11a000119001110) [] a7)
 (a3K:Int.fmod_lt_of_pos)
 (a4G:bn (nat_lit 0x1c1b010019001110) [] a7)
 (a4o:kq (nat_lit 0x1e19000f424020019008000f4240219000003e82101900011a100020) [] cb)
 (a8V:f4 ((UT k).set (xz (m4+k) sz).toNat (PJ ((b[k].toNat:Int)).toNat)))
 (a1H:Int.lt_of_lt_of_le)
 (a6U:pk (nat_lit 0x1197000101) a7 [] a0)
 (a9X:bn (nat_lit 0x10b20310311000b203311100003) eb [] hd a0)
 (a6X:Y5 (.fn hL RB) [wd,a4 c] K X m)
 (a2Q:⟨cu hL RB,zJ i c g,[]⟩)
 (a6b:match r with|kE=>aB (wb kz 40) ((bq hL RB).drop 3) ⟨cu hL RB,loc,[]⟩|f=>a_ f)
 (O6:p.rc+k)
 (RP:cm y sz p.rc)
 (a7C:(v2 58 (f4 (RP T))).upd nL)
 (Wu:bv 58 (m.c 58))
 (a4P:⟨cu hL RB,zJ i c Wu,[]⟩)
 (YI:(v2 58 (f4 (RP k))).upd nL)
 (T1:KI (e6 p k))
 (Pk:Nat.sub_add_cancel)
 (a8A:match r with|kE=>aB (wb kz 40) ((bq fI Pd).drop 2) ⟨N4 Pd,loc,[]⟩|f=>a_ f)
 (a1X:iO (m.c 430+1))
 (Ot:("zombie":Str))
 (a1D:List.getElem_of_mem)
 (a6H:by replace this:=aG▸b_;replace this:=c4 W▸b_)
 (eg:many)
 (hQ:.fn "")
 (Oq:hQ T9)
 (Rk:a2 s)
 (a4l:be Rk (c1 RX))
 (O2:wb bj)
 (a6L:[(RX,a2 g),(UB,a2 sm),("at",Pi)])
 (Pb:10^18)
 (a7i:∃i:Int,v= f6/\ -Pb<=i/\i<=Pb)
 (a3Z:Nat.not_le_of_lt)
 (Ps:a4 eg)
 (Ud:bC gl)
 (YM:bv 601 (m.c 601))
 (a4k:bD YM sm Oa)
 (a4j:aj (bD g sm a))
 (Y4:1<=eg/\eg<=1000)
 (Xk:K (a4 r))
 (a2S:∀[tz]{F:Rq}{K:Y->ef}[l2],_)
 (a7y:aK (f:=λM=>eD M (c1 _)>>=_))
 (Xu:bv 601 (m1.c 601))
 (ZU:ei (List.length_filter_le _ _))
 (a20:(Pc 601 (bC F)).upd s)
 (a86:gL (RX:Str) (og Xu) [(RX,a2 g),(UB,a2 sm),("at",a4 Oa)])
 (a12:bD Xu sm Oa)
 (a2D:(a20 a12).H)
 (a3O:(p6.mk1 602 ej).H)
 (a8s:lin4 (nat_lit 0x11910833b9aca0023d5003f500f500193b5003f500f5002019304200119320013019100140) [] Rb m0 o4 n)
 (a4d:[_,_,_,_,_,_,_])
 (Y7:bC F.dropLast)
 (b0c:c6 (nat_lit 0x119000119101119001020) [] cb u.1 R a0)
 (RD:bC l)
 (a6W:bC (F.dropLast++[a4 (Tj i eg)]))
 (Uf:Nat.sub_le)
 (a3e:be (a2 p) (c1 "kind"))
 (a7V:λv=>aY v (a4 2) YS>>=λb=>kp (a_ (OK b)) (be (a2 r) (c1 "ended")>>=λv=>uO v a1>>=λb=>kp (be (a2 r) (c1 "rest")>>=λv=>gM v (ek [])>>=λx=>a3e>>=λv=>gM v (a4 2)>>=λy=>gM (hP x) (hP y)>>=λb=>a_ (OK b)) (a_ (OK b))))
 (a7S:λv=>gM v l1>>=λb=>kp (be (a2 p) (c1 "from")>>=λv=>jR 643 v (a4 6)>>=λw=>aY Ph w YS>>=λb=>SK) A'>>=λb=>kp (be (a2 r) (c1 OC)>>=λq=>bE q UF>>=λv=>gM v (c1 Ra)>>=λb=>kp (be (a2 r) (c1 "done")>>=λv=>aY v l1 a5n>>=λb=>a_ (OK b)) (a_ (OK b))) (a3e>>=a7V))
 (X0:by obtain⟨t,j⟩:=i)
 (a0w:by replace h:=PH▸h)
 (a1A:by replace h:=w2▸h;ext rs)
 (UX:∃i,v= f6)
 (a1u:HG "open" (c9 m dK))
 (a26:(qd m i).wc-(qd m i).rc)
 (a4r:(az 1000460 m.L).length-1)
 (a1P:cR (fY m) p a4r)
 (Ul:.fn cl f)
 (UU:dk (Nat×ez Nat))
 (a1W:a2 (bv 732 0))
 (UP:∀(regs:V)(kl:Bool),_)
 (ZI:∀[UP](pg:Int),_)
 (S2:c0 x (fb j))
 (dn:j-1)
 (a45:∀(t:d7)(E:Int)(tl:Bool)(p:Pp),_)
 (Rv:af s.P)
 (a2Y:Rv j (gG j ih kl pg))
 (NV:af s.SL)
 (tc:af s.R j)
 (OJ:af s.I)
 (rt:c0 j)
 (Wf:zz (n-j))
 (a9U:pN (q6 U6 5) U6 (hD [c1 "told",a]) (hD [c1 "told",b]))
 (a2P:af (λi=>dq (y6 dn) (s.P i)) j)
 (a6P:af oD dn (cY f3 m4 o (oD dn) T))
 (RM:(n-j:Nat))
 (YY:Tp<=16777216)
 (Y2:(ap:x0).isNone=am)
 (a1m:bO t (aj pg) ap ap)
 (Vi:fZ n s.P)
 (dt:MM n c)
 (eK:1<=j)
 (l4:2<=n)
 (kT:n<=5)
 (YL:∀[jm][l9](R:ef)(X:ef),_)
 (a15:∀(regs:V)(pg:Int),_)
 (a4C:∀[A1](kl:Bool)[YL][a15](d:Nat->V),_)
 (ZP:∀(E:Int)(tl:Bool)(r g:Int),_)
 (a1f:∀(b:UInt8)(t:d7)[ZP](w:Bool),_)
 (r3:ay hN)
 (Pg:r3 bl)
 (Wt:Pg (f+14))
 (Zx:[gn,a4 RM])
 (Up:kG n R)
 (a4x:Wt (hQ Zn) Zx Up X)
 (OT:b::t)
 (a09:qe j s ih kl pg d OT E tl)
 (a8z:Mb n j c (a09 ⟨r,g,am,w⟩ ap) ih kl pg OT E tl ⟨r,g,am,w⟩ (BU n j c s OT E) R)
 (ZN:nj ? _ ? _ ? _ ? _ ? _ ? _ ? _ ? _ ? _ ? _ ? _ ? _ ? _ ? _)
 (YE:∀[YL][ZI](d:Nat->V),_)
 (C':(b::t).length)
 (a7W:nd (Y2/\C'<=16777216) (mS dn (aj (aS f3 dn ⟨r,g,av,w⟩)) (aj (f4 (oD dn)))/\(fZ n a2Y/\∀_:Int,R (dt (JR n j (a09 ⟨r,g,av,w⟩ P4) ih kl OT E tl)))))
 (ft:.rdy)
 (a19:∀{u:cv}{f:Nat->u},_)
 (Xe:af f j a)
 (oe:ag q)
 (PA:Nat->Rw)
 (X1:r.rest.length)
 (Vq:1 ≤ j)
 (V9:PL ≠ ap)
 (Py:PL = ap)
 (U5:r.bye = ap)
 (Yb:r.told = am)
 (Pj:md 0)
 (a3E:(R 0).ended ≠ ap)
 (Pq:(R j).ended)
 (a1T:(R j).told = am)
 (Ue:af R j r)
 (P3:by exact rwL ah)
 (R_:by exact rwL oe)
 (TS:Nat.lt_succ_of_lt)
 (a0A:xK Md.ctorIdx)
 (TN:a0A q rfl)
 (OA:λq=>TN)
 (a0H:⟨OA,OA⟩)
 (lp:Nat->Md)
 (i3:Nat->Nat)
 (a6w:∀i,1<=i->i<=n->(R i).ended=ap\/(R i).told=am)
 (Zj:by exact bcH z (j=0))
 (a3l:λJ J=>⟨rfl,id⟩)
 (a3p:λJ a=>⟨a,rfl⟩)
 (a5O:λJ=>⟨rfl,id⟩)
 (a7F:λa=>⟨nl,(O.pp a).2⟩)
 (p1:Q8 n)
 (PG:ag z)
 (PI:Nat.le_of_succ_le)
 (QX:Nat.lt_of_le_of_ne)
 (a1L:uR q.1 (md q.2))
 (Q4:dk (Md×Nat))
 (K_:ix l md)
 (a5o:q= .rd\/q= .wr\/q= .ch)
 (a3u:λi=>aw (md i)+h i)
 (a5L:Nat.add_le_add_right)
 (VL:Nat.lt_succ_of_le)
 (a0U:mT n rm txt)
 (YX:∀(h:a0U R md w g),_)
 (Pl:Nat.pos_of_ne_zero)
 (W5:∀(H:eK)(D:gp),_)
 (a1o:by replace a:=I▸a;exact cT a)
 (a6Y:by replace this:=ax (f:=g) rfl▸b_;exact b_)
 (a9T:by exact rwL y;rcases u with rfl|⟨rfl,_⟩<;>exact⟨OA,λq=>O9 q⟩)
 (Xz:a0A a rfl)
 (a4M:by rcases u with rfl|⟨rfl,_⟩<;>exact Xz)
 (a97:LD R j\/EH n txt.length j (w j) (w c_) (al R c_) v)
 (a41:by replace this:=ax (f:=w) rfl▸b_)
 (a8u:by have:=(h.pt dn (ei (Uf j 1) D)).pp (Os (Nat.sub_one_lt (RR a)) D);replace this:=Pk a▸b_;exact b_.2)
 (b0k:m'=md j/\(m'= .off\/m'= ft)\/m'= ft/\md j≠.off)
 (a6R:by replace d:=a▸d;rcases d with q|q<;>exact TN)
 (Ym:Md.casesOn)
 (XD:Nat.add_sub_cancel)
 (XL:Nat.succ_ne_zero)
 (a9h:(R i).ended=aj (w 1:Nat)/\(i<n->w fq=w 1)/\(i=n->w 1=txt.length))
 (XX:c0 x (sF j))
 (a2b:a2 (bS gw))
 (a2l:Oz (n-j-1))
 (a51:∀(at_:Int)(S:d7)(R:ef),_)
 (Vv:c.sz j)
 (px:c.text.length)
 (Zo:px<=16777216)
 (a9o:Gz j f3 p (oD j) Vv gj (xx n j c s E tl kl p at_ S R))
 (a4z:Wt (hQ Zu) Zx Up X)
 (a1i:qh j s ih kl pg d E tl)
 (a0t:⟨r,g,a,am⟩)
 (a76:I7 n j c (a1i a0t ap) ih kl pg E tl a0t am a2l (hU a2l Vv (zz (n-j-1)) c) R)
 (a7b:Mf ? _ ? _ ? _ ? _ ? _ ? _ ? _ ? _ ? _ ? _)
 (a0s:⟨r,g,a,av⟩)
 (a75:I7 n j c (a1i a0s P4) ih kl pg E tl a0s av a2l (hU a2l Vv (zz (n-j-1)) c) R)
 (hF:aP j)
 (Yu:∀(n j A:Nat),_)
 (Ty:c0 x 0)
 (a9f:bL S2 (a2 (bS hF)) (bL (Nat.blt j n&&XX) a2b a1))
 (O4:af s.F)
 (Px:∀[f0][k3],_)
 (NY:St->a5)
 (a6I:{s with P:=λj=>dq (um i) (dq (y6 i) E_)})
 (a72:BM x (aj (cX x (s.F x))) (aj (vJ (hG:Nat) s.opn)) (qk n s) (aj (aS f3 hI (s.I hI))) (aj a9L) (aj (lI s.D)))
 (TB:O4 x 0)
 (a7Y:{s with F:=TB,ol:=s.ol++[bC ((vM ((qk n s).getD sw)).filter (qc x))],opn:= TJ s.ol.length,I:=OJ hI (Vc (s.I hI)),D:=bif gS (Vc (s.I hI))then fC a1Z s.D else s.D})
 (WI:[a1,a1,a1,a1])
 (a2x:Wt (hQ V2) [gn,a2 (B1 dn),a4 N] Up X)
 (a1q:uq n j A s ih kl pg)
 (Xb:bv 266 0)
 (a6x:bif rt i then uR q m else m)
 (a9W:dq (r7 i q) (sI j par ih m kl pg)=sI j par ih a6x kl pg)
 (WP:Int.ofNat.inj)
 (Q7:s.rl.length)
 (a5y:Nat.ble_eq_true_of_le)
 (YZ:aF (λf=>og (bS f)))
 (a23:F (2*i)!=0||F (2*i+1)!=0)
 (Z9:s.F (2 * i + 1) != 0)
 (a6M:by exact a3 (G λi W=>h i (TS W)) (h n (F' n));rfl)
 (a5E:by have e:=Nat.div_add_mod x 2)
 (Zs:Int.sub_zero)
 (a92:by exact a3 (show(_:St).F y=A.F y from rfl) (g4 y);exact bcH z (y=x))
 (a9q:c6 (nat_lit 0x10a32010000a3311201000c0b320100003) eb [] c z a0)
 (a1C:List.take_zero.symm)
 (a7v:λp=>(c5,pC p.2 (az c5 m.L)))
 (j0:dt s)
 (z2:∀{c:Cf}{s:St},_)
 (SA:∀[e3][z2],_)
 (Xr:ao j0)
 (a16:hK (dt s).L)
 (a5K:λi d=>Sc d/\K f6 d)
 (WF:.fn r_ "count")
 (a8F:∀{most:Int}{o:Id}{L:b5}[N5](h:m.H dK=aj (vJ most o))(T:m.H o=T7)(B:PV<=16777216)(N:K (a4 PV) m),_)
 (a67:ig v 1000727=aj 1/\r.isEmpty=am)
 (a7a:∃ L, s.gl[s.gi]? = T7 ∧ cZ L)
 (a7o:c.so[c.sk]? = aj (bC c.small))
 (Pv:bQ s gl)
 (Q5:by intros;kernel_rfl)
 (VK:cl.cps.isEmpty)
 (a8W:λK X m=>∃A y s,m=MM A y s/\Pg n c a6 (kG A λd=>Sc d/\K y2 d) X m)
 (a02:f==(T9:Str)&&lj 1 n)
 (a9n:bif cl==(r_:Str)&&(f==("count":Str)&&lj 1 n)then EL a6 else ap)
 (XS:[a2 TK,Ps])
 (Z5:∀[f0](c:eN)[wl](x:E V),_)
 (w4:bZ Xr)
 (Wl:kr Xr o)
 (Tl:(dt s).H)
 (b0b:bn (nat_lit 0x10a321251033125000a100002) cb [] h a0)
 (a1p:List.not_mem_nil)
 (a4p:by simp only [Y6,a1p,or_false,or_self]at P;subst P;exact ep)
 (a9O:by simp only [Y6,a1p,or_false]at P;rcases P with rfl|rfl|rfl|rfl|rfl|rfl)
 (a2T:(List.mem_replicate.mp Z).2)
 (a4B:bn (nat_lit 0x10a00410411000a001002) cb [])
 (VD:[a2 (bS 0),a1,a1,a1])
 (a5u:λi=>dq (um 0) (s.P i))
 (Re:Oz w5)
 (a2N:Wt (hQ UO) [gn,t5] Up X)
 (VS:n4 ? _ ? _ ? _ ? _)
 (a0r:((c_:Nat):Int))
 (a7E:bif bu m3 then aj j else ap)
 (T3:(s.R j).told)
 (VX:iW (s.R j))
 (a1g:s.pl.set x (eA RM L S av))
 (XV:a2 (bv 639 0))
 (a4c:a2 (bv 639 2))
 (a2C:by intros f c s R X t kd fr op l kd' fr' op' l';kernel_rfl)
 (a1B:∀ v ∈ c.scr, UX)
 (a1x:∀ o ∈ c.so, aH o)
 (a1w:∀ o ∈ c.gr, aH o)
 (a1y:∀ o ∈ c.tl, aH o)
 (a5a:bif c0 d 1 then 2 else 1)
 (a22:bif lj 2 d then 2 else 1)
 (Qo:(s.R j).ended)
 (a54:y7 n px s.R md w g)
 (W0:by subst U;intro h)
 (a5t:by have p:s.P 0=_:=p;exact rwL p)
 (a48:by refine cM (s.R c_).ended od S7)
 (a5d:by refine cO (s.R c_).told D3 D3)
 (a3J:aN ((p.2 v e).2 t))
 (a4u:by simp only [Y6,a1p,or_false,or_self]at Z)
 (a06:bn (nat_lit 0x10a251025000a100002) cb [])
 (PN:da n rm c du)
 (XU:uu n c s md w g)
 (QU:∀(h:PN s md w g),_)
 (a2H:⟨h.jk.rl,h.jk.gl,h.jk.gi,h.jk.rd,h.jk.re⟩)
 (a6E:by obtain⟨k,rfl⟩:∃k,i=bm:=⟨i-1,(Pk H).symm⟩)
 (a04:by obtain⟨k,rfl⟩:∃k,j=bm:=⟨dn,(Pk H).symm⟩)
 (B3:h.ab.pt)
 (lm:al s.R)
 (SG:du j)
 (PK:∀[QU](C:gt n rm c),_)
 (Ww:zg n rm c du s md w g)
 (UI:s.I k)
 (a9V:h.row H (r:=r) (y.trans Q.symm) (I.trans G.symm) x A w8)
 (U_:s.R bm)
 (YH:fg (n:=n) (L:=px) (R:=s.R) (md:=md) (w:=w) (g:=g))
 (b0n:by replace p:=ax (f:=g) rfl▸p;replace p:=U▸p;replace p:=o▸p)
 (a9D:by subst h;show bL (!((am&&((a==a)&&am))&&am)) k0 m;rewrite [TV];exact N)
 (OB:by exact rwL j;rfl)
 (Yl:λq=>Dt q)
 (Uw:lm bm)
 (S9:ax (f:=s.R))
 (a4b:ax (f:=s.P) L)
 (a4A:bO OT (aj E) ap)
 (a4a:(a4A ap).length)
 (a9K:c6 (nat_lit 0x1e19000003e82700197001109001109410001) a7 [])
 (a8t:kq (nat_lit 0x1eee19000186a0271019372070071019710700197000109100009320001009a11003) eb [] b1 P Q a0)
 (a5Q:⟨g k,oj,am,Uw⟩)
 (a5r:by have O:=hR a;clear a;subst O)
 (b0g:pk (nat_lit 0x11937431110000000006420102) cb [] a0)
 (S8:c.text.drop)
 (a3d:λi=>dq (um k) (s.P i))
 (X6:Oz (n-k-1))
 (Z1:Nat.add_lt_add_right)
 (a60:by unfold jB at p;replace p:=ax (f:=w) rfl▸p)
 (b0a:bn (nat_lit 0x1092031000c1a710470072003) eb [] q a0)
 (a0q:(s.R bm).ended)
 (ZH:λq=>iy q)
 (a4V:List.eq_nil_of_length_eq_zero)
 (a5e:⟨[],0,ap,ap,av,av⟩)
 (a9S:by replace this:=E▸b_;replace this:=List.take_zero▸b_;exact b_)
 (a6n:c6 (nat_lit 0x10a2510311254110009001109100002) cb [] H)
 (a9x:N= -1\/0<=N/\(LD s.R j\/EH n px j (w j) (w c_) (lm c_) N))
 (a0T:Int.le_refl)
 (a4S:vR (pz n j SG)++[(.ch,0)])
 (a9C:by exact rwL h.lf;congr 1;refine fA λi J=> ? _;unfold cS;exact bcH q (fq=j))
 (a2w:by ext a60;replace p:=ax (f:=g) rfl▸p)
 (L1:r3 cJ)
 (V5:∀(K:si)(X:ef),_)
 (a2A:bO N0 (aj (zz 0)) (aj (zz 0+Vv)) ap)
 (a5q:lE j s r E ap tl kl)
 (a7B:dt (lE j s r E d0 tl kl))
 (a3D:λm=>Sc m/\K y2 m)
 (G_:f+15)
 (a7h:show(OT==[])=av from rfl)
 (a66:show(([]:d7)==[])=am from rfl)
 (a8a:by replace e7:=F▸e7;refine GT e7 λd B J k6 J=> ? _;clear e7;have e9:d=0:=k6.elim And.right λq=>b6 q (Qk d);have B:E=d:=B;subst e9;have B:E=0:=B;subst B)
 (a0R:by exact bcH q (i=0))
 (a62:show af g 0 (g 0+0)=g from ax rfl)
 (YO:(dt s).mk1)
 (a9R:λr m'=>(match r with|kE=>aB R b mc|f=>a_ f) K X m')
 (PB:f2 ap)
 (U4:aB (O2 40))
 (Vh:O2 38)
 (a8L:dx Vh uS.elt uS.tgt uS.ifs (a2 (bv 713 0)) (bv 713 1) cp 0 ⟨uS.sc,[],[]⟩)
 (a9e:[("world",gn),(Rz,t5),("row",a2 X_),("over",a2 (bv 713 1))])
 (a1b:c8 (iX n P) (cR (iX n P) js n))
 (a43:(cR (iX n P) js n).isEmpty)
 (Ti:iX n s.P)
 (SE:nn 0)
 (Rs:nn 1)
 (UY:("script",OW))
 (ZC:"is_small")
 (a2i:ez (V×V×V))
 (B':kf b0)
 (XJ:hQ "_law_open")
 (a7g:dx (O2 37) kK.elt kK.tgt kK.ifs)
 (WH:[("rows",nn 5)])
 (a0F:G [("k",v0)])
 (Yz:(qi:Str))
 (ST:aF (λk=>j1 k))
 (t3:(n:Int))
 (a70:if(bg kK.tgt (o_ cp 1)&&bJ kK.sc)=am then ci 740 ej>>=λi=>cF (a7g (o_ cp 1) i (((t3+1)-0).toNat+1) 0 ⟨kK.sc,[],WH⟩)>>=Y9 else a8)
 (a49:bv 740 ((dt s).c 740))
 (Vb:w5-k+1)
 (a7z:by replace e:=c4 N▸e;exact⟨N,XY⟩)
 (a4Z:by refine bx (a Z) λN U=> ? _;subst U)
 (a4y:⟨h.fi.on,h.fi.ol,h.fi.io,h.fi.D,h.fi.al⟩)
 (a5T:af s.R bm (lJ U_))
 (a9A:((s.rl++[ae.list [j1 0]])++[ae.list (F_ 32 (j1 0))]).length)
 (a7f:⟨_,rfl,λv Z=>⟨0,w6 Z⟩⟩)
 (a4i:((fq:Nat):Int))
 (a6F:by obtain⟨i,rfl⟩:∃i,j=fq:=⟨dn,(Pk H).symm⟩)
 (a61:I _ ft (ba ⟨rfl,m⟩) (g1 _ rfl))
 (a3T:vW a b y d r j)
 (a08:λj=>(s.R j).ended.getD 0)
 (ZA:.fn cl g)
 (a3I:λi e J=>⟨i,e⟩)
 (Wn:∀{b0:Bool},_)
 (a2a:L _ _ _ _ _ _)
 (a4F:dt {A with rd:=A.rd++[bC (fh n A)]})
 (a3Y:Nat.sub_sub_self)
 (Xs:{A with rd:=A.rd++[bC (fh n A)],re:=A.re++[ej]})
 (a39:(fh n A).length)
 (ZM:bQ S gl)
 (a6e:∀m':ac,(∀o':V×V×V,G (hH,B' r0' (Ia (aj o'))) K X m')->b y2 m')
 (ZB:("turn",u))
 (a7A:bF (O2 39) Kj I9 (o_ 300 1))
 (a5i:∀(b0:Bool)(r0:Int)(u v w:V),_)
 (kj:bR.drop)
 (a73:λk=>(if(bg lU.tgt (o_ n 1)&&bJ lU.sc)=am then ci 746 ej>>=λi=>cF (dx Vh lU.elt lU.tgt lU.ifs (o_ n 1) i bm 0 ⟨lU.sc,[],WH⟩)>>=Y9 else a8))
 (XB:bv 746 0)
 (Vl:a2 XB)
 (UJ:YO 746)
 (a81:(Vi/\ew s.P ((cp:Nat):Int) cp 0=ap)/\CI n s.P (CJ n s N k))
 (a8v:∀(L:Str->Str->Nat->b5->w9)[jm][l9][a5i](l:b5)(X:ef)(N:Str)(A y:V)(x:i3)(e:ki)[q_],_)
 (a4K:aB (wb (r3 (jF L) G_) 40) (kj 15))
 (Xd:hW K0 X)
 (a52:uz s N A y x e k)
 (a6p:uz s (ql Pj) (r7 0 Pj) (jE n) (λj=>uA E_) a08)
 (a89:bif rt 0 then CH (ql Pj) (r7 0 Pj) (jE n)else iO (uA E_))
 (a5W:(v2 601 Ud).upd bd)
 (a9l:qT (m.H bd) (m.H (vZ RX (c9 m bd))) (m.H (vZ UB (c9 m bd))))
 (a8b:a9l/\Y4/\∀gl,cZ gl->Fb eg λr=>Xk (lM gl m))
 (z':a2 bd)
 (a9k:if i=bd then aj a4k else if i= YM then aj Ud else Fc)
 (a8j:by have f:(match jC t cs with|v_=>(match k with|v_=>lj (hK m.L).length k|ap=>am)|ap=>(hK m.L).isEmpty)=am:=f;replace f:=q▸f)
 (a7j:bif VK&&a02 then uC a6 else ap)
 (a3C:F_ c.room.toNat 0)
 (Pe:aP n)
 (XK:ML n i p c s u g)
 (RJ:ao (XK W))
 (a8x:bif CP.contains (cl,f)then aj (Dx uD (r3 dZ n Ul a6))else a7j)
 (a3Q:gV c j s (v4 j))
 (Z8:wb (r3 gI G_))
 (a9z:⟨xF,[("store",z'),("calls",Jb),(P1,Jc),(Rz,t5)],[]⟩)
 (a2v:ML n 0 0 c (f9 s WI) [] [])
 (Vp:a2v [])
 (a2z:gV c 0 (f9 s WI) (pG 1))
 (a7x:ML n 0 1 c a2z (uT 0) [] [])
 (a3H:⟨xF,zK n 1,[]⟩)
 (a8n:λz=>ja [z]>>=λsrc=>TM>>=λk=>if bg CQ src then cF (bF (O2 39) CQ Jd src bm 0 a3H)else a8)
 (a9Q:λr m=>(match r with|kE=>a_ kE|f=>a_ f:E m_) G X m)
 (Y3:MS n c (iq n s))
 (a1c:∃f,f<2*p/\v= Ui)
 (a4O:v= a1\/∃y,y<2*p/\v= a2 (bS y))
 (a6B:bn (nat_lit 0x10a251031125000a100002) cb [])
 (a6f:c6 (nat_lit 0x1e19000003e823001119300118000003e821900011a410010) [] a7)
 (a9H:bn (nat_lit 0x10900002710200090000271023410001) a7 [] M a0)
 (a9r:bn (nat_lit 0x10900002710231100090000271023410001) a7 [] M a0)
 (a85:bn (nat_lit 0x10900002710232131131100090000271023410001) a7 [] M a0)
 (a9d:bn (nat_lit 0x10900002710232131100090000271023410001) a7 [] M a0)
 (a2K:⟨rfl,rfl,rfl,rfl,rfl,rfl,rfl,rfl⟩)
 (a9P:c6 (nat_lit 0x1e19000003e820019000119001119410010) [] a7)
 (SD:by exact rwR E)
 (a6D:af (af (af (O4 gw 1) (gw+1) 1) hF _) gw _)
 (a82:by unfold aP;refine bn (nat_lit 0x1c0b311254110031125000b003114110001) a7 [] c7 a0)
 (a2J:⟨C.gi,C.gl,C.at0,C.at1,C.sm,C.so⟩)
 (a2W:dD (dD A (uE j) hF) (pG c_))
 (a6m:c6 (nat_lit 0x1e1941300111930011111900011a410010) [] a7)
 (a2j:CN c n r t)
 (a6q:f (if G+(k:Int)<W then aj (a4 (G+k))else ap) K X m)
 (a7e:bF (Z8 39) CQ Jd (o_ (t3-1) 1))
 (SF:dJ n c)
 (TU:aB (wb (eQ f) 40))
 (a1j:∀(G:V->E l0)(K:Vt)[Qe],_)
 (Zl:T2 (10^120))
 (Zz:(597,[Ud]))
 (T_:bv 597 0)
 (a8S:cG (a2 (Ov 1))>>=λt=>gm t (a_ (og (Ov 1))) (ci 598 NL>>=λj=>a_ (og j)))
 (a77:λsm=>aX TK>>=λo=>(match o with| .sd []=>cQ TK (.sd [(RX,a2 T_),(UB,sm),("at",l1)])>>=λJ=>a_ (og TK)|_=>a8))
 (Zf:(596,[bC cs]))
 (a3G:y[E]? =aj (bC sm))
 (Zy:I.map a4)
 (a4U:by refine db (c v Z) λu U=> ? _;subst U)
 (a0m:λl=>a_ (Pw,l))
 (a38:(kj 2).take 1)
 (a5c:∀(g:Id)(E:Nat)(a:Int)(y:d_),_)
 (a3S:eQ f Oq [z',Ps])
 (TP:MZ I k b c2 x g E a y)
 (Zm:MZ L (aj z'))
 (a4n:Zm Xl ap x (bv 601 1) E (0+1+1) y [(601,[bC g1,bC g2])])
 (a8X:kq (nat_lit 0x109000003e82001991001a00101b7003102121) a7 cb j T u a0)
 (a7L:∀[w'](b0:Bool)(R:Int)(G:lR)[Qe],_)
 (a3F:ML n n n c s [] [])
 (a4J:[(625,[]),(628,[]),(632,[]),(634,[])])
 (a5V:(MS n c (iq n s)).L)
 (Oy:MW n c s)
 (a6V:r3 dZ G_ (hQ Qt) [z',t5,a4 H] K X)
 (RZ:Oy T A)
 (a6g:aB (wb (r3 dZ (f+14)) 40) (IJ.drop 1) ⟨MI,MJ n H L,[]⟩ (hW K X) X)
 (Wc:uK p L S)
 (a5P:⟨iY,B' R [],aU⟩)
 (a7P:dx Vh gK.elt gK.tgt gK.ifs)
 (a91:((O2 38).ev gK.elt ⟨gK.sc,[("lap",u)],dU⟩>>=G) K X)
 (a69:∀(g:l4)(B:kT){H:Int}(m1:1<=H)(R:H<=20),_)
 (a9G:bn (nat_lit 0x10900002710200090000271023310001) a7 [] M a0)
 (a9c:bn (nat_lit 0x10900002710232131100090000271023310001) a7 [] M a0)
 (a4W:mA n s j T s.gl s.gi x3)
 (a93:dx (wb (eQ f) 38) gK.elt gK.tgt gK.ifs (o_ W 1) S6 d)
 (a65:⟨gK.sc,[("lap",a4 (0+k))],dU⟩)
 (a9j:dx R gK.elt gK.tgt gK.ifs (o_ W 1) S6 d bm ⟨gK.sc,loc,dU⟩)
 (a6G:bn (nat_lit 0x10941000111a70071002) cb [])
 (a6O:pk (nat_lit 0x109004100002) cb [] a0)
 (a6A:bn (nat_lit 0x119008000003e8219000110) [] a7)
 (a9E:by simp only [Y6,a1p,or_false]at Z;rcases Z with rfl|rfl|rfl|rfl<;>exact U1)
 (a6z:bn (nat_lit 0x10b10441000001a70071002) cb [])
 (a7u:mA n U j T U.gl U.gi U.at_)
 (a3k:.fn Str.empty "law")
 (a21:by ext p2;ext xp;exact rwL (f1 q))
 (a7J:by refine bx (jG h) λq U=> ? _;subst U)
 (a6T:by refine i5 (eB h) λt p d=> ? _;subst d;intro h)
 (b0q:by ext W0;refine aN (jQ h) λi W h=> ? _;ext xp;exact rwL (cD W))
 (ZY:List.forall_mem_cons.mpr)
 (a7t:by ext Qp;refine cM (K x) b4 λw q=> ? _)
 (a0K:xs.map a4)
 (a6a:if r=0/\k=0 then aj (ae.flist a0K)else if(cW (bv r k)).isSome then aj sw else ap)
 (a9g:∃o items n,p0 sc=ck/\o.cls= Qs/\B2= .seq kn n/\IntsAre Pn xs)
 (Yt:σ0 xs e5)
 (a5G:eC "claim.caller" {})
 (a99:GoodWG r.claim (classAt e5) (ExcName.means e5) a6 f)
 (a88:GoodWG r.toRowW.claim (classAt e5) (ExcName.means e5) a6 s₁ x s')
section E
section
set_option backward.match.sparseCases false
namespace Ln
inductive LT where
  | v [z1] | n [q_] | a (x y : LT) | s (x y : LT) | m [q_] (y : LT) | r (x : LT) [q_] | c (x : LT) | g (x : LT)
inductive LP where
  | le [a0Q] | lt [a0Q] | eq [a0Q] | no (p : LP) | F | an (p q : LP) | or (p q : LP)
def pL(xs:QI):LT->Nat| .v i=>xs.getD i 0| .n k=>k| .a x y=>OS x+OS y| .s x y=>OS x-OS y| .m k y=>k*OS y| .r x k=>OS x*k|_=>0
def uV(xs:QI)(ys:t4):LT->Int| .v i=>ys.getD i 0| .n k=>T2 k| .a x y=>R8 x+R8 y| .s x y=>R8 x-R8 y| .m k y=>T2 k*R8 y| .r x k=>R8 x*T2 k| .c x=>((OS x:Nat):Int)| .g x=> -R8 x
def fj(xs:QI)(ys:t4):LP->a5| .le b x y=>bL b (R8 x<=R8 y) (OS x<=OS y)| .lt b x y=>bL b (R8 x<R8 y) (OS x<OS y)| .eq b x y=>bL b (R8 x=R8 y) (OS x=OS y)| .no p=>¬y1 p| .F=>gj| .an p q=>y1 p/\y1 q| .or p q=>y1 p\/y1 q
abbrev Lf:=Int×t4
def pM:t4->ki->Int|[],_=>0|c::r,f=>c*f 0+pM r λi=>f fq
def jV(f:ki)(l:Lf):Int:=l.1+pM l.2 f
def zN:t4->t4->t4|[],l=>l|a::r,l=>match l with|[]=>a::r|b::s=>(a+b)::zN r s
def Dy(k:Int)(l:t4):t4:=l.map (k*·)
def uW(a b:Lf):Lf:=(a.1+b.1,zN a.2 b.2)
def mY(k:Int)(a:Lf):Lf:=(k*a.1,Dy k a.2)
def lV(a b:Lf):Lf:=uW a (mY (-1) b)
theorem wi:∀(a b:t4)(f:ki),pM (zN a b) f=pM a f+pM b f|[],b,f=>(WU _).symm|a::r,[],f=>(T6 _).symm|a::r,b::s,f=>by show(a+b)*f 0+pM (zN r s) _=(a*f 0+pM r _)+(b*f 0+pM s _);rewrite [wi r s];rewrite [Int.add_mul];rewrite [WR];rewrite [WR];rewrite [Int.add_left_comm (b*f 0)];rfl
theorem wq(k:Int):∀(a:t4)(f:ki),pM (Dy k a) f=k*pM a f|[],f=>(Int.mul_zero k).symm|a::r,f=>by show(k*a)*f 0+pM (Dy k r) _=k*(a*f 0+pM r _);rewrite [wq k r];rewrite [Int.mul_add];rewrite [Int.mul_assoc];rfl
theorem qX(f:ki)(a b:Lf):jV f (uW a b)=jV f a+jV f b:=by show a.1+b.1+pM (zN a.2 b.2) f=a.1+pM a.2 f+(b.1+pM b.2 f);rewrite [wi];rewrite [WR];rewrite [WR];rewrite [Int.add_left_comm b.1];rfl
theorem i6(f:ki)(k:Int)(a:Lf):jV f (mY k a)=k*jV f a:=by show k*a.1+pM (Dy k a.2) f=k*(a.1+pM a.2 f);rewrite [wq];rewrite [Int.mul_add];rfl
theorem nJ(f:ki)(a b:Lf):jV f (lV a b)=jV f a-jV f b:=by show jV f (uW a (mY (-1) b))=_;rewrite [qX];rewrite [i6];rewrite [Int.neg_mul];rewrite [Int.one_mul];exact rwR Int.sub_eq_add_neg;rfl
def zO:Int->b2| .ofNat _=>av| .negSucc _=>am
def Dz:Int->b2| .ofNat n=>lj 1 n| .negSucc _=>av
def hd(l:Lf):Int:=l.2.headD 0
def tl(l:Lf):Lf:=(l.1,l.2.tail)
def No(p q:Lf):Lf:=uW (mY (-hd q) (tl p)) (mY (hd p) (tl q))
def FN(cs:QP):QP:=(cs.filter λl=> !(Dz (hd l)||zO (hd l))).map tl++(cs.filter λl=>Dz (hd l)).flatMap λp=>(cs.filter λl=>zO (hd l)).map λq=>No p q
def zP:Nat->QP->b2|0,cs=>cs.any λl=>l.2.isEmpty&&zO l.1|bm,cs=>zP k (FN cs)
theorem FO(f:ki)(l:Lf):jV f l=hd l*f 0+jV (λi=>f fq) (tl l):=by obtain⟨c,l⟩:=l;induction l using li with|nil=>show c+0=0*f 0+(c+0);rewrite [Int.zero_mul];rewrite [WU];rfl|cons a r=>exact Int.add_left_comm c (a*f 0) _
theorem sL{k:Int}(h:zO k=am):k<0:=by cases k with|ofNat n=>ext sp|negSucc n=>exact Int.negSucc_lt_zero n
theorem zQ{k:Int}(h:Dz k=am):0<k:=by cases k with|ofNat n=>exact Int.ofNat_lt.mpr (SO h)|negSucc n=>ext sp
theorem DA{k:Int}(h:(!(Dz k||zO k))=am):k=0:=by
 cases k with
  |ofNat n=>induction n using Qn with|zero=>rfl|succ n=>ext sp
  |negSucc n=>ext sp
theorem zR{f:ki}{cs:QP}(h:∀l∈cs,0<=jV f l):∀l∈FN cs,0<=jV (λi=>f fq) l:=λl T=>by
 rcases VJ T with q|q;. refine aN (WJ q) λa m d=> ? _;subst d;refine bx (SS m) V_;have:=h a H;rewrite [FO]at this;replace this:=DA F▸b_;rewrite [Int.zero_mul]at this;rewrite [WU]at this;exact b_
 .refine aN (List.mem_flatMap.mp q) λp O z=> ? _;clear q;refine aN (WJ z) λq B d=> ? _;subst d;refine bx (SS O) λw U=> ? _;refine bx (SS B) λR g=> ? _;have a:=h p w;have b:=h q R;have U:=zQ U;have g:=sL g;show 0<=jV _ (uW (mY (-hd q) (tl p)) (mY (hd p) (tl q)));rewrite [qX];rewrite [i6];rewrite [i6];rw [FO]at a b;have Z:=Int.mul_nonneg (Int.le_of_lt (Int.neg_pos_of_neg g)) a;have b':=Int.mul_nonneg (Int.le_of_lt U) b;have c:=Int.add_nonneg Z b';rewrite [Int.mul_add]at c;rewrite [Int.mul_add]at c;have e: -hd q*(hd p*f 0)+hd p*(hd q*f 0)=0:=by rewrite [Int.neg_mul];rewrite [<-Int.mul_assoc];rewrite [<-Int.mul_assoc];rewrite [Int.mul_comm (hd p)];rewrite [Int.add_left_neg];rfl
  generalize-hd q*(hd p*f 0)=x at c e;generalize hd p*(hd q*f 0)=y at c e;rewrite [WR]at c;rewrite [Int.add_left_comm _ y]at c;rewrite [<-WR]at c;replace c:=e▸c;rewrite [WU]at c;exact c
theorem sM:∀[q_](f:ki)(cs:QP),(∀l∈cs,0<=jV f l)->zP k cs=am->gj
 |0,f,cs,h,u=>by refine aN (List.any_eq_true.mp u) a2u;refine bx (UK e) λg a=> ? _;have:=h l T;obtain⟨c,l⟩:=l;induction l using li with|nil=>exact b6 (show 0<=c+0 from b_) (Int.not_le.mpr ((T6 c).symm▸sL a:c+0<0))|cons=>exact cT g
 |bm,f,cs,h,u=>sM k _ _ (zR h) u
def vl(xs:QI)(ys:t4)[q_]:Int:=if k%2=0 then(xs.getD (k/2) 0:Nat)else ys.getD (k/2) 0
def uF[q_]:Lf:=(0,F_ k 0++[1])
theorem GW[q_]:∀f:ki,jV f (uF k)=f k:=λf=>by refine(WU _).trans ? _;show pM (F_ k 0++[1]) f=f k;induction k generalizing f with|zero=>show 1*f 0+0=f 0;rewrite [Int.one_mul];rewrite [T6];rfl|succ k G=>show 0*f 0+pM (F_ k 0++[1]) _=_;rewrite [G];rewrite [Int.zero_mul];rewrite [WU];rfl
abbrev Cl:=dk (QP×Lf)
def cr(x y:Cl)(h:QP×Lf->QP×Lf->Cl):Cl:=x.flatMap λp=>y.flatMap λq=>h p q
def DB:LT->Cl| .v i=>[([],uF (2*i))]| .n k=>[([],(k,[]))]| .a x y=>cr (DB x) (DB y) λp q=>[(c5++q.1,uW p.2 q.2)]| .s x y=>cr (DB x) (DB y) λp q=>[(lV p.2 q.2::(c5++q.1),lV p.2 q.2),(lV q.2 p.2::(c5++q.1),(0,[]))]| .m k x=>(DB x).map a56| .r x k=>(DB x).map a56|_=>[([],(0,[]))]
def DC:LT->Cl| .v i=>[([],uF (2*i+1))]| .n k=>[([],(k,[]))]| .a x y=>cr (DC x) (DC y) λp q=>[(c5++q.1,uW p.2 q.2)]| .s x y=>cr (DC x) (DC y) λp q=>[(c5++q.1,lV p.2 q.2)]| .m k x=>(DC x).map a56| .r x k=>(DC x).map a56| .c x=>DB x| .g x=>(DC x).map λp=>(c5,mY (-1) p.2)
abbrev wt(f:ki)(l:QP):a5:=∀a∈l,0<=jV f a
def Cs(f:ki)(t:Cl)(z:Int):a5:=∃p∈t,wt f c5/\jV f p.2=z
theorem jH{f:ki}{a b:QP}(h:wt f a)(k:wt f b):wt f (a++b):=λl T=>(VJ T).elim (h l) (k l)
theorem kL{f:ki}{a:Lf}{b:QP}(h:0<=jV f a)(k:wt f b):wt f (a::b):=λl T=>(nr T).elim (λe=>e▸h) (k l)
theorem nh{f:ki}:wt f []:=λJ h=>(by cases h)
theorem Cs.one{f:ki}{l:Lf}{z:Int}(h:jV f l=z):Cs f [([],l)] z:=⟨_,TO,nh,h⟩
theorem Cs.cr{f:ki}{x y:Cl}{a b z:Int}{h:QP×Lf->QP×Lf->Cl}(Y:Cs f x a)(hy:Cs f y b)(k:∀p q,wt f (c5++q.1)->jV f p.2=a->jV f q.2=b->Cs f (h p q) z):Cs f (cr x y h) z:=by refine fk Y λp O w U=> ? _;clear Y;refine fk hy λq B R T=> ? _;clear hy;refine aN (k p q (jH w R) U T) λr d e=> ? _;exact⟨r,a3t ⟨p,O,a3t ⟨q,B,d⟩⟩,e⟩
theorem Cs.map{f:ki}{x:Cl}{a z:Int}{g:Lf->Lf}(Y:Cs f x a)(k:∀l,jV f l=a->jV f (g l)=z):Cs f (x.map λp=>(c5,g p.2)) z:=by refine fk Y λp O w U=> ? _;clear Y;exact⟨_,a1R ⟨p,O,rfl⟩,w,k _ U⟩
section
variable(xs:QI)(ys:t4)
theorem cN:∀t:LT,Cs Ys (DB t) (OS t)
 | .v i=> .one (by rewrite [GW];show(if 2*i%2=0 then _ else _)=_;exact a3 (c4 (Nat.mul_mod_right 2 i)) (Nat.mul_div_cancel_left i (by decide));rfl)
 | .n k=> .one (T6 _)
 | .a x y=>(cN x).cr (cN y) λp q h a b=>⟨_,TO,h,by rewrite [qX];exact a3 a b;rfl⟩
 | .s x y=>(cN x).cr (cN y) λp q h a b=>by
  rcases Nat.le_total (OS y) (OS x)with c|c
  .have e:jV Ys (lV p.2 q.2)=(OS x-OS y:Nat):=by rewrite [nJ];exact rwLLR a b (Int.ofNat_sub c);rfl
   exact⟨_,OU,kL (e▸TT _) h,e⟩
  .refine⟨_,pn OU,kL ? _ h,? _⟩;. rewrite [nJ];exact a3 a b;exact Int.sub_nonneg_of_le (a0j c)
   . show H_+0=((OS x-OS y:Nat):Int);exact rwL (Nat.sub_eq_zero_of_le c);rfl
 | .m k x=>(cN x).map λl h=>by rewrite [i6];ext Td
 | .r x k=>(cN x).map λl h=>by rewrite [i6];exact rwL h;rewrite [Int.mul_comm];rfl
 | .c x=> .one rfl
 | .g x=> .one rfl
theorem cI:∀t:LT,Cs Ys (DC t) (R8 t)| .v i=> .one (by rewrite [GW];show(if(2*i+1)%2=0 then _ else _)=_;rewrite [Nat.mul_add_mod];exact rwL (b9 (by decide));rewrite [Nat.mul_add_div (by decide)];rfl)| .n k=> .one (T6 _)| .a x y=>(cI x).cr (cI y) λp q h a b=>⟨_,TO,h,by rewrite [qX];exact a3 a b;rfl⟩| .s x y=>(cI x).cr (cI y) λp q h a b=>⟨_,TO,h,by rewrite [nJ];exact a3 a b;rfl⟩| .m k x=>(cI x).map λl h=>by rewrite [i6];ext Td| .r x k=>(cI x).map λl h=>by rewrite [i6];exact rwL h;rewrite [Int.mul_comm];rfl| .c x=>cN xs ys x| .g x=>(cI x).map λl h=>by rewrite [i6];exact rwL h;rewrite [Int.neg_mul];rewrite [Int.one_mul];rfl
section E
abbrev Cp:=dk QP
def LH[Pu](t:LT):Cl:=bL b (DC t) (DB t)
def K9[a0Q](h:Lf->Lf->Cp):Cp:=(LH b x).flatMap λp=>(LH b y).flatMap λq=>(h p.2 q.2).map (c5++q.1++·)
def m1(l:Lf):Lf:=(l.1-1,l.2)
def I1(a b:Lf):Lf:=lV b a
def Je(a b:Lf):Lf:=m1 (lV b a)
def cx(a b:Cp):Cp:=a.flatMap λx=>b.map (x++·)
def cP:b2->LP->Cp|s,.le b x y=>K9 b x y λp q=>[[bL s (I1 p q) (Je q p)]]|s,.lt b x y=>K9 b x y λp q=>[[bL s (Je p q) (I1 q p)]]|s,.eq b x y=>K9 b x y λp q=>bL s [[I1 p q,I1 q p]] [[Je p q],[Je q p]]|s,.no p=>cP (! s) p|s,.F=>bL s [[(-1,[])]] [[]]|s,.an p q=>bL s (cx (cP s p) (cP s q)) (cP s p++cP s q)|s,.or p q=>bL s (cP s p++cP s q) (cx (cP s p) (cP s q))
def DD(xs:QI)(ys:t4)[Pu](t:LT):Int:=bL b (R8 t) (OS t)
section
variable{xs:QI}{ys:t4}
abbrev Cq(xs:QI)(ys:t4)(t:Cp):a5:=∃l∈t,wt Ys l
theorem lW{b:Bool}{x y:LT}{h:Lf->Lf->Cp}(k:∀p q,jV Ys p=Yr x->jV Ys q=Yr y->Wi (h p q)):Wi (K9 b x y h):=by
 have c:∀t,Cs Ys (LH b t) (Yr t):=λt=>by induction b using u' with|true=>exact cI xs ys t|false=>exact cN xs ys t
 refine fk (c x) λp O w U=> ? _;refine fk (c y) λq B R a=> ? _;refine aN (k _ _ U a) a2u;exact⟨_,a3t ⟨p,O,a3t ⟨q,B,a1R ⟨l,T,rfl⟩⟩⟩,jH (jH w R) e⟩
theorem qY{f:ki}{p q:Lf}{a b:Int}(g:jV f p=a)(u:jV f q=b)(h:a<=b):wt f [I1 p q]:=kL (by show 0<=jV f (lV q p);rewrite [nJ];exact a3 g u;exact Int.sub_nonneg_of_le h) nh
theorem qZ{f:ki}{p q:Lf}{a b:Int}(g:jV f p=a)(u:jV f q=b)(h:a<b):wt f [Je p q]:=kL (by show 0<=(lV q p).1-1+pM (lV q p).2 f;have e:(lV q p).1+pM (lV q p).2 f=_:=nJ f q p;exact rwL Int.sub_eq_add_neg;rewrite [WR];rewrite [Int.add_comm (-1)];rewrite [<-WR];exact ec e g u;exact Int.sub_nonneg_of_le (show 1<=b-a from Int.le_sub_left_of_add_le h)) nh
theorem I2{l:QP}(h:wt Ys l):Wi [l]:=⟨_,TO,h⟩
theorem MV[a0Q]:y1 (.le b x y)↔Yr x<=Yr y:=by induction b using u' with|true=>exact Iff.rfl|false=>exact Int.ofNat_le.symm
theorem MX[a0Q]:y1 (.lt b x y)↔Yr x<Yr y:=by induction b using u' with|true=>exact Iff.rfl|false=>exact Int.ofNat_lt.symm
theorem GX[a0Q]:y1 (.eq b x y)↔Yr x=Yr y:=by induction b using u' with|true=>exact Iff.rfl|false=>exact Int.ofNat_inj.symm
theorem FP{a b:Cp}(h:Wi a)(k:Wi b):Wi (cx a b):=by refine aN h a2u;clear h;refine aN k λr z f=> ? _;clear k;exact⟨_,a3t ⟨l,T,a1R ⟨r,z,rfl⟩⟩,jH e f⟩
theorem FQ{a b:Cp}(h:Wi a):Wi (a++b):=by refine aN h a2u;exact⟨l,a5x T,e⟩
theorem FR{a b:Cp}(h:Wi b):Wi (a++b):=by refine aN h a2u;exact⟨l,a3b T,e⟩
theorem iR:∀(p:LP)(s:Bool),bL s (y1 p) (¬y1 p)->Wi (cP s p)
 | .le b x y,am,h=>lW λp q g u=>I2 (qY g u ((MV b x y).mp h))
 | .le b x y,av,h=>lW λp q g u=>I2 (qZ u g (Int.not_le.mp λz=>h ((MV b x y).mpr z)))
 | .lt b x y,am,h=>lW λp q g u=>I2 (qZ g u ((MX b x y).mp h))
 | .lt b x y,av,h=>lW λp q g u=>I2 (qY u g (Int.not_lt.mp λz=>h ((MX b x y).mpr z)))
 | .eq b x y,am,h=>lW λp q g u=>I2 (jH (a:=[I1 p q]) (qY g u (a2t ((GX b x y).mp h))) (qY u g (a2t ((GX b x y).mp h).symm)))
 | .eq b x y,av,h=>lW λp q g u=>by
  rcases Int.lt_or_gt_of_ne λz=>h ((GX b x y).mpr z)with c|c;. exact⟨_,OU,qZ g u c⟩
  . exact⟨_,pn OU,qZ u g c⟩
 | .no p,am,h=>iR p av h
 | .no p,av,h=>iR p am (a25 h)
 | .F,am,h=>Ok
 | .F,av,h=>I2 nh
 | .an p q,am,h=>FP (iR p am h.1) (iR q am h.2)
 | .an p q,av,h=>(Classical.not_and_iff_not_or_not.mp h).elim (λz=>FQ (iR p av z)) λz=>FR (iR q av z)
 | .or p q,am,h=>Ok (λz=>FQ (iR p am z)) λz=>FR (iR q am z)
 | .or p q,av,h=>FP (iR p av λz=>h (b7 z)) (iR q av λz=>h (ba z))
section E
def GY[q_]:dk Cp->QP->b2|[],acc=>zP k acc|h::r,acc=>h.all λF=>GY k r (F++acc)
theorem wu[v1]{f:ki}:∀(H:dk Cp)(acc:QP),(∀p∈H,∃l∈p,wt f l)->wt f acc->GY k H acc=am->gj|[],acc,_,ha,u=>sM k f acc ha u|h::r,acc,hp,ha,u=>by refine aN (hp h OU) a2u;exact wu r _ (λp q=>hp p (pn q)) (jH e ha) (Qg u l T)
def La(d:Nat)(f:Nat->dk LP):dk LP:=bL (c0 d 0) (f 0)<|bL (c0 d 1) (f 1)<|bL (c0 d 2) (f 2)<|bL (c0 d 3) (f 3)<|bL (c0 d 4) (f 4)<|bL (c0 d 5) (f 5)<|bL (c0 d 6) (f 6)<|bL (c0 d 7) (f 7)<|bL (c0 d 8) (f 8)<|bL (c0 d 9) (f 9)<|bL (c0 d 10) (f 10)<|bL (c0 d 11) (f 11)<|bL (c0 d 12) (f 12)<|bL (c0 d 13) (f 13)<|bL (c0 d 14) (f 14)<|f 15
def sN:Nat->Nat->dk LT->dk LP->dk LP
 |0,_,_,ps=>ps
 |bm,c,st,ps=>bL (lj c 1) ps<|let o:=c%16;let c:=c/16;bL (c0 o 0) (La (c%16) λi=>a0W (.v i::st) ps)<|bL (c0 o 1) (La (c%16) λi=>a0W (.n i::st) ps)<|bL (c0 o 2) (sN k (c/4294967296) (.n (c%4294967296)::st) ps)<|bL (c0 o 13) (sN k c st (.F::ps))<|match st with
  |[]=>match ps with|[]=>[]|p::ps=>bL (c0 o 12) (sN k c st (.no p::ps))<|match ps with|[]=>[]|q::ps=>bL (c0 o 14) (sN k c st (.an q p::ps)) (sN k c st (.or q p::ps))
  |y::st'=>bL (c0 o 5) (La (c%16) λi=>a0W (.m i y::st') ps)<|bL (c0 o 6) (La (c%16) λi=>a0W (.r y i::st') ps)<|bL (c0 o 7) (sN k c (.c y::st') ps)<|bL (c0 o 8) (sN k c (.g y::st') ps)<|match st' with|[]=>[]|x::st=>bL (c0 o 3) (sN k c (.a x y::st) ps)<|bL (c0 o 4) (sN k c (.s x y::st) ps)<|bL (c0 o 9) (a0W st (.le (c0 (c%16) 1) x y::ps))<|bL (c0 o 10) (a0W st (.lt (c0 (c%16) 1) x y::ps))<|a0W st (.eq (c0 (c%16) 1) x y::ps)
def uN(c:Nat):dk LP:=sN 200 (c/256) [] []
def gl:dk LP->LP|[]=> .F|g::_=>g
def hy[q_](c:Nat):LP:=gl ((uN c).drop k)
def zS(c:Nat):b2:=match uN c with|[]=>av|g::hs=>GY (2*max (c%16) (c/16%16)) (cP av g::hs.map (cP am)) ((List.range (c%16)).map λi=>uF (2*i))
theorem lin{c:Nat}{xs:QI}{ys:t4}(h:zS c=am)(Z:∀p∈(uN c).tail,y1 p):WW:=by
 unfold zS at h;show y1 (gl (uN c));refine LG (uN c) od λg r e=> ? _;. ext Qp;ext sp
 .rw [e]at h Z;refine a25 λz=>wu (f:=Ys) _ _ (λp O=> ? _) (λl T=> ? _) h
  .rcases nr O with rfl|O;. exact iR g av z
   . refine aN (WJ O) λq B d=> ? _;subst d;exact iR q am (Z q B)
  . refine aN (WJ T) λi J d=> ? _;subst d;rewrite [GW];show 0<=(if 2*i%2=0 then _ else _);exact rwL (c4 (Nat.mul_mod_right 2 i));exact TT _
theorem iz{c:Nat}{m:Nat}{P:LP->a5}(h:∀i,i<m->P (hy fq c))(n:WG (m+1)=am):∀p∈(uN c).tail,P p:=λp O=>by refine db (List.mem_iff_getElem?.mp O) w8;have e:=TQ n;replace W:=List.getElem?_tail▸W;have l:=(L_ W).1;have:=h i (a5w (show fq<m+1 from e▸l));unfold hy at this;replace this:=List.drop_eq_getElem_cons l▸b_;replace this:=(L_ W).2▸b_;exact b_
theorem n0{P:PZ}:∀i,i<0->P i:=λi h=>b6 h (Qk i)
theorem nx{m:Nat}{P:PZ}(h:∀i,i<m->P i)(a:P m):∀i,i<m+1->P i:=λi q=>(a3N (oc q)).elim (h i) λe=>e▸a
section E.Ln
section
open Ln
variable(c:Nat)(xs:QI)(ys:t4)
theorem lin0(u:(zS c&&WG 1)=am):WW:=X3 (iz (m:=0) n0 YB)
theorem lin1(G:y1 (hy 1 c))(u:(zS c&&WG 2)=am):WW:=X3 (iz (m:=1) (nx n0 G) YB)
theorem lin2(G:y1 (hy 1 c))(T:y1 (hy 2 c))(u:(zS c&&WG 3)=am):WW:=X3 (iz (m:=2) (nx (nx n0 G) T) YB)
theorem lin3[a6K](u:(zS c&&WG 4)=am):WW:=X3 (iz (m:=3) (nx (nx (nx n0 G) T) I) YB)
theorem lin4[a6K](B:y1 (hy 4 c))(u:(zS c&&WG 5)=am):WW:=X3 (iz (m:=4) a2R YB)
theorem lin5[a4q](u:(zS c&&WG 6)=am):WW:=X3 (iz (m:=5) (nx a2R z) YB)
theorem lin6[a4q](E:y1 (hy 6 c))(u:(zS c&&WG 7)=am):WW:=X3 (iz (m:=6) (nx (nx a2R z) E) YB)
theorem lin7[a4q](E:y1 (hy 6 c))(L:y1 (hy 7 c))(u:(zS c&&WG 8)=am):WW:=X3 (iz (m:=7) (nx (nx (nx a2R z) E) L) YB)
theorem lin8[a4q](E:y1 (hy 6 c))(L:y1 (hy 7 c))(b:y1 (hy 8 c))(u:(zS c&&WG 9)=am):WW:=X3 (iz (m:=8) (nx (nx (nx (nx a2R z) E) L) b) YB)
section E
section E
section
set_option backward.match.sparseCases false
open PySem
set_option genInjectivity true in
inductive Id where
  | mk (r : Nat) [f0]
  deriving DecidableEq
instance:E2 Id:=⟨bv 0 0⟩
inductive V where
  | none
  | bool [Pu]
  | int (i : Int)
  | str (s : Str)
  | bytes (b : d7)
  | ref [xi]
  | fn (c f : Str)
  | cls (c : Str)
  | bi [SC]
  | tup [Vw]
  | rng (G W N : Int)
  | enum [xi]
  | clos (body : Expr) [X5] (cells : OX)
instance:E2 V:=⟨a1⟩
inductive ae where
  | inst (c : Str) (F : dd)
  | list [Vw]
  | flist [Vw]
  | sd (F : dd)
  | idc (Y : RO)
  | barr (b : d7)
  | cell (v : ii)
  | tab
instance:E2 ae:=⟨sw⟩
structure ac where
  L : M_
instance:E2 ac:=⟨⟨[]⟩⟩
def Ev(σ α:cv):=(α->σ->a5)->(σ->a5)->σ->a5
namespace Ev
variable{σ α β:cv}
@[inline]def ret(a:α):Ev σ α:=λk J m=>k a m
@[inline]def bnd(x:Ev σ α)(f:α->Ev σ β):Ev σ β:=λk e m=>x (λa m'=>f a k e m') e m
instance : Monad (Ev σ) where
  pure := ret
  bind := bnd
def bad:Ev σ α:=λJ J J=>gj
def exc:Ev σ α:=λJ e m=>e m
def need(c:a5) [Yy c](x:Ev σ α):Ev σ α:=λk e m=>bL (fl c) (x k e m) gj
def br[Pu](x y:Ev σ α):Ev σ α:=λk e m=>bL b (x k e m) (y k e m)
def ofOpt:ez α->Ev σ α|C1=>ret a| a1=>bad
section E.Ev
structure Fm where
  scope : Scope
  loc : dd
  cells : OX
instance:E2 Fm:=⟨⟨w0,[],[]⟩⟩
inductive Fl where
  | next | brk | cont
  | ret [ss]
instance:E2 Fl:=⟨hH⟩
structure mD where
  params : Arguments
  body : e_
  scope : Scope
instance:E2 mD:=⟨⟨⟨[],[],ap,[],[],ap,[]⟩,[],w0⟩⟩
def zT[SC]:Stmt->ez mD| .FunctionDef m a b _ _ _ sc _ _ _=>if m==n then aj ⟨a,b,sc⟩else a1|_=> a1
def xO[SC]:Stmt->ez e_| .ClassDef m _ _ b _ _ _ _ _ _ _=>if m==n then C2 else a1|_=> a1
def wv(p:e_)[SC]:ez mD:=p.findSome? (zT n)
def DE(p:e_)(c:Str):ez e_:=p.findSome? (xO c)
def gX(p:e_)(c f:Str):ez mD:=if c.cps.isEmpty then wv p f else(DE p c).bind λb=>wv b f
def iA:Const->ii| a1=>aj a1| B_=>aj B_| f6=>aj f6| c1 s=>aj (c1 s)| hj=>aj hj|_=> a1
def Jf:hC->ez Str| jn x _=>eI|_=> a1
def GZ:hC->ii| RQ c _ _=>iA c|_=> a1
def G4[SC]:Stmt->ii| .FunctionDef m .. =>if m==n then aj (.fn Str.empty n)else a1| .ClassDef m .. =>if m==n then aj (.cls n)else a1| UG ts e _=>(match ts with|[t]=>if Jf t==aj n then GZ e else a1|_=> a1)|_=> a1
def i7(p:e_)[SC]:V:=match p.findSome? (G4 n)with|d0=>v| a1=> .bi n
def dS(k:Str)[ss]:dd->dd|[]=>[(k,v)]|(k',v')::r=>if k'==k then(k,v)::r else(k',v')::dS k v r
section
variable{K:cv} [DecidableEq K]
def dp(k:K):Uj->ii|[]=> a1|(k',v)::r=>if k'=k then d0 else dp k r
def gL(k:K)[ss]:Uj->Uj|[]=>[(k,v)]|(k',v')::r=>if k'=k then(k',v)::r else(k',v')::gL k v r
def fC(k:K):Uj->Uj|[]=>[]|(k',v')::r=>if k'=k then r else(k',v')::fC k r
section E
def sO(v:Wb)[xi](o:ae):Wb:=λj=>if j=i then ck else v j
def az(s:Nat):M_->d_|[]=>[]|p::r=>bL (c0 c5 s) p.2 (az s r)
def bo(s:Nat)(l:d_):M_->M_|[]=>[(s,l)]|p::r=>bL (c0 c5 s) ((s,l)::r) (p::oq l r)
def ac.H[m5]:Wb| bv s n=>Yx[n]?
def ac.c[m5](s:Nat):Nat:=(az s m.L).length
theorem fR{a b:Nat}(h:a≠b):c0 a b=av:=by
 refine cO (c0 a b) b4 b4;. exact b6 (TQ q) h
 . rfl
theorem aZ{s t:Nat}{l:d_}:∀{L:M_},hK (oq l L)=if t=s then l else hK L:=by
 intro O
 induction O with
  |nil=>
   show bL (c0 s t) l []=_;exact bcH h (t=s);. subst h;ext UA;ext Wv
   . exact a3 Rt (fR (LL h));rfl
  |cons p r G=>
   have G:=G;show hK (bL (c0 c5 s) ((s,l)::r) (p::oq l r))=if t=s then l else bL S' p.2 (hK r);refine cO (c0 c5 s) V' V'
   .have h:=TQ h;show bL (c0 s t) l (hK r)=_;exact bcH q (t=s);. subst q;ext UA;ext Wv
    . exact a3 w2 h;have:=fR (LL q);ext Od;rfl
   .have h:=a3i h;show bL S' p.2 (hK (oq l r))=_;exact rwL G;exact bcH q (t=s);. subst q;exact a3 s_ s_;have:=fR h;ext Od;rfl
    . exact a3 w2 w2;rfl
section
variable(P:e_)
abbrev E(α:cv):=xj α
def ac.upd[m5]:Id->ae->ac| bv s n,o=>⟨oq ((az s m.L).set n o) m.L⟩
def ac.mk1[m5](s:Nat)(o:ae):ac:=⟨oq (Yx++[o]) m.L⟩
theorem kM[f_][eX]{o o':ae}(h:RC):(pj i o').H=sO m.H i o':=by
 obtain⟨s,n⟩:=i;funext⟨t,k⟩;have h:Yx[n]? =ck:=h;have B:=(L_ h).1;show(hK (oq ((az s m.L).set n o') m.L))[k]? =if Id.mk t k=Id.mk s n then aj o' else(hK m.L)[k]?;exact rwL aZ;exact bcH q (t=s)
 .subst q;rewrite [s_,List.getElem?_set];exact bcH r (n=k);. subst r;exact ec s_ (c4 B) s_;rfl
  . exact a3 (b9 r) (b9 λe=>r (Xi e).2.symm);rfl
 . exact a3 w2 (b9 λe=>q (Xi e).1);rfl
theorem ww[f_]{s:Nat}{l:d_}{t k:Nat}:(ac.mk (oq (Yx++l) m.L)).H Uo=if t=s/\m.c s<=k then l[k-m.c s]? else m.H Uo:=by
 show(hK (oq (Yx++l) m.L))[k]? =_;exact rwL aZ;exact bcH q (t=s)
 .subst q;ext UA;exact bcH h (m.c t<=k);. rewrite [c4 ⟨rfl,h⟩,Vy h];rfl
  . rewrite [b9 λe=>h e.2,a24 (Nat.lt_of_not_le h)];rfl
 . exact a3 w2 (b9 λe=>q e.1);rfl
theorem i8[f_]{s j:Nat}:m.H (bv s (m.c s+j))=ap:=List.getElem?_eq_none_iff.mpr (QY _ _)
theorem dA[f_]{s:Nat}{o:ae}:(v2 s o).H=sO m.H (bv s (m.c s)) o:=by
 funext⟨t,k⟩;refine ww.trans ? _;show _=if Id.mk t k=Id.mk s (m.c s)then ck else m.H Uo;exact bcH q (t=s/\m.c s<=k);. refine bx q PY;clear q;subst G;intro h;exact rwL (c4 ⟨rfl,h⟩);refine db (Nat.exists_eq_add_of_le h) λj U=> ? _;subst U;rewrite [a3a];induction j using Qn with|zero=>rewrite [Nat.add_zero];ext UA;rfl|succ j=>exact a3 (b9 λe=>by have:=(Xi e).2;refine bn (nat_lit 0x1d0b003311100002) cb [] b_ a0) i8;rfl
 . exact a3 w2 (b9 λe=>q ⟨(Xi e).1,O1 (Xi e).2.symm⟩);rfl
def aX[xi]:E ae:=λk J m=>match Fc with|ck=>k o m| a1=>gj
def cQ[xi](o:ae):E l0:=λk J m=>k () (pj i o)
def ci(d:Nat)(o:ae):E Id:=λk J m=>k VQ (v2 d o)
def cF{α:cv}(x:j_):j_:=λk J m=>x k wj m
section
variable{α:cv}
def dX[ss](k:Int->j_):j_:=match v with| f6=>k i|_=>a8
def FS[ss](k:Str->j_):j_:=match v with| c1 i=>k i|_=>a8
def wx[ss](k:d7->j_):j_:=match v with| ek i=>k i|_=>a8
def dB[ss](k:Id->j_):j_:=match v with| eF=>k i|_=>a8
def FU[ss](k:b5->j_):j_:=match v with| hD i=>k i|_=>a8
def Jg[ss](k:Str->j_):j_:=match v with| .bi i=>k i|_=>a8
def q5[xi](k:b5->j_):j_:=aX i>>=λo=>match o with| Oj=>k vs|_=>a8
def MY[xi](k:b5->j_):j_:=aX i>>=λo=>match o with| Oj=>k vs| F2 vs=>k vs|_=>a8
variable{β:cv}
def kg(l:dk β)(k:j_):j_:=match l with|[]=>k|_::_=>a8
def fT(l:dk β)(k:β->j_):j_:=match l with|[]=>a8|a::r=>kg r (k a)
def sP(l:dk β)(k:β->β->j_):j_:=match l with|[]=>a8|a::r=>fT r (k a)
def DF(o:ez β)(k:β->j_):j_:=match o with|C2=>k b| a1=>a8
section E
section
variable{α:cv}
def nK[QH](k:Str->j_):j_:=match e with| jn x _=>k x|_=>a8
def zU[QH](k:eP->j_):j_:=match e with| L0 es _ _=>k es|_=>a8
def wy[QH](k:Const->j_):j_:=match e with| RQ c _ _=>k c|_=>a8
def zV[QH](k:hC->eP->dk Keyword->j_):j_:=match e with| On f as kws _=>k f as kws|_=>a8
def FV(s:Stmt)(k:hC->j_):j_:=match s with| TG e _=>DF e k|_=>a8
def G5(h:ExceptHandler)(k:hC->e_->j_):j_:=match h with| UW t n b _=>match n with| a1=>DF t λt=>k t b|aj _=>a8
section E
def G6:Const->b2| c1 _=>am|_=>av
def cG[ss]:E b2:=match v with| a1=>A'| B_=>a_ b| f6=>a_ (i !=0)| hj=>i4 Zk (a_ (! b.isEmpty))| eF=>q5 i λvs=>i4 (ka<=16777216) (a_ (! vs.isEmpty))|_=>a8
def hZ(f:S5):b5->b5->Qb|[],_=>aj am|x::xs,l=>match l with|[]=>aj am|y::ys=>(f x y).bind λa=>(hZ f xs ys).map λb=>a&&b
def d8:OO| a1=>am|_=>av
def i9:V->Qb| a1=>aj am| di| F3| c1 _| hD _| ek _=>aj av|_=> a1
def iS:ez ae->ez b5|aj (bC xs)=>aj xs|_=> a1
def zW(b:V)(d:Int->b2)(Z:Str->b2):Qb:=match b with| a4 y=>aj (d y)| c1 y=>aj (Z y)|_=> a1
def LJ(b:V)(k:b2->b2):Qb:=match b with| hP y=>aj (k y)|_=> a1
def LK(b:V)(k:d7->b2):Qb:=match b with| ek y=>aj (k y)|_=> a1
def G7(b:V)(k:b5->Qb):Qb:=match b with| hD y=>k y|_=> a1
def G8(b:V)(k:Id->Qb):Qb:=match b with| a2 y=>k y|_=> a1
def zG(f:S5)(I p:b5):Qb:=if kN=p.length then hZ f I p else aj av
def pN(f:S5)(v:Wb)[Pf]:Qb:=if d8 a then i9 b else if d8 b then i9 a else match a with| a4 x=>zW b (λy=>L2) (λJ=>av)| I'=>zW b (λJ=>av) (λy=>L2)| hP x=>LJ b λy=>L2| ek x=>LK b λy=>L2| hD I=>G7 b λp=>a6S| eF=>G8 b λj=>(iS (v i)).bind λI=>(iS (v j)).bind λp=>zG f I p|_=> a1
def gx[Pf]:b2:=match a with
 | eF=>match b with| a2 j=>i=j|_=>av
 |_=>av
def q6(v:Wb):Nat->S5|0,_,_=> a1|d+1,a,b=>if gx a b then aj am else pN (q6 v d) v a b
def gM[Pf]:E b2:=λk J m=>match YW with|un=>k r m|ap=>gj
def wz:OO| ek _=>am|_=>av
def pO[Pf]:b2:= !(d8 a&&wz b||wz a&&d8 b)
def zX:OO| rv| hD _| di| ek _| a1=>am|_=>av
def uO[Pf]:E b2:=if d8 a then(if zX b then a_ (d8 b)else a8)else if d8 b then(if zX a then A' else a8)else dB a λi=>dB b λj=>a_ (i=j)
def dF:Int:=T2 (10^400)
def bV(i:Int):E V:=i4 (-dF<i/\i<dF) (a_ f6)
def jR(d:Nat)[Pf]:E V:=match a with| a4 x=>dX b λy=>bV (x+y)| ek x=>wx b λy=>i4 (x.length+y.length<=16777216) (a_ (ek (x++y)))| eF=>dB b λj=>q5 i λI=>q5 j λp=>i4 (kN+p.length<=16777216) (do return a2 (<-ci d (bC (I++p))))|_=>a8
def xP(d:Nat)[Pf]:E V:=dX b λn=>match a with| a4 x=>i4 (-(2^64)<x/\x<2^64) (bV (x*n))| eF=>q5 i λl=>fT l λx=>i4 (0<=n/\n<=1000) (do return a2 (<-ci d (bC (F_ n.toNat x))))|_=>a8
def aY{α:cv}[Pf](k:Int->Int->j_):j_:=dX a λx=>dX b λy=>k x y
def FW(d:Nat)(op:Operator)[Pf]:E V:=match op with| .Add=>jR d a b| .Mult=>xP d a b| .Sub=>aY a b a1V| .FloorDiv=>aY a b a2B| .Mod=>aY a b ZQ| .Pow=>aY a b λa b=>i4 (0<=a/\a<=10/\0<=b/\b<=200) (a_ (a4 (T2 (a.toNat^b.toNat))))|_=>a8
def zY(op:CmpOp)[Pf]:E b2:=match op with| .Eq=>gM a b| .NotEq=>if pO a b then do return !(<-gM a b)else a8| .Lt=>aY a b YS| .LtE=>aY a b λa b=>a_ (fl (a<=b))| .Gt=>aY a b a5n| .GtE=>aY a b λa b=>a_ (fl (b<=a))| .Is=>uO a b| .IsNot=>do return !(<-uO a b)| .NotIn=>dX a λx=>FU b λl=>sP l λp q=>aY p q λy z=>a_ (!(L2||x==z))| .In=>a8
def bO{α:cv}(I:dk α)(G W N:x0):dk α:=(sliceRange (sliceBounds G W N kN).1 (sliceBounds G W N kN).2.1 (sliceBounds G W N kN).2.2).filterMap (I[·]?)
def kh:V->ez x0| a1=>aj a1| f6=>aj (aj i)|_=> a1
def eJ{α:cv}(I:dk α)(k:Int):ez α:=if 0<=k then I[k.toNat]? else if-(kN:Int)<=k then I[(k+kN).toNat]? else a1
def km(d:Nat)(o:V)(G W N:V):E V:=match kh G with| a1=>a8|aj l=>match kh W with| a1=>a8|aj h=>match kh N with| a1=>a8|aj s=>match o with| hj=>i4 (s.isNone/\Zk) (a_ (ek (bO b l h a1)))| eF=>MY i λI=>i4 (s≠t_/\kN<=16777216) (do return a2 (<-ci d (bC (bO I l h s))))|_=>a8
def ni[Vw](k:V):E V:=dX k λi=>i4 (-1000<=i/\i<=1000) (QC (eJ vs i))
def eD(o:ae)(k:V):E V:=match o with| Oj=>ni vs k| .sd fs=>FS k λx=>QC (dp x fs)| lI es=>dX k λx=>QC (dp x es)| f4 b=>dX k λj=>i4 (0<=j/\j<=1000) (QC ((b[Rm]?).map λu=> a4 Ts))|_=>a8
def be(o k:V):E V:=match o with| w_=>ni vs k| eF=>aX i>>=λM=>eD M k|_=>a8
def iB[xi](o:ae)(k v:V):E l0:=match o with| Oj=>dX k λj=>i4 (0<=j/\j<ka/\j<=1000) (cQ i (bC (vs.set Rm v)))| .sd fs=>FS k λx=>if fs.length<=1000 then cQ i (.sd (gL x v fs))else a8| lI es=>dX k λx=>if a4g then cQ i (lI (gL x v es))else a8| f4 b=>dX k λj=>dX v λu=>i4 (0<=j/\j<nw/\Wh/\0<=u/\u<256) (cQ i (f4 (b.set Rm (PJ Ts))))|_=>a8
def e7(o k v:V):E l0:=dB o λi=>aX i>>=λM=>iB i M k v
def kO(o k:V):E l0:=dB o λi=>aX i>>=λM=>match M with| lI es=>dX k λk=>if(dp k es).isSome&&a4g then cQ i (lI (fC k es))else a8|_=>a8
def nm:dk (Str×pb):=([(hL,["ident",SJ,"ring",V0,WQ,Yh,X9]),(Qr,[SJ,"made","pipes"]),("Parts",["table","files","nodes","paths","journal","devices","ticks"]),(s3,["kernel"]),(U8,["kind","readable","writable",We,"place",N1,"node","major"]),(r_,["most","pipes","nodes","journal","devices","block","open"]),(Pm,["most","slots"]),(Qv,["place","pid",UF,"parent","space","registers","pc","files","cwd","name",Un,Xq,"status","in_call","progress","told","wakes","job","turns"]),(fI,["places","next_pid","last",P1,"running"])]:dk (String×dk String)).map λp=>(VZ c5,p.2.map VZ)
def eM(c a:Str):b2:=(nm.lookup c).any (·.contains a)
def bE(o:V)(a:Str):E V:=dB o λi=>aX i>>=λM=>match M with| sh fs=>if eM c a then QC (fs.lookup a)else a8|_=>a8
def gy(o:V)(a:Str)[ss]:E l0:=dB o λi=>aX i>>=λM=>match M with| sh fs=>if eM c a&&fs.length<=1000 then cQ i (sh (dS a v fs))else a8|_=>a8
def fu(src:V)[q_]:E ii:=match src with| w_=>a_ TL | hj=>a_ a7N| .rng lo hi _=>a_ (if lo+k<hi then aj (a4 (lo+k))else a1)| Uy=>q5 i λvs=>a_ ((vs[k]?).map λv=> hD [v0,v])| eF=>q5 i λvs=>a_ TL |_=>a8
def cj(src:V):E Nat:=match src with| w_=>a_ ka| hj=>a_ nw| .rng lo hi _=>i4 (Uv<=lo/\lo<=1000000/\ Uv<=hi/\hi<=1000000) (a_ (hi-lo).toNat)| Uy=>q5 i λvs=>a_ ka| eF=>q5 i λvs=>a_ ka|_=>a8
def uX:b5->Int->x0|[],a=>C1| f6::r,a=>uX r (a+i)|_,_=> a1
def mZ:b5->ez d7|[]=>aj []| f6::r=>if 0<=i/\i<256 then(mZ r).map (PJ i.toNat::·)else a1|_=> a1
def lX(o:ae):E V:=match o with| Oj=>i4 (ka<=16777216) (a_ (a4 ka))| F2 vs=>i4 (ka<=16777216) (a_ (a4 ka))| lI es=>i4 (es.length<=16777216) (a_ (a4 es.length))| f4 b=>i4 Zk (a_ (a4 nw))|_=>a8
def kP(a:V):E V:=match a with| hj=>i4 Zk (a_ (a4 nw))| eF=>aX i>>=λo=>lX o|_=>a8
def ja[wl]:E V:=match a6 with|[]=>a8|a::r=>dX a λx=>match r with|[]=>a_ (o_ x 1)|_::_=>fT r λb=>dX b λy=>a_ (.rng x y 1)
def zZ[Vw]:E V:=match mZ vs with|C2=>a_ hj| a1=>a8
def nM(o:ae):E V:=match o with| f4 b=>i4 Wh (a_ hj)| Oj=>i4 ZG (zZ vs)|_=>a8
def lY(a:V):E V:=match a with| hj=>a_ hj| eF=>aX i>>=λo=>nM o|_=>a8
def xQ[Vw]:E V:=match uX vs 0 with|v_=>bV k| a1=>a8
def Jh(d:Nat)(a:V):E V:=dX a λk=>i4 (0<=k/\k<=1000) (do return a2 (<-ci d (f4 (F_ k.toNat 0))))
def FX(d:Nat)[wl]:E V:=match a6 with|[]=>do return a2 (<-ci d (f4 []))|a::r=>kg r (Jh d a)
def Ji(c:V):E V:=match c with| .bi c=>if c==("str":Str)then a_ NS else a8| hD l=>sP l λa b=>Jg a λa=>Jg b λb=>if a==(UE:Str)&&b==(C4:Str)then a_ y2 else a8|_=>a8
def wA(d:Nat)[SC][wl]:E V:=if n==("len":Str)then fT a6 kP else if n==("range":Str)then ja a6 else if n==("min":Str)then sP a6 λa b=>aY a b λa b=>a_ (a4 (if b<a then b else a))else if n==("abs":Str)then fT a6 λa=>dX a λa=>a_ (a4 (if a<0 then-a else a))else if n==("sum":Str)then fT a6 λa=>dB a λi=>q5 i xQ else if n==(UE:Str)then fT a6 lY else if n==(C4:Str)then FX d a6 else if n==("list":Str)then fT a6 λa=>dB a λi=>q5 i λvs=>i4 ZG (do return a2 (<-ci d Oj))else if n==("isinstance":Str)then sP a6 λa c=>wx a λJ=>Ji c else a8
def FY[xi][Vw][SC][wl]:E V:=if Zv then fT a6 λv=>i4 ZG (do cQ i (bC (vs++[v]));return a1)else if n==("insert":Str)then sP a6 λa v=>dX a λk=>i4 (k=0/\ZG) (do cQ i (bC (v::vs));return a1)else if n==("pop":Str)then kg a6 (match vs.getLast? with|d0=>i4 ZG (do cQ i (bC vs.dropLast);return v)| a1=>a8)else a8
def Jj[xi](Y:dd)(j:Id):E V:=aX j>>=λo=>match o with| .sd fs=>if i=j||Y.length+fs.length>1000 then a8 else do cQ i (.sd (fs.foldl YV Y));return a1|_=>a8
def uY(o:ae)[xi][SC][wl]:E V:=match o with| Oj=>FY i vs n a6| lI es=>if n==("get":Str)then fT a6 λa=>dX a λk=>a_ ((dp k es).getD a1)else a8| .sd es=>if n==("update":Str)then fT a6 λa=>dB a λj=>Jj i es j else a8| f4 b=>if Zv then fT a6 λa=>dX a λu=>i4 (0<=u/\u<256/\Wh) (do cQ i (f4 (b++[PJ Ts]));return a1)else a8|_=>a8
inductive eN where
  | fn (c f : Str)
  | clos (body : Expr) [X5] (cells : OX)
abbrev aD:=eN->b5->E V
structure gN where
  ev : hC → Fm → E V
  test : hC → Fm → E b2
  stmt : Stmt → Fm → E m_
instance:E2 gN:=⟨⟨λJ J J J J=>gj,λJ J J J J=>gj,λJ J J J J=>gj⟩⟩
variable(call:aD)
def q7:pb:=(["BadArgument","NoRoom",w7,"Stuck","DONE","SLEEP","BROKEN","READ_CHANNEL","WRITE_CHANNEL",hL,Qr,"octets_of","Parts",s3,"PIPE","NODE","DEVICE",U8,r_,Pm,"UNUSED","FRESH","READY","RUNNING","SLEEPING","ZOMBIE","A0",Qv,fI,Qu,T9,"_law_met","_law_child",QZ,Qt,a2h,XF,V2,Zn,Zu,a0f,UO,"_law_open","law","len","range","min","abs","sum",UE,C4,"list",D2,"isinstance","str"]:dk String).map VZ
def Jl[xd]:b2:=a3h||x==("__classdict__":Str)
def name[xd][lF]:E V:=if Jl x then a8 else match RI x with
 |xw=>QC (fm.loc.lookup x)
 |OM|aj .free=>match TW x with
  |aj c=>do match<-aX c with| Uz=>a_ v|_=>a8
  | a1=>a8
 |aj Ws=>if q7.contains x then a_ (i7 P x)else a8
 |_=>a8
def e8[xd][ss][lF]:E dd:=match RI x with
 |xw=>a_ (dS x v tn)
 |OM=>match TW x with
  |aj c=>aX c>>=λo=>match o with| f2 _=>cQ c Uz>>=λJ=>a_ tn|_=>a8
  | a1=>a8
 |_=>a8
def mE:dk (Str×Str):=([(hL,lP),(hL,"waiting"),(hL,"room"),(hL,Un),(hL,Oe),(hL,RB),(hL,A_),(Qr,lP),(Qr,"make"),(Qr,A_),(Qr,"count"),("Parts",lP),(s3,lP),(s3,OC),(s3,"sleep_on"),(s3,"fork"),(s3,"let_go"),(s3,"exit"),(s3,Pd),(s3,"kill"),(s3,A_),(s3,"let_close"),(s3,"dup"),(s3,N1),(s3,RB),(s3,Oe),(U8,lP),(U8,"side"),(r_,lP),(r_,"count"),(r_,"need_room"),(r_,"enter"),(r_,"open_pipe"),(r_,"share"),(r_,A_),(r_,RB),(r_,Oe),(r_,"waits_for"),(Pm,lP),(Pm,"put"),(Pm,"free"),(Pm,"get"),(Pm,"take"),(Pm,"all_files"),(Pm,"copy"),(Qv,lP),(Qv,"clear"),(Qv,"is_there"),(fI,lP),(fI,"free_place"),(fI,"new"),(fI,QO),(fI,"all"),(fI,Xa),(fI,qi),(fI,"fork"),(fI,"reparent"),(fI,a2s),(fI,"exit"),(fI,"reap"),(fI,Pd),(fI,"sleep"),(fI,Pz),(fI,"kill")]:dk (String×String)).map λp=>(VZ c5,VZ p.2)
def z3(d:Nat)(f:V)[wl]:E V:=match f with
 | Tm=>bj Tm a6
 | WL=>bj WL a6
 | .cls c=>if ! a0V (c,lP)then a8 else do let i<-ci U3 (sh []);match<-bj (.fn c lP) (eF::a6)with| a1=>return eF|_=>a8
 | .bi n=>wA d n a6
 |_=>a8
def gz:ae->Str->b2| bC _,n=>Zv||n==("insert":Str)||n==("pop":Str)| lI _,n=>n==("get":Str)| .sd _,n=>n==("update":Str)| f4 _,n=>Zv|_,_=>av
def ed(M:ae)[SC]:b2:=match M with| sh fs=>(fs.lookup n).isNone&&a0V (c,n)|M=>gz M n
def cA[xi](M:ae)[SC][wl]:E V:=match M with| sh _=>bj (.fn c n) (eF::a6)|M=>uY M i n a6
section
variable(R:gN)
def qt:eP->Fm->E b5|[],_=>a_ []| .Starred _ _::_,_=>a8|e::r,fm=>do let v<-tb;return v::(<-qt r fm)
def lZ(op:BoolOp):eP->Fm->E V|[],_=>a8|[e],fm=>tb|e::r,fm=>do let v<-tb;let t<-cG v;match op with| .And=>gm t (lZ op r fm) (a_ v)| .Or=>gm t (a_ v) (lZ op r fm)
def bK(op:BoolOp):eP->Fm->E b2|[],_=>a_ (op== .And)|e::r,fm=>do let b<-Qa e fm;match op with| .And=>kp (bK op r fm) A'| .Or=>kp TA (bK op r fm)
def jb(a:V):dk CmpOp->eP->Fm->E b2|[op],[e],fm=>if behindInMarks op e then a8 else do let b<-tb;a0E|op::ops,e::es,fm=>do let b<-tb;gm (<-a0E) (jb b ops es fm) A'|_,_,_=>a8
def nN:ez hC->Fm->E V|P4,fm=>tb| a1,_=>a_ a1
def wB[QH]:ez Str:=match e with
 | RQ c _ _=>match c with| c1 k=>v_|_=> a1
 |_=> a1
def DG:Zw->eP->b2|[],l=>l.isEmpty|k::ks,l=>match l with|[]=>av|_::vs=>(k.bind wB).isSome&&DG ks vs
def l3:Zw->eP->Fm->E dd|[],_,_=>a_ []|k::ks,l,fm=>match l with|[]=>a8|v::vs=>DF (k.bind wB) λk=>do let vv<-R.ev v fm;return(k,vv)::(<-l3 ks vs fm)
def wC(Y:eP)[ss][lF]:E dd:=sP Y λa b=>nK a λx=>nK b λy=>FU v λvs=>sP vs λa b=>do let l<-e8 x a fm;e8 y b {fm with loc:=l}
def cV(t:Expr)[ss][lF]:E dd:=match t with| jn x _=>e8 x v fm| L0 es _ _=>wC es v fm|_=>a8
def G9:OO| rv| .enum _=>am|_=>av
def z4:OO| .enum _=>am|_=>av
def bg(t:Expr)[ss]:b2:=match t with| L0 _ _ _=>G9 v| jn _ _=> ! z4 v|_=>av
def kQ[xi](x:V):E l0:=q5 i λacc=>i4 (acc.length<=1000) (cQ i (bC (acc++[x])))
def dx(elt:Expr)(tgt:Expr)(ifs:eP)(src:V)[xi]:Nat->Nat->Fm->E l0|0,_,_=>a8|cp,k,fm=>do match<-fu src k with| a1=>QK|d0=>do let loc<-cV tgt v fm;gm (<-Yw ifs mc) (do let x<-R.ev elt mc;kQ i x;dx elt tgt ifs src i n bm mc) (dx elt tgt ifs src i n bm mc)
def ee(f:Qh)[lF]:ez OX:=(f.filter λx=>x.2== .free).mapM a7m
def c7:eP->b2|[]=>am| .Starred _ _::_=>av|_::r=>c7 r
def mF(f:Qh):ez Id:=if f.lookup ("rows":Str)==OM then aj (V3 4)else if f.lookup ("calls":Str)==OM then aj (V3 3)else if f.lookup ("row":Str)==OM then if f.lookup ("fits":Str)==xw then aj (V3 1)else if f.lookup ("at":Str)==xw then aj (V3 2)else aj (V3 0)else a1
def DH[QH]:b2:=match e with| On f _ _ _=>(match f with| jn f _=>f==(D2:Str)|_=>av)|_=>av
def wD[lF](args:eP)(M:dk Keyword):E V:=fT a6 λx=>kg M (if RI (D2:Str)==aj Ws&&c7 [x]then do let v<-R.ev x fm;dB v λi=>q5 i λJ=>a_ Uy else a8)
def wE[QH][lF]:E V:=if DH e then zV e λf args M=>nK f λx=>if x==(D2:Str)then wD R fm a6 M else a8 else tb
def bJ(sc:Scope):b2:=sc.kind== Wd&&sc.names.all (λp=>(p.2== .local||p.2== .free||p.2== Ws)&&sc.names.lookup c5==aj p.2)
def nO:hC->b2| .Set _ _ _=>av|_=>am
def DI[QH]:b2:=match e with| jn _ _=>am|_=>av
def kR[QH]:b2:=match e with| On f a6 kws _=> !(DI f&&args.isEmpty&&kws.isEmpty)|_=>am
def FZ[xi][SC](args:eP)[lF]:E V:=do let ob<-aX i;if ed ob n then do let vs<-a0P;let ob<-aX i;cA bj i ob n vs else a8
def F5(f:Expr)(args:eP)[O_][lF]:E V:=match f with| W' o n apos=>if apos.endLine==qj&&args.length<29&&kR o&&c7 a6 then do let ov<-Qw;dB ov λi=>FZ bj R i n a6 fm else a8| jn fx fp=>if args.length<30&&c7 a6 then do let fv<-R.ev (jn fx fp) fm;let vs<-a0P;z3 bj qj fv vs else a8|_=>a8
def Jm(o k:Expr)[O_][lF]:E V:=match k with| .Slice lo hi st _=>do let ov<-Qw;let l<-nN R lo fm;let h<-nN R hi fm;let s<-nN R st fm;km qj ov l h s|k=>do let ov<-Qw;let kv<-R.ev k fm;be ov kv
def wF{α:cv}(g:Comprehension)(k:hC->hC->eP->j_):j_:=match g with|⟨tgt,it,ifs,a⟩=>if a=0 then k tgt it ifs else a8
def qu(elt:Expr)[X5][O_][lF](tgt it:Expr)(ifs:eP):E V:=if ! nO it then a8 else do let src<-wE R it fm;let n<-TM;DF (ee V1 fm) λcells=>if bg tgt src&&bJ lD then ci qj ej>>=λi=>cF (VE cp 0 a1Y)>>=λJ=>a_ eF else a8
def z6{α:cv}(a:Arguments)(k:j_):j_:=match a with|⟨po,ar,va,ko,kd,kw,de⟩=>kg po (kg ar (match va with|aj _=>a8| a1=>kg ko (kg kd (match kw with|aj _=>a8| a1=>kg de k))))
def Ha(body:Expr)[X5][lF]:E V:=DF (ee V1 fm) λcells=>if bJ lD&& ! scope.isCoroutine&& ! scope.isGenerator then DF (mF fm.scope.names) λt=>aX t>>=λo=>match o with| sw=>a_ (.clos hq lD mz)|_=>a8 else a8
def M0(op:UnaryOp)(x:Expr)[lF]:E V:=match op with| .Not=>do let v<-R.ev x fm;return hP (!(<-cG v))| .USub=>do let v<-R.ev x fm;dX v λi=>bV (-i)|_=>a8
def z7(Z:Zw)(vs:eP)[O_][lF]:E V:=if Z.isEmpty&&vs.isEmpty then do return a2 (<-ci qj (lI []))else if DG Z vs&&Xp<=15 then do let i<-ci qj (.sd []);let Y<-l3 R Z vs fm;match<-aX i with| .sd []=>do cQ i (.sd (Y.foldl YV []));return eF|_=>a8 else a8
def l6[QH][lF]:E V:=match e with| RQ c _ _=>QC (iA c)| jn x _=>name P x fm| .BoolOp op vs _=>lZ R op vs fm| .BinOp l op r pos=>do let a<-R.ev l fm;let b<-R.ev r fm;FW qj op a b| .UnaryOp op x _=>M0 R op x fm| .IfExp t b o _=>do gm (<-Qa t fm) (R.ev b fm) Qw| L0 es _ _=>if a4g then do return hD (<-qt R es fm)else a8| .List es pos=>if a4g then do let vs<-qt R es fm;return a2 (<-ci qj Oj)else a8| .Dict ks vs pos=>z7 R ks vs pos fm| .Compare l ops es _=>do let a<-R.ev l fm;return hP (<-jb R a ops es fm)| On f a6 kws pos=>kg kws (F5 bj R f a6 pos fm)| W' o a _=>if kR o then do let ov<-Qw;bE ov a else a8| a14 pos=>Jm R o k pos fm| a2E lD pos=>fT gens λg=>wF g (qu R elt lD pos fm)| .Lambda a hq lD _=>z6 a (Ha hq lD fm)|_=>a8
def sQ[QH][lF]:E b2:=match e with
 | .UnaryOp op x p=>match op with| .Not=>do return !(<-Qa x fm)|op=>R.ev (.UnaryOp op x p) fm>>=cG
 | .BoolOp op vs _=>bK R op vs fm
 | .IfExp t b o _=>do gm (<-Qa t fm) (Qa b fm) (Qa o fm)
 | .Compare l ops es _=>do let a<-R.ev l fm;jb R a ops es fm
 |e=>tb>>=cG
def aB:e_->Fm->E m_|[],fm=>X8|s::r,fm=>do match<-R.stmt s fm with|kE=>aB r mc|f=>a_ f
def iC:hC->V->Fm->E dd| jn x _,v,fm=>e8 x v fm| W' o a _,v,fm=>do let ov<-Qw;gy ov a v;a_ tn| a14 _,v,fm=>do let ov<-Qw;let kv<-R.ev k fm;e7 ov kv v;a_ tn|_,_,_=>a8
def fD:eP->b5->Fm->E dd|[],[],fm=>a_ tn|t::ts,v::vs,fm=>do let loc<-iC R t v fm;fD ts vs mc|_,_,_=>a8
def bF(tgt:Expr)(body:e_)(src:V):Nat->Nat->Fm->E m_|0,_,_=>a8|cp,k,fm=>do match<-fu src k with| a1=>X8|d0=>do let loc<-cV tgt v fm;match<-aB R hq mc with|kE|Yg=>bF tgt hq src n bm mc|Yq=>a_ kE|f=>a_ f
def cU(g:Expr)(body:e_):Nat->Fm->E m_|0,_=>a8|cp,fm=>do gm (<-Qa g fm) (do match<-aB R hq fm with|kE|Yg=>cU g hq n mc|Yq=>a_ kE|f=>a_ f) X8
def Jn(body:E m_)(h:E m_):E m_:=λk e m=>hq k (λm'=>h k e m') m
def gO:hC->b2| .ListComp .. | .SetComp .. | .DictComp .. =>av|_=>am
def z8:hC->ez Str| jn x _=>eI|_=> a1
def wG:hC->b2| .SetComp .. | .DictComp .. =>am|_=>av
def wH:hC->b2| L0 vs _ _=>a9Z| .ListComp .. | .SetComp .. | .DictComp .. =>av|_=>am
def nP(op:Operator)[Pf]:E V:=aY a b λa b=>match op with| .Add=>bV (a+b)| .Sub=>bV (a-b)|_=>a8
def xR(ts:eP)[QH][lF]:E m_:=if !(wH e&&c7 ts)then a8 else do match<-tb with| w_=>if Yv=ka/\(ts.filterMap z8).Nodup then fD R ts vs fm>>=λloc=>a_ kE else a8|_=>a8
def qv(t e:Expr)[lF]:E m_:=if wG e then a8 else do let v<-tb;return(hH,<-iC R t v fm)
def Jo(t:Expr):b2:=match t with| L0 _ _ _=>am|_=>av
def z9(t e:Expr)[lF]:E m_:=if Jo t then zU t λts=>xR R ts e fm else qv R t e fm
def wI(t:Expr)(op:Operator)[QH][lF]:E m_:=match t with| jn x _=>do let a<-name P x fm;let b<-tb;let v<-nP op a b;return(hH,<-e8 x v fm)| W' o a _=>do let ov<-Qw;let x<-bE ov a;let y<-tb;let v<-nP op x y;gy ov a v;X8|_=>a8
def wJ(t:Expr)[lF]:E m_:=match t with| a14 _=>do let ov<-Qw;let kv<-R.ev k fm;kO ov kv;X8|_=>a8
def wK(tgt it:Expr)(b:e_)[lF]:E m_:=if ! nO it then a8 else do let src<-R.ev it fm;let n<-TM;if bg tgt src then cF (bF R tgt b src cp 0 fm)else a8
def Jp(b:e_):b2:=match b with|[]=>av|s::_=>match s with| TG _ _=>am|_=>av
def DJ(r:Expr)[lF]:E m_:=zU r λY=>sP Y λa b=>wy a λa=>wy b λb=>DF (iA a) λu=>DF (iA b) λv=>a_ (.ret (hD [u,v]),tn)
def wM[xd][lF]:b2:=x==(w7:Str)&&RI x==aj Ws
def Hb(b:e_)(Z:a3X)[lF]:E m_:=fT b λs=>FV s λe=>fT Z λh=>G5 h λt M=>nK t λx=>fT M λs=>FV s λr=>if wM x fm then Jn (do return(.ret (<-tb),tn)) (cF (DJ r fm))else a8
def wN(b:e_)(Z:a3X)[lF]:E m_:=if Jp b then Hb R b Z fm else match Z with|[]=>a8|_::_=>cF (aB R b fm)
def Aa[lF][QH]:E m_:=zV e λf args M=>nK f λx=>fT a6 λa=>wy a λc=>kg M (if G6 c&&wM x fm then Ev.exc else a8)
def sR(N:Stmt)[lF]:E m_:=match N with
 | .Expr e _=>if ! gO e then a8 else do let _<-tb;X8
 | .Pass _=>X8
 | .Break _=>a_ (.brk,tn)
 | TG e _=>match e with| a1=>a_ (.ret a1,tn)|P4=>do let v<-tb;a_ (LO,tn)
 | UG ts e _=>fT ts λt=>z9 R t e fm
 | .AugAssign t op e _=>wI P R t op e fm
 | .Delete ts _=>fT ts λt=>wJ R t fm
 | .If t b o _=>do gm (<-Qa t fm) (aB R b fm) (aB R o fm)
 | .While t b o _=>kg o (cF (cU R t b 60 fm))
 | .For tgt it b o _=>kg o (wK R tgt it b fm)
 | .Raise e c _=>DF e λe=>match c with| a1=>Aa fm e|aj _=>a8
 | .Try b hs o f _=>kg o (kg f (wN R b hs fm))
 |_=>a8
section E
def LM:gN:=⟨λJ J=>a8,λJ J=>a8,λJ J=>a8⟩
def ops:Nat->gN|0=>LM|d+1=>⟨l6 P bj (ops d),sQ (ops d),sR P (ops d)⟩
def gu(f:Qh):pb:=(f.filter λx=>x.2== f2).map w1
def iD(B:dd)(c:pb)[m5]:ac:=⟨bo 2000000 (az 2000000 m.L++c.map λx=> f2 a0J) m.L⟩
def xS(B:dd)(c:pb):E OX:=λk J m=>k ((c.zipIdx X').map λp=>(c5,nn p.2)) (iD B c m)
def kU(B:dd)(c:pb):E OX:=if c.isEmpty then a_ []else xS B c
def qw:hC->ii| RQ c _ _=>iA c|_=> a1
def fy(a:Arguments)[Vw]:ez dd:=let c:=a.args.map (·.arg);if ka<=R7 then(a.defaults.mapM qw).bind λds=>let m:=R7-ka;if m<=Ve then aj (c.zip (vs++ds.drop (Ve-m)))else a1 else a1
def AD:Nat:=40
def bA(c:eN)[wl]:E V:=match c with
 | Tm=>match gX P c f with| a1=>a8|aj d=>match fy d.params a6 with| a1=>a8|aj bs=>do let cells<-kU bs (gu Q3);match<-aB (ops P bj AD) d.body ⟨d.scope,bs.filter λp=>SQ c5==xw,mz⟩with|(LO,_)=>a_ v|_=>a_ a1
 | WL=>match a6 with|[]=>(ops P bj AD).ev b ⟨sc,[],cl⟩|_=>a8
def au:Rl|0=>λJ J=>a8|cp=>bA P (au n)
section E
def ao[m5][xi]:a5:=(m.H i).isSome=am
def prog:e_:=PySem.Challenge.pw_tk0075_01.main.body
section E
section
set_option backward.match.sparseCases false
open PySem
class inductive bZ (p : Id → a5) : V → a5 where
  | none : bZ p a1
  | bool (b) : bZ p B_
  | int (i) : bZ p f6
  | str (s) : bZ p (c1 s)
  | bytes (b) : bZ p hj
  | ref (i) : p i → bZ p eF
  | fn (c f) : bZ p Tm
  | cls (c) : bZ p (.cls c)
  | bi (n) : bZ p (.bi n)
  | tup (vs) : (∀ v ∈ vs, bZ p v) → bZ p w_
  | rng (a b c) : bZ p (.rng a b c)
  | clos (b s cells) : (∀ x c, cells.lookup x = aj c → p c) → bZ p (.clos b s mz)
def kr(p:Id->a5):ae->a5| Om _ fs=>∀x v,fs.lookup x=d0->bZ p v| Oj=>∀v∈vs,bZ p v| F2 vs=>∀v∈vs,bZ p v| .sd fs=>∀q∈fs,bZ p q.2| lI fs=>∀q∈fs,bZ p q.2| Uz=>bZ p v|_=>True
theorem bZ.mono{p q:Id->a5}(h:∀i,p i->q i)[g_](s:bZ p v):bZ q v:=by induction s with|ref i a=>exact eF (h i a)|tup vs _ G=>exact w_ G|clos b s cells a=>exact .clos b s mz λx c e=>h c (a x c e)|_=>constructor
theorem kr.mono{p q:Id->a5}(h:∀i,p i->q i){o:ae}(s:kr p o):kr q o:=by
 induction o using z5 with
  |inst c F=>exactλx v e=>(s x v e).mono h
  |list vs=>exact a5D
  |flist vs=>exact a5D
  |sd F=>exact a5D
  |idc F=>exact a5D
  |cell v=>induction v using u_ with|none=>exact ep|some v=>exact bZ.mono h s
  |_=>exact ep
structure Gc (m m' d : ac) [ss] : a5 where
  sub : ∀ i o, d.H i = ck → m'.H i = ck
  old : ∀ i, ao m i → d.H i = m'.H i
  obj : ∀ i o, d.H i = ck → RC ∨ kr (ao d) o
  val : bZ (ao d) v
def l7[m5](P' P:si):a5:=∀v m',P' v m'->P v m'\/∃d,Gc m m' d v/\P v d
abbrev jW:=Nat->eN->b5->w9
def ay(P:e_)(s:jW):Rl|0=>λJ J=>a8|cp=>λc args=>match s cp c a6 with|eI=>x|ap=>bA P (ay P s n) c a6
section E
section
set_option backward.match.sparseCases false
open PySem PySem.W PySem.Calls PyProof.Rows PySem.SeqAt
open Sem(wp)
structure Cx where
  prog : Program
  w : World
  gb : Heap
  os : OsState
  P : e_
  fa : Str → Str → UZ
  ca : Str → UZ
  K : Frag
  lo : Nat
  tabs : Id → UZ
instance{u:cv}:E2 (Sem u):=⟨.unsupported ""⟩
instance:E2 Around:=⟨{}⟩
instance:E2 Shared:=⟨{}⟩
instance:E2 Model:=⟨⟨λJ=> .unsupported "",w0,a8d⟩⟩
instance:E2 Drawn:=⟨{}⟩
instance:E2 World:=⟨a8d⟩
instance:E2 ExcName:=⟨.own ""⟩
structure Sg where
  ρ : Id → Addr
  δ : Id → Addr
  m : ac
  h : Heap
instance:E2 Sg:=⟨⟨Oi,Oi,⟨[]⟩,w0⟩⟩
def Jq:m9->b2| .float _ _=>av| rv=>av|v=>handedIn v
abbrev jc:Arguments:=⟨[],[],ap,[],[],ap,[]⟩
mutual
inductive VR [Ro] : V → m9 → a5 where
  | none : dm a1 a1
  | bool (b) : dm B_ B_
  | int (i t) : dm f6 (f6 t)
  | str (s t) : dm (c1 s) (c1 s t)
  | bytes (b t) : dm hj (ek NP t)
  | ref (i) : C3 → dm eF e0
  | fn (c f a) : C.fa c f = C1 → dm Tm er
  | cls (c a) : C.ca c = C1 → dm (.cls c) er
  | bi (n v) : O0 n = d0 → Jq v = am → dm (.bi n) v
  | tup (vs a items) : j' a = Wp → OV Pn → dm w_ er
  | rng (G W a u t v) : IsRange σ.h a G W 1 t u v → dm (Uu 1) er
  | clos (body sc cells a name g cl j o ct q) : (bJ sc && ! sc.isCoroutine && ! sc.isGenerator) = am → j' a = aj { cls := a0p, data := .func (kla_fn name g jc hq sc cl j o ct) } → σ.h.CodeRec o q →
      (∀ x c, cells.lookup x = aj c → Ql c ∧ cl.lookup x = aj (tp c)) → dm (.clos hq sc mz) er
inductive bW [Ro] : b5 → eS → a5 where
  | nil : xb [] []
  | cons {x w I ws} : dm x w → xb I ws → xb (x :: I) (w :: ws)
end
def OR[Ro]:ii->II->a5| a1,a1=>True|d0,Oo=>FI|_,_=>gj
class inductive PR [Ro] {K : cv} : Uj → a2g → a5 where
  | nil : OG [] []
  | cons {k v w F d} : FI → OG F d → OG ((k, v) :: F) ((k, w) :: d)
def fE[Ro][xi]:ae->a5| sh fs=>∃A K,C.ca c=aj A/\j' eT=aj (instObj A Qx)/\σ.h.Ns Qx K/\(∃o Y j,j' Qx=ck/\o.cls= lL "dict"/\a18/\Y.size=fs.length)/\∀x,OR C σ (fs.lookup x) (K x)| Oj=>∃items n,j' eT=aj ZR/\OV Pn| F2 vs=>∃o items n,PO eT=ck/\o.cls= Qs/\B2= .seq kn n/\OV Pn| .sd fs=>∃d,σ.h.DictOf (strKind C.prog C.w) eT d/\OG fs d| lI Y=>∃d,σ.h.DictOf (intKind C.prog C.w) eT d/\OG Y d| f4 b=>j' eT=aj {cls:= x2,data:= .bytearray NP}| f2 v=>∃w,σ.h.IsCell eT w/\OR C σ v w| sw=>∃H,j' eT=aj (tabObj H)/\TriplesOk H.toList/\∀pos Z,a0D H.toList=aj Z->∃q,σ.h.CodeRec Z q
def jS:ae->b2| F2 _=>am|_=>av
def df:ae->b2| Om .. =>am|_=>av
inductive MK where
  | inst (c : Str) | list | flist | sd | idc | barr | cell | tab
def dv:ae->MK| sh _=> sh| bC _=> bC| F2 _=> F2| .sd _=> .sd| lI _=> lI| f4 _=> f4| f2 _=> f2| sw=> sw
def gJ[iv](b:Addr):a5:=∃i o,lc=ck/\Wk/\(b=eT\/(df o=am/\b=Qx))
def e9(o:Obj):a5:=(∀I n,B2= .seq I n->o.cls≠PQ)/\(∀vs,B2= NR vs->o.cls≠U2/\∀q t,vs[1]?≠aj (c1 q t))/\∀fd,B2≠.func fd
def m6[iv](p:Id×b2):a5:=∃o,nk c5=ck/\(p.2=am->df o=am)
def Sg.loc[iv](p:Id×b2):Addr:=match p.2 with|am=>σ.δ c5|av=>tp c5
structure bH [Ro] : a5 where
  base : ∀ b o, PO b = ck → PP
  new : ∀ b, QE → ZF
  obj : ∀ i o, lc = ck → fE C σ i o
  inj : ∀ p q, m6 σ p → m6 σ q → σ.loc p = σ.loc q → p = q
  big : ∀ b, QE → @LE.le Nat _ C.lo b
  low : ∃ a o, PO a = ck ∧ @LE.le Nat _ C.lo Oa
  tabs : ∀ t P, C.tabs t = aj P → Ql t ∧ tp t = P
def jI(o:Obj):a5:=∃Y n,B2= .dict Y n
def q8(h h':Heap)(b:Addr):a5:=∀o,Xo->Ou\/(jI o/\∃W,E' b=aj {o with slots:=W})
structure bz (S : Addr → a5) (σ D : Sg) : a5 where
  live : ∀ i, C3 → ao D.m i
  ρ : ∀ i, C3 → TH = eT
  δ : ∀ i, C3 → D.δ i = Qx
  inst : ∀ i o, lc = ck → ∃ o', D.m.H i = aj o' ∧ dv o' = dv o
  keep : ∀ b, ¬ QE → ¬ S b → q8 σ.h D.h b
  stay : ∀ b o, PP → ∃ o', Qy b = aj o'
  fresh : ∀ b, gJ D b → QE ∨ j' b = ap
def bM(S:ey)[iv]:a5:=∀b,S b->¬QE/\∃o,PP/\e9 o
abbrev S0:ey:=wj
def gA:Code->b2| eC id _=>a07 id|_=>av
def kW(g:Ctx):a5:=gA g.code=av/\∀x∈g.below,gA x.1=av
def bp{u:cv}(M:Model)[OF](t:Sem u)(Q:u->i1)(E:el)[Rj]:a5:=∀g p,g.In A->kW g->wp M g t (λa J U=>Q a U) (λe J U=>E e U) p s
structure At [Ro] [Rj] : a5 where
  heap : e5 = σ.h
  inv : x_
  gens : s.gens = #[]
  os : s.os = C.os
abbrev XP:=Sg->Sg->Shared->UD
abbrev F6[q4](S:ey)[iv]{u Y:cv}(R:Sg->Y->u->a5)(b:Y)(m':ac)(Q:u->i1):a5:=∀D U a,D.m=m'->B5 D->bM S D->Ob->R D b a->Q a U
abbrev Jr[q4](X:XP)(S:ey)[iv](m':ac)(E:el):a5:=∀D U e,D.m=m'->B5 D->bM S D->Ob->X σ D U e->E e U
def cH[q4](X:XP)(S:ey)[iv]{u Y:cv}(R:Sg->Y->u->a5)(x:xj Y)[m5](Q:u->i1)(E:el):a5:=∃P PX,(∀b m',P b m'->F6 C S σ R b m' Q)/\(∀m',PX m'->Jr C X S σ m' E)/\x P PX m
def aa[q4][OF](X:XP)(S:ey)[iv]{u Y:cv}(R:Sg->Y->u->a5)(t:Sem u)(x:xj Y):a5:=∀s,N7->P2->∀Q E,NN R x hM Q E->q0 t Q E s
structure PF [q4] (mg S : Str → II) : a5 where
  K : C.K.In C.gb
  g : C.gb.Ns PT mg
  b : C.gb.Ns W_ S
  glob : ∀ x, x ∈ q7 → ∃ w, (mg x = Oo ∨ (mg x = ap ∧ S x = Oo)) ∧ ∀ σ, dm (i7 C.P x) w
def dG[Ro](e:Env):a5:=e.scope.kind≠.module/\∃L o Y n,X2/\j' L=ck/\B2= .dict Y n/\¬gJ σ L/\PO L=ap
structure cw [q4] [P8] [iv] [QD] [lF] : a5 where
  fr : YT
  kind : env.scope.kind = Wd
  names : ∀ x k, RI x = v_ → KX x = v_ ∨ (k = .free ∧ KX x = OM)
  glob : env.globals = PT
  blt : env.builtins = W_
  ns : ∃ K, σ.h.Ns np K ∧ ∀ x v, fm.loc.lookup x = d0 → ∃ w, K x = Oo ∧ FI
  cells : ∀ x c, TW x = aj c → Ql c ∧ env.cells.lookup x = aj (tp c)
  own : ¬ gJ σ np
  gb : PO np = ap
  code : ∀ t, mF fm.scope.names = aj t → ∃ c P, env.code = a2 c ∧ C.tabs t = aj P ∧ CodeHd C.gb c P
theorem bW.length{C:Cx}[h_][M'](h:tq):ka=Rf:=by induction vs generalizing ws with|nil=>cases h;rfl|cons v vs G=>cases h with|cons a b=>simp [G b]
theorem bW.append{C:Cx}[h_]{vs u:b5}{ws I:eS}(h:tq)(k:xb u I):xb (vs++u) (ws++I):=by induction vs generalizing ws with|nil=>cases h;exact k|cons v vs G=>cases h with|cons a b=>exact t6 a (G b)
theorem bW.drop{C:Cx}[h_][M'](h:tq)[q_]:xb (vs.drop k) (ws.drop k):=by induction k generalizing vs ws with|zero=>exact h|succ k G=>cases h with|nil=>exact .nil|cons a b=>exact G b
abbrev cn(f:Qh):pb:=gu f
class inductive BR [Ro] : dd → us → a5 where
  | nil : BR C σ [] []
  | cons {x v w B r} : FI → BR C σ B r → BR C σ ((x, v) :: B) ((x, w) :: r)
def q9[Qc](A:Addr)(a:Str):b2:=plainGet K A a&&hasDictIn K A&&(match a1U a with|aj attr=>noGet K attr|ap=>av)&&a1U "__setattr__"==a64&&plainOver K A&&takerIn K A a==aj ap
def nq[q4]:a5:=∀c A a,C.ca c=aj A->eM c a=am->q9 C.K A a=am
theorem mG(n:C.K.In C.gb)[QT]:C.K.In e5:=eZ▸n.keeps at_.inv.base
structure Js [q4] (d : mD) [SB] : a5 where
  fd : ∃ o fd q, PO a = ck ∧ B2 = .func fd ∧ fd.scope = d.scope ∧ fd.body = .stmts d.body ∧ fd.closure = [] ∧ fd.globals = PT ∧ fd.builtins = W_ ∧ C.gb.CodeRec fd.code q ∧
    ∀ vs B, fy d.params vs = aj B → ∀ σ s ws, N7 → tq → ∀ (M : Model) [OF] (E : m9 → a17) (Q : us → a17),
      (∀ F, BR C σ B F → Q F s) → H' (bindArgs fd ⟨ws, []⟩) Q E s
  tab : ∀ o fd, PO a = ck → B2 = .func fd → ∀ t, mF Q3 = aj t → ∃ c P, fd.code = a2 c ∧ C.tabs t = aj P ∧ CodeHd C.gb c P
  co : d.scope.isCoroutine = av
  gen : d.scope.isGenerator = av
  kind : d.scope.kind = Wd
  cells : (cn Q3).Nodup
  look : ∀ x ∈ cn Q3, SQ x = OM
  pars : (a47).Nodup
  kinds : ∀ x ∈ d.params.args, SQ x.arg = xw ∨ SQ x.arg = OM
structure GF [q4] (mg S : Str → II) : a5 extends PF C mg S where
  attrs : nq C
  sm : ZW
  keepF : ∀ c f a, C.fa c f = C1 → keepIn C.K er = am
  keepC : ∀ c a, C.ca c = C1 → keepIn C.K er = am
  meth : ∀ c A n, C.ca c = aj A → a0V (c, n) = am → ∃ f, C.fa c n = aj f ∧ plainGet C.K A n = am ∧ findIn C.K (a2 A) n = aj (aj (a2 f)) ∧ typeIn C.K (a2 f) = aj a0p
  make : ∀ c A, C.ca c = aj A → a0V (c, lP) = am → makesIn C.K A = am
  lim : C.gb.NoLimit
  en : i7 C.P D2 = .bi D2
  bc : i7 C.P w7 = .cls w7
  bk : ∀ K, Za → instIn C.K B6 PQ = aj av ∧ subIn C.K B6 a5J = aj am ∧ subIn C.K B6 B6 = aj am ∧ typeIn C.K B6 = aj a0L ∧ (clsIn C.K K).isSome = am
  bt : ∀ P, PO P = ap → C.gb.BuiltinsAt mg P
  fn : ∀ c f a, C.fa c f = C1 → ∃ d, gX C.P c f = aj d ∧ Js C d a
@[reducible]def Around.inC[OF]:Around:={A with depth:=A.depth+1,units:=Vu+1}
theorem uZ{A:Around}{E:el}[o2]{u:cv}[Rp]{t:Sem u}{Q:u->i1}(h:bp M (Yp A) t Q E s):kS t Q E s:=λg p j B=>h g p ⟨j.1,a0e j.2.1,j.2.2.1,j.2.2.2.1,a0e j.2.2.2.2⟩ B
structure sS [q4] [P8] (σ D : Sg) [Rj] [SB] (B : Heap) : a5 where
  cls : ∃ A Z, C.ca w7 = aj A ∧ (Heap.FlyingW B l a (a2 A) Z e5 ∨
    (B.StaysIn e5 ∧ B.get? a = ap ∧ s.heap.FunFrames B l ∧ ∃ u vs, p0 a = aj u ∧ u.cls = a2 A ∧ u.data = NR vs ∧ vs[1]? = aj a1 ∧ vs[0]? = aj Z))
  inv : a7w
  old : ∀ b o, PP → a7I ∨ b ∈ a2F
def Xc[q4][P8]:XP:=λσ D s e=>∃a B,e= er/\sS C l σ D s a B
structure jd [q4] [OF] [P8] [w'] : a5 where
  fn : ∀ σ c f a vs ws, x_ → YT → C.fa c f = C1 → tq → a4I (Uh er ws) (bj Tm vs)
  clos : ∀ σ b sc cl w vs ws, x_ → YT → dm WL w → tq → a4I (Uh w ws) (bj WL vs)
theorem aa.of_inC{C:Cx}{A:Around}{X:XP}{S:ey}[h_]{u Y:cv}{R:Sg->Y->u->a5}{t:Sem u}{x:xj Y}(h:aa C (Yp A) X S σ R t x):wa x:=λs at_ p Q E O=>uZ (YA O)
structure fU [OF] [P8] [f0] : a5 where
  fr : A.frames = aj l
  g : SV
  h : G2
  d : A.depth + hG + 2 < a13
  u : Vu + 5 * n + 20 < cLine
structure Jt [q4] (c h : Heap) (w : Value) : a5 where
  keep : ∀ b o, c.get? b = ck → Xo
  obj : ∃ a K u vs Z, w = er ∧ Za ∧ c.get? a = ap ∧ Th a = aj u ∧ u.cls = B6 ∧ u.data = NR vs ∧ vs[0]? = aj Z ∧ vs[1]? = aj a1
def nQ[q4]:a5:=∀[P8][OF],fU A l 0->∀[iv][QD][lF],k_->x_->a1F->∀[xd][q_](p U pos:Pos),TY S0 σ (λD(_:l0)w=>Jt C σ.h D.h w) (hr (a7d pos) env) (b3 ())
abbrev fV[q4](i:Rl):a5:=∀[f0][OF][P8],fU A l n->jd C A l (i n)
def kX:eS:=[a2 39,R6,lL "Exception",a5J,lL "object"]
def iT:Obj:=excClassObj w7 w7 76 75 [a2 39] kX am [] [] av ap ap (aj (a2 67)) ap (aj (c1 w7 256)) (aj (c1 w7 264)) (aj y2) "ValueError.__new__"
def sT:e_:=[.Expr (On (W' (jn QW ⟨8,8,8,18⟩) lP ⟨8,8,8,27⟩) [jn P_ ⟨8,28,8,32⟩,jn QB ⟨8,34,8,40⟩] [] ⟨8,8,8,41⟩) ⟨8,8,8,41⟩,UG [W' (jn P_ ⟨9,8,9,12⟩) QB ⟨9,8,9,19⟩] (jn QB ⟨9,22,9,28⟩) ⟨9,8,9,28⟩]
def LN:Arguments:=⟨[],[⟨P_,ap,⟨7,17,7,21⟩⟩,⟨QB,ap,⟨7,23,7,29⟩⟩],ap,[],[],ap,[RQ (c1 "") 0 ⟨7,30,7,32⟩]⟩
def Hc:Scope:={kind:= Wd,names:=[(P_,.local),(QB,.local),(QW,Ws)],isGenerator:=av,isCoroutine:=av}
def uP:FuncData:={name:=lP,qualname:="BoardError.__init__",params:=LN,body:= .stmts sT,scope:=Hc,globals:=3,closure:=[],defaults:= a2 29,kwdefaults:= a1,pyModule:= c1 "pipeboard.errors" 194,code:= a2 35}
def Ju[Qc]:b2:=(Ut 35).any λo=>match B2 with| NR vs=>(match(vs[1]? :II)with|aj (c1 q _)=>q=="BoardError.__init__"|_=>av)|_=>av
structure nR [Qc] : a5 where
  cls : Ut 76 = aj iT
  init : findIn K NU lP = aj (aj (a2 36))
  fty : typeIn K (a2 36) = aj a0p
  fn : Ut 36 = aj { cls := a0p, data := .func uP }
  dflt : Ut 29 = aj { cls := PQ, data := .seq #[c1 "" 208] 0 }
  code : Ju K = am
  sa : findIn K NU "__setattr__" = a64
  tk : findIn K NU QB = aj ap
  obj : subIn K NU (lL "object") = aj am
  ve : nsIn K PT QW = aj ap
def Ab[q4]:a5:=∀mg S:h7,GF C mg S->nR C.K->C.ca w7=aj 76->S QW=aj R6->fV C (au C.P)/\∀(i:Rl)(s:jW),fV C i->a8N->fV C (ay C.P s)
instance:E2 Cx:=(inferInstance:E2 World).elim λw=>⟨w0,w,w0,w0,[],λJ J=>ap,U6,[],0,U6⟩
noncomputable def C:Cx:=Classical.epsilon λC=>¬Ab C
theorem Ac(h:Ab C)(S:Cx):Ab S:=a25 λn=>Classical.epsilon_spec (p:=λC=>¬Ab C) ⟨S,n⟩ h
section E
section
open PySem PySem.W PySem.Calls PyProof.Rows
theorem xT{o:ae}(h:df o=am):Wk:=by cases o<;>first|rfl|exact s1 h
def F7:MK->b2| Om .. =>am|_=>av
theorem sU(o:ae):df o=F7 (dv o):=by cases o<;>rfl
theorem ra{o o':ae}(h:dv o'=dv o):df o'=df o:=(sU o').trans ((hh F7 h).trans (sU o).symm)
theorem m6.own[h_]{p:Id×b2}(h:m6 σ p)(d:∀o,nk c5=ck->Wk):gJ σ (σ.loc p):=by obtain⟨i,b⟩:=p;refine aN h λo H F=> ? _;clear h;induction b using u' with|false=>exact⟨i,o,H,d o H,hA⟩|true=>exact⟨i,o,H,d o H,ba ⟨F rfl,rfl⟩⟩
theorem gJ.has[h_]{b:Addr}(h:QE):∃p,m6 σ p/\σ.loc p=b/\∀o,nk c5=ck->Wk:=by
 refine d9 h λi o H V k=> ? _;clear h;obtain rfl|⟨F,rfl⟩:=k;. exact⟨(i,av),⟨o,H,λq=>s1 q⟩,rfl,λo' e=>by replace e:=H▸e;ext RK;exact V⟩
 . exact⟨(i,am),⟨o,H,λJ=>F⟩,rfl,λo' e=>by replace e:=H▸e;ext RK;exact V⟩
theorem m6.live[h_]{p:Id×b2}(h:m6 σ p):Ql c5:=Ok λo h=>by unfold ao;exact rwL (h.1);rfl
theorem nS[h_][eX](h:C3):m6 σ (i,av):=(UM h).elim λo h=>⟨o,h,λq=>s1 q⟩
theorem bH.rr[h_][m2](i j:Id)(W:C3)(D:Ql j)(e:eT=tp j):i=j:=hh Prod.fst (I.inj (i,av) (j,av) (nS W) (nS D) e)
theorem bH.rd[h_][m2](i j:Id)(v:ae)(W:C3)(D:nk j=d0)(h:df v=am)(e:eT=σ.δ j):gj:=s1 (hh Prod.snd (I.inj (i,av) (j,am) (nS W) ⟨v,D,λJ=>h⟩ e))
theorem bM.none[h_]:bM S0 σ:=WK
theorem e9.slots{o:Obj}{W:Array II}(h:e9 o):e9 {o with slots:=W}:=h
theorem ce[f_][R0](h:RC):ao m i:=by unfold ao;ext Td
theorem ga[f_][eX](h:ao m i):∃o,RC:=UM h
theorem bz.refl(S:ey)[iv]:B5 σ:=⟨λJ h=>h,Q9,Q9,λJ o h=>⟨o,h,rfl⟩,λJ J J J h=> b7 h,λJ o h=>⟨o,h⟩,λJ h=> b7 h⟩
def M1:MK->b2| F2=>am|_=>av
theorem Ad(o:ae):jS o=M1 (dv o):=by cases o<;>rfl
theorem u0{o o':ae}(h:dv o'=dv o):jS o'=jS o:=(Ad o').trans ((hh M1 h).trans (Ad o).symm)
theorem q8.trans{h h' k:Heap}{b:Addr}(x:q8 h h' b)(y:q8 h' k b):q8 h k b:=λo e=>by
 rcases x o e with g|⟨d,W,g⟩;. exact y o g
 .rcases y _ g with u|⟨_,s,u⟩;. exact ba ⟨d,W,u⟩
  . exact ba ⟨d,s,u⟩
theorem q8.exact{h h':Heap}{b:Addr}(x:q8 h h' b){o:Obj}(e:Xo)(L:¬jI o):Ou:=by
 rcases x o e with g|⟨d,_⟩;. exact g
 . exact b6 d L
theorem bz.trans{S:ey}{a b c:Sg}(x:bz S a b)(y:bz S b c):bz S a c:=by
 refine⟨λi h=>y.live i (SI i h),λi h=>(y.ρ i (SI i h)).trans (x.ρ i h),λi h=>(y.δ i (SI i h)).trans (x.δ i h),λi o h=> ? _,λd hd Z=> ? _,λd o e=> ? _,λd hd=> ? _⟩;. exact aN (x.inst i o h) λo' h' e=>aN (y.inst i o' h') λf k r=>⟨f,k,r.trans e⟩
 .intro o e
  have M:¬gJ b d:=λq=>by
   rcases TF d q with q|q;. exact hd q
   . replace q:=e▸q;exact iy q
  exact(x.keep d hd Z).trans (y.keep d M Z) o e
 . exact db (x.stay d o e) λo' r=>y.stay d o' r
 .rcases y.fresh d hd with q|q;. exact TF d q
  .right;refine cM (a.h.get? d) od λo e=> ? _;. rfl
   . refine db (x.stay d o e) λo' r=> ? _;replace q:=r▸q;exact iy q
theorem bM.ext{S T:ey}[RV](h:P2)(x:bz T σ D)(l:∀b,S b->¬T b):bM S D:=λb M=>by
 obtain⟨H,o,F,Q⟩:=h b M;refine⟨b4,? _⟩
 .rcases TF b q with q|q;. exact H q
  . replace q:=F▸q;exact iy q
 .rcases x.keep b H (l b M) o F with e|⟨_,W,e⟩;. exact⟨o,e,Q⟩
  . exact⟨_,e,Q.slots⟩
theorem bM.ext0{S:ey}[RV](h:P2)(x:ty):bM S D:=h.ext x λJ J q=>q.elim
theorem bz.weaken{S T:ey}{a b:Sg}(x:bz S a b)(h:∀d,S d->T d):bz T a b:=⟨SI,x.ρ,x.δ,x.inst,λd hd I=>x.keep d hd λq=>I (h d q),x.stay,TF⟩
theorem bz.of0{T:ey}{a b:Sg}(x:bz S0 a b):bz T a b:=x.weaken WK
theorem bz.drop{S T:ey}{a b:Sg}(x:bz T a b)(h:∀d,T d->S d\/a.h.get? d=ap):bz S a b:=⟨SI,x.ρ,x.δ,x.inst,λd hd Z=>by
 exact bcH ht (T d)
 .rcases h d ht with q|q;. exact b6 q Z
  . intro o e;replace q:=e▸q;exact iy q
 . exact x.keep d hd ht,x.stay,TF⟩
theorem dw[a46](hd:a18):e9 o:=⟨λJ J q=>a1v,λJ q=>a1v,λJ q=>a1v⟩
theorem u1{H:y_}(h:TriplesOk H.toList):e9 (tabObj H):=⟨λJ J q=>VC q,λvs q=>by cases q;refine⟨λz=>Value.noConfusion z,λq t z=> ? _⟩;replace z:=G' Array.getElem?_toList▸z;generalize H.toList=l at h z;induction l using li with|nil=>exact bG z|cons x l=>induction l using li with|nil=>exact bG z|cons y l=>have O:=hR z;clear z;subst O;cases x<;>exact Ok,λJ q=>VC q⟩
theorem nT{o:Obj}{items:y_}[e3](H:o.cls= Qs)(F:B2= .seq kn n):e9 o:=⟨λJ J J e=>b6 (Value.type.inj (H.symm.trans e)) (by decide),λJ q=>VC (F.symm.trans q),λJ q=>VC (F.symm.trans q)⟩
theorem sV{items:y_}[e3]:e9 ZR:=nT rfl rfl
theorem fB[h_][m2]{b:Addr}(h:QE):∃o,PP/\e9 o:=by
 refine d9 h λi o W V M=> ? _;clear h;have R:=I.obj i o W;rcases M with rfl|⟨Z,rfl⟩;. induction o using z5 with|inst c F=>refine d9 R λA K J H J=> ? _;clear R;exact⟨_,H,λJ J q=>VC q,λJ q=>VC q,λJ q=>VC q⟩|list vs=>refine i5 R λitems n H J=> ? _;clear R;exact⟨_,H,sV⟩|flist vs=>exact s1 V|sd F=>ext a8K|idc F=>ext a8K|barr b=>exact⟨_,R,λJ J q=>VC q,λJ q=>VC q,λJ q=>VC q⟩|cell v=>refine aN R λw U J=> ? _;clear R;refine aN U λo P hd=> ? _;clear U;exact⟨o,P,λJ J q=>a1v,λJ q=>a1v,λJ q=>a1v⟩|tab=>refine fk R λd G T e=> ? _;clear R;exact⟨_,G,u1 T⟩
 . induction o using z5 with|inst c F=>exact I0 R λA K J J k J=>uU k λo a j P hd J=>⟨o,P,dw hd⟩|_=>exact s1 Z
theorem nu[h_][m2]{p:Id×b2}(h:m6 σ p):∃o,j' (σ.loc p)=ck/\e9 o:=by
 refine db (ga h.live) λo e=> ? _;refine cO (jS o) (λd=> ? _) λd=> ? _
 .induction o using z5 with
   |flist vs=>obtain⟨i,b⟩:=p;induction b using u' with|false=>exact xM (I.obj i _ e) λM items n H F Q J=>⟨_,I.base _ _ H,nT F Q⟩|true=>refine aN h λo' r F=> ? _;clear h;replace r:=(show lc=_ from e)▸r;have O:=hR r;clear r;subst O;exact s1 (F rfl)
   |_=>exact s1 d
 . exact fB I (h.own λo' r=>by ext a4E;exact d)
theorem Ae[a05][lS]{o:Obj}(e:j' a=ck)(B:¬e9 o)(L:¬jI o):Qy a=ck:=by
 refine(x.keep a b4 b4).exact e L;. refine aN (fB I q) λo' r Z=> ? _;ext a4E;exact B Z
 . obtain⟨_,o',r,Z⟩:=p a q;ext a4E;exact B Z
theorem kt(I:y_)[f0]:¬e9 {cls:= PQ,data:= .seq I n}:=λh=>h.1 I n rfl rfl
structure ku (σ D : Sg) : a5 where
  live : ∀ i, C3 → ao D.m i
  ρ : ∀ i, C3 → TH = eT
  val : ∀ a o, j' a = ck → ¬ e9 o → ¬ jI o → Qy a = ck
theorem bz.vext[a05]:ku σ D:=⟨SI,x.ρ,λJ J e B L=>Ae I x p e B L⟩
theorem ku.code[a0G]{Z:Value}{q:Str}(r:σ.h.CodeRec Z q):D.h.CodeRec Z q:=by refine K7 r λc o vs t e P hd B=> ? _;clear r;exact⟨c,o,vs,t,e,x.val c o P (λn=>(n.2.1 vs hd).2 q t B) (by rintro⟨_,_,z⟩;replace z:=hd▸z;cases z),hd,B⟩
theorem VR.vext[a0G][US]:D' D v w:=VR.rec (motive_1:=λv w J=>D' D v w) (motive_2:=λvs ws J=>bW C D vs ws) a1 hP a4 c1 ek (λi h=>x.ρ i h▸eF (SI i h)) .fn .cls .bi (λvs a items e J h=> w_ a kn (x.val a _ e (kt _ _) (by ext a3x)) h) (λG W a u t v e=> Uu a u t v (x.val a _ e (λq=>(q.2.1 _ rfl).1 rfl) (by ext a3x))) (λbody sc cells a name g cl j o ct q N e r L=> a7M j o ct q N (x.val a _ e (λq=>q.2.2 _ rfl) (by ext a3x)) (x.code r) λy c hy=>⟨SI c (L y c hy).1,x.ρ c (L y c hy).1▸(L y c hy).2⟩) .nil (λJ J h t=> t6 h t) h
theorem bW.vext[a0G][q']:∀{ws:eS},tq->bW C D vs ws:=by induction vs with|nil=>intro ws h;cases h;exact .nil|cons v vs G=>intro ws h;cases h with|cons a b=>exact t6 (a.vext x) (G b)
theorem OR.vext[a0G]{v:ii}{w:II}(h:OR C σ v w):OR C D v w:=by cases v<;>cases w<;>first|exact h|exact VR.vext x h
theorem VR.ext[a05][US]:D' D v w:=VR.vext (x.vext I p) h
theorem bW.ext[a05]{v:b5}{w:eS}(h:xb v w):bW C D v w:=bW.vext (x.vext I p) h
theorem OR.ext[a05]{v:ii}{w:II}(h:OR C σ v w):OR C D v w:=OR.vext (x.vext I p) h
theorem PR.vext[a0G]{K:cv}[ZO]:PR C D F d:=by induction h with|nil=>exact .nil|cons a _ G=>exact t6 (a.vext x) G
theorem fE.vsame[R0][a0G](a:∀i,C3->D.δ i=Qx)[a83]:fE C D i o:=by
 exact dl4 i o σ D;have T:=ce W;have g:=x.ρ i T;have u:=a i T;exact bcH hf Wk;rotate_left;. induction o using z5 with|flist vs=>refine xM R λM items n G h I B=> ? _;clear R;exact⟨M,kn,n,by ext NZ;exact G,h,I,B.vext x⟩|_=>exact O9 hf
 replace H:=H hf;induction o using z5 with|flist vs=>exact s1 hf|inst c m=>refine GU R λA K G h k N L=> ? _;clear R;refine qs k λp Y j I B=> ? _;clear k;refine qs N λo' f l z E=> ? _;clear N;have F:=F rfl;refine⟨A,K,G,by exact ec g u H;exact h,⟨p,Y,j,by exact a3 u F;exact I,B⟩,⟨o',f,l,by exact a3 u F;exact z,E⟩,λy=>(L y).vext x⟩|list vs=>refine i5 R λitems n G h=> ? _;clear R;exact⟨kn,n,by ext a4h,h.vext x⟩|sd m=>ext a9N;exact⟨d,⟨o,Y,j,by ext a4h,h⟩,I.vext x⟩|idc m=>ext a9N;exact⟨d,⟨o,Y,j,by ext a4h,h⟩,I.vext x⟩|barr b=>show Qy TH=aj {cls:= x2,data:= .bytearray NP};exact a3 g H;exact R|cell v=>refine aN R λw U I=> ? _;clear R;refine aN U λo G h=> ? _;clear U;exact⟨w,⟨o,by ext a4h,h⟩,I.vext x⟩|tab=>refine fk R λs G h I=> ? _;clear R;refine⟨s,by ext a4h,h,λpos Z e=> ? _⟩;exact db (I pos Z e) λq r=>⟨q,x.code r⟩
theorem fE.same[a05][R0][a83]:fE C D i o:=R.vsame (x.vext I p) x.δ W H F
theorem l8[h_][R0](h:lc=ck)(d:Wk):gJ σ eT:=⟨i,o,h,d,hA⟩
theorem wO[h_][R0](h:lc=ck)(Z:df o=am):gJ σ Qx:=⟨i,o,h,xT Z,ba ⟨Z,rfl⟩⟩
theorem bH.lo_le[h_][m2]:C.lo<=σ.h.objs.size:=by exact i5 I.low λa o e h=>ei h (a2r (I.base a o e))
theorem bH.heap{S:ey}[h_][P6][m2](p:P2)(N:∀b,¬S b->q8 σ.h h' b)(P:∀b,QE->E' b=j' b)(a:∀b o,PP->∃o',E' b=aj o')(M:∀b o,PO b=ck->Ou):bH C l_/\B5 l_:=by have x:B5 l_:=⟨λJ h=>h,Q9,Q9,λJ o h=>⟨o,h,rfl⟩,λb J q=>N b q,a,λJ h=> b7 h⟩;exact⟨⟨M,I.new,λi o W=>(I.obj i o W).same I x p W (λd=>P _ (l8 W d)) λq=>P _ (wO W q),I.inj,I.big,I.low,I.tabs⟩,x⟩
theorem bH.push[h_][P6][m2](N:∀b o,PP->Ou):bH C l_/\SN l_:=I.heap eH (λb J o e=> b7 (N b o e)) (λb q=>by refine aN (fB I q) Zt;ext ea;exact N b o e) (λb o e=>⟨o,N b o e⟩) (λb o e=>N b o Zi)
theorem bH.updX[a8Q](Z:a5C)(H:∃n,E' a=aj n)(d:Wk)(R:SN Vx->fE C Vx i o'):bH C Vx/\SN Vx:=by
 exact dl6 σ h' i o o' a;have f:gJ σ a:=⟨i,o,W,d,m⟩;have K:∀j,(Tc o').H j=if j=i then aj o' else nk j:=λj=>congrFun (kM W) j
 have A:∀j v,(Tc o').H j=d0->(j=i/\v=o')\/(j≠i/\nk j=d0):=λj v e=>by
  rewrite [K]at e;exact bcH q (j=i);. replace e:=PH▸e;exact b7 ⟨q,XY⟩
  . replace e:=w2▸e;exact ba ⟨q,e⟩
 have N:∀j v,nk j=d0->∃s,(Tc o').H j=aj s/\dv s=dv v:=λj v e=>by
  exact bcH q (j=i);. ext Q6;replace e:=W▸e;have F:=hR e;clear e;subst F;exact⟨o',(K j).trans PH,l⟩
  . exact⟨v,(K j).trans ((b9 q).trans e),rfl⟩
 have k:∀p,m6 Vx p->m6 σ p:=λp⟨v,e,M⟩=>(A c5 v e).elim (λq=>⟨o,q.1.symm▸W,λz=>by exact rwRR (ra l) (q.2);exact M z⟩) λq=>⟨v,q.2,M⟩;have g:∀b,gJ Vx b->QE:=λb q=>q.has.elim λp h=>h.2.1▸(k p h.1).own λv e=>(N c5 v e).elim λs u=>(u0 u.2).symm.trans (h.2.2 s u.1);have w:∀j,Ql j->ao (Tc o') j:=λj h=>(ga h).elim λv e=>(N j v e).elim λs e=>ce e.1
 have x:SN Vx:=⟨w,Q9,Q9,N,λb M J o e=> b7 (Z b o (λz=>M (z▸f)) e),λb o e=>by
  exact bcH z (b=a);. exact rwL z;exact H
  . exact⟨o,Z b o z e⟩,λb h=> b7 (g b h)⟩;refine⟨⟨λb o e=>Z b o (λz=>by ext a0X;replace e:=I.new a f▸e;ext pf) Zi,λb h=>I.new b (g b h),λj v e=> ? _,λp q O B=>I.inj p q (k p O) (k q B),λb h=>I.big b (g b h),I.low,λt P e=>⟨w t XW.1,XW.2⟩⟩,x⟩;rcases A j v e with⟨rfl,rfl⟩|⟨q,r⟩;. exact R x
 .have E:∃b,m6 σ (i,b)/\σ.loc (i,b)=a:=m.elim (λh=>⟨av,⟨o,W,λz=>s1 z⟩,h.symm⟩) λh=>⟨am,⟨o,W,λJ=>h.1⟩,h.2.symm⟩;have y:∀b,m6 σ (j,b)->E' (σ.loc (j,b))=j' (σ.loc (j,b)):=λb M=>by refine aN (nu I M) Zt;ext ea;exact Z _ o (λz=>by exact aN E λc L D=>q (hh Prod.fst (I.inj (j,b) (i,c) M L (z.trans D.symm)))) e
  exact(I.obj j v r).same I x eH r (λJ=>y av ⟨v,r,λz=>s1 z⟩) λG=>y am ⟨v,r,λJ=>G⟩
theorem bH.upd[a8Q](Z:T5 a σ.h h')(H:∃n,E' a=aj n)(d:Wk)(R:SN Vx->fE C Vx i o'):bH C Vx/\SN Vx:=I.updX W l m (λb o f e=>by exact rwL (Z.2 b f);exact e) H d R
def rb(f:Id->Addr)[xi][SB]:Id->Addr:=λj=>if j=i then a else f j
theorem dg(f:Id->Addr)[xi][SB]:rb f i a i=a:=s_
theorem wP(f:Id->Addr){i j:Id}[SB](h:j≠i):rb f i a j=f j:=Rt
def Sg.mk1[iv][xi](m1:ac)(a d:Addr)(h':Heap):Sg:=⟨rb tp i a,rb σ.δ i d,m1,h'⟩
theorem bH.makesX[b0j](a:∀i,C3->D.δ i=Qx)(N:∀b o,PP->Qy b=ck)(B:∀p,m6 D p->nk c5=ap-> Xy (D.loc p))(W:∀p q,m6 D p->nk c5=ap->m6 D q->nk q.1=ap->D.loc p=D.loc q->p=q)(R:ty->∀i o,D.m.H i=ck->lc=ap->fE C D i o):bH C D/\ty:=by
 have l:∀i,C3->ao D.m i:=λi h=>(ga h).elim λo e=>ce (m i o e)
 have g:∀p,m6 D p->(m6 σ p/\D.loc p=σ.loc p)\/nk c5=ap:=λp h=>by
  refine cM (nk c5) b4 W9;. exact NT
  . refine aN h λo' e M=> ? _;clear h;replace e:=m _ o q▸e;have A:=hR e;clear e;subst A;refine b7 ⟨⟨o,q,M⟩,? _⟩;obtain⟨i,b⟩:=p;induction b using u' with|false=>exact n i (ce q)|true=>exact a i (ce q)
 have r:∀{p},m6 σ p->¬Xy (σ.loc p):=λh q=>by refine aN (nu I h) Zt;replace e:=UR q▸e;ext pf
 have f:∀b,gJ D b->QE\/ Xy b:=λb h=>h.has.elim λp O=>(g p O.1).elim (λq=> b7 (O.2.1▸q.2.symm▸q.1.own λo e=>O.2.2 o (m _ o e))) λq=> ba (O.2.1▸B p O.1 q)
 have k:∀b,Xy b->ZF:=λb e=>by
  refine cM (PO b) b4 W9;. rfl
  . have:=I.base b o q;replace this:=UR e▸b_;exact bG b_
 have x:ty:=⟨l,n,a,λi o h=>⟨o,m i o h,rfl⟩,λb J J o e=> b7 (N b o e),λb o e=>⟨o,N b o e⟩,λb h=>(f b h).imp id UR⟩;refine⟨⟨λb o e=>N b o Zi,λb h=>(f b h).elim (I.new b) (k b),λj v e=> ? _,λp q O y z=> ? _,λb h=>(f b h).elim (I.big b) (ei I.lo_le),I.low,λt P e=>⟨l t XW.1,(n t XW.1).trans XW.2⟩⟩,x⟩
 .refine cM (nk j) b4 W9;. exact R x j v e q
  .exact rwL (show v=o from hR (a0I (m j o q)));have c:∀b,QE->Qy b=j' b:=λb M=>by refine aN (fB I M) Zt;ext ea;exact N b o e
   exact(I.obj j o q).same I x eH q (λd=>c _ (l8 q d)) λs=>c _ (wO q s)
 .rcases g p O with⟨w,U⟩|w<;>rcases g q y with⟨u,T⟩|u;. exact I.inj p q w u (U.symm.trans (z.trans T))
  . exact b6 (U.symm.trans z▸B q y u) (r w)
  . exact b6 (T.symm.trans z.symm▸B p O w) (r u)
  . exact W p q O w y u z
theorem bH.make[h_][P6][R0]{m1:ac}{a d:Addr}[m2](c:m1.H=sO nk i o)(W:lc=ap)(N:∀b o,PP->Ou)(m: Xy a)(hd:df o=am-> Xy d/\a≠d)(R:SN (Y' h')->fE C (Y' h') i o):bH C (Y' h')/\SN (Y' h'):=by
 exact dl7 σ h' i o m1 a d;have f:∀j,Ql j->j≠i:=λj h q=>by ext p2;unfold ao at h;replace h:=W▸h;ext sp
 have at_:∀j v,(Y' h').m.H j=d0->nk j=ap->j=i/\v=o:=λj v e q=>by
  have e:(if j=i then ck else nk j)=d0:=(congrFun c j).symm.trans e;exact bcH z (j=i);. replace e:=vh▸e;exact⟨z,XY⟩
  . replace e:=K'▸e;ext Q6;ext pf
 have loc:∀p,m6 (Y' h') p->nk c5=ap->c5=i/\((p.2=av/\(Y' h').loc p=a)\/(p.2=am/\df o=am/\(Y' h').loc p=d)):=λp⟨v,e,M⟩q=>by refine bx (at_ c5 v e q) λg u=> ? _;obtain⟨j,b⟩:=p;cases g;induction b using u' with|false=>exact⟨rfl,b7 ⟨rfl,dg _ _ _⟩⟩|true=>exact⟨rfl,ba ⟨rfl,u▸M rfl,dg _ _ _⟩⟩
 refine I.makesX (λj v e=>(congrFun c j).trans ((b9 (f j (ce e))).trans e)) (λj h=>wP _ _ (f j h)) (λj h=>wP _ _ (f j h)) N (λp O q=> ? _) (λp q O y B P z=> ? _) λx j v e q=>by refine bx (at_ j v e q) PY;ext a1J;exact R x
 .rcases(loc p O q).2 with h|h;. exact rwL (h.2);exact m
  . exact rwL (h.2.2);exact(hd h.2.1).1
 .refine bx (loc p O y) λg H=> ? _;refine bx (loc q B P) λu F=> ? _;refine Prod.ext (g.trans u.symm) ? _;rcases H with H|H<;>rcases F with F|F;. exact H.1.trans F.1.symm
  . exact b6 (H.2.symm.trans (z.trans F.2.2)) (hd F.2.1).2
  . exact b6 (F.2.symm.trans (z.symm.trans H.2.2)) (hd H.2.1).2
  . exact H.1.trans F.1.symm
theorem bH.makes[b0j](a:∀i,D.δ i=Qx)(N:∀b o,PP->Qy b=ck)(B:∀i o,D.m.H i=ck->lc=ap->df o=av/\ Xy TH)(W:∀i j E v,D.m.H i=aj E->lc=ap->D.m.H j=d0->nk j=ap->TH=D.ρ j->i=j)(R:ty->∀i o,D.m.H i=ck->lc=ap->fE C D i o):bH C D/\ty:=by
 have k:∀p,m6 D p->nk c5=ap->p=(c5,av)/\ Xy (D.ρ c5):=λp⟨o,e,M⟩q=>by obtain⟨j,b⟩:=p;induction b using u' with|false=>exact⟨rfl,(B j o e q).2⟩|true=>replace M:=(B j o e q).1▸M;exact s1 (M rfl)
 refine I.makesX m n (λi J=>a i) N (λp O q=> ? _) (λp q O y c P z=> ? _) R;. exact rwL ((k p O q).1);exact(k p O q).2
 . rw [(k p O y).1,(k q c P).1]at z⊢;refine aN O λt g J=> ? _;clear O;refine aN c λG u J=> ? _;exact rwL (W c5 q.1 t G g y u P z);rfl
section E
section
open PySem PySem.W PySem.Calls PyProof.Rows
open Sem(wp)
def dM(M:Model)[OF](c:Code)(R:Q')[Rj]:a5:=∀g p,g.code=c->g.Below A->kW g->wpCode M g R p s
section
variable{α β:cv}{M:Model}{A:Around}{E:el}{s:Shared}
theorem bp.of{t:kk}{Q:O'}(h:H' t Q E s):kS t Q E s:=λg p j J=>h g p j
theorem ak{a:α}{Q:O'}(h:Q a s):kS (a_ a) Q E s:=λJ J J J=>h
theorem dC{t:kk}{Q d:O'}{y:el}(h:kS t Q E s)(n:∀a s,Q a s->d a s)(f:∀e s,E e s->y e s):kS t d y s:=λg p j B=>Sem.wp_mono M g t (λa J s=>n a s) (λe J s=>f e s) p s (h g p j B)
theorem ad{m:kk}{f:α->Sem β}{Q:β->i1}(h:kS m (λa U=>kS (f a) Q E U) E s):kS (m>>=f) Q E s:=λg p j B=>by rewrite [Sem.wp_bind'];exact Sem.wp_mono M g m (λa W U h'=>h' g W j B) (λJ J J h'=>h') p s (h g p j B)
theorem aA{m:kk}{f:α->Sem β}{Q:β->i1}(h:H' m (λa U=>kS (f a) Q E U) E s):kS (m>>=f) Q E s:=ad (.of h)
theorem bT{m:kk}{k:m9->Sem l0}{Q:O'}(h:kS m Q (λe U=>kS (k e) (λJ t=>E e t) E U) s):kS (m.onRaise k) Q E s:=λg p j B=>by rewrite [Sem.wp_onRaise];exact Sem.wp_mono M g m (λJ J J h'=>h') (λe W U h'=>h' g W j B) p s (h g p j B)
theorem gP{m:kk}{Q:Except m9 α->i1}(h:kS m (λa=>Q (.ok a)) (λe=>Q Q1) s):kS m.attempt Q E s:=λg p j B=>by rewrite [Sem.wp_attempt];exact h g p j B
theorem aL{vs:eS}{m:kk}{Q:O'}(h:kS m Q E s):kS (o1 vs m) Q E s:=λg p j B=>by rewrite [Sem.wp_holding];exact h g p j B
theorem mH{vs:eS}{m:P7}{Q:el}(h:kS m Q E s):kS (operate vs m) Q E s:=λg p j B=>by rewrite [Sem.wp_operate];exact h g p j B
theorem Af{vs:eS}{m:kk}{Q:O'}(h:kS m Q E s):kS (m.keep vs) Q E s:=λg p j B=>by rewrite [Sem.wp_keep];exact h g p j B
theorem aO[O7][Rh](h:Q () s):kS xv Q E s:=λJ J J J=>h
theorem ma[Rh](h:Q () s):kS point Q E s:=λJ J J J=>h
theorem rf[RN]{a b:kk}{Q:O'}(h:if c then kS a Q E s else kS b Q E s):kS (if c then a else b) Q E s:=by split<;>simp_all
theorem kx{c:Code}{R R':Q'}(h:dM M A c R s)(F:∀r s,R r s->R' r s):dM M A c R' s:=λg p L j B=>wpCode_mono F (h g p L j B)
theorem kW.enter{g:Ctx}(h:kW g){c:Code}{hd:II}{p:Pos}(L:gA c=av):kW (g.enter c hd p):=⟨L,λx Y=>by
 have Y:x∈(g.code,p)::g.below:=Y;rcases nr Y with rfl|Y;. exact h.1
 . exact h.2 x Y⟩
theorem kW.goto{g:Ctx}(h:kW g){c:Code}(L:gA c=av):kW (g.goto c):=⟨L,h.2⟩
theorem nv{c:Code}{h:II}{Q:Flow->i1}(hd:gA c=av)(L:dM M (A.mark h) c (λr U=>match r with| .ok f=>Q f U| Q1=>E e U) s)(a:h≠aj byPass:=by intro x;cases x):kS (run c h) Q E s:=λg p j B=>by rewrite [Sem.wp_run];exact L _ p rfl (j.enter c h p a) (B.enter hd)
theorem rh{c:Code}{Q:el}(hd:gA c=av)(L:dM M A c a6i s):kS (runValue c) Q E s:=λg p j B=>by rewrite [Sem.wp_runValue];exact L _ p rfl (j.enter c ap p (by intro x;exact bG x)) (B.enter hd)
theorem je{f:Value}{pos:eS}{i:us}{Q:el}(L:dM M A (.call f ⟨pos,i⟩) a6i s):kS (bj f pos i) Q E s:=rh rfl L
theorem aR{c:Code}{R:Q'}(h:bp M (A.under c) (M.den c) (λI U=>match I with| .done f=>R (.ok f) U| .again y=>y.quiet=am/\gA y=av/\dM M A y R U) a1S s):dM M A c R s:=λg p L j B=>by rewrite [wpCode_iff_wp];exact rwL L;refine Sem.wp_mono M g _ (λI W U h'=> ? _) (λJ J J h'=>h') p s (h g p (L▸j.in) B);cases I with|done f=>exact h'|again y=>exact⟨h'.1,h'.2.2 (g.goto y) W rfl (j.goto y) (B.goto h'.2.1)⟩
theorem nU{x:Code×Pos}(q:x.1.isGuard=am):∀{l:dk (Code×Pos)},x∈l->x.1∈guardsOf l
 |y::l,Y=>by
  rewrite [guardsOf_cons];rcases nr Y with rfl|Y;. exact a5x (by simp [Code.guards,q])
  . exact a3b (nU q Y)
theorem kY{α:Sort _}[RN]{t:c->α}{e:¬c->α}{x:α}(h:¬c)(k:∀h,e h=x):dite c t e=x:=(dif_neg h).trans (k h)
theorem ia{id g:String}{args:Args}(h:(a2q id a6).isGuard=av)(D:(a2q g a6).isGuard=am):¬id=g:=λe=>by ext Qp;replace h:=D▸h;exact s1 h
theorem kZ{P:Value}{Q:b2->i1}(D:SV)(h:Q av s):kS (Builtin.Bytes.exported P) Q E s:=by
 exact dl6 M A E s P Q
 exactλg p j B=>by
  have this:∀x∈(g.code,p)::g.below,x.1.isGuard=av/\gA x.1=av:=λx Y=>by
   refine⟨? _,? _⟩
   .refine cO x.1.isGuard b4 b4;. have u:=nU q Y;rewrite [guardsOf_cons]at u;replace u:=j.2.2.2.1 [] D▸u;cases u
    . rfl
   .rcases nr Y with rfl|Y;. exact B.1
    . exact B.2 x Y
  have e:∀f:Code×Pos->b2,(∀x,x.1.isGuard=av->gA x.1=av->f x=av)->((g.code,p)::g.below).any f=av:=λf d=>List.any_eq_false.mpr λx Y=>by exact rwL (d x (b_ x Y).1 (b_ x Y).2);exact WC
  show Q (((g.code,p)::g.below).any _) s;rewrite [e];. exact h
  .clear h this B j e;intro x H F;obtain⟨c,q⟩:=x
   cases c with
    |builtin id args=>unfold Builtin.Bytes.exported.match_1;refine kY (ia H rfl) λJ=>kY (ia H rfl) λJ=>kY (ia H rfl) λJ=>kY (ia H rfl) λJ=>kY (ia H rfl) O5;obtain⟨pos,i⟩:=a6;induction pos using li with|nil=>rfl|cons v r=>exact(hh (Builtin.Bytes.sameRef v P&&·) F).trans (Bool.and_false _)
    |_=>rfl
section E
section
variable{prog:Program}{w:World}{A:Around}{E:el}{s:Shared}
theorem jX{id:String}{args:Args}{b:Builtin}{R:Q'}(a:VT id=C2)(h:bp h6 (A.under (eC id a6)) (b a6) (λI U=>match I with| .done f=>R (.ok f) U| .again c'=>c'.quiet=am/\gA c'=av/\dM h6 A c' R U) a1S s):dM h6 A (eC id a6) R s:=by refine aR ? _;show QN (match VT id with|C2=>b a6|ap=>unsupported ((withoutEnding? id "#data").getD id)) _ _ s;ext F1;exact h
theorem me{id:String}{b:Builtin}{args:eS}{Q:el}(B:plainId id=am)(hd:gA (eC id a0O)=av)(c:VT id=C2)(a:∀Q:l0->i1,Q () s->PM h6 A.in1 (VN id a0O) Q E s)(h:bp h6 A.in1 (b a0O) (λI U=>∃v,I= .done LO/\Q v U) E s):bp h6 A (bj (eC id) a6) Q E s:=by exact dl9 hN w A E s id b a6 Q;refine je (aR ? _);show bp _ A.in1 (do VN id a0O;again (eC id a0O)) _ _ s;refine aA (a _ (ak ⟨plainId_quiet B _,hd,aR ? _⟩));rewrite [Around.under_plainId B];show QN (match VT id with|C2=>b a0O|ap=>unsupported ((withoutEnding? id "#data").getD id)) _ _ s;exact rwL c;exact dC h (λI U q=>by refine aN q λv d=> ? _;subst d;intro q;exact q) λJ J x=>x
theorem gY{T id:String}{name:Str}{b:Builtin}{P:Value}{rest:eS}{Q:el}(c:Slot T name id)(l:R5 P T)(hd:gA (eC id ⟨P::rest,[]⟩)=av)(a:VT id=C2)(m:argsOk id ⟨P::rest,[]⟩)(h:bp h6 A.in1 (b ⟨P::rest,[]⟩) (λI U=>∃v,I= .done LO/\Q v U) E s):bp h6 A (bj (eC id) (P::rest)) Q E s:=me c.plain hd a (λQ q=>c.check _ _ _ _ _ _ _ Q l m q) h
section E
section E
section
open PySem PySem.W PySem.Calls PyProof.Rows
def XP.Mono(X:XP):a5:=∀S σ j T s e,B5 j->X j T s e->X σ T s e
section
variable{X:XP}{S:ey}{σ σ':Sg}{α β γ δ:cv}{R:yy}{x:i2}{m:ac}{Q:O'}{E:el}
theorem cH.shift[Vn](e:B5 σ')(h:NN R x m Q E):cH C X S σ' R x m Q E:=by exact d9 h λP PX N Y h=>⟨P,PX,λb m' L T U a u y Z at_ z=>N b m' L T U a u (e.trans y) Z at_ z,λm' L T U f u y Z at_ z=>Y m' L T U f u (e.trans y) Z at_ (B S σ σ' T U f e z),h⟩
theorem cH.ok{b:β}{m':ac}(h:NN R x m Q E)(σ':Sg)(U:Shared)(a:α)(u:σ'.m=m')(y:B5 σ')(p:bM S σ')(at_:At C σ' U)(r:R σ' b a)(f:∀P PX,x P PX m->P b m':=by intros;assumption):Q a U:=by exact d9 h λP PX N Y h=>N b m' (f P PX h) σ' U a u y p at_ r
theorem cH.no(h:NN R x m Q E)(f:∀P PX,x P PX m->gj:=by intros;assumption){p:a5}:p:=by exact d9 h λP PX N Y h=>(f P PX h).elim
theorem cH.ex{m':ac}(h:NN R x m Q E)(σ':Sg)(U:Shared)(e:Value)(u:σ'.m=m')(y:B5 σ')(p:bM S σ')(at_:At C σ' U)(r:X σ σ' U e)(f:∀P PX,x P PX m->PX m':=by intros;assumption):E e U:=by exact d9 h λP PX N Y h=>Y m' (f P PX h) σ' U e u y p at_ r
theorem cH.lookE[eX]{k:ae->i2}(h:NN R (Mine.Internal.aX i>>=k) m Q E):∃o,RC/\NN R (k o) m Q E:=by
 refine d9 h λP PX N Y q=> ? _;clear h;have q:(match Fc with|ck=>k o P PX m|ap=>gj):=q;refine cM Fc (λW=> ? _) λo W=> ? _;. replace q:=W▸q;exact q.elim
 . replace q:=W▸q;exact⟨o,rfl,P,PX,N,Y,q⟩
theorem DK[RN]{p:a5}(h:bL (fl c) p gj):c/\p:=by
 exact bcH q c;. replace h:=T0 q▸h;exact⟨q,h⟩
 . replace h:=S1 q▸h;exact Ok
theorem cH.need[RN](h:NN R (i4 c x) m Q E):c/\NN R x m Q E:=by refine d9 h λP PX N Y q=> ? _;have q:=DK q;exact⟨q.1,P,PX,N,Y,q.2⟩
theorem cH.newE[Ol]{o:ae}{k:Id->i2}(h:NN R (Mine.Internal.ci d o>>=k) m Q E):m.H VQ=ap/\NN R (k VQ) (v2 d o) Q E:=by exact d9 h λP PX N Y q=>⟨i8 (j:=0),P,PX,N,Y,q⟩
section E
section
variable{A:Around}{X:XP}{S:ey}{σ:Sg}{α β γ δ:cv}
theorem aa.step[Vn]{R:yy}{R':a4m}[T']{f:β->xj δ}[o2]{Q:γ->i1}{Q₁:O'}{E:el}(H:wa x)[FL](p:P2)(O:NN R' (x>>=f) hM Q E)(k:∀σ' U a b,B5 σ'->bM S σ'->At C σ' U->R σ' b a->cH C X S σ' R' (f b) σ'.m Q E->Q₁ a U):q0 t Q₁ E s:=by ext a27;refine H s at_ p _ _ ⟨a50,PX,λb m' d σ' U a u y g K z=> ? _,Y,h⟩;exact k σ' U a b y g K z (cH.shift B y ⟨P,PX,N,Y,u▸d⟩)
theorem aa.thru{R:yy}{R':a4m}[T'](g:β->δ)[o2]{Q:γ->i1}{Q₁:O'}{E:el}(h:wa x)[FL](p:P2)(O:NN R' (x>>=λb=>b3 (g b)) hM Q E)(k:∀σ' U a b,At C σ' U->R σ' b a->(∀c,R' σ' (g b) c->Q c U)->Q₁ a U):q0 t Q₁ E s:=by exact d9 O λP PX N Y h'=>U7 p _ _ ⟨λb m'=>P (g b) m',PX,λb m' d σ' U a u y Z K r=>k σ' U a b K r λc L=>N _ m' d σ' U c u y Z K L,Y,h'⟩
theorem aa.bind[a87](H:wa x)(F:∀σ' a b,B5 σ'->bH C σ'->R σ' b a->WV S σ' R' (k a) (f b)):hO R' (t>>=k) (x>>=f):=λs at_ p Q E O=>ad (aa.step B H at_ p O λσ' U a b y g K z L=>F σ' a b y K.inv z U K g Q E L)
theorem aa.pure{R:yy}{a:α}{b:β}(h:x_->R σ b a):h9 (a_ a) (a_ b):=by ext s2;exact ak (O.ok σ s a rfl Q2 p at_ (h lv))
theorem aa.bad{R:yy}{t:kk}:wa a8:=λJ J J J J O=>O.no
theorem aa.mono{R R':yy}[T'](h:wa x)(z:∀σ' b a,B5 σ'->bH C σ'->R σ' b a->R' σ' b a):hO R' t x:=by ext s2;exact d9 O λP PX N Y O=>YA ⟨P,PX,λb m' L σ' U a u y Z K r=>N b m' L σ' U a u y Z K (z σ' b a y K.inv r),Y,O⟩
theorem aa.stand{R:yy}{p:Pos}[T'](h:wa x):h9 (Oh p>>=λJ=>t) x:=λs at_ a Q E O=>ad (aO (U7 a Q E O))
theorem aa.hold{R:yy}{vs:eS}[T'](h:wa x):h9 (o1 vs t) x:=λs at_ p Q E O=>aL (YA O)
theorem aa.operate{R:Sg->β->UD}{vs:eS}{t:P7}{x:i2}(h:wa x):h9 (operate vs t) x:=λs at_ p Q E O=>mH (YA O)
theorem aa.release{R:yy}{vs Z:eS}[T'](h:wa x):h9 (release vs Z>>=λJ=>t) x:=λs at_ a Q E O=>λg p j B=>by rewrite [Sem.wp_bind'];rewrite [Sem.wp_release];exact U7 a Q E O g p j B
theorem aa.lookE[eX]{k:ae->i2}{R:yy}{t:kk}(h:∀o,lc=ck->wa (k o)):wa (Mine.Internal.aX i>>=k):=λs at_ p Q E O=>O.lookE.elim λo q=>h o q.1 s at_ p Q E q.2
theorem aa.need[RN]{R:yy}[T'](h:c->wa x):wa (i4 c x):=λs at_ p Q E O=>h O.need.1 s at_ p Q E O.need.2
theorem aa.ite[RN]{R:yy}{t:kk}{x y:i2}(H:c->wa x)(F:¬c->wa y):wa (if c then x else y):=by
 exact bcH h c;. exact rwL Pa;exact H h
 . exact rwL Rt;exact F h
section E
section E
section
set_option backward.match.sparseCases false
open PySem PySem.W PySem.Calls PyProof.Rows
section
variable{A:Around}{X:XP}{S:ey}{σ:Sg}{α β γ δ:cv}{env:Env}{l:p_}{fm:Fm}{mg mb:h7}
theorem ri{h h':Heap}[lS]{K:h7}(k:q8 h h' a)(B:h.Ns a K):h'.Ns a K:=by
 refine uU B λo Y j P hd r=> ? _;clear B;rcases k o P with e|⟨_,W,e⟩;. exact⟨o,Y,j,e,hd,r⟩
 . exact⟨_,Y,j,e,hd,r⟩
theorem dG.ext{D:Sg}{e:Env}(c:dG C σ e)(x:B5 D)(p:∀L,X2->¬S L):dG C D e:=by
 obtain⟨H,L,o,Y,n,F,Q,b,a,s⟩:=c
 have B:¬gJ D L:=λq=>by
  rcases TF _ q with q|q;. exact a q
  . replace q:=Q▸q;exact iy q
 rcases x.keep L a (p L F) o Q with e|⟨_,W,e⟩;. exact⟨H,L,o,Y,n,F,e,b,B,s⟩
 . exact⟨H,L,_,Y,n,F,e,b,B,s⟩
theorem cw.ext{D:Sg}[O3](x:ty):OL D env fm:=by
 refine aN F.ns λK B Z=> ? _;refine⟨λe a=>(F.fr e a).ext x W6,F.kind,F.names,F.glob,F.blt,⟨K,ri (x.keep _ F.own λq=>q.elim) B,λy v e=> ? _⟩,a2p,b4,F.gb,F.code⟩;. exact aN (Z y v e) λw g u=>⟨w,g,u.ext I x eH⟩
 . exact bx (F.cells y c e) λg u=>⟨SI c g,by exact rwL (x.ρ c g);exact u⟩
 .rcases TF _ q with q|q;. exact F.own q
  . ext a98
theorem At.tok[o2](a:N7)(t:Nat):At C σ {s with toks:=t}:=⟨a.heap,a.inv,a.gens,a.os⟩
theorem aa.val{R:yy}{t:kk}{b:β}(h:∀s,N7->∀Q E,(∀U a,At C σ U->R σ b a->Q a U)->Yk):wa (b3 b):=by ext s2;exact x4 (U7 Q E λU a K z=>O.ok σ U a rfl Q2 p K z)
theorem qx{c:Const}:eG (constValue env c) (QC (iA c)):=by cases c with|none=>exact z0 λJ=> a1|bool b=>exact z0 λJ=> B_|int i=>exact oi λs at_ Q E h=>wpAny_mkInt (U9 (f6 _))|str x=>exact oi λs at_ Q E h=>wpAny_mkText (U9 (I' _))|bytes b=>exact oi λs at_ Q E h=>λg p j=>h _ (Value.bytes NP i_) Qj (hj _)|_=>ext d6
theorem bH.ns[h_][m2][lS]{m:h7}(h:C.gb.Ns a m):σ.h.Ns a m:=h.keeps I.base
theorem nV[N2][O7](U:PF C mg mb)(j:k_):eG (hr (jn x pos) env) (name C.P x fm):=by
 revert pos;exact gs A X S σ env l fm mg mb x;exact dl1 pos;unfold name;refine hE nz λf=> ? _
 have i:a3h=av:=by
  refine cO a3h b4 b4;. exact b6 (by unfold Jl;ext OI;rfl) f
  . rfl
 have W:(x==("__classdict__":Str))=av:=by
  refine cO (x==("__classdict__":Str)) b4 b4;. exact b6 (by unfold Jl;exact a3 q i;rfl) f
  . rfl
 exact rwL (eval_Name env x pos i);refine mn ? _
 have a:∀k,(k= f2\/k= .free)->RI x=v_->eG (loadName env x) (match TW x with
  |aj c=>do match<-aX c with| Uz=>a_ v|_=>a8
  | a1=>a8):=by
  intro k N T;refine cM (TW x) Tg λc L=> ? _;. ext d6
  .refine bx (j.cells x c L) λb c2=> ? _;refine R4 Ug
   induction o using z5 with
    |cell v=>
     induction v using u_ with
      |none=>ext d6
      |some v=>
       refine oi a3B;refine aN (Ye c _ P) λw r Z=> ? _
       induction w using u_ with
        |none=>exact Z.elim
        |some w=>
         have d:s.heap.IsCell (tp c) Oo:=eZ▸r;rcases j.names x k T with e|⟨_,e⟩
         .rcases N with rfl|rfl;. exact wpAny_loadName_cell j.kind e c2 d (h s w at_ Z)
          . exact wpAny_loadName_free j.kind e c2 d (h s w at_ Z) W
         . exact wpAny_loadName_cell j.kind e c2 d (h s w at_ Z)
    |_=>ext d6
 refine cM (RI x) RY λk T=> ? _;. ext d6
 .cases k with
   |«local»=>
    refine aN j.ns λK B Z=> ? _;refine cM (fm.loc.lookup x) (λY=> ? _) λv Y=> ? _;. ext d6
    .refine aN (Z x v Y) λw g u=> ? _;have N:KX x=xw:=(j.names x _ T).elim id λq=>by cases q.1
     exact oi λs at_ Q E h=>wpAny_loadName_local j.kind N (eZ▸B) g (h s w at_ u)
   |cell=>exact a _ hA T
   |free=>exact a _ NT T
   |globalImplicit=>
    have N:KX x=aj Ws:=(j.names x _ T).elim id λq=>by cases q.1
    refine hE (λD=> ? _) nz;refine aN (U.glob x (a5h D)) λw r z=> ? _;refine oi a3B;exact rwL (PyProof.Rows.loadName_read j.kind N);have p:Xh env.globals mg:=by exact a3 j.glob eZ;exact at_.inv.ns U.g
    have m:Xh env.builtins mb:=by exact a3 j.blt eZ;exact at_.inv.ns U.b
    rcases r with r|⟨H,F⟩;. exact loadGlobal_global p r (h s w at_ (z σ))
    . exact loadGlobal_builtin p H m F (h s w at_ (z σ))
   |_=>ext d6
section E
section E
section
open PySem PySem.W PySem.Calls PyProof.Rows
section
variable{A:Around}{X:XP}{S:ey}{σ:Sg}{α β γ δ:cv}
theorem VR.int_inv{i:Int}[mm](h:dm f6 w):∃t,w= f6 t:=by cases h;exact U1
theorem VR.bool_inv{b:Bool}[mm](h:dm B_ w):w= B_:=by cases h;rfl
theorem VR.none_inv[mm](h:dm a1 w):w= a1:=by cases h;rfl
theorem VR.str_inv[N2][mm](h:dm I' w):∃t,w= I' t:=by cases h;exact U1
theorem VR.bytes_inv[OP][mm](h:dm hj w):∃t,w= ek NP t:=by cases h;exact U1
theorem VR.ref_inv[eX][mm](h:dm eF w):w= e0/\C3:=by cases h;exact⟨rfl,by assumption⟩
theorem VR.tup_inv[q'][mm](h:dm w_ w):∃a items n,w= er/\j' a=aj {cls:= PQ,data:= .seq kn n}/\OV Pn:=by cases h;exact⟨_,_,_,rfl,by assumption,by assumption⟩
theorem VR.tup_inv0[q'][mm](h:dm w_ w):∃a items,w= er/\j' a=Wp/\OV Pn:=by cases h;exact⟨_,_,rfl,by assumption,by assumption⟩
theorem bW.cons_inv[g_][M'](h:xb (v::vs) ws):∃w o,ws=w::o/\FI/\OV o:=by cases h;exact⟨_,_,rfl,by assumption,by assumption⟩
theorem bW.nil_inv{ws:eS}(h:xb [] ws):ws=[]:=by cases h;rfl
theorem bW.one[g_]{ws:eS}(h:xb [v] ws):∃w,ws=[w]/\FI:=by ext a4L;intro a z;have:=z.nil_inv;subst this;exact⟨w,rfl,a⟩
theorem bW.two{v u:V}{ws:eS}(h:xb [v,u] ws):∃w z,ws=[w,z]/\FI/\dm u z:=by ext a4L;intro a c;refine aN c.one λz U=> ? _;subst U;intro b;exact⟨w,z,rfl,a,b⟩
theorem bW.get[M'](h:tq)[v1][g_](e:TL =d0):∃w,ws[k]? =Oo/\FI:=by induction vs generalizing ws k with|nil=>ext pf|cons x vs G=>cases h with|cons a b=>induction k using Qn with|zero=>simp at e;subst e;exact⟨_,rfl,a⟩|succ k=>simpa using G b (by ext Vg)
theorem bW.replicate[US]:∀n,xb (F_ n v) (F_ n w)|0=> .nil|cp=> t6 h (bW.replicate h n)
theorem bW.take[M'](h:tq)[q_]:xb (vs.take k) (ws.take k):=by induction k generalizing vs ws with|zero=>exact .nil|succ k G=>cases h with|nil=>exact .nil|cons a b=>exact t6 a (G b)
theorem bW.set[M'](h:tq)[g_][mm](Z:FI)[q_]:xb (vs.set k v) (ws.set k w):=by induction vs generalizing ws k with|nil=>cases h;exact .nil|cons x vs G=>cases h with|cons a b=>induction k using Qn with|zero=>exact t6 Z b|succ k=>exact t6 a (G b k)
theorem bW.reverse[M'](h:tq):xb vs.reverse ws.reverse:=by induction vs generalizing ws with|nil=>cases h;exact .nil|cons x vs G=>cases h with|cons a b=>simp only [List.reverse_cons];exact(G b).append (t6 a .nil)
theorem VR.int_el{P:UD}{i:Int}[mm](h:dm f6 w)(k:∀t,P (f6 t)):P w:=by refine db h.int_inv ZE;subst U;exact k t
theorem VR.str_el{P:UD}{i:Str}[mm](h:dm (c1 i) w)(k:∀t,P (c1 i t)):P w:=by refine db h.str_inv ZE;subst U;exact k t
theorem VR.bytes_el{P:UD}{i:d7}[mm](h:dm (ek i) w)(k:∀t,P (ek i.toArray t)):P w:=by refine db h.bytes_inv ZE;subst U;exact k t
theorem VR.none_el{P:UD}[mm](h:dm a1 w)(k:P a1):P w:=by exact rwL h.none_inv;exact k
theorem VR.bool_el{P:UD}{b:Bool}[mm](h:dm B_ w)(k:P B_):P w:=by exact rwL h.bool_inv;exact k
theorem VR.ref_el{P:UD}[eX][mm](h:dm eF w)(k:C3->P e0):P w:=by refine bx h.ref_inv PY;subst G;intro l;exact k l
theorem VR.tup_el{P:UD}[q'][mm](h:dm w_ w)(k:∀a items,j' a=Wp->OV Pn->P er):P w:=by refine d9 h.tup_inv0 λa items d=> ? _;subst d;intro H F;exact k a kn H F
section
variable{R:yy}{v:V}{u:Value}{T:m9->kk}
theorem aa.onInt{k:Int->i2}(h:dm v u)(f:∀i t,h9 (T (f6 t)) (k i)):h9 (T u) (Mine.Internal.dX v k):=by induction v using kb with|int i=>exact h.int_el (P:=a3v) (f i)|_=>ext d6
theorem aa.onIntI{t:kk}{k:Int->i2}(f:∀i,v= f6->wa (k i)):wa (Mine.Internal.dX v k):=by induction v using kb with|int i=>exact f i rfl|_=>ext d6
theorem aa.onStr{k:Str->i2}(h:dm v u)(f:∀i t,h9 (T (c1 i t)) (k i)):h9 (T u) (Mine.Internal.FS v k):=by induction v using kb with|str i=>exact h.str_el (P:=a3v) (f i)|_=>ext d6
theorem aa.onBytes{k:d7->i2}(h:dm v u)(f:∀i t,h9 (T (ek i.toArray t)) (k i)):h9 (T u) (Mine.Internal.wx v k):=by induction v using kb with|bytes i=>exact h.bytes_el (P:=a3v) (f i)|_=>ext d6
theorem aa.onRef{k:Id->i2}(h:dm v u)(f:∀i,C3->h9 (T e0) (k i)):h9 (T u) (Mine.Internal.dB v k):=by induction v using kb with|ref i=>exact h.ref_el (P:=a3v) (f i)|_=>ext d6
theorem aa.onTup{k:b5->i2}(h:dm v u)(f:∀vs a items,j' a=Wp->OV Pn->h9 (T er) (k vs)):h9 (T u) (Mine.Internal.FU v k):=by induction v using kb with|tup i=>exact h.tup_el (P:=a3v) (f i)|_=>ext d6
theorem aa.onInts{P:V}{a:Value}{T:m9->m9->kk}{k:Int->Int->i2}(h:dm v u)(h':dm P a)(f:∀i t j Y,h9 (T (f6 t) (a4 j Y)) (k i j)):h9 (T u a) (Mine.Internal.aY v P k):=Oc (T:=λu=>T u a) h λi t=>Oc (T:=T (f6 t)) h' (f i t)
theorem aa.atL{t:kk}[eX]{k:b5->i2}(f:∀vs,Q0->wa (k vs)):wa (Mine.Internal.q5 i k):=R4 λo P=>by induction o using z5 with|list vs=>exact f vs P|_=>ext d6
theorem aa.opt{γ:cv}{t:kk}{o:ez γ}{k:γ->i2}(f:∀b,o=C2->wa (k b)):wa (Mine.Internal.DF o k):=by induction o using u_ with|some b=>exact f b rfl|none=>ext d6
theorem aa.ofOpt{t:kk}{o:ez β}(f:∀b,o=C2->wa (b3 b)):wa (QC o):=by induction o using u_ with|some b=>exact f b rfl|none=>ext d6
theorem aa.arg0{γ:cv}{l:dk γ}{T:dk γ->kk}{k:i2}(f:h9 (T []) k):h9 (T l) (Mine.Internal.kg l k):=by induction l using li with|nil=>exact f|cons=>ext d6
theorem aa.arg1{γ:cv}{l:dk γ}{T:dk γ->kk}{k:γ->i2}(f:∀a,h9 (T [a]) (k a)):h9 (T l) (Mine.Internal.fT l k):=by induction l using li with|nil=>ext d6|cons a l=>exact UC (T:=λl=>T (a::l)) (f a)
theorem aa.arg2{γ:cv}{l:dk γ}{T:dk γ->kk}{k:γ->γ->i2}(f:∀a b,h9 (T [a,b]) (k a b)):h9 (T l) (Mine.Internal.sP l k):=by induction l using li with|nil=>ext d6|cons a l=>exact aa.arg1 (T:=λl=>T (a::l)) (f a)
theorem aa.onName[QG]{T:hC->kk}{k:Str->i2}(f:∀x p,h9 (T Ux) (k x)):h9 (T e) (Mine.Internal.nK e k):=by induction e using Ox with|Name x p=>exact f x p|_=>ext d6
theorem aa.onCon[QG]{T:hC->kk}{k:Const->i2}(f:∀c y p,h9 (T (RQ c y p)) (k c)):h9 (T e) (Mine.Internal.wy e k):=by induction e using Ox with|Constant c y p=>exact f c y p|_=>ext d6
theorem aa.onTupE[QG]{T:hC->kk}{k:eP->i2}(f:∀Y c p,h9 (T (L0 Y c p)) (k Y)):h9 (T e) (Mine.Internal.zU e k):=by induction e using Ox with|Tuple Y c p=>exact f Y c p|_=>ext d6
theorem aa.onCall[QG]{T:hC->kk}{k:hC->eP->dk Keyword->i2}(f:∀g i M p,h9 (T (On g i M p)) (k g i M)):h9 (T e) (Mine.Internal.zV e k):=by induction e using Ox with|Call g i M p=>exact f g i M p|_=>ext d6
theorem aa.optS{γ:cv}{o:ez γ}{T:ez γ->kk}{k:γ->i2}(f:∀b,h9 (T C2) (k b)):h9 (T o) (Mine.Internal.DF o k):=by induction o using u_ with|some b=>exact f b|none=>ext d6
theorem aa.onRet{s:Stmt}{T:Stmt->kk}{k:hC->i2}(f:∀e p,h9 (T (TG P4 p)) (k e)):h9 (T s) (Mine.Internal.FV s k):=by induction s using Stmt.casesOn with|Return e p=>exact aa.optS (T:=λe=>T (TG e p)) λe=>f e p|_=>ext d6
theorem aa.onHand{h:ExceptHandler}{T:ExceptHandler->kk}{k:hC->e_->i2}(f:∀e b p,h9 (T (UW P4 ap b p)) (k e b)):h9 (T h) (Mine.Internal.G5 h k):=by obtain⟨t,n,b,p⟩:=h;induction n using u_ with|none=>exact aa.optS (T:=λt=>T (UW t ap b p)) λe=>f e b p|some=>ext d6
theorem aa.argl2{γ:cv}{l:dk γ}{t:kk}{k:γ->γ->i2}(f:∀a b,l=[a,b]->wa (k a b)):wa (Mine.Internal.sP l k):=by
 rcases l with _|⟨a,_|⟨b,_|⟨c,l⟩⟩⟩;. ext d6
 . ext d6
 . exact f a b rfl
 . ext d6
theorem aa.argv0[M']{T:eS->kk}{k:i2}(h:tq)(f:h9 (T []) k):h9 (T ws) (Mine.Internal.kg vs k):=by cases h with|nil=>exact f|cons=>ext d6
theorem aa.argv1[M']{T:eS->kk}{k:V->i2}(h:tq)(f:∀v w,FI->h9 (T [w]) (k v)):h9 (T ws) (Mine.Internal.fT vs k):=by cases h with|nil=>ext d6|cons a r=>exact aa.argv0 (T:=λl=>T (_::l)) r (f _ _ a)
theorem aa.argv2[M']{T:eS->kk}{k:V->V->i2}(h:tq)(f:∀v w P Q,FI->dm P Q->h9 (T [w,Q]) (k v P)):h9 (T ws) (Mine.Internal.sP vs k):=by cases h with|nil=>ext d6|cons a r=>exact Vj (T:=λl=>T (_::l)) r λP Q=>f _ _ P Q a
section E
theorem fF{i:Int}{t:P7}(h: -dF<i->i<dF->∀s,N7->∀(Q:el)E,(∀U k,At C σ U->Q (f6 k) U)->Yk):eG t (bV i):=by unfold bV;exact wn (λL=>oi λs at_ Q E k=>h L.1 L.2 s at_ Q E λU r K=>k U _ K (f6 r))
theorem aa.new[Ol]{o:ae}{M:Obj}{t:P7}(W:df o=av)(g:M.isFreed=av)(F:x_->∀D,ty->Qy (D.ρ YU)=aj M->fE C D YU o)(h:∀s,N7->∀(Q:el)E,(∀r,Q (a2 l5) {s with heap:=G1 M,toks:=r})->Yk):a7k:=by
 exact dl8 A X S σ d o M t;ext s2;have c:nk YU=ap:=by exact i8 (j:=0)
 refine x4 (U7 Q E λr=> ? _);have N:∀b o,PP->(G1 M).get? b=ck:=λb o e=>L' Wg;have m: Xy l5:=by exact rwR eZ;exact nl
 refine bx (at_.inv.make (i:= YU) (o:=o) (m1:=σ.m.mk1 d o) (a:=l5) (d:=0) (h':=G1 M) dA c N m (λz=>by replace z:=W▸z;exact cT z) (λx=>F lv _ x (by show(G1 M).get? (rb tp _ _ _)=_;rewrite [dg];exact Heap.get?_push_size _ g))) λI x=> ? _;refine O.ok (b:=og (Id.mk d (σ.m.c d))) (m':=σ.m.mk1 d o) _ _ _ rfl x.of0 (P9 x) ZT ? _ (by exactλP PX h=>h);have a:ao (a7s (G1 M)).m YU:=by show((σ.m.mk1 d o).H _).isSome=am;exact rwL dA;unfold sO;ext UA;rfl
 have z:=VR.ref (C:=C) (σ:=a7s (G1 M)) _ a;have f:(a7s (G1 M)).ρ YU=l5:=dg _ _ _;replace z:=f▸z;exact z
theorem aa.newList[Ol][q']{ws:y_}[e3]{t:P7}(Z:OV ws.toList)(h:∀s,N7->∀(Q:el)E,(∀r,Q (a2 l5) {s with heap:=G1 {cls:= Qs,data:= .seq ws n},toks:=r})->Yk):eG t (do return a2 (<-ci d Oj)):=aa.new rfl rfl (λI J x e=>⟨ws,n,e,Z.ext I x eH⟩) h
theorem iE[m2][eX][q'](W:Q0):∃items n,j' eT=aj ZR/\OV Pn:=I.obj i _ W
theorem rj[Ol]{i j:Id}{I e:b5}(W:WN)(D:nk j=aj (bC e))(hsz:kN+e.length<=16777216):eG (PW .Add e0 a2o) (do return a2 (<-ci d (bC (I++e)))):=by
 ext s2;refine i5 (iE lv W) λL n g Z=> ? _;refine i5 (iE lv D) λU k c b=> ? _;refine aa.newList (ws:=L++U) (n:=0) (by exact rwL Array.toList_append;exact Z.append b) a3B s at_ p Q E O;have G:=Xp;have f:=nw;have M:p0 eT=aj {cls:= Qs,data:= .seq L n}:=eZ▸g;have a:p0 (tp j)=aj {cls:= Qs,data:= .seq U k}:=eZ▸c;refine concat_meets (T:="list") ⟨_,M,rfl⟩ ⟨_,a,rfl⟩ noFill_list_add seq_list_add PySem.F.slot_list_add PySem.F.entry_list_add (PySem.F.args_list_add_2 _ _) (list_addW eT (tp j) L U n k ap ap #[] #[] ? _) ⟨M,a,? _⟩;. simp only [SR]at G f;exact rwL NM;refine kq (nat_lit 0x1090100000023100009010000002330200b00200b103004) Rb [] hsz G f a0
 . exact h _
theorem rk[Ol][eX]{x:V}{k:Int}{u:Tok}(W:lc=aj (bC [x]))(j:0<=k)(N:k<=1000):eG (PW .Mult e0 (v0 u)) (do return a2 (<-ci d (bC (F_ k.toNat x)))):=by
 exact dl9 A X S σ d i x k u;ext s2;refine i5 (iE lv W) λL n f Z=> ? _;obtain⟨w,e,r⟩:∃w,L= #[w]/\dm x w:=by obtain⟨l⟩:=L;cases Z with|cons a b=>cases b;exact⟨_,rfl,a⟩
 subst e
 have e:∀(m:Nat),List.foldl (λc K=>c++K) (#[]:y_) (F_ m #[w])=(F_ m w).toArray:=λm=>by
  have g:∀(m:Nat)(acc:y_),List.foldl (λc K=>c++K) acc (F_ m #[w])=acc++(F_ m w).toArray:=by intro m;induction m with|zero=>intro acc;simp|succ m G=>intro acc;exact a3 List.replicate_succ List.foldl_cons;rewrite [G];exact rwL List.replicate_succ;apply Array.ext';simp
  rewrite [g];simp
 refine aa.newList (ws:=(F_ k.toNat w).toArray) (n:=0) (bW.replicate r _) a3B s at_ p Q E O;have M:p0 eT=aj {cls:= Qs,data:= .seq #[w] n}:=eZ▸f;have h:=h i_;rewrite [<-e]at h;exact wpAny_binaryOp_repeat_ref (T:="list") (U:="int") (by decide) ⟨_,M,rfl⟩ (λU=>typeIs_int U k u) noFill_list_mul F.fills_int_mul F.slot_int_rmul repeat_list F.slot_int_index.lookup (call_meets F.slot_int_rmul (typeIs_int s k u) F.entry_int_rmul (F.args_int_rmul_2 _ _) (int___rmul___int_list k u eT #[w] n) ⟨M,rfl,⟨_,M,rfl⟩,call_meets F.slot_list_mul ⟨_,M,rfl⟩ F.entry_list_mul (F.args_list_mul_2 _ _) (AutoListH.list___mul___list_int_3 eT #[w] n k u (by simp [Builtin.List.listFitsIndex];lia) (by simp;lia) (by simp [Builtin.List.listTooLong,sizeLine];refine b0m N a0)) ⟨M,h⟩⟩)
theorem Ag[Ol][a3j]:eG (PW .Add u v) (jR d a b):=by induction a using kb with|int a=>exact o.int_el (P:=λu=>eG (PW .Add u v) _) λt=>Oc (T:=λv=>PW .Add (Pi t) v) Z λb u=>fF λJ J s at_ Q E h=>add_int U9|bytes a=>refine o.bytes_el (P:=λu=>eG (PW .Add u v) _) λt=>aa.onBytes (T:=λv=>PW .Add (ek a.toArray t) v) Z λb u=>wn (λL=>oi a3B);exact KBy.add_bytes (by simpa using L) λY k=>U9 (List.append_toArray a b▸VR.bytes (a++b) Y)|ref i=>exact o.ref_el (P:=λu=>eG (PW .Add u v) _) λJ=>Vk (T:=λv=>PW .Add e0 v) Z λj J=>aa.atL λI P=>aa.atL λp m=>wn (λL=>rj P m L)|_=>ext d6
theorem Ah[Ol][a3j]:eG (PW .Mult u v) (xP d a b):=by
 refine Oc (T:=λv=>PW .Mult u v) Z λn c=> ? _
 induction a using kb with
  |int a=>exact o.int_el (P:=λu=>eG (PW .Mult u (t5 c)) _) λt=>wn (λL=>fF λJ J s at_ Q E h=>mul_int U9 (.of_left (intBits_le_64 L.1 L.2)))
  |ref i=>refine o.ref_el (P:=λu=>eG (PW .Mult u (t5 c)) _) λJ=>aa.atL λI P=> ? _;induction I using li with|nil=>ext d6|cons x r=>induction r using li with|cons=>ext d6|nil=>exact wn (λL=>rk P L.1 L.2)
  |_=>ext d6
theorem M3{b:Int}[v1](V:0<=b)(h:b<k):b.natAbs<k:=Int.ofNat_lt.mp (by exact rwL (Int.natAbs_of_nonneg V);exact h)
theorem xU{op:Operator}[Ol][a3j]:eG (PW op u v) (FW d op a b):=by cases op with|Add=>exact Ag o Z|Mult=>exact Ah o Z|Sub=>exact Xg (T:=PW .Sub) o Z λa t b u=>fF λJ J s at_ Q E h=>sub_int U9|FloorDiv=>exact Xg (T:=PW .FloorDiv) o Z λa t b u=>wn (λL=>fF λJ J s at_ Q E h=>floordiv_int (by refine bn (nat_lit 0x1c1b01001a000110) [] a7 L.1 a0) U9 (b7 (PyProof.noPylong_small (M3 (Int.le_of_lt L.1) L.2))))|Mod=>exact Xg (T:=PW .Mod) o Z λa t b u=>wn λM=>fF λJ J s at_ Q E h=>mod_int M U9|Pow=>exact Xg (T:=PW .Pow) o Z λa t b u=>wn (λL=>oi λs at_ Q E h=>by have e:T2 (a.toNat^b.toNat)=a^b.toNat:=(Int.natCast_pow _ _).trans (by exact rwL (a5Z L.1);rfl);ext Qp;exact pow_int_small L.2.2.1 (by refine bn (nat_lit 0x119000f424020019000000c820010) [] a7 L.2.2.2 a0) (M3 L.1 (Int.lt_of_le_of_lt L.2.1 (by decide))) (U9 (di _)))|_=>ext d6
section E
section E
section
open PySem PySem.W PySem.Calls PyProof.Rows
section
variable{A:Around}{X:XP}{S:ey}{σ:Sg}{α β γ δ:cv}
abbrev ny[q4]{α:cv}:Sg->α->α->a5:=λJ b a=>b=a
theorem cg[P5][q'](W:Q0):∃items,a3W kn/\OV Pn/\ka=Tb:=by exact i5 (iE lv W) λitems n T Z=>⟨kn,⟨_,eZ▸T,rfl,n,rfl⟩,Z,by exact a3 Xp SR;rfl⟩
theorem k5[P5][q'](W:lc=aj (F2 vs)):∃items,a3W kn/\OV Pn/\ka=Tb:=by exact xM (show fE C σ i (F2 vs)from Ye i _ W) λo items n T L hd Z=>⟨kn,⟨o,eZ▸at_.inv.base _ _ T,L,n,hd⟩,Z,by exact a3 Xp SR;rfl⟩
theorem mf[US]:hO (ny C) (truthy w) (cG v):=by induction v using kb with|none=>exact h.none_el (P:=a2X) (oi λs at_ Q E k=>truthy_none XT)|bool b=>exact h.bool_el (P:=a2X) (oi λs at_ Q E k=>wpAny_truthy_bool XT)|int i=>exact h.int_el (P:=a2X) λt=>oi λs at_ Q E k=>truthy_int XT|bytes b=>refine h.bytes_el (P:=a2X) λt=>wn (λL=>oi λs at_ Q E k=>truthy_bytes (ei L (by decide)) (k _ _ Qj ? _));cases b<;>rfl|ref i=>refine h.ref_el (P:=a2X) λJ=>aa.atL λvs P=>wn (λL=>oi Xx);refine fk (cg at_ P) λitems T Z B=> ? _;refine wpAny_truthy_list T (by lia) (k _ _ Qj ? _);obtain⟨l⟩:=kn;cases Z<;>rfl|_=>ext d6
theorem nW{b:V}[mm](M:zX b=am)(h:dm b w):isSame a1 w=a_ (d8 b)/\(d8 b=av->isSame w a1=A'):=by induction b using kb with|none=>exact h.none_el (P:=λw=>isSame a1 w=TA/\(am=av->isSame w a1=A')) ⟨rfl,λq=>sK q⟩|ref i=>exact h.ref_el (P:=a4v) λJ=>⟨rfl,hS⟩|tup vs=>exact h.tup_el (P:=a4v) λJ J J J=>⟨rfl,hS⟩|int i=>exact h.int_el (P:=a4v) λJ=>⟨rfl,hS⟩|bytes i=>exact h.bytes_el (P:=a4v) λJ=>⟨rfl,hS⟩|_=>exact s1 M
theorem jJ{a:V}(h:d8 a=am):a= a1:=by cases a<;>first|rfl|exact s1 h
set_option tactic.hygienic true in theorem xV[m2][o2](e:e5=σ.h){i j:Id}(W:C3)(D:Ql j)[Rp]{Q:b2->i1}{E:el}(B:Q (fl (i=j)) s):H' (isSame e0 a2o) Q E s:=by
 ext Po;. ext OI;exact wpAny_isSame_ref_self (T0 q▸B)
 .have h:eT≠tp j:=λz=>q (I.rr i j W D z);refine aN (nu I (nS W)) λt H p=> ? _;refine aN (nu I (nS D)) λG F g=> ? _;replace H:=e▸H;replace F:=e▸F;have z:Q av s:=S1 q▸B;clear B g;exact bcH e1 (t.cls= PQ)
  .exact bcH e2 (G.cls= PQ);. show H' (if(eT==tp j)=am then TA else _) Q E s;exact rwL (b9 λz=>h (f1 z));refine b8 (W2 H (b8 (W2 F ? _)));clear H F h q;replace p:=c5;obtain⟨b,k,c,d⟩:=t;obtain⟨c2,r,K,a⟩:=G;dsimp only at e1 e2 p;subst e1 e2;cases c<;>first|exact f' z|exact O9 (p _ _ rfl)
   . exact PySem.SeqAt.wpAny_isSame_ref_other' h H F e2 z
  . exact wpAny_isSame_ref_other h H F e1 z
theorem sW[a3j]:a5p (uO a b):=by
 have I:∀{u v:Value}{r:Bool},isSame u v=a_ r->a5p (a_ r):=λe=>oi λs at_ Q E k=>by ext ea;exact f' XT
 refine hE Xf λm=>hE (λM=> ? _) λM=> ? _;. replace o:=jJ m▸o;exact o.none_el (P:=λu=>a5p _) (hE (λN=>I (nW N Z).1) nz)
 . replace Z:=jJ M▸Z;exact Z.none_el (P:=λv=>a5p _) (hE (λN=>I ((nW N o).2 (Bool.eq_false_iff.mpr m))) nz)
 . exact Vk (T:=λu=>isSame u v) o λi W=>Vk (T:=λv=>isSame e0 v) Z λj D=>oi λs at_ Q E k=>xV lv eZ W D XT
section E
section E
section
open PySem PySem.W PySem.Calls PyProof.Rows
theorem gd:∀(f:Qh)[f0](acc:Zd),cellsFrom n f acc=((cn f).zipIdx n).reverse++acc
 |[],n,acc=>rfl
 |(x,k)::r,n,acc=>by
  unfold cellsFrom cn gu;exact bcH h ((k==NameKind.cell)=am);. exact rwL Pa;rewrite [gd r];exact rwL (XA (by simpa using h));simp [cn,gu]
  . exact rwL Rt;rewrite [gd r];exact rwL (YR (by simpa using h));rfl
theorem u2{B:dd}{c:pb}[f_][xi](o:ae):(iD B c m).H i=ck↔(RC\/(Fc=ap/\∃j x,c[j]? =eI/\i= nn (X'+j)/\o= f2 a0J)):=by
 exact dl5 B c m i o;obtain⟨s,n⟩:=i;exact rwL (show(iD B c m).H (bv s n)=_ from ww);exact bcH h (s=2000000/\X'<=n)
 .exact rwL Pa;refine bx h PY;subst G;intro h;refine db (Nat.exists_eq_add_of_le h) λj U=> ? _;subst U;rewrite [a3a,List.getElem?_map,i8];refine⟨od,λq=>q.elim (λz=>bG z) ? _⟩
  .refine cM (c[j]?) D_ λx z=> ? _;. ext a0X;ext pf
   . ext a0X;exact ba ⟨rfl,j,x,z,rfl,XY⟩
  . rintro⟨_,k,x,g,u,rfl⟩;replace g:=(show k=j from(Nat.add_left_cancel (Xi u).2).symm)▸g;ext NZ;rfl
 . exact rwL Rt;refine⟨b7,λq=>q.elim id ? _⟩;rintro⟨_,k,x,g,u,_⟩;exact b6 ⟨(Xi u).1,(Xi u).2▸QY _ _⟩ h
structure Jv (B : dd) (c : pb) (m m1 : ac) (cells : OX) : a5 where
  ids : mz = (c.zipIdx X').map (fun p => (c5, Id.mk 2000000 p.2))
  iff : a8i
  free : ∀ j x, c[j]? = eI → m.H (nn (X' + j)) = ap
theorem sX{B:dd}{c:pb}[f_]{P:OX->ef}{PX:ef}(h:kU B c P PX m):∃cells m1,P mz m1/\Jv B c m m1 mz:=by
 unfold kU at h;exact bcH he (c.isEmpty=am);. replace h:=c4 he▸h;cases VI he;refine⟨[],m,h,rfl,λi o=>⟨b7,λq=>q.elim id ? _⟩,λj x e=>bG e⟩;rintro⟨_,j,x,e,_⟩;ext pf
 . replace h:=b9 he▸h;exact⟨_,_,h,rfl,u2,λJ J J=>i8⟩
theorem nX{L:Str->ez NameKind}:∀(F:us)(m:h7)[xd],(F.map w1).Nodup->bindL L F m x=if L x=xw then(R3 x).or (m x)else m x
 |[],m,x,_=>by simp [bindL]
 |(n,v)::r,m,x,h=>by
  have h':=List.nodup_cons.mp h;unfold bindL;exact rwL (nX r _ x h'.2);exact bcH hx (x=n)
  .subst hx
   have T:r.lookup x=ap:=by
    ext a6Z;have:c5≠x:=λe=>by have u:c5∈r.map w1:=Z4 O;replace u:=e▸u;exact h'.1 u
    simpa using this.symm
   exact bcH hk (L x=xw);. simp [hk,T]
   . simp [hk]
  .have M:(x==n)=av:=by simpa using hx
   exact bcH hk (L n=xw)<;>simp [hk,hx,s0,M]
theorem nY{L:Str->ez NameKind}:∀(F:us)(m:h7)[xd],(F.map w1).Nodup->bindC L F m x=if L x=xw then m x else(R3 x).or (m x)
 |[],m,x,_=>by simp [bindC]
 |(n,v)::r,m,x,h=>by
  have h':=List.nodup_cons.mp h;unfold bindC;exact rwL (nY r _ x h'.2);exact bcH hx (x=n)
  .subst hx
   have T:r.lookup x=ap:=by
    ext a6Z;have:c5≠x:=λe=>by have u:c5∈r.map w1:=Z4 O;replace u:=e▸u;exact h'.1 u
    simpa using this.symm
   exact bcH hk (L x=xw);. simp [hk]
   . simp [hk,T]
  .have M:(x==n)=av:=by simpa using hx
   exact bcH hk (L n=xw)<;>simp [hk,hx,s0,M]
theorem BR.look[h_]{B:dd}{r:us}(h:BR C σ B r)[xd]:OR C σ a0J (r.lookup x):=by
 induction h with
  |nil=>exact ep
  | @cons y v w B r Z _ G=>
   exact bcH e (L2=am);. exact ec s0 s0 e;exact Z
   .have e:L2=av:=by ext Vg
    exact ec s0 s0 e;exact G
theorem BR.names[h_]{B:dd}{r:us}(h:BR C σ B r):B.map w1=r.map w1:=by induction h with|nil=>rfl|cons _ _ G=>simp [G]
theorem BR.ext[RV]{B:dd}{r:us}[m2](x:ty)(h:BR C σ B r):BR C D B r:=by induction h with|nil=>exact .nil|cons Z _ G=>exact t6 (Z.ext I x eH) G
theorem pP{B:dd}{p:Str->b2}[N2][g_](h:(B.filter λq=>p q.1).lookup x=d0):a0J=d0/\p x=am:=by
 induction B with
  |nil=>ext rs
  |cons b r G=>
   obtain⟨y,u⟩:=b;exact bcH hp (p y=am)
   .rewrite [XA (by simpa using hp)]at h;rewrite [s0]at h;exact rwL s0;exact bcH e (L2=am);. rw [e]at h⊢;exact⟨h,by exact rwL (f1 e);exact hp⟩
    .have e:L2=av:=by ext Vg
     rw [e]at h⊢;exact G h
   .rewrite [YR (by simpa using hp)]at h;refine bx (G h) V_;refine⟨? _,F⟩;exact rwL s0;exact bcH e (L2=am);. replace F:=f1 e▸F;exact b6 F hp
    .have e:L2=av:=by ext Vg
     ext ea;exact H
theorem nZ:∀(l:pb)[A1][xd],l.Nodup->l[j]? =eI->((l.zipIdx n).reverse).lookup x=aj (n+j):=by
 intro a
 induction a with
  |nil=>intro _ _ _ _ h;simp at h
  |cons y r G=>
   intro n j x S h;refine bx (List.nodup_cons.mp S) V_;exact ec List.zipIdx_cons List.reverse_cons List.lookup_append
   induction j using Qn with
    |zero=>
     simp at h;subst h
     have:((r.zipIdx cp).reverse).lookup y=ap:=by
      ext a6Z;have L:=Y1 O;have:c5∈r:=by have:=Z4 (f:=Prod.fst) L;rwa [List.zipIdx_map_fst]at this
      have f:c5≠y:=λe=>H (e▸b_);simpa using f.symm
     ext Od;simp
    |succ j=>exact rwL (G cp j x F (by simpa using h));simp;refine pk (nat_lit 0x10b331110003103110002) cb [] a0
theorem xW:∀(l:pb)[f0][xd](a:Nat),(l.zipIdx n).lookup x=C1->∃j,l[j]? =eI/\a=n+j:=by
 intro O
 induction O with
  |nil=>intro _ _ _ h;simp at h
  |cons y r G=>
   intro n x a h;replace h:=List.zipIdx_cons▸h;rewrite [s0]at h;exact bcH e (L2=am);. ext Qp;exact⟨0,by simp [f1 e],by simpa using h.symm⟩
   .have e:L2=av:=by ext Vg
    ext Qp;exact aN (G cp x a h) λj H F=>⟨c_,by simpa using H,by refine bn (nat_lit 0x10b33112010000b320311100003) eb [] F a0⟩
theorem jf{u Y i:cv} [BEq u](f:Y->i):∀(l:dk (u×Y))(x:u),(l.map λp=>(c5,f p.2)).lookup x=(l.lookup x).map f|[],_=>rfl|(y,b)::r,x=>by exact ec a2f s0 s0;cases L2<;>simp [jf f r x]
def ρN[iv](a:Nat):Id->Addr| bv r n=>if r=2000000/\a0v<=n/\(nk (bv r n)).isNone=am then Oa+(n-a0v)else tp (bv r n)
theorem xX{h:Heap}[e3](e:Qq<=n):Th n=ap:=UR e
theorem DL[h_]{a:Nat}[eX](W:C3):ρN σ a i=eT:=by obtain⟨r,n⟩:=i;show(if _ then _ else _)=_;rewrite [b9];rfl;rintro⟨_,_,q⟩;unfold ao at W;replace W:=a4Y q▸W;exact cT W
theorem wQ[h_]{a j:Nat}(D:nk (nn (a0v+j))=ap):ρN σ a (nn (a0v+j))=Oa+j:=by show(if _ then _ else _)=_;exact rwL (c4 ⟨rfl,QY _ _,by exact rwL D;rfl⟩);rewrite [a3a];rfl
def Sg.entered[iv](a:Nat)(m1:ac)(h₁:Heap):Sg:=⟨ρN σ a,σ.δ,m1,su⟩
theorem fG[h_]{a j:Nat}{m1:ac}{h₁:Heap}(D:nk (nn (a0v+j))=ap):(σ.entered a m1 su).ρ (nn (a0v+j))=Oa+j:=wQ D
structure nA (m m1 : ac) (B : dd) (c : pb) : a5 where
  iff : a8i
  free : ∀ j x, c[j]? = eI → m.H (nn (X' + j)) = ap
theorem nA.new{m m1:ac}{B:dd}{c:pb}(h:nA m m1 B c)[R0](e:m1.H i=ck)(q:Fc=ap):∃j x,c[j]? =eI/\i= nn (X'+j)/\o= f2 a0J:=((h.iff i o).mp e).elim (λz=>by replace q:=z▸q;exact iy q) λz=>z.2
theorem xY[h_]{a:Nat}{m1:ac}{h₁:Heap}{B:dd}{F:us}{c:pb}[m2](h:a=σ.h.objs.size)(K:nA hM m1 B c)(M:BR C σ B F)(u:∀b o,PP->h₁.get? b=ck)(L:∀[hB][xd],c[j]? =eI->h₁.IsCell (Oa+j) (R3 x)):bH C (σ.entered a m1 su)/\SN (σ.entered a m1 su):=by
 exact dl7 σ a m1 su B F c;refine I.makes (λi o e=>(K.iff i o).mpr (b7 e)) (λi W=>DL W) hS u (λi o e q=> ? _) (λi j E v r f n l z=> ? _) (λx i o e q=> ? _);. refine d9 (K.new e q) λj x g w=> ? _;subst w;intro k;subst k;refine⟨rfl,? _⟩;exact a3 (fG q) h;rewrite [a0C];exact QY _ _
 . refine d9 (K.new r f) λd t g w=> ? _;subst w;intro k;subst k;refine d9 (K.new n l) λm s p w=> ? _;subst w;intro k;subst k;replace z:=fG f▸z;replace z:=fG l▸z;exact rwL (show d=m from Nat.add_left_cancel (show(Oa:Nat)+d=Oa+m from z));rfl
 . refine d9 (K.new e q) λj y g w=> ? _;subst w;intro k;subst k;refine⟨R3 y,? _,(M.ext I x).look y⟩;exact rwL (fG q);exact L j y g
theorem Jw{d:mD}{B:dd}{F:us}{env:Env}{k7:Str}[lS]{Q:Value}{cells:OX}{m1:ac}{l:p_}[h_]{s U:Shared}[FL](M:BR C σ B F)(S:(B.map w1).Nodup)(j6:(cn Q3).Nodup)(N:d.scope.kind= Wd)(m:env=newEnv d.scope l5 PT (cellsFrom QM Q3 []) k7 C1 Q ap W_)(Y:InCallC s np (bindL KX F U6) env.cells (bindC KX F U6) U)(e8:∀x∈cn Q3,SQ x=OM)(c8:∀t,mF Q3=aj t->∃c P,Q= a2 c/\C.tabs t=aj P/\CodeHd C.gb c P)(k6:Jv B (gu Q3) hM m1 mz)(T:YT):∃D,Ob/\D.m=m1/\ty/\cw C Ri D env ⟨d.scope,B.filter λp=>SQ c5==xw,mz⟩/\bM N_ D:=by
 revert σ s U;exact gs d B F env k7 a Q mz m1 l;exact dl3 σ s U;have I:=lv;obtain⟨G,i0,f8⟩:=k6;have K:nA hM m1 B (cn Q3):=⟨i0,f8⟩;have eL:np=l5:=by ext Wa
 have f9:env.cells=((cn Q3).zipIdx QM).reverse:=by exact rwL m;show cellsFrom _ _ _=_;rewrite [gd];rewrite [TX];rfl
 have i8:∀x,KX x=SQ x:=λx=>by ext Wa
 have k5:(F.map w1).Nodup:=M.names▸S;refine i5 Y.done λh₁ e9 k8 R=> ? _;have E:U.heap=su:=by exact rwL k8;rfl
 have Z:h₁.Ns np (bindL KX F U6):=E▸Y.toInCall.ns;refine bx (xY (h₁:=su) I (hh (λh:Heap=>Qq) eZ) K M (λb o e=>R b o Wg) (λj x e=>by have this:=Y.cell x _ (show env.cells.lookup x=aj (QM+j)by exact rwL f9;exact nZ _ _ _ _ j6 e);replace this:=nY _ _ _ k5▸b_;rewrite [i8]at this;rewrite [b9 (by exact rwL (e8 x (SP e));decide)]at this;replace this:=E▸b_;rwa [Option.or_none]at this)) λe6 x=> ? _;have j8:j' np=ap:=by exact rwLR eL eZ;exact xX nl
 have c9:¬gJ (σ.entered l5 m1 su) np:=λq=>by
  refine d9 q λi o e W A=> ? _;clear q;refine cM lc D_ λo' z=> ? _
  .refine d9 (K.new e z) λj y g i6=> ? _;subst i6;intro c7;subst c7;rcases A with A|⟨H,_⟩;. replace A:=fG z▸A;replace A:=eL▸A;have A: @Eq Nat l5 (QM+j):=A;refine bn (nat_lit 0x1d0b310311000002) cb [] A a0
   . exact cT H
  .rcases TF _ ⟨i,o,e,W,A⟩with q|q;. refine aN (fB I q) λo' r J=> ? _;replace r:=j8▸r;exact bG r
   . have f7:gJ σ np:=⟨i,o',z,by have u:=(K.iff i o').mpr (b7 z);rwa [show o=o' from hR (a0I u)]at W,by have u:=(K.iff i o').mpr (b7 z);replace A:=(show o=o' from hR (a0I u))▸A;exact A.imp (λh=>h.trans (x.ρ i (ce z))) λh=>⟨h.1,h.2⟩⟩;refine aN (fB I f7) λo' r J=> ? _;replace r:=j8▸r;exact bG r
 have i7:PO np=ap:=by
  refine cM (PO np) b4 W9;. rfl
  . have:=I.base _ _ q;replace this:=j8▸b_;exact bG b_
 refine uU (id Z) λoL j7 i9 X k9 J=> ? _;have d8:d.scope.kind≠.module:=by exact rwL N;decide
 refine⟨σ.entered l5 m1 su,⟨E,e6,by exact rwL k8;exact at_.gens,by exact rwL k8;exact at_.os⟩,rfl,x,⟨λe e7=> ? _,? _,λy k e=> b7 ((i8 y).trans e),? _,? _,⟨_,Z,λy v e=> ? _⟩,a2p,c9,i7,λt e=>by exact rwL m;exact c8 t e⟩,λb A=> ? _⟩
 .rcases nr e7 with rfl|e7;. exact⟨by exact rwL m;exact d8,e.locals,oL,j7,i9,by ext Wa,X,k9,c9,i7⟩
  . exact(T e e7).ext x W6
 . exact rwL m;exact N
 . ext Wa
 . ext Wa
 .refine bx (pP (p:=λn=>SQ n==aj NameKind.local) e) λg u=> ? _;have L:=M.look y;replace L:=g▸L;exact rwL (nX _ _ _ k5);rewrite [i8];exact a3 (c4 (f1 u)) Option.or_none;refine cM (R3 y) b4 λw q=> ? _;. replace L:=q▸L;exact L.elim
  . replace L:=q▸L;exact⟨w,rfl,VR.ext I x eH L⟩
 .have e:cells.lookup y=aj c:=e;replace e:=G▸e;rewrite [jf]at e;refine cM (((cn Q3).zipIdx a0v).lookup y) b4 λn q=> ? _;. ext Q6;ext pf
  . ext Q6;refine aN (xW _ _ _ _ q) λj H j9=> ? _;subst j9;ext RK;have f:=f8 j y H;exact⟨ce ((i0 _ _).mpr (ba ⟨f,j,y,H,rfl,rfl⟩)),by exact rwL f9;exact(nZ _ _ _ _ j6 H).trans (hh aj (wQ f).symm)⟩
 . subst A;exact⟨c9,oL,X,dw k9⟩
section E
section
open PySem PySem.W PySem.Calls PyProof.Rows
theorem u3[a46]{m:h7}{name:Str}{hsh:Int}{t:Tok}{v:Value}(hd:a18)(N:StrKeys Y)(u:∀x,nsFind Y x=m x):∃f l,(Obj.putName name hsh (c1 name t) v o)={o with data:= .dict f l}/\StrKeys f/\(∀x,nsFind f x=if x=name then d0 else m x)/\f.size=if(m name).isSome then Y.size else Y.size+1:=by
 exact dl8 o Y j m name hsh t v;obtain⟨c,d,k,a⟩:=o;dsimp only at hd;subst hd;have Q:(m name).isSome=(Y.findIdx? a3A).isSome:=by exact rwR (u name);unfold nsFind findBy;rewrite [Option.isSome_map,Array.findIdx?_isSome,Bool.eq_iff_iff,Array.find?_isSome,Array.any_eq_true'];try rfl
 refine cM (Y.findIdx? a3A) (λW=> ? _) w8
 .replace Q:=W▸Q;refine⟨_,c_,by simp only [Obj.putName_eq,Obj.putNameByArray,W];rfl,N.push _ _ _ _,λx=> ? _,by exact rwL Q;simp⟩;rewrite [<-u]
  exact findBy_push (λn v=>v.isStr n) Y name x _ _ v (λy=>by
   show(name==y)=fl (y=name);exact bcH h (y=name);. subst h;simp
   . have:¬name=y:=λe=>h e.symm;simp [h,b_]) W
 . replace Q:=W▸Q;refine⟨_,j,by simp only [Obj.putName_eq,Obj.putNameByArray,W];rfl,N.modify _ _,λx=> ? _,by exact rwL Q;simp⟩;rewrite [<-u];exact findBy_modify (λn v=>v.isStr n) Value.isStr_inj Y name x v i W
theorem qy[a46]{m:h7}(hd:a18)(N:StrKeys Y)(u:∀x,nsFind Y x=m x)(name:Str):lookIn name o=aj (m name):=by
 unfold lookIn;exact rwL hd;ext ON;have e:Y.toList.find? a3A=Y.find? a3A:=by simp
 exact rwLR e (u name);unfold nsFind findBy
 cases d:Y.find? a3A with
  |some e=>simp
  |none=>
   have:Y.toList.any (·.refKey)=av:=by rewrite [List.any_eq_false];intro e y;refine IZ (N e (by simpa using y)) λn t h=> ? _;simp [DictEntry.refKey,h]
   simp [b_]
theorem Ai{k m:Str}{v P:V}{r:dd}:dS k v ((m,P)::r)=if m==k then(k,v)::r else(m,P)::dS k v r:=rfl
theorem mI(k:Str)[ss]:∀F:dd,(dS k v F).length=if(R3 k).isSome then Us else Us+1
 |[]=>rfl
 |(k',v')::r=>by
  exact a3 Ai s0;exact bcH h ((k'==k)=am)
  .exact rwL Pa;have:(k==k')=am:=by exact rwL (f1 h);simp
   simp [b_]
  .exact rwL Rt
   have:(k==k')=av:=by
    refine cO (k==k') b4 b4;. exact b6 (by exact rwL (f1 q);simp) h
    . rfl
   exact ec b_ XQ (mI k v r);simp only;exact bcH e ((r.lookup k).isSome=am)<;>simp [e]
theorem jK(k:Str)[ss]:∀(F:dd)[xd],(dS k v F).lookup x=if x=k then d0 else R3 x
 |[],x=>by
  show List.lookup x [(k,v)]=_;exact rwL s0;exact bcH h (x=k);. subst h;simp
  .have:(x==k)=av:=by simpa using h
   simp [b_,h]
 |(k',v')::r,x=>by
  exact rwL Ai;exact bcH h ((k'==k)=am)
  .exact rwL Pa;have h:=f1 h;subst h;exact a3 s0 s0;exact bcH e (x=k');. subst e;simp
   .have:(x==k')=av:=by ext Vg
    simp [b_,e]
  .exact ec Rt s0 s0;rewrite [jK k v r];exact bcH e ((x==k')=am);. ext ea;have:x≠k:=λz=>h (by exact rwRL (f1 e) z;simp);simp [b_]
   .have e:(x==k')=av:=by ext Vg
    ext PD
section
variable{A:Around}{X:XP}{S:ey}{σ:Sg}{α β γ δ:cv}{mg mb:h7}
inductive Jx [Ro] (h : Heap) [xi] (c : Str) (F : dd) : a5 where
  | mk (A : Addr) (o : Obj) (Y : Array DictEntry) [hB] (k : C.ca c = aj A) (at_ : InstAt h eT (instObj A Qx) A ck) (d : Th Qx = ck) (l : o.cls = lL "dict") (a : a18)
      (sz : Y.size = Us) (b : StrKeys Y) (v : ∀ x, OR C σ (R3 x) (nsFind Y x))
theorem rn[P5]{c:Str}{F:dd}(W:lc=aj (sh F)):Jx C σ e5 i c F:=by exact rwL eZ;refine GU (Ye i _ W) λA K G T k N L=> ? _;refine xM k λp Y j I B z E=> ? _;clear k;refine xM N λo' f l b1 P Q v=> ? _;clear N;have g:o'=p:=hR (b1.symm.trans I);have u:f=Y:=(Data.dict.inj ((g▸Q).symm.trans B)).1;exact⟨A,p,Y,j,G,⟨T,rfl,rfl,I⟩,I,g▸P,B,u▸v,z,λx=>E x▸L x⟩
structure F8 [Qc] (A : Addr) (a : Str) : a5 where
  plain : plainGet K A a = am
  dict : hasDictIn K A = am
  find : ∃ b, a1U a = C2 ∧ noGet K b = am
  set : a1U "__setattr__" = a64
  over : plainOver K A = am
  taker : takerIn K A a = aj ap
theorem sY{K:Frag}{A:Addr}{a:Str}(h:q9 K A a=am):F8 K A a:=by
 unfold q9 at h;simp only [py]at h;refine⟨h.1.1.1.1.1,h.1.1.1.1.2,? _,f1 h.1.1.2,h.1.2,f1 h.2⟩;have h:=h.1.1.1.2;refine cM (a1U a) (λd=> ? _) λb d=> ? _;. replace h:=d▸h;exact s1 h
 . replace h:=d▸h;exact⟨b,rfl,h⟩
set_option tactic.hygienic true in theorem VR.handed[US]:handedIn w=am:=by cases h<;>first|rfl|(rename_i h;cases w<;>first|rfl|exact h)
theorem Aj(n:C.K.In C.gb)(G:nq C)[P5]{c a:Str}{F:dd}{u:V}{f:Bool}(P:lc=aj (sh F))(L:eM c a=am)(T:R3 a=aj u)[V6](k:∀U w,At C σ U->dm u w->Q w U):D1 (getAttr e0 a f) Q E s:=by
 cases rn at_ P with
  |mk d o Y j b I hd _ m _ N H=>
   have H:=H a;replace H:=T▸H;have D:=sY (G c d a b L);have e:=qy m N hS a;refine cM (nsFind Y a) (λr=> ? _) λw r=> ? _;. replace H:=r▸H;exact H.elim
   . rw [r]at H e;exact get_value (mG n at_) I (plainGet_of D.plain).1 (findObj_own D.dict D.find.choose_spec.1 D.find.choose_spec.2 e) (VR.handed H) (k _ _ Qj H)
theorem sZ(n:C.K.In C.gb)(G:nq C)[US]{a:Str}{f:Bool}:eG (getAttr w a f) (bE v a):=by refine Vk (T:=λw=>getAttr w a f) h λi J=>R4 Ug;induction o using z5 with|inst c F=>exact hE (λL=>aa.ofOpt λu T=>oi λs at_ Q E k=>Aj n G at_ P L T k) nz|_=>ext d6
theorem Ak[Rh]{K:Frag}[XI]{a:Str}{z:Value}{x d:Addr}{B:Addr}[a46](V:∃p w,M=model p w)(X:K.In e5)(I:InstAt e5 x (instObj B d) B ck)(hd:p0 d=ck)(g:F8 K B a)(m:a18)(N:StrKeys Y)(u:Y.size<=1000)(q:∀h' f l t,E' d=aj {o with data:= .dict f l}->T5 d e5 h'->StrKeys f->(∀y,nsFind f y=if y=a then aj z else nsFind Y y)->(f.size=if(nsFind Y a).isSome then Y.size else Y.size+1)->Q () UN):H' (setAttr (a2 x) a z) Q E s:=by
 revert B o Y j;exact gs A Q K M s E a z x d;exact dl4 B o Y j;refine IZ V λp w v=> ? _;clear V;subst v;refine set_plain X I g.set (osa_open (s:=Z3) X I g.over g.taker λb=> ? _);refine aN (any_some g.dict) λH L G=> ? _;refine I0 (u3 (name:=a) (hsh:=PyData.keyHash w.params a) (t:=i_+1) (v:=z) m N hS) λf l R T D r=> ? _;have i:(s.heap.update d (Obj.putName a (PyData.keyHash w.params a) (c1 a (i_+1)) z)).get? d=aj {o with data:= .dict f l}:=by rewrite [a29 hd (by exact rwL R;rfl),R];try rfl
 have C:=q _ f l (i_+1+1) i (Heap.SameBut.update ..) T D r;have c:f.size<=sizeLine:=by exact a3 r NM;split<;>lia
 clear q R T D r;refine b8 (f' (b8 (b8 (wpAny_loadPart I.at_ (b8 ((looks_clsIn (M:=model p w) X L).here (s:=Z3) ? _))))));exact rwL G;refine f' (a:=aj d) (b8 (f' (b8 ? _)));unfold nsSet;refine b8 (b8 (wpAny_askSetting (f' (b8 (wpAny_mkText (b8 (wpAny_loadPart hd ? _)))))));exact rwL m
 have k:(! Y.any (·.key.isStr a)&&Y.any (·.refKey))=av:=by
  have:Y.any (·.refKey)=av:=by rewrite [Array.any_eq_false'];intro e F;refine IZ (N e F) λn t h=> ? _;simp [DictEntry.refKey,h]
  ext Od;ext Wx;rfl
 ext ON;rewrite [aRefKeyMayBeTheName_at];exact rwL k;refine wpAny_updatePart hd (b8 (wpAny_lookBehind i (pastItsLine_dict (a0e c)) (f' C)))
theorem s5(n:C.K.In C.gb)(G:nq C){v u:V}{w z:Value}(h:FI)(B:dm u z){a:Str}:hO (λJ J J=>True) (setAttr w a z) (gy v a u):=by
 refine Vk (T:=λw=>setAttr w a z) h λi J=>R4 Ug
 induction o using z5 with
  |inst c F=>
   refine hE Tg nz;simp only [py,decide_eq_true_eq]at L;ext s2
   cases rn at_ P with
    |mk d o Y j b I hd W m hsz N H=>
     refine x4 (Ak ⟨_,_,rfl⟩ (mG n at_) I hd (sY (G c d a b L.1)) m N (hsz▸L.2) λh' f l t k Z T D r=> ? _)
     refine bx (at_.inv.upd (o':= sh (dS a u F)) P rfl (ba s4) (eZ▸Z) ⟨_,k⟩ rfl (λx=>by
      refine⟨d,nsFind f,b,? _,⟨_,f,l,k,rfl,T,hS⟩,⟨_,f,l,k,W,rfl,? _⟩,Xj⟩;. exact(Z.2 _ λz=>at_.inv.rd i i _ (ce P) P rfl z).trans I.at_
      . exact rwL r;rewrite [mI];exact rwL hsz;have:=H a;cases g:R3 a<;>cases K:nsFind Y a<;>(replace this:=g▸b_;replace this:=K▸b_)<;>first|exact this.elim|rfl
      .rewrite [jK];rewrite [D];exact bcH e (y=a);. exact a3 (c4 e) (c4 e);exact B.ext lv x eH
       . exact a3 (b9 e) (b9 e);exact(H y).ext lv x eH)) λq x=> ? _;exact O.ok _ _ _ rfl x.of0 (P9 x) ⟨rfl,q,at_.gens,at_.os⟩ ep
  |_=>ext d6
section E
section E
section
open PySem PySem.W PySem.Calls PyProof.Rows PySem.SeqAt
theorem eU(b:N')(t:Tok):Gives (Builtin.«bytes.__eq__» ⟨[hj t,a1],[]⟩) (.val (Value.notImplemented)):= .of_wp λM A E s Q h=>by obtain⟨O,g,d,r,os⟩:=s;have k:=F.sub_NoneType_bytes;wp_walk;exact a2e
theorem dN(b:N')(t:Tok):Gives (Builtin.«NoneType.__eq__» ⟨[a1,hj t],[]⟩) (.val (Value.notImplemented)):= .of_wp λM A E s Q h=>by obtain⟨O,g,d,r,os⟩:=s;wp_walk;exact a2e
theorem gB:Slot UE (cmpInfo .Eq).2.2 "bytes.__eq__":= .of (owner:=UE) (n:="__eq__") (by ext RE) (by ext ij) (by ext ij) (by ext ij) (by first|exact b7 (by ext ij)|exact ba (by ext ij)) (by ext QV)
section
variable{A:Around}{s:Shared}
theorem pQ(b:N')(u:Tok):RcAt A s a1 (hj u) av:=λprog w E Q h=>rc_eq_decline_or (k:=av) rfl (VY s b u) (by decide) F.sub_bytes_NoneType F.slot_NoneType_eq gB (λJ B=>call_gives F.slot_NoneType_eq rfl F.entry_NoneType_eq (F.args_NoneType_eq_2 _ _) (dN b u) B) (λJ B=>call_gives gB (VY s b u) FB.entry_bytes_eq (FB.args_bytes_eq_2 _ _) (eU b u) B) (λJ B=>Qm (rfl:isSame a1 (hj u)=A') B) hA h
theorem pR(b:N')(u:Tok):RcAt A s (hj u) a1 av:=λprog w E Q h=>rc_eq_decline_or (k:=av) (VY s b u) rfl (by decide) F.sub_NoneType_bytes FB.slot_bytes_eq F.slot_NoneType_eq_refl (λJ B=>call_gives FB.slot_bytes_eq (VY s b u) FB.entry_bytes_eq (FB.args_bytes_eq_2 _ _) (eU b u) B) (λJ B=>call_gives F.slot_NoneType_eq_refl rfl F.entry_NoneType_eq (F.args_NoneType_eq_2 _ _) (dN b u) B) (λJ B=>Qm (rfl:isSame (hj u) a1=A') B) hA h
theorem Al(b c:N')(t u:Tok):RcAt A s (hj t) (ek c u) (b.toList==c.toList):=λprog w E Q h=>richCompare_gives (op:= .Eq) (T:=UE) rfl rfl FB.slot_bytes_eq FB.entry_bytes_eq (FB.args_bytes_eq_2 _ _) (gives_bytes_eq b c t u) (λx=>(by cases x)) h
theorem u4(b c:N')(t u:Tok):RcNeAt A s (hj t) (ek c u) (!(b.toList==c.toList)):=λprog w E Q h=>richCompare_gives (op:= .NotEq) (T:=UE) rfl rfl FB.slot_bytes_ne FB.entry_bytes_ne (FB.args_bytes_ne_2 _ _) (gives_bytes_ne b c t u) (λx=>(by cases x)) h
theorem Am{u v:Value}{r:Bool}(d:∀b t,u≠.float b t)(h:RcAt A s u v r)(Z:u=v->r=am):EqAt A s u v r:=λprog w E Q B=>by
 unfold eqBool;refine S3 ? _;refine wpAny_ite_split zf O5;. have:=Z (f1 a);subst this;exact b8 (wpAny_rule (f' B))
 . cases u<;>first|exact O9 (d _ _)|exact b8 (h hN w E _ (wpAny_truthy_bool B))
section E
theorem n3{f:S5}{I:b5}:∀{p:b5}{r:Bool},hZ f I p=un->∃e:Vm,r=(List.range (min kN p.length)).all e/\∀j x y,I[j]? =eI->p[j]? =aj y->f x y=aj (e j):=by
 induction I with
  |nil=>intro p r h;exact⟨λJ=>am,(by exact rwRL (hR h) a4f;rewrite [Nat.zero_min];rfl),λj x y Y=>bG Y⟩
  |cons x I G=>
   intro p r h
   induction p using li with
    |nil=>exact⟨λJ=>am,(by exact rwRL (hR h) a4f;rewrite [Nat.min_zero];rfl),λj x y J hy=>bG hy⟩
    |cons y p=>
     refine aN ZS λa H F=> ? _;refine aN (ZV F) λb Q d=> ? _;subst d;refine aN (G Q) λe g u=> ? _;refine⟨λj=>Nat.casesOn j a e,? _,λj i c Y hy=> ? _⟩;. exact a3 XQ XQ;rewrite [Nat.succ_min_succ];exact w3 List.range_succ_eq_map List.all_cons List.all_map g;rfl
     . induction j using Qn with|zero=>have O:=hR Y;clear Y;subst O;have O:=hR hy;clear hy;subst O;exact H|succ j=>exact u j i c Y hy
theorem bW.getElem[h_][q']{ws:y_}(h:OV ws.toList)[mv](D:j<ws.size):∃v,vs[j]? =d0/\dm v ws[j]:=by
 have T:=h.length;have B:j<ka:=by exact rwL T;simpa using D
 refine aN (h.get (F4 B)) λw H F=> ? _;refine⟨_,F4 B,? _⟩;have:ws.toList[j]? =aj ws[j]:=by simp [D]
 replace H:=b_▸H;have O:=hR H;clear H;subst O;exact F
section
variable{A:Around}{X:XP}{S:ey}{σ:Sg}{α β γ δ:cv}
theorem bU[QT][lS]{items:y_}[e3](h:j' a=aj {cls:= PQ,data:= .seq kn n}):s.heap.IsTuple a kn:=⟨_,eZ▸h,rfl,n,rfl⟩
theorem n6{f:S5}(g:∀a b w r,dm a w->dm b w->f a b=un->r=am){I:b5}:∀{p:b5}{ws:eS}{r:Bool},xb I ws->xb p ws->hZ f I p=un->r=am:=by induction I with|nil=>intro p ws r _ _ h;exact(hR h).symm|cons x I G=>intro p ws r H F h;refine d9 H.cons_inv λw o e=> ? _;subst e;intro a b;cases F with|cons c d=>refine aN ZS λx H F=> ? _;refine aN (ZV F) λy Q e=> ? _;subst e;exact a3 (g _ _ _ _ a c H) (G b d Q);rfl
def jT(o:Qb)(P:b2->a5):a5:=match o with|un=>P r|ap=>True
theorem jT.use{o:Qb}{P:b2->a5}(h:jT o P){r:Bool}(e:o=un):P r:=by ext Qp;exact h
theorem jT.map{o:Qb}{P Q:b2->a5}(h:jT o P)(f:∀r,P r->Q r):jT o Q:=by induction o using u_ with|none=>trivial|some r=>exact f r h
theorem s6(o:ez ae){P:ez b5->a5}(n:P ap)(l:∀I,o=aj (bC I)->P (aj I)):P (iS o):=by induction o using u_ with|none=>exact n|some o=>cases o<;>first|exact l _ rfl|exact n
section
variable{b:V}{v:Value}{P:V->m9->b2->a5}
theorem wS(M:dm b v){d:Int->b2}{Z:Str->b2}(Q:∀y t,P (a4 y) (a4 y t) (d y))(F:∀y t,P (c1 y) (c1 y t) (Z y)):jT (zW b d Z) (P b v):=by induction b using kb with|int y=>exact M.int_el (P:=λv=>P (a4 y) v (d y)) (Q y)|str y=>exact M.str_el (P:=λv=>P (c1 y) v (Z y)) (F y)|_=>trivial
theorem Hd(M:dm b v){k:b2->b2}(f:∀y,P (hP y) (hP y) (k y)):jT (LJ b k) (P b v):=by induction b using kb with|bool y=>exact M.bool_el (P:=λv=>P (hP y) v (k y)) (f y)|_=>trivial
theorem He(M:dm b v){k:d7->b2}(f:∀y t,P (ek y) (ek y.toArray t) (k y)):jT (LK b k) (P b v):=by induction b using kb with|bytes y=>exact M.bytes_el (P:=λv=>P (ek y) v (k y)) (f y)|_=>trivial
theorem DM(M:dm b v){k:b5->Qb}(f:∀p a items,j' a=Wp->xb p Pn->jT (k p) (P (hD p) er)):jT (G7 b k) (P b v):=by induction b using kb with|tup y=>exact M.tup_el (P:=λv=>jT (k y) (P (hD y) v)) (f y)|_=>trivial
theorem DN(M:dm b v){k:Id->Qb}(f:∀i,C3->jT (k i) (P eF e0)):jT (G8 b k) (P b v):=by induction b using kb with|ref y=>exact M.ref_el (P:=λv=>jT (k y) (P (a2 y) v)) (f y)|_=>trivial
section E
theorem An{f:S5}{P:V->V->m9->m9->b2->a5}[YN][Z'](d:∀b v,dm b v->jT (i9 b) λr=>P a1 b a1 v r/\P b a1 v a1 r)(e:∀x t y Y,P (a4 x) (a4 y) Ur (a4 y Y) L2)(L:∀x t y Y,P (a4 x) (c1 y) Ur (c1 y Y) av)(q:∀x t y Y,P I' (a4 y) (I' t) (a4 y Y) av)(n:∀x t y Y,P I' (c1 y) (I' t) (c1 y Y) L2)(bb:∀x y,P (hP x) (hP y) (hP x) (hP y) L2)(o:∀x t y Y,P (ek x) (ek y) (ek x.toArray t) (ek y.toArray Y) L2)(w:∀I G L p T U,j' G=aj {cls:= PQ,data:= .seq L}->xb I L.toList->j' T=aj {cls:= PQ,data:= .seq U}->xb p U.toList->jT a6S (P (hD I) (hD p) (a2 G) (a2 T)))(z:∀i j I p,C3->Ql j->WN->nk j=aj (bC p)->jT (zG f I p) (P eF (a2 j) e0 a2o)):jT (pN f nk a b) (P a b u v):=by
 exact dl7 σ f P a b u v;unfold pN;exact bcH na (d8 a=am);. exact rwL (c4 na);rw [jJ na]at m⊢;exact m.none_el (P:=λu=>jT (i9 b) (P a1 b u v)) ((d b v M).map λJ h=>h.1)
 exact rwL (b9 na);exact bcH nb (d8 b=am);. exact rwL (c4 nb);rw [jJ nb]at M⊢;exact M.none_el (P:=λv=>jT (i9 a) (P a a1 u v)) ((d a u m).map λJ h=>h.2)
 exact rwL (b9 nb);clear na nb d;induction a using kb with|int x=>exact m.int_el (P:=λu=>jT (zW b _ _) (P (a4 x) b u v)) λt=>wS (P:=λb=>P (a4 x) b Ur) M (e x t) (L x t)|str x=>exact m.str_el (P:=λu=>jT (zW b _ _) (P I' b u v)) λt=>wS (P:=λb=>P I' b (I' t)) M (q x t) (n x t)|bool x=>exact m.bool_el (P:=λu=>jT (LJ b _) (P (hP x) b u v)) (Hd (P:=λb=>P (hP x) b (hP x)) M (bb x))|bytes x=>exact m.bytes_el (P:=λu=>jT (LK b _) (P (ek x) b u v)) λt=>He (P:=λb=>P (ek x) b (ek x.toArray t)) M (o x t)|tup I=>exact m.tup_el (P:=λu=>jT (G7 b _) (P (hD I) b u v)) λG L g1 k=>DM (P:=λb=>P (hD I) b (a2 G)) M λp T U g2 D=>w I G L p T U g1 k g2 D|ref i=>exact m.ref_el (P:=λu=>jT (G8 b _) (P eF b u v)) λc=>DN (P:=λb=>P eF b e0) M λj g=>s6 lc (P:=λl=>jT (l.bind λI=>(iS (nk j)).bind λp=>zG f I p) _) ep λI H=>s6 (nk j) (P:=λl=>jT (l.bind λp=>zG f I p) _) ep λp F=>z i j I p c g H F|_=>trivial
theorem VR.none_of{b:V}{r:Bool}(h:dm b a1)(e:i9 b=un):r=am:=by cases h<;>first|exact XY|cases(show(Option.none:Qb)=un from e)
theorem s7[m2]{f:S5}(d:∀a b w r,dm a w->dm b w->f a b=un->r=am)[YN][Z']:jT (pN f nk a b) λr=>u=v->r=am:=An (P:=λJ J u v r=>u=v->r=am) m M (λb v h=>by
 refine cM (i9 b) b4 λr q=> ? _;. trivial
 . exact⟨λe=>VR.none_of (e▸h) q,λe=>VR.none_of (e▸h) q⟩) (λx t y Y e=>WM (Value.int.inj e).1) (λx t y Y e=>Value.noConfusion e) (λx t y Y e=>Value.noConfusion e) (λx t y Y e=>WM (Value.str.inj e).1) (λx y e=>WM (Value.bool.inj e)) (λx t y Y e=>WM (Array.mk.inj (Value.bytes.inj e).1)) (λl G L p T U g1 k g2 D=>by
 refine cM (hZ f l p) (λQ=> ? _) λy Q=> ? _;. trivial
 . intro e;replace g1:=Value.ref.inj e▸g1;replace g1:=g2▸g1;cases g1;show(y&&OE==p.length)=am;exact ec (n6 d k D Q) k.length D.length;rewrite [Bool.true_and];exact TV _) (λi j l p c g H F=>by
 refine cM (zG f l p) (λQ=> ? _) λy Q=> ? _;. trivial
 . intro e;replace H:=I.rr i j c g (Value.ref.inj e)▸H;replace H:=F▸H;cases H;unfold zG at Q;replace Q:=s_▸Q;exact i5 (iE I F) λitems n J Z=>n6 d Z Z Q)
theorem Ao[m2]:∀(d:Nat)[Pf](w:Value)(r:Bool),dm a w->dm b w->q6 nk d a b=un->r=am:=by
 intro d
 induction d with
  |zero=>intro a b w r _ _ h;ext rs
  |succ d G=>
   intro a b w r m M h;ext a8R;. replace h:=c4 e▸h;ext xp;rfl
   . replace h:=b9 e▸h;exact(s7 I G m M).use h rfl
set_option tactic.hygienic true in theorem VR.notFloat[US]:∀b t,w≠.float b t:=by intro b t e;subst e;cases h;rename_i n H F;exact cT F
def Lb[OF][Rj][Pf](u v:Value)(r:Bool):a5:=RcAt A s u v r/\(pO a b=am->RcNeAt A s u v (! r))
theorem xZ(o:Vu<cLine)[QT]{b:V}{v:Value}(M:dm b v):jT (i9 b) λr=>Lb A s a1 b a1 v r/\Lb A s b a1 v a1 r:=by cases M with|none=>exact⟨⟨.none_none,λJ=> .none_none⟩,.none_none,λJ=> .none_none⟩|bool=>exact⟨⟨.none_bool _,λJ=> .none_bool _⟩,.bool_none _,λJ=> .bool_none _⟩|int=>exact⟨⟨.none_int _ _,λJ=> .none_int _ _⟩,.int_none _ _,λJ=> .int_none _ _⟩|str=>exact⟨⟨.none_str _ _,λJ=> .none_str _ _⟩,.str_none _ _,λJ=> .str_none _ _⟩|bytes=>exact⟨⟨pQ _ _,λq=>s1 q⟩,pR _ _,λq=>s1 q⟩|tup _ _ _ g=>exact⟨⟨.none_tuple (bU at_ g) o,λJ=> .none_tuple (bU at_ g) o⟩,.tuple_none (bU at_ g) o,λJ=> .tuple_none (bU at_ g) o⟩|_=>trivial
theorem Hf{f:S5}[o2]{i j:Id}{I p:b5}(o:Vu<cLine)[FL](d:a6l)(t:WN)(O:nk j=aj (bC p)):jT (zG f I p) λr=>RcAt A s e0 a2o r/\RcNeAt A s e0 a2o (! r):=by
 exact dl8 A σ f s i j I p;refine fk (cg at_ t) λL T Z g=> ? _;refine fk (cg at_ O) λU N q k=> ? _;unfold zG;exact bcH hn (kN=p.length)
 .exact rwL (c4 hn);refine cM (hZ f I p) V' λr h=> ? _;. trivial
  .refine aN (n3 h) λe Y W=> ? _;have B:∀j(H:j<L.size)(F:j<U.size),EqAt A.in1 s L[j] U[j] (e j):=λj H F=>by exact aN (Z.getElem H) λx c K=>aN (q.getElem F) λy m n=>d _ _ _ _ _ K n (W j x y c m)
   have R:r=(List.range L.size).all e:=by exact rwLR Y hn;rewrite [Nat.min_self];ext NZ;rfl
   have l:L.size=U.size:=g.symm.trans (hn.trans k);exact rwL R;exact⟨.lists T N l o B,.lists T N l o B⟩
 . exact rwL (b9 hn);have:(L.size !=U.size)=am:=bne_iff_ne.mpr λz=>hn (g.trans (z.trans k.symm));exact⟨.lists_lengths T N b_ o,.lists_lengths T N b_ o⟩
theorem Ap(o:Vu<cLine){f:S5}[QT](d:a6l){I p:b5}{G T:Addr}{L U:y_}(g1:j' G=aj {cls:= PQ,data:= .seq L})(k:xb I L.toList)(g2:j' T=aj {cls:= PQ,data:= .seq U})(D:xb p U.toList):jT a6S λr=>RcAt A s (a2 G) (a2 T) r/\RcNeAt A s (a2 G) (a2 T) (! r):=by
 refine cM (hZ f I p) V' λy h=> ? _;. trivial
 .refine aN (n3 h) λe Y W=> ? _;have B:∀j(H:j<L.size)(F:j<U.size),EqAt A.in1 s L[j] U[j] (e j):=λj H F=>by exact aN (k.getElem H) λx c K=>aN (D.getElem F) λy m n=>d _ _ _ _ _ K n (W j x y c m)
  have g:_=L.size:=k.length.trans (SR ..);have i:_=U.size:=D.length.trans (SR ..);show RcAt A s _ _ (y&&kN==p.length)/\_;exact ec Y g i;exact⟨.tuples (bU at_ g1) (bU at_ g2) o B,.tuples (bU at_ g1) (bU at_ g2) o B⟩
theorem u5{f:S5}{A:Around}[QT](o:Vu<cLine)(d:a6l)[YN][Z']:jT (pN f nk a b) λr=>Lb A s a b u v r:=An (P:=λa b u v r=>Lb A s a b u v r) m M (λb v h=>xZ o at_ h) (λJ J J J=>⟨.int_int _ _ _ _,λJ=> .int_int _ _ _ _⟩) (λJ J J J=>⟨.int_str _ _ _ _,λJ=> .int_str _ _ _ _⟩) (λJ J J J=>⟨.str_int _ _ _ _,λJ=> .str_int _ _ _ _⟩) (λJ J J J=>⟨.str_str _ _ _ _,λJ=> .str_str _ _ _ _⟩) (λJ J=>⟨.bool_bool _ _,λJ=> .bool_bool _ _⟩) (λJ J J J=>⟨Al _ _ _ _,λJ=>u4 _ _ _ _⟩) (λJ J J J J J g1 k g2 D=>(Ap o at_ d g1 k g2 D).map λJ h=>⟨h.1,λJ=>h.2⟩) (λJ J J J J J H F=>(Hf o at_ d H F).map λJ h=>⟨h.1,λJ=>h.2⟩)
theorem Aq[m2][QT]:∀(d:Nat)[OF],Vu+d<cLine->∀[Pf](u v:Value)(r:Bool),dm a u->dm b v->q6 nk d a b=un->EqAt A s u v r:=by
 intro d
 induction d with
  |zero=>intro A _ a b u v r _ _ h;ext rs
  |succ d G=>
   intro A o a b u v r m M h;have i:=G A.in1 (by show Vu+1+d<cLine;refine bn (nat_lit 0x10a20310311000a203311100003) eb [] o a0);ext a8R
   .replace h:=c4 e▸h;ext xp
    have o:u=v:=by
     cases a<;>try exact s1 e
     cases b<;>try exact s1 e
     exact ec (m.ref_inv.1) (M.ref_inv.1) (a0d (show fl _=am from e));rfl
    exact rwL o;exact .same _
   . replace h:=b9 e▸h;exact Am m.notFloat ((u5 at_ (by refine bn (nat_lit 0x10a10000a103311200003) eb [] o a0) i m M).use h).1 λe=>by subst e;exact(s7 I (Ao I d) m M).use h rfl
abbrev jY[q4]:Sg->b2->UD:=λJ b w=>w= B_
theorem As{a b:V}[f_]{P:b2->ef}{PX:ef}(q:gM a b P PX m):∃r,YW=un/\P r m:=by
 have q:(match YW with|un=>P r m|ap=>gj):=q;refine cM YW V' λr h=> ? _;. replace q:=h▸q;exact q.elim
 . replace q:=h▸q;exact⟨r,rfl,q⟩
theorem cH.eqE{R:Sg->b2->α->a5}{a b:V}[f_]{Q:O'}{E:el}(O:NN R (gM a b) m Q E):∃r,YW=un/\NN R (b3 r) m Q E:=by ext a4R;exact aN (As q) λr h q=>⟨r,h,P,PX,N,Y,q⟩
theorem cH.eqEb{R:Sg->b2->α->a5}{a b:V}[f_]{Q:O'}{E:el}(O:NN R (Mine.Internal.gM a b>>=λr=>b3 (! r)) m Q E):∃r,YW=un/\NN R (b3 (! r)) m Q E:=by ext a4R;exact aN (As (P:=λr m=>P (! r) m) (PX:=PX) q) λr h q=>⟨r,h,P,PX,N,Y,q⟩
theorem Hg[YN](o:Y_)[Z']:hO (jY C) (Um .Eq u v) (gM a b):=by ext s2;exact aN O.eqE λr h O=>x4 (((u5 at_ (by refine bn (nat_lit 0x10a10000a103610002) cb [] o a0) (Aq lv at_ 5 A.in1 (by show Vu+1+5<cLine;omega)) m M).use h).1 _ _ E _ (O.ok σ s _ rfl Q2 p at_ rfl))
theorem Hh[YN](o:Y_)[Z'](B:pO a b=am):hO (jY C) (Um .NotEq u v) (do return !(<-gM a b)):=by ext s2;exact aN O.eqEb λr h O=>x4 (((u5 at_ (by refine bn (nat_lit 0x10a10000a103610002) cb [] o a0) (Aq lv at_ 5 A.in1 (by show Vu+1+5<cLine;refine bn (nat_lit 0x10a10351311000a103610002) cb [] o a0)) m M).use h).2 B _ _ E _ (O.ok σ s _ rfl Q2 p at_ rfl))
section E
section E
section
open PySem PySem.W PySem.Calls PyProof.Rows PySem.SeqAt
section
variable{A:Around}{X:XP}{S:ey}{σ:Sg}{α β γ δ:cv}
theorem aa.mapL{R:yy}{R':Sg->β->γ->a5}{t:kk}{f:α->γ}{x:i2}(h:wa x)(z:∀D b a,R D b a->R' D b (f a)):hO R' (t>>=λa=>b3 (f a)) x:=by ext s2;exact ad (aa.thru (λb=>b) h at_ p O λD U a b K r q=>ak (q _ (z _ _ _ r)))
theorem aa.silent{R:Sg->β->γ->a5}{t:kk}{k:α->Sem γ}{a:α}{x:i2}(h:∀s,N7->∀(Q:O')E,Q a s->Yk)(F:h9 (k a) x):h9 (t>>=k) x:=λs at_ p Q E O=>aA (U7 _ E (F s at_ p Q E O))
theorem aa.pureL{R:Sg->β->γ->a5}{k:α->Sem γ}{a:α}{x:i2}(F:h9 (k a) x):h9 (b3 a>>=k) x:=aa.silent (λJ J J J h=>f' h) F
theorem aa.made{R:yy}{t:kk}{b:β}(h:∀s,N7->∀(Q:O')E,(∀D U a,D.m=hM->ty->Ob->R D b a->Q a U)->Yk):wa (b3 b):=by ext s2;exact x4 (U7 Q E λD U a u x K z=>O.ok D U a u x.of0 (P9 x) K z)
theorem At.push[QT](o:Obj)(t:Nat):∃D,D.m=hM/\ty/\At C D {s with heap:=G1 o,toks:=t}/\D.h=G1 o/\D.ρ=tp:=by refine bx (at_.inv.push (h':=G1 o) (λb o' e=>Heap.get?_push_of_some o Wg)) λI x=> ? _;exact⟨{σ with h:=G1 o},rfl,x,ZT,rfl,rfl⟩
theorem k6[M'](h:tq)(B:ZG):eG (newTuple ws) (b3 w_):=by
 refine a0Z;refine qW (at_.push {cls:= PQ,data:= .seq ws.toArray} i_) λD m1 x K g u=> ? _;refine wpAny_newTuple (k D _ _ m1 x K (w_ _ ws.toArray ? _ ? _)) (by exact rwRL h.length NM;refine YG B a0);. ext NZ;exact Vz
 . simpa using h.ext lv x eH
theorem aa.map2{t:Sem b2}{x:xj b2}{f:b2->m9}{g:b2->b2}(h:hO (ny C) t x)(d:∀b,f b= hP (g b)):hO (jY C) (t>>=λr=>b3 (f r)) (x>>=λr=>b3 (g r)):=by ext s2;exact ad (aa.thru g h at_ p O λD U c b K z q=>ak (q _ (by cases z;exact d _)))
theorem x5[YN][Z']:hO (jY C) (Um .NotIn u v) (zY .NotIn a b):=by
 refine Oc (T:=λu=>Um .NotIn u v) m λx t=>aa.onTup (T:=λv=>Um .NotIn Ur v) M λvs T L g D=> ? _;refine aa.argl2 λp q e=>aa.onIntI λy d=>aa.onIntI λz l=>oi Xx;replace D:=e▸D;replace D:=d▸D;replace D:=l▸D;refine d9 D.two λw n h O B=> ? _;refine db O.int_inv λc U=> ? _;subst U;refine db B.int_inv λf U=> ? _;subst U;refine notIn_tupleAt (λw=>match w with| f6 _=>i==x|_=>av) (bU at_ g) (λw r=> ? _) (k s _ at_ ? _);. rewrite [<-Array.mem_toList_iff]at r;replace r:=h▸r;rewrite [Y6]at r;rewrite [List.mem_singleton]at r;rcases r with rfl|rfl<;>exact .int_int _ _ _ _
 .have W:L= #[a4 y c,a4 z f]:=Array.ext' h;subst W;show Value.bool _=Value.bool _;have j:(y==x)=L2:=by ext a90
  have h:(z==x)=(x==z):=by ext a90
  simp [j,h]
theorem gQ{op:CmpOp}[YN](o:Y_)[Z']:hO (jY C) (Um op u v) a0E:=by cases op with|Eq=>exact Hg o m M|NotEq=>exact hE (λh=>Hh o m M h) nz|Lt=>exact Xg (T:=Um .Lt) m M λx t y Y=>oi λs at_ Q E k=>PyProof.Rows.lt_int XT|LtE=>exact Xg (T:=Um .LtE) m M λx t y Y=>oi λs at_ Q E k=>PyProof.Rows.le_int XT|Gt=>exact Xg (T:=Um .Gt) m M λx t y Y=>oi λs at_ Q E k=>PyProof.Rows.gt_int XT|GtE=>exact Xg (T:=Um .GtE) m M λx t y Y=>oi λs at_ Q E k=>PyProof.Rows.ge_int XT|Is=>exact aa.mapL (sW m M) λJ J J h=>by ext Td|IsNot=>exact aa.map2 (sW m M) λb=>rfl|In=>ext d6|NotIn=>exact x5 m M
section E
section E
section
open PySem PySem.W PySem.Calls PyProof.Rows PySem.SeqAt
structure bh [q4] [OF] (X : XP) [P8] (R : gN) : a5 where
  ev : ∀ e env fm σ, k_ → x_ → PC N8 tb
  test : ∀ e env fm σ, k_ → x_ → U' (isTrue e env N8) (Qa e fm)
abbrev Jy[q4]:Sg->b5->eS->a5:=λσ vs ws=>tq
section
variable{A:Around}{X:XP}{σ:Sg}{l:p_}{R:gN}{env:Env}{fm:Fm}
abbrev Jz[q4][f0]:Sg->b5->eS->a5:=λσ vs ws=>tq/\ka=n
theorem Au[QG]{r:eP}:(Uq (e::r) env=(av,N8)::Uq r env/\qt R (e::r) fm=(do let v<-tb;return v::(<-qt R r fm)))\/qt R (e::r) fm=a8:=by cases e<;>first|exact b7 s4|exact NT
theorem jL[Qf][O_]:∀(Y:eP)[iv][O3],Op (Jz C Y.length) (spliced (Yo (Uq Y env))) (qt R Y fm):=by
 revert pos;exact dl6 A X l R env fm
 induction Y generalizing σ with
  |nil=>exact z0 λJ=>⟨.nil,rfl⟩
  |cons e r G=>
   rcases Au (e:=e) (r:=r) (env:=env) (R:=R) (fm:=fm)with⟨Z,y⟩|y;. exact a3 Z y;show Op (Jz C (r.length+1)) (N8>>=λv=>(b3 [v])>>=λh=>o1 h (spliced (Yo (Uq r env)))>>=λvs=>b3 (h++vs)) _;exact th B VF λj w v x d z=>aa.pureL (th B (B4 (G j (vd x) d)) λT ws vs t W a=>z0 λJ=>⟨t6 (Zh z) a.1,hh (·+1) a.2⟩)
   . exact rwL y;ext d6
theorem DO[Qf][O_](Y:eP)[iv][O3]:Op (Jy C) (spliced (Yo (Uq Y env))) (qt R Y fm):=aa.mono (jL B n pos Y σ F I) λJ J J J J h=>h.1
theorem jg[Qf](o:Y_)[O_]:∀(ops:dk CmpOp)(Y:eP)[iv](a:V)(u:Value),k_->x_->dm a u->Op (jY C) (compareChain pos u ops (W8 ops Y (evalEach Y env))) (jb R a ops Y fm)
 |[],Y,σ,a,u,F,I,h=>RH
 |op::ops,[],σ,a,u,F,I,h=>by cases ops<;>exact RH
 |[op],[e],σ,a,u,F,I,h=>by
  refine hE nz λM=> ? _;have g:W8 [op] [e] (evalEach [e] env)=[N8]:=by ext a8G
  ext NZ;show Op (jY C) (ZD>>=λf=>xv>>=λJ=>operate [u,f] (Um op u f)) _;refine th B (B4 VF) λj w v x d z=>mn (aa.operate (gQ o (VR.ext I x eH h) z))
 |op::PU,[e],σ,a,u,F,I,h=>by show Op (jY C) (ZD>>=λf=>xv>>=λJ=>a1d>>=λc=>a1O>>=λJ=>a1n>>=λb=>if b=am then compareChain pos f PU (W8 PU [] [])else b3 c) b0i;ext a00;induction r using u' with|false=>exact z0 hS|true=>exact jg B n o pos PU [] T v w (vd (x.trans t)) W (Zh z)
 |[op],e::Qz,σ,a,u,F,I,h=>by show Op (jY C) (ZD>>=λf=>xv>>=λJ=>a1d>>=λc=>a1O>>=λJ=>a1n>>=λb=>if b=am then compareChain pos f [] (W8 [] Qz a3M)else b3 c) b0h;ext a00;induction r using u' with|false=>exact z0 hS|true=>ext d6
 |op::PU,e::Qz,σ,a,u,F,I,h=>by show Op (jY C) (ZD>>=λf=>xv>>=λJ=>a1d>>=λc=>a1O>>=λJ=>a1n>>=λb=>if b=am then compareChain pos f PU (W8 PU Qz a3M)else b3 c) b0f;ext a00;induction r using u' with|false=>exact z0 hS|true=>exact jg B n o pos PU Qz T v w (vd (x.trans t)) W (Zh z)
theorem jh[Qf](o:Y_)[O_]:∀(ops:dk CmpOp)(Y:eP)[iv](a:V)(u:Value),k_->x_->dm a u->U' (testChain pos u ops (W8 ops Y (evalEach Y env))) (jb R a ops Y fm)
 |[],Y,σ,a,u,F,I,h=>RH
 |op::ops,[],σ,a,u,F,I,h=>by cases ops<;>exact RH
 |[op],[e],σ,a,u,F,I,h=>by
  refine hE nz λM=> ? _;have g:W8 [op] [e] (evalEach [e] env)=[N8]:=by ext a8G
  ext NZ;show U' (ZD>>=λf=>xv>>=λJ=>operate [u,f] (Um op u f)>>=λc=>o1 [c] (truthy c)) (tb>>=λb=>a0E);refine th B (B4 VF) λj w v x d z=>mn ? _;ext s2;exact ad (aa.thru (λb=>b) (aa.operate (gQ (X:=X) o (VR.ext I x eH h) z)) at_ p O λD U c b K z q=>by subst z;exact x4 (S3 (wpAny_truthy_bool (q _ rfl))))
 |op::PU,[e],σ,a,u,F,I,h=>by show U' (ZD>>=λf=>xv>>=λJ=>a1d>>=λc=>a1O>>=λJ=>a1n>>=λb=>if b=am then testChain pos f PU (W8 PU [] [])else R9) b0i;ext a00;induction r using u' with|false=>exact z0 hS|true=>exact jh B n o pos PU [] T v w (vd (x.trans t)) W (Zh z)
 |[op],e::Qz,σ,a,u,F,I,h=>by show U' (ZD>>=λf=>xv>>=λJ=>a1d>>=λc=>a1O>>=λJ=>a1n>>=λb=>if b=am then testChain pos f [] (W8 [] Qz a3M)else R9) b0h;ext a00;induction r using u' with|false=>exact z0 hS|true=>ext d6
 |op::PU,e::Qz,σ,a,u,F,I,h=>by show U' (ZD>>=λf=>xv>>=λJ=>a1d>>=λc=>a1O>>=λJ=>a1n>>=λb=>if b=am then testChain pos f PU (W8 PU Qz a3M)else R9) b0f;ext a00;induction r using u' with|false=>exact z0 hS|true=>exact jh B n o pos PU Qz T v w (vd (x.trans t)) W (Zh z)
theorem n7[Qf][O_](op:BoolOp):∀(Y:eP)[iv],k_->x_->PC (PySem.boolOp pos op (evalEach Y env)) (lZ R op Y fm)|[],σ,F,I=>RH|[e],σ,F,I=>VF|e::Qz,σ,F,I=>by show PC (N8>>=λv=>xv>>=λJ=>o1 [v] (truthy v)>>=λt=>match op,t with| .And,av| .Or,am=>b3 v|_,_=>PySem.boolOp pos op a3M) (tb>>=λv=>cG v>>=λt=>match op with| .And=>gm t (lZ R op Qz fm) (b3 v)| .Or=>gm t (b3 v) (lZ R op Qz fm));refine th B VF λj w v x d z=>mn ? _;refine th B (B4 (mf z)) λT t r a W b=> ? _;subst b;have rest:=n7 B n pos op Qz T (vd (x.trans a)) W;have Z:=VR.ext d a eH z;cases op<;>cases r<;>first|exact z0 λJ=>Z|exact rest
theorem mJ[Qf](op:BoolOp):∀(Y:eP)[iv],k_->x_->U' (allTrue op Y env) (bK R op Y fm)|[],σ,F,I=>z0 hS|e::Y,σ,F,I=>by show U' (isTrue e env N8>>=λt=>match op,t with| .And,av=>R9| .Or,am=>b3 am|_,_=>allTrue op Y env) (Qa e fm>>=λt=>match op with| .And=>gm t (bK R op Y fm) R9| .Or=>gm t (b3 am) (bK R op Y fm));refine th B (n.test e env fm σ F I) λj w v x d z=> ? _;subst z;have rest:=mJ B n op Y j (vd x) d;cases op<;>cases v<;>first|exact z0 hS|exact rest
section E
section E
section
open PySem PySem.W PySem.Calls PyProof.Rows PySem.SeqAt
section
variable{A:Around}{X:XP}{S:ey}{σ:Sg}{α β γ δ:cv}
theorem Hi[Wz]{k m:K}[g_]{r:Uj}:dp k ((m,v)::r)=if m=k then d0 else dp k r:=rfl
theorem Hj[Wz]{k m:K}{v P:V}{r:Uj}:gL k v ((m,P)::r)=if m=k then(m,v)::r else(m,P)::gL k v r:=rfl
theorem Hk[Wz]{k m:K}{P:V}{r:Uj}:fC k ((m,P)::r)=if m=k then r else(m,P)::fC k r:=rfl
theorem PR.valueAt[Wz][ZO](k:K):OR C σ (dp k F) (valueAt d k):=by
 induction h with
  |nil=>exact ep
  | @cons m v w F d Z _ G=>
   exact rwL Hi;unfold PySem.valueAt;rewrite [List.find?_cons];exact bcH e (m=k);. simp only [e,if_true,decide_true,Option.map_some];exact Z
   . simp only [e,if_false,decide_false];exact G
theorem PR.length{K:cv}[ZO]:Us=d.length:=by induction h with|nil=>rfl|cons _ _ G=>simp [G]
theorem PR.set[Wz][ZO](B:a3V){k:K}[g_][mm](Z:FI):OG (gL k v F) (stored d k w):=by
 induction h with
  |nil=>exact t6 Z .nil
  | @cons m P Q F d a z G=>
   ext a6s;exact rwL Hj;exact bcH e (m=k)
   .subst e;ext UA;have:stored ((m,Q)::d) m w=(m,w)::d:=by unfold stored;exact w3 (c4 (by simp)) a2f s_ (map_store_of_not_mem _ _ _ B.1);rfl
    ext Od;exact t6 Z z
   .exact rwL (b9 e)
    have:stored ((m,Q)::d) k w=(m,Q)::stored d k w:=by
     unfold stored;exact rwL List.any_cons;exact bcH q ((d.any λr=>fl (r.1=k))=am);. simp only [q,Bool.or_true,if_true,a2f,b9 e]
     . have f:fl (m=k)=av:=S1 e;exact ec w2 (b9 (by exact rwL f;rewrite [Bool.false_or];exact q)) List.cons_append;rfl
    ext Od;exact t6 a (G B.2)
theorem PR.del[Wz][ZO](B:a3V){k:K}:OG (fC k F) (without d k):=by
 induction h with
  |nil=>exact .nil
  | @cons m P Q F d a b G=>
   ext a6s;exact rwL Hk;unfold without;exact bcH e (m=k)
   .subst e;exact a3 s_ (YR (by simp));rewrite [List.filter_eq_self.mpr];. exact b
    . intro r c;have:r.1≠m:=λz=>B.1 (by have:=Z4 (f:=Prod.fst) c;replace this:=z▸b_;exact b_);simpa using b_
   . exact a3 (b9 e) (XA (by ext Vg));exact t6 a (G B.2)
theorem u6[q']{i:Int}[g_](h:eJ vs i=d0):∃k,seqIndex? i ka=v_/\TL =d0:=by
 exact dl3 vs i v;unfold eJ at h;unfold seqIndex?;exact bcH h0 (0<=i)
 .replace h:=c4 h0▸h;have a:i.toNat<ka:=(L_ h).1;have n:¬i<0:=by refine a4H h0 a0
  refine⟨i.toNat,? _,h⟩;simp only [n,if_false];exact rwL (c4 (by simp;lia));rfl
 .replace h:=b9 h0▸h;exact bcH h1 (-(ka:Int)<=i)
  .replace h:=c4 h1▸h;refine⟨(i+ka).toNat,? _,h⟩;have n:i<0:=by refine bn (nat_lit 0x11a0100c19000110) [] a7 h0 a0
   simp only [n,if_true];exact rwL (c4 (by simp;refine c6 (nat_lit 0x1e1a7003700001937000001c1900011900870011) a7 a7 h0 h1 a0));rfl
  . replace h:=b9 h1▸h;ext rs
theorem bW.arr[q']{ws:y_}(h:OV ws.toList)[v1][g_](e:TL =d0):∃w,ws[k]? =Oo/\FI:=by exact aN (h.get e) λw H F=>⟨w,by simpa using H,F⟩
theorem n8[P5]{F:dd}(W:lc=aj (.sd F)):∃d,s.heap.DictOf ZX eT d/\OG F d:=eZ▸Ye i _ W
theorem ky[P5]{Y:RO}(W:lc=aj (lI Y)):∃d,s.heap.DictOf (Z2 C.w) eT d/\OG Y d:=eZ▸Ye i _ W
theorem Av[P5][q']{j:Int}{t:Tok}[g_](m:Q0)(L: -1000<=j/\j<=1000)(T:eJ vs j=d0)[V6](k:∀w,FI->Q w s):D1 (TC e0 (a4 j t)) Q E s:=by
 refine fk (cg at_ m) λitems U Z B=> ? _;unfold eJ at T;exact bcH h0 (0<=j);. replace T:=c4 h0▸T;exact aN (Z.arr T) λw b a=>wpAny_getItem_list U h0 (by lia) b (k w a)
 .replace T:=b9 h0▸T;exact bcH h1 (-(ka:Int)<=j);. replace T:=c4 h1▸T;exact aN (Z.arr T) λw b a=>wpAny_getItem_list_neg U (by refine bn (nat_lit 0x11a0100c19000110) [] a7 h0 a0) (by refine c6 (nat_lit 0x1190087000b00101900871012) cb a7 B h1 a0) (by lia) (by exact rwR B;exact b) (k w a)
  . replace T:=b9 h1▸T;exact bG T
theorem OR.some_inv[g_]{w:II}(h:OR C σ d0 w):∃u,w=aj u/\dm v u:=by induction w using u_ with|none=>exact Ok|some u=>exact⟨u,rfl,h⟩
theorem k7[Wz]{knd:PySem.KeyKind C.prog C.w K}[eX]{F:Uj}{x:K}{q:Value}(N:knd.is x q=am)(hat:∀s,N7->∃d,s.heap.DictOf knd eT d/\OG F d):eG (TC e0 q) (QC (dp x F)):=aa.ofOpt λv T=>oi λs at_ Q E c=>by exact aN (hat s at_) λd l O=>aN (OR.some_inv (T▸O.valueAt x)) λw r H=>wpAny_getItem_of N l.mapOf r (c _ w Qj H)
theorem n9[N2]{t:Tok}:(PySem.strKind C.prog C.w).is x (I' t)=am:=by show Value.isStr (I' t) x=am;simp [Value.isStr]
theorem kA{x:Int}{t:Tok}:(Z2 C.w).is x Ur=am:=by show Value.isInt x Ur=am;simp [Value.isInt]
theorem ji[g_][mm]{l:x0}(h:FI)(e:kh v=aj l):IsPart w l:=by
 cases v<;>first|(cases e;done)|skip
 . ext RK;exact rwL h.none_inv;exact a1
 . ext RK;refine db h.int_inv ZE;subst U;exact di _
theorem bW.pick[q']{ws:y_}(h:OV ws.toList)(l:QI):xb (l.filterMap (vs[·]?)) (l.filterMap (ws[·]?)):=by
 induction l with
  |nil=>exact .nil
  |cons k l G=>
   exact a3 a3z a3z;refine cM TL od S7
   .have:ws[k]? =ap:=by have:=h.length;simp only [SR]at this;rewrite [List.getElem?_eq_none_iff]at e;exact Array.getElem?_eq_none_iff.mpr (by refine c6 (nat_lit 0x10910000910200b002003) eb [] e b_ a0)
    ext Od;exact G
   . refine aN (h.arr e) λw H F=> ? _;exact rwL H;exact t6 F G
theorem u7(b:d7)(G W:x0):(bO b G W ap).toArray=KBy.picked NP G W:=by unfold KBy.picked Builtin.Bytes.sliced bO;simp
theorem jj(c:Expr)(o i:Value):∃ops,subscripted c av o i=operate ops (TC o i):=by induction c using Ox with|Slice G W N p=>cases N<;>exact U1|_=>exact U1
theorem Aw{v c:Expr}{o i:Value}{T id:String}[o2][V6](l:R5 o T)(a:a6v)(h:D1 (TC o i) Q E s):D1 (VW v c o i) Q E s:=by
 unfold VW;refine b8 ? _;exact rwL (getitemInPython_of_ne l.not_modules);refine b8 (VP l a ? _);refine db (jj c o i) λops Z=> ? _;have I:D1 (subscripted c av o i) (λr d=>D1 (letTemporaryGo v o r>>=λJ=>b3 r) Q E d) E s:=by exact rwL Z;exact wpAny_operating (wpAny_mono h (λr d B=>b8 (wpAny_letTemporaryGo (f' B))) λJ J x=>x)
 first|exact f' (b8 I)|exact b8 (f' (b8 I))|exact b8 I
theorem qz{v c:Expr}{o i:Value}{T id:String}[o2][V6](l:R5 o T)(b:a6v)(h:q0 (TC o i) Q E s):q0 (VW v c o i) Q E s:=by
 unfold VW;have a:D1 (getitemInPython o) (λr U=>r=av/\U=s) (λJ J=>gj) s:=by exact rwL (getitemInPython_of_ne l.not_modules);refine b8 (VP l b ? _);first|exact f' s4|exact b8 (f' (f' s4))
 refine ad (dC (.of a) (λr U z=> ? _) λJ J x=>x.elim);refine bx z PY;clear z;subst G;intro e;subst e;refine db (jj c o i) λops Z=> ? _;exact rwL Z;exact ad (mH (dC h (λr d B=>aA (wpAny_letTemporaryGo (ak B))) λJ J x=>x))
def F9[Rj](u:Value):a5:=∃T id,R5 u T/\a6v
theorem aa.tailItem{v c:Expr}{u q:Value}{x:xj V}(l:∀s,N7->F9 s u)(h:eG (TC u q) x):eG (VW v c u q) x:=λs at_ p Q E O=>(l s at_).elim λJ H=>H.elim λJ F=>qz F.1 F.2 (YA O)
def s8:ae->b2| bC _| .sd _| lI _| f4 _=>am|_=>av
theorem x6[P5]{M:ae}(m:lc=aj M)(h:s8 M=am):F9 s e0:=by induction M using z5 with|list vs=>exact i5 (iE lv m) λitems n g J=>⟨"list",_,⟨_,eZ▸g,rfl⟩,PySem.F.slot_list_getitem.lookup⟩|sd F=>exact⟨"dict",_,(n8 at_ m).choose_spec.1.typeIs,slot_dict_getitem.lookup⟩|idc F=>exact⟨"dict",_,(ky at_ m).choose_spec.1.typeIs,slot_dict_getitem.lookup⟩|barr b=>exact⟨C4,a28,⟨_,(eZ▸(show j' eT=_ from Ye i _ m)),rfl⟩,by ext RE⟩|_=>exact s1 h
theorem fo[XI]{a b c:Value}{Q:el}(h:Q (a2 l5) {s with heap:=G1 {cls:= lL "slice",data:= NR #[a,b,c]}}):H' (newFields "slice" [a,b,c]) Q E s:=wpAny_newObj_type h (by size_fits)
abbrev x7[q4][OF](X:XP)(S:ey)[iv](v c:Expr)[O_](u vl a vs:Value)(x:xj V):a5:=∀s,N7->P2->∀Q E,NN D' x hM Q E->q0 (newFields "slice" [vl,a,vs]) (λi U=>q0 (xv>>=λJ=>VW v c u i) Q E U) E s
theorem s9{v c:Expr}[O7][OP]{t:Tok}{G W:x0}{vl a:Value}(w:IsPart vl G)(U:IsPart a W)(u:Zk):a1t (ek NP t) vl a a1 (b3 (ek (bO b G W ap))):=by
 ext s2;refine x4 (fo (ad (aO (x4 (Aw (T:=UE) (VY _ _ _) FB.slot_bytes_getitem.lookup ? _)))));refine getItem_meets (VY _ _ _) (by decide) FB.slot_bytes_getitem FB.entry_bytes_getitem (FB.args_bytes_getitem_2 _ _) (KBc.meets_slice2 NP t _ w U) ⟨Heap.IsSliceOf.new _ _ _ _,? _,λY y=> ? _⟩;. exact ei (KBc.size_picked_le _ _ _) (by exact a3 List.size_toArray NM;exact u)
 . exact qW (at_.push {cls:= lL "slice",data:= NR #[vl,a,a1]} y) λD m1 x K J J=>O.ok (b:=V.bytes (bO b G W ap)) D _ _ m1 x.of0 (P9 x) K (u7 b G W▸ek _ _)
def rq[m5][xi](I:b5):a5:=Fc=aj (bC I)\/Fc=aj (F2 I)
theorem rq.at[P5]{I:b5}(h:rq hM i I):∃items,a3W kn/\xb I Pn:=by
 rcases h with h|h;. exact fk (cg at_ h) λitems U Z J=>⟨kn,U,Z⟩
 . exact fk (k5 at_ h) λitems U Z J=>⟨kn,U,Z⟩
theorem oh[Ol]{v c:Expr}[O7][eX]{I:b5}{G W y:x0}{vl a vs:Value}(q:X.Mono)(m:rq hM i I)(w:IsPart vl G)(o:IsPart a W)(z:IsPart vs y)(n:y≠t_)(k:kN<=16777216):a1t e0 vl a vs (do return a2 a7H):=by
 revert G W y vl a vs;exact gs A X S σ d v c pos i I;exact dl6 G W y vl a vs;ext s2;refine qW (at_.push {cls:= lL "slice",data:= NR #[vl,a,vs]} i_) λD m1 x K P R=> ? _;have h:rq D.m i I:=by exact rwL m1;exact m
 refine aN (h.at K) λitems U Z=> ? _;replace U:=R▸U;have B:kN=Tb:=Z.length.trans (SR ..);have e:bW C D (bO I G W y) (slicePick kn G W y).toList:=by unfold bO slicePick;exact rwL B;simpa using Z.pick _
 have L:cH C X S D D' (do return og a7H:xj V) D.m Q E:=by exact rwL m1;exact cH.shift q x.of0 O
 have l:=P9 x;clear O p x m h Z m1;refine x4 (fo (ad (aO (qz (T:="list") U.typeIs PySem.F.slot_list_getitem.lookup ? _))));refine aa.newList (n:=0) e (λb g f j F=> ? _) _ K l Q E L;have u:b.heap=G1 {cls:= lL "slice",data:= NR #[vl,a,vs]}:=g.heap.trans P;exact wpAny_getItem_list_slice (l:=eT) (items:=kn) (by exact rwLRR u P K.heap;exact U) (by ext PE;exact Heap.IsSliceOf.new _ _ _ _) w o z n (F _) (by exact rwRL B NM;exact k)
theorem x8[Ol]{v c:Expr}[O7]{o l h N:V}{u vl a vs:Value}[Vn](P:dm o u)(T:dm l vl)(f:dm h a)(Z:dm N vs):a1t u vl a vs (km d o l h N):=by
 revert h N u vl a vs;exact gs A X S σ d v c pos o l;exact dl6 h N u vl a vs;have bad:∀{u vl a vs:Value},a1t u vl a vs a8:=λs at_ p Q E O=>O.no;unfold km;refine cM (kh l) (λg=> ? _) λG g=> ? _;. exact bad
 refine cM (kh h) od λW e=> ? _;. exact bad
 refine cM (kh N) (λj=> ? _) λy j=> ? _;. exact bad
 .have w:=ji T g;have U:=ji f e;have z:=ji Z j;clear T f Z g e j
  induction o using kb with
   |bytes b=>refine P.bytes_el (P:=λu=>a1t u vl a vs (i4 (y.isNone/\Zk) (b3 (ek (bO b G W ap))))) D3;ext s2;have L:=O.need.1;replace O:=O.need.2;cases z with|none=>exact s9 w U L.2 s at_ p Q E O|int=>exact s1 L.1
   |ref i=>refine P.ref_el (P:=λu=>a1t u vl a vs (MY i λI=>i4 (y≠t_/\kN<=16777216) (do return a2 a7H))) O5;ext s2;refine aN O.lookE λM m O=> ? _;induction M using z5 with|list I=>exact bx O.need λL O=>oh B (b7 m) w U z L.1 L.2 s at_ p Q E O|flist I=>exact bx O.need λL O=>oh B (ba m) w U z L.1 L.2 s at_ p Q E O|_=>exact O.no
   |_=>exact bad
section E
section E
section
open PySem PySem.W PySem.Calls PyProof.Rows PySem.SeqAt
section
variable{A:Around}{X:XP}{S:ey}{σ:Sg}{α β γ δ:cv}
abbrev k8:Sg->l0->l0->a5:=λJ J J=>True
theorem At.upd[P5]{o o':ae}[lS][P6]{t:Nat}(W:lc=ck)(N:dv o'=dv o)(m:a=eT\/(df o=am/\a=Qx))(Z:T5 a e5 h')(H:∃n,E' a=aj n)(d:Wk)(R:SN ⟨tp,σ.δ,Tc o',h'⟩->fE C ⟨tp,σ.δ,Tc o',h'⟩ i o'):∃D,D.m=Tc o'/\ty/\At C D UN:=by exact bx (at_.inv.upd W N m (eZ▸Z) H d R) λI x=>⟨_,rfl,x,ZT⟩
theorem ta(f:y_->y_)(items:y_)[f0]:∃E,Obj.mapSeq f ZR={cls:= Qs,data:= .seq (f kn) E}:=U1
theorem At.updList[P5]{vs vs':b5}{items:y_}[e3]{f:y_->y_}{t:Nat}(W:Q0)(U:p0 eT=aj ZR)(Z:xb vs' (f kn).toList):∃D,D.m=Tc (bC vs')/\ty/\At C D {s with heap:=s.heap.update eT (Obj.mapSeq f),toks:=t}:=by
 refine db (ta f kn n) λE e=> ? _;have g:(s.heap.update eT (Obj.mapSeq f)).get? eT=aj {cls:= Qs,data:= .seq (f kn) E}:=by rewrite [a29 U (by ext PD),e];try rfl
 exact at_.upd W rfl hA (Heap.SameBut.update ..) ⟨_,g⟩ rfl λx=>⟨f kn,E,g,Z.ext lv x eH⟩
theorem k9[eX]{o':ae}{t:Sem l0}(h:∀s,N7->∀(Q:l0->i1)E,(∀D U,D.m=Tc o'->ty->Ob->Q () U)->Yk):hO k8 t (cQ i o'):=λs at_ p Q E O=>x4 (U7 Q E λD U u x K=>O.ok D U () u x.of0 (P9 x) K ep)
theorem la[eX]{o':ae}{t:P7}[g_](h:∀s,N7->∀(Q:el)E,(∀D U w,D.m=Tc o'->ty->Ob->D' D v w->Q w U)->Yk):eG t (do cQ i o';return v):=by ext s2;exact x4 (U7 Q E λD U w u x K Z=>O.ok D U w u x.of0 (P9 x) K Z)
theorem eO[P5][q'](W:Q0):∃items n,p0 eT=aj ZR/\OV Pn/\ka=Tb:=by exact i5 (iE lv W) λitems n T Z=>⟨kn,n,eZ▸T,Z,by exact a3 Xp SR;rfl⟩
theorem At.updSd[P5]{F fs':dd}{d:us}[P6]{t:Nat}(W:lc=aj (.sd F))(l:h'.DictOf ZX eT d)(Z:T5 eT e5 h')(O:OG fs' d):∃D,D.m=Tc (.sd fs')/\ty/\At C D UN:=at_.upd W rfl hA Z (by refine qs l λo J J P J=> ? _;clear l;exact⟨o,P⟩) rfl λx=>⟨d,l,O.vext (x.vext lv eH)⟩
theorem At.updIdc[P5]{F fs':RO}{d:dk (Int×m9)}[P6]{t:Nat}(W:lc=aj (lI F))(l:h'.DictOf (Z2 C.w) eT d)(Z:T5 eT e5 h')(O:OG fs' d):∃D,D.m=Tc (lI fs')/\ty/\At C D UN:=at_.upd W rfl hA Z (by refine qs l λo J J P J=> ? _;clear l;exact⟨o,P⟩) rfl λx=>⟨d,l,O.vext (x.vext lv eH)⟩
theorem iF[Wz]{knd:PySem.KeyKind C.prog C.w K}{h:Heap}[lS]{d:a2g}(l:h.DictOf knd a d):a3V:=by exact Nl l λJ J J J J J J J B=>B
theorem pS[o2]{E:el}{l:Addr}{items:y_}[e3]{k:Int}{t:Tok}{v:Value}[Rh](P:p0 l=aj ZR)(V:0<=k)(h:k<2^63)(B:k<Tb)(a:Q () {s with heap:=s.heap.update l (Obj.mapSeq (·.setIfInBounds k.toNat v))}):D1 (setItem (a2 l) (v0 t) v) Q E s:=by
 exact gs A s E l kn n k t v Q;have T:s.heap.IsList l kn:=⟨_,P,rfl,n,rfl⟩;unfold setItem;refine S3 (b8 (wpAny_sequenceKey T.typeIs (by decide) ? _));refine b8 (wpAny_callSpecial?_slot (name:=VZ "__setitem__") T.typeIs PySem.slot_list_setitem (wpAny_call_entry PySem.slot_list_setitem T.typeIs PySem.entry_list_setitem ? _ (PySem.args_list_setitem _ _ _)));show NX (Builtin.List.listSubscript? (v0 t)>>=_) _ _ s;refine b8 (wpAny_listSubscript_int (fitsIndex_of V h) ? _);clear h;refine db (VB V) λj U=> ? _;subst U;have D:j<Tb:=by refine bn (nat_lit 0x10a10001a71070002) cb [] B a0
 have f:kn[j]? =aj kn[j]:=Array.getElem?_eq_getElem D;show NX ((seqItemAt l j>>=λr=>b3 (r.map (j,·)))>>=_) _ _ s;refine b8 (b8 (wpAny_seqItemAt P rfl O8));exact rwL f;show NX (setSeqItemAt l j v>>=_) _ _ s;refine b8 (wpAny_setSeqItemAt P rfl ? _);first|exact b8 (f' (f' ⟨a1,rfl,f' a⟩))|exact f' ⟨a1,rfl,f' a⟩
theorem td[eX][q']{j:Int}{t:Tok}[g_]{z:Value}(m:Q0)(L:0<=j/\j<ka/\j<=1000)(Z:dm v z):hO k8 (Yj (a4 j t) z) (cQ i (bC (vs.set Rm v))):=k9 λs at_ Q E c=>by exact a2d λitems n U W B=>fk (at_.updList (vs':=vs.set Rm v) (f:=(·.setIfInBounds Rm z)) (t:=i_) m U (by exact rwL Array.toList_setIfInBounds;exact W.set Z _)) λD m1 x K=>pS U L.1 (by omega) (by refine c6 (nat_lit 0x11a700001a710000b001012) cb a7 L.2.1 B a0) (c D _ m1 x K)
theorem x9[eX]{F:dd}{y:Str}{t:Tok}[g_]{z:Value}(m:lc=aj (.sd F))(L:Us<=1000)(Z:dm v z):hO k8 (Yj (c1 y t) z) (cQ i (.sd (gL y v F))):=k9 λs at_ Q E c=>by refine aN (n8 at_ m) λd l O=> ? _;refine wpAny_setItem_pairs (knd:=ZX) (k:=y) n9 l (λh' h a=> ? _) (by exact rwRL O.length NM;refine YG L a0);exact fk (at_.updSd (fs':=gL y v F) (t:=i_+1) m h a (O.set (iF l) Z)) λD m1 x K=>c D _ m1 x K
theorem u8[eX]{Y:RO}{y:Int}{t:Tok}[g_]{z:Value}(m:lc=aj (lI Y))(L:Y.length<=1000)(Z:dm v z):hO k8 (Yj (a4 y t) z) (cQ i (lI (gL y v Y))):=k9 λs at_ Q E c=>by ext a42;refine wpAny_setItem_pairs (knd:=Z2 C.w) (k:=y) kA l (λh' h a=> ? _) (by exact rwRL O.length NM;refine YG L a0);exact fk (at_.updIdc (fs':=gL y v Y) (t:=i_+1) m h a (O.set (iF l) Z)) λD m1 x K=>c D _ m1 x K
theorem u9[eX]{Y:RO}{y:Int}{t:Tok}(m:lc=aj (lI Y))(hy:(dp y Y).isSome=am)(u:Y.length<=1000):hO k8 (delItem e0 (a4 y t)) (cQ i (lI (fC y Y))):=k9 λs at_ Q E c=>by
 ext a42;have a:(valueAt d y).isSome=am:=by have H:=O.valueAt y;refine db (UM hy) S7;replace H:=e▸H;refine aN (OR.some_inv H) λw r J=> ? _;exact rwL r;rfl
 unfold delItem;refine S3 (b8 (wpAny_sequenceKey l.typeIs (by decide) ? _));refine b8 (wpAny_callSpecial?_slot (name:=VZ "__delitem__") l.typeIs PySem.F.slot_dict_delitem (call_meetsIn PySem.F.slot_dict_delitem l.typeIs PySem.F.entry_dict_delitem (PySem.F.args_dict_delitem_2 _ _) (meets_dict_delitem_pairs (Z2 C.w) eT (k:=y) kA) ⟨d,l,(by exact rwRL O.length NM;refine YG u a0),a,λh' h Z=> ? _⟩));exact fk (at_.updIdc (fs':=fC y Y) (t:=i_+1) m h Z (O.del (iF l))) λD m1 x K=>f' (c D _ m1 x K)
theorem te{o k:V}{u q:Value}(P:dm o u)(N:dm k q):hO k8 (delItem u q) (kO o k):=by refine Vk (T:=λu=>delItem u q) P λi J=>R4 λM m=> ? _;induction M using z5 with|idc Y=>refine Oc (T:=λq=>delItem e0 q) N λy t=>hE Tg nz;ext a0S;exact u9 m L.1 (a0d L.2)|_=>ext d6
section E
section E
section
open PySem PySem.W PySem.Calls PyProof.Rows PySem.SeqAt
namespace BA
theorem pa:PlainAttrs C4:=⟨⟨"bytearray.__getattribute__",by ext RE,by ext ij⟩,by ext RE⟩
theorem owner:Manifest.owners.lookup (String.ofList ['y','a','r','r','a','e','t','y','b'].reverse)=aj Manifest.sig_bytearray:=by kernel_rfl
theorem slot_len:Slot C4 "__len__" a5Y:= a36 (n:="__len__") (by ext RE) (by ext ij) (by ext ij) (by ext ij) (by first|exact b7 (by ext ij)|exact ba (by ext ij)) (by ext QV)
theorem entry_len:VT a5Y=aj Builtin.«bytearray.__len__»:=a32 (by kernel_rfl)
theorem args_len(a:Value):argsOk a5Y ⟨[a],[]⟩:=by unfold argsOk;rewrite [signature?_of (id:=a5Y) (n:=['_','_','n','e','l','_','_']) (o:=a2G) (by kernel_rfl) owner];kernel_rfl
theorem slot_getitem:Slot C4 "__getitem__" a28:= a36 (n:="__getitem__") (by ext RE) (by ext ij) (by ext ij) (by ext ij) (by first|exact b7 (by ext ij)|exact ba (by ext ij)) (by ext QV)
theorem entry_getitem:VT a28=aj Builtin.«bytearray.__getitem__»:=a32 (by kernel_rfl)
theorem args_getitem(a b:Value):argsOk a28 ⟨[a,b],[]⟩:=by unfold argsOk;rewrite [signature?_of (id:=a28) (n:=['_','_','m','e','t','i','t','e','g','_','_']) (o:=a2G) (by kernel_rfl) owner];kernel_rfl
theorem slot_setitem:Slot C4 "__setitem__" a5m:= a36 (n:="__setitem__") (by ext RE) (by ext ij) (by ext ij) (by ext ij) (by first|exact b7 (by ext ij)|exact ba (by ext ij)) (by ext QV)
theorem entry_setitem:VT a5m=aj Builtin.«bytearray.__setitem__»:=a32 (by kernel_rfl)
theorem args_setitem(a b c:Value):argsOk a5m ⟨[a,b,c],[]⟩:=by unfold argsOk;rewrite [signature?_of (id:=a5m) (n:=['_','_','m','e','t','i','t','e','s','_','_']) (o:=a2G) (by kernel_rfl) owner];kernel_rfl
theorem slot_append:Slot C4 Q_ WB:= a36 (n:=Q_) (by ext RE) (by ext ij) (by ext ij) (by ext ij) (by first|exact b7 (by ext ij)|exact ba (by ext ij)) (by ext QV)
theorem type_append:typeOf (eC WB)=a_ (lL "method_descriptor"):=by show builtinType _=_;exact rwL builtinType_eq_fast;kernel_rfl
theorem entry_append:VT WB=aj Builtin.«bytearray.append»:=a32 (by kernel_rfl)
theorem args_append(a b:Value):argsOk WB ⟨[a,b],[]⟩:=by unfold argsOk;rewrite [signature?_of (id:=WB) (n:=['d','n','e','p','p','a']) (o:=a2G) (by kernel_rfl) owner];kernel_rfl
section E.BA
abbrev bN(b:N')[f0]:Obj:={cls:= x2,data:= .bytearray b n}
section
variable{M:Model}{A:Around}{E:el}{s:Shared}
theorem iG[lS]{b:N'}[e3]{Q:N'->i1}(h:p0 a=aj (bN b n))(q:Q b s):H' (Builtin.Bytes.payload er) Q E s:=by unfold Builtin.Bytes.payload Builtin.Bytes.payload?;exact b8 (b8 (W2 h (f' (f' q))))
theorem lb{i:Int}{t:Tok}{Q:x0->i1}(d:a1k i=am)(q:Q (aj i) s):H' (a5g (f6 t)) Q E s:=by unfold a5g;refine b8 (VP (typeIs_int s i t) F.slot_int_index.lookup ? _);show H' (if(! a1k i)=am then _ else a_ (aj i)) _ E s;exact rwL d;exact f' q
theorem ib[lS]{b:N'}[e3]{f:N'->N'}[Rh](h:p0 a=aj (bN b n))(u:(f b).size<=sizeLine)(q:∀h',E' a=aj (bN (f b) n)->T5 a e5 h'->Q () a1N):H' (Builtin.Bytes.write er f) Q E s:=by
 have e:Obj.mapBytearray f (bN b n)=bN (f b) n:=rfl;have g:(s.heap.update a (Obj.mapBytearray f)).get? a=aj (bN (f b) n):=by rewrite [a29 h (by ext PD),e];try rfl
 show H' (updateBytearray a f) Q E s;unfold updateBytearray;refine b8 (W2 h (b8 (wpAny_update h ? _)));refine wpAny_lookBehind g ? _ (q _ g (Heap.SameBut.update ..));exact b9 (Nat.not_lt.mpr u)
section E
section
variable{A:Around}{X:XP}{S:ey}{σ:Sg}{α β γ δ:cv}
theorem iH[P5][OP](W:a0z):p0 eT=aj (bN NP 0):=eZ▸Ye i _ W
theorem At.updBarr[P5]{b b':d7}[P6]{t:Nat}(W:a0z)(g:E' eT=aj (bN b'.toArray 0))(Z:T5 eT e5 h'):∃D,D.m=Tc (f4 b')/\ty/\At C D UN:=at_.upd W rfl hA Z ⟨_,g⟩ rfl λJ=>g
theorem tf[OP]{j:Int}(V:0<=j)(H:j<nw):seqIndex? j b.toArray.size=aj Rm:=by
 have n0:¬j<0:=by refine a4H V a0
 unfold seqIndex?;simp only [n0,if_false];exact rwL (c4 (by simp;refine c6 (nat_lit 0x1e1a700001900011900011a7000011) a7 a7 V H a0));rfl
theorem tg[eX][OP]{j:Int}{t:Tok}{x:UInt8}(m:a0z)(L:0<=j/\j<=1000)(Y:b[Rm]? =eI):eG (TC e0 (a4 j t)) (b3 (a4 x.toNat)):=oi λs at_ Q E c=>by
 have g:=iH at_ m;have a:Rm<nw:=(L_ Y).1;refine getItem_meets (S:=λJ R s=>p0 eT=aj (bN NP 0)/\R (.ok (.ret (a4 x.toNat i_))) Z3) VV (by decide) BA.slot_getitem BA.entry_getitem (BA.args_getitem _ _) (.of_wp λprog w A R s p=> ? _) ⟨g,c _ _ Qj (di _)⟩;refine bx p λg h=> ? _;clear p;show NX (a5g (a4 j t)>>=λr=>_) _ _ s;refine b8 (lb (by simp [a1k];lia) ? _);ext a6h;have e:(seqIndex? j b.toArray.size).bind (NP[·]?)=eI:=by exact rwL (tf L.1 (by lia));simpa using Y
 ext ea;exact b8 (wpAny_mkInt (f' a2e))
theorem ti[q']{k:V}{q:Value}[lS]{items:y_}(g:j' a=Wp)(Z:OV Pn)(N:dm k q):eG (TC er q) (ni vs k):=Oc (T:=λq=>TC er q) N λi t=>wn (λL=>aa.ofOpt λv T=>oi λs at_ Q E c=>by exact aN (u6 T) λj H F=>aN (Z.arr F) λw d b=>P.getItem_tuple (n:=0) (eZ▸g) (by lia) (by lia) (by exact rwRLL H Xp SR;rfl) d (c s w at_ b))
theorem tj[eX]{a:ae}{k:V}{q:Value}(m:lc=C1)(N:dm k q):eG (TC e0 q) (eD a k):=by induction a using z5 with|list vs=>exact Oc (T:=λq=>TC e0 q) N λj t=>wn (λL=>aa.ofOpt λv T=>oi λs at_ Q E c=>Av at_ m L T λw r=>c s w at_ r)|sd F=>exact aa.onStr (T:=λq=>TC e0 q) N λx t=>k7 n9 λs at_=>n8 at_ m|idc F=>exact Oc (T:=λq=>TC e0 q) N λx t=>k7 kA λs at_=>ky at_ m|barr b=>exact Oc (T:=λq=>TC e0 q) N λj t=>wn (λL=>aa.ofOpt λv T=>by refine aN (ZV T) λx Y d=> ? _;subst d;exact tg m L Y)|_=>ext d6
theorem wT[XI]{u:Int}{t:Tok}{Q:UInt8->i1}(V:0<=u)(H:u<256)(q:Q (PJ Ts) s):H' (Builtin.Bytes.byteValue (Qd t)) Q E s:=by
 show H' ((b3 u:Sem Int)>>=λi=>_) Q E s;refine b8 O8;have e:(fl (u<0)||fl (u≥256))=av:=by rewrite [a3s];exact⟨S1 (by refine a4H V a0),S1 (by refine bn (nat_lit 0x1c19000000010021a0000010020010) [] a7 H a0)⟩
 ext ea;exact f' q
theorem tm[eX][OP]{j x:Int}{t e:Tok}(m:a0z)(L:0<=j/\j<nw/\Wh/\0<=x/\x<256):hO k8 (Yj (a4 j t) (a4 x e)) (cQ i (f4 (b.set Rm X4))):=by
 exact gs A X S σ i b j x t e
 exact k9 λs at_ Q E c=>by
  have g:=iH at_ m;have l:R5 e0 C4:=VV;have c:=λh' Y Z=>let⟨σ',m1,x',at'⟩:=at_.updBarr (b':=b.set Rm X4) (h':=h') (t:=i_) m Y Z;c σ' _ m1 x' at';clear at_;unfold setItem;refine S3 (b8 (wpAny_sequenceKey l (by decide) ? _));refine b8 (wpAny_callSpecial?_slot (name:=VZ "__setitem__") l BA.slot_setitem (wpAny_call_entry BA.slot_setitem l BA.entry_setitem ? _ (BA.args_setitem _ _ _)));show NX (a5g (a4 j t)>>=λr=>_) _ _ s;refine b8 (lb (by simp [a1k];omega) ? _);show NX (Builtin.Bytes.byteValue (a4 x e)>>=λr=>_) _ _ s;refine b8 (wT L.2.2.2.1 L.2.2.2.2 ? _);ext a6h;exact rwL (tf L.1 L.2.1);have a:(b.toArray.setIfInBounds Rm X4)=(b.set Rm X4).toArray:=by simp
  show NX (Builtin.Bytes.write e0 (·.setIfInBounds Rm X4)>>=λJ=>_) _ _ s;refine b8 (ib g (by exact ec Array.size_setIfInBounds List.size_toArray NM;refine YG L.2.2.1 a0) λh' Y Z=> ? _);replace Y:=a▸Y;first|exact b8 (f' (f' ⟨a1,rfl,f' (c h' Y Z)⟩))|exact f' ⟨a1,rfl,f' (c h' Y Z)⟩
theorem ru{o k v:V}{u q z:Value}(P:dm o u)(N:dm k q)(Z:dm v z):hO k8 (setItem u q z) (e7 o k v):=by refine Vk (T:=λu=>setItem u q z) P λi J=>R4 λa m=> ? _;induction a using z5 with|list vs=>exact Oc (T:=λq=>Yj q z) N λj t=>wn (λL=>td m L Z)|sd F=>exact aa.onStr (T:=λq=>Yj q z) N λj t=>hE (λL=>x9 m L Z) nz|idc F=>exact Oc (T:=λq=>Yj q z) N λj t=>hE (λL=>u8 m L Z) nz|barr b=>exact Oc (T:=λq=>Yj q z) N λj t=>Oc (T:=λz=>Yj (a4 j t) z) Z λx e=>wn (λL=>tm m L)|_=>ext d6
theorem rw[XI][lS]{b:N'}[Rh](D:SV)(g:p0 a=aj (bN b 0))(q:Q () s):kS (Builtin.Bytes.checkResize er) Q E s:=by unfold Builtin.Bytes.checkResize;refine ad (ad (kZ D ? _));ext a96;exact ak (ak q)
theorem m7(d:SV)[eX][OP]{x:Int}{t:Tok}(m:a0z)(V:0<=x)(H:x<256)(u:Wh):eG (bj (eC WB) [e0,Ur]) (do cQ i (f4 (b++[X4]));return a1):=by
 ext s2;have g:=iH at_ m;refine gY BA.slot_append VV (by show a07 WB=av;decide) BA.entry_append (BA.args_append _ _) ? _;show QN (Builtin.Bytes.byteValue Ur>>=λr=>_) _ _ s;refine aA (wT V H ? _);show QN (Builtin.Bytes.checkResize e0>>=λr=>_) _ _ s;have a:(b.toArray.push X4)=(b++[X4]).toArray:=by simp
 refine ad (rw d g ? _);show QN (Builtin.Bytes.write e0 (·.push X4)>>=λJ=>_) _ _ s;refine aA (ib g (by rewrite [Array.size_push];exact a3 List.size_toArray NM;refine bn (nat_lit 0x1090100000023110009000003e820001) a7 [] u a0) λh' Y Z=> ? _);replace Y:=a▸Y;exact fk (at_.updBarr (t:=i_) m Y Z) λD m1 c K=>ak ⟨a1,rfl,O.ok D _ _ m1 c.of0 (P9 c) K a1⟩
section E
section E
section
open PySem PySem.W PySem.Calls PyProof.Rows PySem.SeqAt
def mh:MK->Str->String| bC,n=>if Zv then "list.append"else if n==("insert":Str)then "list.insert"else "list.pop"| lI,_=>"dict.get"| .sd,_=>"dict.update"|_,_=>WB
section
variable{A:Around}{X:XP}{S:ey}{σ:Sg}{α β γ δ:cv}
theorem ya{M:ae}{n:Str}(h:gz M n=am):∃T,PlainAttrs T/\Slot T n (mh (dv M) n)/\typeOf (eC (mh (dv M) n))=a_ (lL "method_descriptor")/\∀[iv][xi][Rj],N7->lc=aj M->R5 e0 T/\∃o,p0 eT=ck/\o.dict=ap:=by
 induction M using z5 with
  |inst=>ext sp
  |cell=>ext sp
  |tab=>ext sp
  |flist vs=>ext sp
  |list vs=>
   have K:∀[iv][xi][Rj],N7->Q0->R5 e0 "list"/\∃o,p0 eT=ck/\o.dict=ap:=λσ i s at_ W=>by exact i5 (eO at_ W) λitems k g J=>⟨VV,_,g,rfl⟩
   unfold gz at h;rewrite [a0o]at h;rewrite [a0o]at h;rcases h with(h|h)|h<;>have h:=f1 h<;>subst h;. exact⟨"list",PySem.F.plainAttrs_list,PySem.F.slot_list_append,PySem.F.type_list_append,K⟩
   . exact⟨"list",PySem.F.plainAttrs_list,PySem.F.slot_list_insert,PySem.F.type_list_insert,K⟩
   . exact⟨"list",PySem.F.plainAttrs_list,PySem.F.slot_list_pop,PySem.F.type_list_pop,K⟩
  |sd F=>have h:=f1 (show(n==("update":Str))=am from h);subst h;exact⟨"dict",PySem.F.plainAttrs_dict,PySem.F.slot_dict_update,PySem.F.type_dict_update,λσ i s at_ W=>by exact aN (n8 at_ W) a9M⟩
  |idc F=>have h:=f1 (show(n==("get":Str))=am from h);subst h;exact⟨"dict",PySem.F.plainAttrs_dict,PySem.F.slot_dict_get,PySem.F.type_dict_get,λσ i s at_ W=>by exact aN (ky at_ W) a9M⟩
  |barr b=>have h:=f1 (show Zv=am from h);subst h;exact⟨C4,BA.pa,BA.slot_append,BA.type_append,λσ i s at_ W=>⟨⟨_,iH at_ W,rfl⟩,_,iH at_ W,rfl⟩⟩
theorem bW.dropLast[M'](h:tq):xb vs.dropLast ws.dropLast:=by have:=h.take (ka-1);rwa [List.dropLast_eq_take,List.dropLast_eq_take,<-h.length]
theorem lg[Wz]{d:a2g}(B:a3V)(k:K)(w:Value):((stored d k w).map w1).Nodup:=by
 unfold stored;split;. rewrite [keys_map_store];exact B
 . rename_i h;exact rwL List.map_append;rewrite [List.nodup_append];refine⟨B,by simp,λa m b M=> ? _⟩;simp at M;subst M;intro e;subst e;exact aN (WJ m) λr c e=>h (List.any_eq_true.mpr ⟨r,c,by simp [e]⟩)
theorem PR.merged[Wz]{c:Uj}{b:a2g}(g:OG c b):∀{F:Uj}{d:a2g},OG F d->a3V->OG (c.foldl YV F) (PySem.merged d b):=by induction g with|nil=>intro F d h _;exact h|cons Z z G=>intro F d h B;exact G (h.set B Z) (lg B _ _)
theorem rx(p: ZW)[m2][R0](h:lc=ck)(d:Wk:=by rfl):(eT==sysModules)=av:=by rewrite [a1E];intro e;have H:=I.big _ (l8 h d);replace H:=e▸H;exact b6 p (Nat.not_lt.mpr H)
theorem to(p: ZW)[eX]{Y:RO}{x:Int}{t:Tok}(m:lc=aj (lI Y)):eG (bj (eC "dict.get") [e0,Ur]) (b3 ((dp x Y).getD a1)):=by
 refine oi Z_;ext a42;have h:(Z2 C.w).is x Ur=am:=by show Value.isInt x Ur=am;simp [Value.isInt]
 refine call_meetsIn PySem.F.slot_dict_get l.typeIs PySem.F.entry_dict_get (PySem.F.args_dict_get_2 _ _) (meets_dict_get (knd:=Z2 C.w) (k:=x) (d:=eT) h (rx p lv m)) ⟨_,l.mapOf,? _⟩;refine c _ _ Qj ? _;have H:=O.valueAt x;cases g:dp x Y<;>cases u:valueAt d x<;>(replace H:=g▸H;replace H:=u▸H)<;>first|exact H.elim|exact H|exact VR.none
theorem pT(p: ZW){i j:Id}{Y F:dd}(m:lc=aj (.sd Y))(a:nk j=aj (.sd F))(G:i≠j)(u:Y.length+Us<=1000):eG (bj (eC "dict.update") [e0,a2o]) (do cQ i (.sd (F.foldl YV Y));return a1):=by refine la Z_;refine aN (n8 at_ m) λd l O=> ? _;refine aN (n8 at_ a) λb g B=> ? _;have f:eT≠tp j:=λe=>G (at_.inv.rr i j (ce m) (ce a) e);refine call_meetsIn PySem.F.slot_dict_update l.typeIs PySem.F.entry_dict_update (PySem.F.args_dict_update_2 _ _) (meets_dict_update ZX eT (tp j) f (rx p lv a)) ⟨d,b,l,g,by exact rwRRL O.length B.length NM;refine bn (nat_lit 0x1090100000023100009000003e823100002) cb [] u a0,λh' h J Z=> ? _⟩;exact fk (at_.updSd (fs':=F.foldl YV Y) (t:=i_) m h Z (B.merged O (iF l))) λD m1 x K=>c D _ _ m1 x K a1
theorem iU[eX]{I:b5}[g_][mm](m:WN)(Z:FI)(u:kN<=1000):eG (bj a5U [e0,w]) (do cQ i (bC (I++[v]));return a1):=by exact la λs at_ Q E c=>a2d λitems n U W B=>fk (at_.updList (vs':=I++[v]) (f:=(·.push w)) (t:=i_) m U (by exact rwL Array.toList_push;exact W.append (t6 Z .nil))) λD m1 x K=>call_meets PySem.F.slot_list_append ⟨_,U,rfl⟩ PySem.F.entry_list_append (PySem.F.args_list_append_2 _ _) (AutoListH.list_append_list_val_0 eT kn n w (by exact rwL NM;refine a4t u B a0)) ⟨U,c D _ _ m1 x K a1⟩
theorem m8[eX]{I:b5}[g_][mm]{t:Tok}(m:WN)(Z:FI)(u:kN<=1000):eG (bj (eC "list.insert") [e0,l1 t,w]) (do cQ i (bC (v::I));return a1):=by
 exact la λs at_ Q E c=>a2d λitems n U W B=>fk (at_.updList (vs':=v::I) (f:=λI=>have k:=if H_<0 then(H_+((I.size:Nat):Int)).toNat else min (0:Int).toNat I.size;(I.extract 0 k).push w++I.extract k) (t:=i_) m U (by
  have e:((have k:=if H_<0 then(H_+((Tb:Nat):Int)).toNat else min (0:Int).toNat Tb;(items.extract 0 k).push w++items.extract k):y_).toList=w::Pn:=by simp
  ext ea;exact t6 Z W)) λD m1 x K=>call_meets PySem.F.slot_list_insert ⟨_,U,rfl⟩ PySem.F.entry_list_insert (PySem.F.args_list_insert_3 _ _ _) (AutoListH.list_insert_list_int_val_1 eT kn n 0 t w (by decide) (by exact rwL NM;refine a4t u B a0)) ⟨U,c D _ _ m1 x K a1⟩
theorem ry[eX]{I:b5}[g_](m:WN)(Z:I.getLast? =d0)(u:kN<=1000):eG (bj (eC "list.pop") [e0]) (do cQ i (bC I.dropLast);return v):=by
 refine la Z_;refine a2d λitems n U W B=> ? _;replace Z:=List.getLast?_eq_getElem?▸Z;refine aN (W.arr Z) λw H F=> ? _;replace H:=B▸H
 refine fk (at_.updList (vs':=I.dropLast) (f:=λI=>I.eraseIdxIfInBounds (Tb-1)) (t:=i_) m U (by
  have a:Tb-1<Tb:=(Array.getElem?_eq_some_iff.mp H).1;have e:(items.eraseIdxIfInBounds (Tb-1)).toList=items.toList.dropLast:=by unfold Array.eraseIdxIfInBounds;exact ec (dif_pos a) Array.toList_eraseIdx List.dropLast_eq_take;rewrite [List.eraseIdx_eq_take_drop_succ];exact rwL SR;exact rwL (List.drop_of_length_le (by simp;refine pk (nat_lit 0x109311411000001) a7 [] a0));rewrite [TX];rfl
  ext ea;exact W.dropLast)) λD m1 x K=> ? _;exact call_meets PySem.F.slot_list_pop ⟨_,U,rfl⟩ PySem.F.entry_list_pop (PySem.F.args_list_pop_1 _) (MeetsSeq.list_pop_last eT kn n w H (by exact rwL NM;refine a4t u B a0)) ⟨U,c D _ _ m1 x K (F.ext lv x eH)⟩
theorem yb[eX]{I:b5}{n:Str}[M'](r:gz (bC I) n=am)(m:WN)(Z:tq):eG (bj (eC (mh bC n)) (e0::ws)) (FY i I n vs):=by
 exact dl9 A X S σ i I n vs ws;refine hE V' λH=>hE V' λF=>hE V' nz;. exact rwL (f1 h);exact Vj (T:=λws=>bj a5U (e0::ws)) Z λv w a=>wn (λL=>iU m a L)
 . exact rwL (f1 h);refine aa.argv2 (T:=λws=>bj (eC "list.insert") (e0::ws)) Z λv w P Q H F=>Oc (T:=λw=>bj (eC "list.insert") [e0,w,Q]) H λk t=>wn Tg;exact rwL (L.1);exact m8 m F L.2
 .exact rwL (f1 h);refine aa.argv0 (T:=λws=>bj (eC "list.pop") (e0::ws)) Z ? _;refine cM I.getLast? RY λv T=> ? _;. ext d6
  . exact wn (λL=>ry m T L)
theorem vb(D:SV)(p: ZW)[eX]{M:ae}{n:Str}[M'](r:gz M n=am)(m:lc=aj M)(Z:tq):eG (bj (eC (mh (dv M) n)) (e0::ws)) (uY M i n vs):=by
 induction M using z5 with
  |barr b=>exact hE (λJ=>Vj (T:=λws=>bj (eC WB) (e0::ws)) Z λv w a=>Oc (T:=λw=>bj (eC WB) [e0,w]) a λx t=>wn (λL=>m7 D m L.1 L.2.1 L.2.2)) nz
  |idc Y=>exact hE (λJ=>Vj (T:=λws=>bj (eC "dict.get") (e0::ws)) Z λv w a=>Oc (T:=λw=>bj (eC "dict.get") [e0,w]) a λx t=>to p m) nz
  |sd Y=>refine hE (λJ=>Vj (T:=λws=>bj (eC "dict.update") (e0::ws)) Z λv w a=>Vk (T:=λw=>bj (eC "dict.update") [e0,w]) a λj J=>R4 λG H=> ? _) nz;induction G using z5 with|sd F=>refine hE nz Tg;simp only [a0o,decide_eq_true_eq,not_or]at L;exact pT p m H L.1 (by refine bn (nat_lit 0x109000003e8231000c0a31000000003e8202) cb [] L.2 a0)|_=>ext d6
  |list I=>exact yb r m Z
  |_=>ext d6
section E
section E
section
open PySem PySem.W PySem.Calls PyProof.Rows PySem.SeqAt
section
variable{A:Around}{X:XP}{S:ey}{σ:Sg}{α β γ δ:cv}
theorem tr[eX][OP](m:a0z)(L:Zk):eG (bj (eC "len") [e0]) (b3 (a4 nw)):=oi λs at_ Q E c=>by have g:=iH at_ m;refine call_len_meets (n:=(nw:Int)) (S:=λJ R s=>p0 eT=aj (bN NP 0)/\R (.ok (.ret (a4 nw i_))) Z3) VV BA.slot_len BA.entry_len (BA.args_len _) (.of_wp λprog w A R s p=> ? _) (by refine pk (nat_lit 0x1c1a0170001) a7 [] a0) (by lia) (λd q=>⟨g,q⟩) (c _ _ Qj (di _));refine bx p λg h=> ? _;clear p;ext a6h;exact b8 (wpAny_mkInt (f' ⟨_,rfl,by simpa using h⟩))
theorem DP(p: ZW)[US]:eG (bj (eC "len") [w]) (kP v):=by
 induction v using kb with
  |bytes b=>exact h.bytes_el (P:=λw=>eG (bj (eC "len") [w]) _) λt=>wn (λL=>oi λs at_ Q E c=>len_bytes (by simp;lia) (c _ _ Qj (by simpa using VR.int _ _)))
  |ref i=>refine h.ref_el (P:=λw=>eG (bj (eC "len") [w]) _) λJ=>R4 λM m=> ? _;induction M using z5 with|list vs=>refine wn (λL=>oi Z_);exact fk (cg at_ m) λitems U Z B=>call_len_list U (by lia) (c _ _ Qj (by exact rwL B;exact di _))|flist vs=>refine wn (λL=>oi Z_);exact fk (k5 at_ m) λitems U Z B=>call_len_list U (by lia) (c _ _ Qj (by exact rwL B;exact di _))|idc Y=>refine wn (λL=>oi Z_);ext a42;have T:=O.length;exact call_len_dict (rx p lv m) l (by lia) (c _ _ Qj (by exact rwL T;exact di _))|barr b=>exact wn (λL=>tr m L)|_=>ext d6
  |_=>ext d6
theorem DQ{v:Int}{t:Tok}:eG (bj (eC "abs") [a4 v t]) (b3 (a4 (if v<0 then-v else v))):=oi λJ at_ J J k=>call_abs_int λu r=>k _ _ (at_.tok r) (di u)
theorem vc{b:Int}{u:Tok}:eG (bj U2 [a4 b u]) (b3 (o_ b 1)):=by refine a0Z;refine qW (at_.push {cls:= U2,data:= NR #[l1 i_,a4 b u,tt (i_+1)]} (i_+1+1)) λD m1 x K g a=> ? _;refine callType_new PySem.F.called_range (by decide) (PySem.F.typeCall_range_1 _) (PySem.F.newCall_range_1 _) (λj=>PySem.F.initArgs_range_1 j _) PySem.F.entry_range_new (AutoRange.range___new___type_int_0 b u (by ext QV)) ⟨⟨_,Vz,rfl⟩,? _⟩;exact k D _ _ m1 x K (o_ b _ _ _ _ (by ext NZ;exact Vz))
theorem At.grow[QT][P6](N:∀b o,R2->Ou)(t:Nat):∃D,D.m=hM/\ty/\At C D UN/\D.h=h'/\D.ρ=tp:=by exact bx (at_.inv.push (h':=h') λb o' e=>N b o' Wg) λI x=>⟨l_,rfl,x,ZT,rfl,rfl⟩
theorem DR(M:G2){a b:Int}{t u:Tok}:eG (bj (eC "min") [Pi t,a4 b u]) (b3 (a4 (if b<a then b else a))):=by refine a0Z;refine min_two_ints M λh' r N=> ? _;refine qW (at_.grow N r) λD m1 x K g c=> ? _;refine k D _ _ m1 x K ? _;split<;>exact di _
theorem vf{a b:Int}{t u:Tok}:eG (bj U2 [Pi t,a4 b u]) (b3 (.rng a b 1)):=by refine a0Z;refine qW (at_.push {cls:= U2,data:= NR #[Pi t,a4 b u,tt i_]} (i_+1)) λD m1 x K g c=> ? _;refine callType_new PySem.F.called_range (by decide) (PySem.F.typeCall_range_2 _ _) (PySem.F.newCall_range_2 _ _) (λj=>PySem.F.args_object_init_3 j _ _) PySem.F.entry_range_new (AutoRange.range___new___type_int_int_0 a b t u (by ext QV)) ⟨⟨_,Vz,rfl⟩,? _⟩;exact k D _ _ m1 x K (.rng a b _ _ _ _ (by ext NZ;exact Vz))
theorem yc[q']:∀{ws:eS}{a k:Int},tq->uX vs a=v_->∃H:dk (Int×Tok),ws=H.map (λp=>Value.int c5 p.2)/\k=a+(H.map w1).sum:=by induction vs with|nil=>intro ws a k h e;exact rwL h.nil_inv;exact⟨[],rfl,by ext RK;simp⟩|cons v vs G=>intro ws a k h e;ext a4L;intro Z z;induction v using kb with|int i=>refine db Z.int_inv ZE;subst U;exact aN (G z (show uX _ (a+i)=v_ from e)) λH g u=>⟨(i,t)::H,by ext NZ;rfl,by ext PE;simp;refine pk (nat_lit 0x11b332010003203100030) [] eb a0⟩|_=>exact b6 (show ap=v_ from e) (Option.some_ne_none k).symm
theorem DS(M:G2)[eX]{I:b5}{k:Int}(m:WN)(N:uX I 0=v_):eG (bj (eC "sum") [e0]) (bV k):=by
 unfold bV;refine wn (λJ=>aa.made Z_);refine a2d λitems n U Z B=> ? _;refine aN (yc Z N) λH g u=> ? _
 have T:a3W (intItems H.toArray):=by
  refine⟨_,U,rfl,n,? _⟩;have:kn=intItems H.toArray:=by apply Array.ext';ext NZ;simp [intItems]
  ext Od;rfl
 refine sum_intListG M T λh' r Y R=> ? _;refine qW (at_.grow R r) λD m1 x K J J=> ? _;refine c D _ _ m1 x K ? _;have j:preSum (numAt H.toArray) H.toArray.size=k:=by rewrite [preSum_eq];exact a3 (a3g (by simp)) u;simp
 exact rwL j;exact di _
theorem yd{T:String}(f:(Value.type UE==Value.type T)=av)(c:typeOf (lL T)=a_ a0L)(a:isSubtype RU (lL T)=A')(b:N')(u:Tok):Answers (λs=>R5 (hj u) UE) (hj u) (lL T) av:=λJ J J J J J s Z=>by obtain⟨h,g,d,t,os⟩:=s;exact isinstance_nested_false_bytes f c a (Z.2 (t+1))
theorem tu[OP]{u:Tok}:eG (Z0 [ek NP u,lL "str"]) (b3 NS):=by refine oi Xx;refine call_isinstance (S:=λJ R s=>R (.ok (.ret NS)) Z3) (λJ J J J s Z=> ? _) (k _ _ Qj F3);obtain⟨h,g,d,t,os⟩:=s;exact isinstance_outer (isinstance_nested_false_bytes (by ext ij) (by kernel_rfl) (by ext QV) Z)
theorem tv[OP]{u:Tok}[lS](h:j' a=aj {cls:= PQ,data:= .seq #[RU,x2]}):eG (Z0 [ek NP u,er]) (b3 y2):=by refine oi Xx;refine call_isinstance (isinstance_tuple (x:= ek NP u) (Tx:=UE) (cs:=[RU,x2]) (vs:=[am,av]) ⟨Answers.of_true (by kernel_rfl) (by ext QV),yd (by ext ij) (by kernel_rfl) (by ext QV) _ _,ep⟩) ⟨VY _ _ _,eZ▸h,λr=>k _ _ Qj F3⟩
theorem ye[q']:∀{ws:eS}[OP],tq->mZ vs=C2->∃c:t4,IntsAre ws c/\(∀n∈c,0<=n/\n<256)/\b=c.map λn=>PJ n.toNat:=by
 induction vs with
  |nil=>intro ws b h e;exact rwL h.nil_inv;exact⟨[],.nil,(λJ h=>(by cases h)),XY⟩
  |cons v vs G=>
   intro ws b h e;ext a4L;intro Z z
   induction v using kb with
    |int i=>
     refine db Z.int_inv ZE;subst U;have h':(if 0<=i/\i<256 then(mZ _).map (PJ i.toNat::·)else ap)=C2:=e;exact bcH hc (0<=i/\i<256)
     .replace h':=c4 hc▸h';refine aN (ZV h') λb' g d=> ? _;subst d;refine fk (G z g) λc a T I=> ? _;refine⟨i::c,t6 _ _ a,λn B=> ? _,by exact rwL I;rfl⟩;rcases nr B with rfl|B;. exact hc
      . exact T n B
     . replace h':=b9 hc▸h';exact bG h'
    |_=>exact b6 (show ap=C2 from e) (Option.some_ne_none b).symm
theorem om(M:G2)[eX]{I:b5}[OP](m:WN)(N:mZ I=C2)(u:kN<=1000):eG (bj RU [e0]) (b3 hj):=by
 refine a0Z;refine fk (cg at_ m) λitems U Z B=> ? _;refine fk (ye Z N) λc G T w=> ? _;subst w;have h:a3W items.toList.toArray:=by simpa using U
 exact call_bytes_ints h G T (by exact rwLRL SR B NM;refine YG u a0) M λh' t y R=>qW (at_.grow R y) λD m1 x K J J=>k D _ _ m1 x K (ek (c.map λn=>PJ n.toNat) t)
theorem rz:W7 RU "__bytes__"=a_ (aj (eC "bytes.__bytes__")):=by ext RE
theorem lh(b:N')(t:Tok):Meets (Builtin.«bytes.__new__» ⟨[RU,hj t],[]⟩) (λJ R s=>R (.ok (.ret (hj t))) s):=by exact dl2 b t;exact .of_wp λprog w A R s h=>by ext a7U;refine b8 (VP (VY s b t) rz ? _);refine b8 a35;refine b8 (wpAny_typeOf (VY s b t) ? _);exact f' a2e
theorem nc[OP]{t:Tok}:eG (bj RU [ek NP t]) (b3 hj):=by exact oi λs at_ Q E k=>callType_new PySem.F.bm_called (by decide) (PySem.F.bm_typeCall _) (PySem.F.bm_newCall _) (λj=>PySem.F.args_object_init_2 j _) PySem.F.bm_entry (lh _ _) ⟨VY _ _ _,k s _ at_ (hj t)⟩
theorem pU:W7 x2 "__bytes__"=a_ ap:=by ext RE
theorem pV:W7 x2 "__index__"=a_ ap:=by ext RE
theorem jl:W7 x2 "__buffer__"=a_ (aj (eC "bytearray.__buffer__")):=by ext RE
theorem lk:W7 x2 "__release_buffer__"=a_ (aj (eC "bytearray.__release_buffer__")):=by ext RE
theorem oo[XI][lS]{name id:String}{Q:b2->i1}(l:R5 er C4)(T:W7 x2 (name:Str)=a_ (aj (eC id)))(y:id.endsWith ("."++name)=am)(Z:isSubtype x2 (lL (id.dropRight (name.length+1)))=TA)(q:Q am s):H' (Builtin.Bytes.slotIsOwn er name) Q E s:=by unfold Builtin.Bytes.slotIsOwn;refine b8 (VP l T ? _);ext ON;exact rwL y;exact wpAny_isInstance l Z q
theorem yf[XI][lS]{b:N'}{id:String}{Q:ez N'->i1}(g:p0 a=aj (bN b 0))(q:Q C2 s):H' (Builtin.Bytes.buffer? id er am) Q E s:=by exact dl8 A M s E a b id Q;have l:R5 er C4:=VV;unfold Builtin.Bytes.buffer?;refine b8 (VP l jl ? _);(try ext ON);refine b8 (oo l jl (by ext ij) (by ext QV) ? _);ext a3y;refine b8 (VP l jl ? _);unfold Builtin.Bytes.ownRelease;refine b8 (b8 (oo l lk (by ext ij) (by ext QV) O8));exact bm_if_false rfl (b8 (iG g (f' q)))
theorem mi[SB](b:N')(u:b.size<=sizeLine):Meets (Builtin.«bytes.__new__» ⟨[RU,er],[]⟩) (λJ R s=>p0 a=aj (bN b 0)/\R (.ok (.ret (hj i_))) Z3):=by
 exact dl2 a b
 exact .of_wp λprog w A R s p=>by
  refine bx p λg h=> ? _;clear p;have l:R5 er C4:=VV;ext a7U;refine b8 (VP l pU ? _);refine b8 (b8 ? _);show NX (load a>>=_) _ _ _;refine b8 (W2 g ? _);refine f' O8;ext a3y;refine b8 (VP l pV ? _);refine bm_if_true rfl ? _;first|show a9J|(refine b8 ? _;show a9J)
  refine b8 (yf g ? _);refine b8 a35;refine b8 (wpAny_mkBytes ? _ u);first|exact f' a2e|exact b8 (f' (f' a2e))
theorem ou[eX][OP](m:a0z)(u:Wh):eG (bj RU [e0]) (b3 hj):=by exact oi λs at_ Q E k=>callType_new PySem.F.bm_called (by decide) (PySem.F.bm_typeCall _) (PySem.F.bm_newCall _) (λj=>PySem.F.args_object_init_2 j _) PySem.F.bm_entry (mi eT NP (by exact a3 List.size_toArray NM;refine YG u a0)) ⟨iH at_ m,VY _ _ _,k _ _ Qj (hj _)⟩
theorem At.newIn[P5]{o:ae}{m1:ac}[P6](t:Nat)(u:m1.H=sO nk i o)(W:lc=ap)(P:df o=av)(N:∀b x,p0 b=eI->E' b=eI)(F:∀D,ty->D.h=h'->TH=l5->fE C D i o):∃D,D.m=m1/\ty/\At C D UN/\TH=l5/\ao D.m i:=by refine bx (at_.inv.make (i:=i) (o:=o) (m1:=m1) (a:=l5) (d:=0) (h':=h') u W (λb x e=>N b x Wg) (by exact rwR eZ;exact nl) (λz=>by replace z:=P▸z;exact cT z) (λx=>F _ x rfl (dg _ _ _))) λI x=> ? _;ext a8J
theorem aa.newIn[Ol]{o:ae}{t:P7}(P:df o=av)(h:∀s,N7->∀(Q:el)E,a8g->Yk):a7k:=by ext s2;ext a5F;refine x4 (U7 Q E λh' r N F=> ? _);ext a7Z
theorem Ax[Ol][eX]{I:b5}(m:WN)(a:kN<=1000):eG (bj Qs [e0]) (do return a2 (<-ci d (bC I))):=by exact aa.newIn rfl λs at_ Q E k=>a2d λitems n U Z B=>call_list_seq (hsz:=by exact rwL NM;refine a4t a B a0) eT hA U rfl rfl λh' y N l=>k h' i_ N λD j x g u=>⟨kn,y,by exact a3 g u;exact l,Z.ext lv x eH⟩
section E
section E
section
open PySem PySem.W PySem.Calls PyProof.Rows PySem.SeqAt
section
variable{prog:Program}{w:World}{A:Around}{E:el}{s:Shared}
theorem aW{u:cv}[Rp]{c:Bool}{a b:Sem u}{Q:u->i1}(L:c=av)(h:kS b Q E s):kS (if c=am then a else b) Q E s:=by subst L;exact h
theorem jo{u:cv}[Rp]{c:Bool}{a b:Sem u}{Q:u->i1}(L:c=am)(h:kS a Q E s):kS (if c=am then a else b) Q E s:=by subst L;exact h
theorem jp[Rp]{P:Value}{T:String}{name:Str}{id:String}{args:eS}{Q:II->i1}(l:R5 P T)(h:Slot T name id)(L:kS (bj (eC id) (P::a6)) (λv=>Q d0) E s):kS (callSpecial? P name a6) Q E s:=by unfold callSpecial?;refine aA (VP l h.lookup ? _);simp only [h.bind];exact aL (ad (ak (ad (dC L (λv U h'=>ak h') λJ J h'=>h'))))
theorem ow{T n i:String}{args:eS}{Q Q₁:el}(d:TypeCalled T n i)(o:checkTypeCall T a0O=QK)(b:codeAny h6 A.in1 (.call (eC n) ⟨lL T::a6,[]⟩) (wants Q₁ E) s)(k:∀j f,Q₁ j f->f.TypeIs j T/\bp h6 A.in1 (bj (eC i) (j::a6)) (λr H=>r= a1/\Q j H) E f):bp h6 A (bj (lL T) a6) Q E s:=by revert Q₁;exact gs hN w A E s T n i a6 Q;exact dl1 Q₁;refine IZ d.mro λc tl m=> ? _;have g:=d.made;have a:=d.sub;refine je (aR ? _);show QN (callAny (lL T) _) _ _ _;refine ak ⟨a5N (by ext ij),(by show a07 VO=av;decide),jX F.entry_type_call ? _⟩;exact rwL (Around.under_plain (weight_type_call_type T a6 []) (units_type_call_type T a6 []));unfold Builtin.«type.__call__»;ext ON;refine aW d.notType ? _;refine aW d.canCreate ? _;refine aA (Qm o ? _);refine aA (Qm m ? _);ext Zq;refine aA (Qm g ? _);ext ON;refine ad (ak ? _);refine ad (aL ? _);refine dC (x4 (wpAny_call (codeAny_mono b (R':=wants Q₁ E) λJ J h=>h))) (Q:=Q₁) (E:=E) (λj f z=> ? _) (λe f h=>h);refine bx (k _ _ z) λl W=> ? _;refine aA (wpAny_isInstance l a ? _);ext Zq;refine ad (aL (jp l d.init ? _));refine dC W (λr H B=> ? _) λJ J h=>h;refine bx B PY;subst G;intro B;exact aW rfl (ak B)
section E
namespace BA
theorem mro:mroOf x2=a_ [x2,lL "object"]:=by rewrite [mroOf_type];kernel_rfl
theorem lookup_new:W7 x2 "__new__"=a_ (aj (eC Wy)):=by ext RE
theorem slot_init:Slot C4 lP VA:= a36 (n:=lP) (by ext RE) (by ext ij) (by ext ij) (by ext ij) (by first|exact b7 (by ext ij)|exact ba (by ext ij)) (by ext QV)
theorem called:TypeCalled C4 Wy VA:=⟨by ext ij,by ext ij,⟨_,_,mro⟩,madeBy_type mro lookup_new (by ext ij),by ext ij,by ext QV,slot_init⟩
theorem typeCall_0:checkTypeCall C4 ⟨[],[]⟩=QK:=by kernel_rfl
theorem typeCall_1(a:Value):checkTypeCall C4 ⟨[a],[]⟩=QK:=by kernel_rfl
theorem newCall_0:VN Wy ⟨[x2],[]⟩=QK:=by kernel_rfl
theorem newCall_1(a:Value):VN Wy ⟨[x2,a],[]⟩=QK:=by kernel_rfl
theorem entry_new:VT Wy=aj Builtin.«list.__new__»:=entryFor_alias (id':="list.__new__") (by rewrite [fastTable_eq_tree];kernel_rfl) (by kernel_rfl) (by kernel_rfl) (by rewrite [fastTable_eq_tree];kernel_rfl)
theorem entry_init:VT VA=aj a7r:=a32 (by kernel_rfl)
theorem plain_new:plainId Wy=am:=by ext ij
theorem sub_self:isSubtype x2 x2=TA:=by ext QV
theorem owner_new:("bytearray.__new__".splitOn ".__new__").headD ""=C4:=hh (λl=>l.headD "") PySem.W.split_bytearray
theorem args_init_0(a:Value):argsOk VA ⟨[a],[]⟩:=by unfold argsOk;rewrite [a80 (by kernel_rfl) owner];kernel_rfl
theorem args_init_1(a b:Value):argsOk VA ⟨[a,b],[]⟩:=by unfold argsOk;rewrite [a80 (by kernel_rfl) owner];kernel_rfl
section E.BA
section
variable{prog:Program}{w:World}{A:Around}{E:el}{s:Shared}
theorem mK(i:eS){Q₁:el}(L:VN Wy ⟨x2::i,[]⟩=QK)(h:Q₁ (a2 l5) {s with heap:=G1 Yc}):codeAny h6 A (.call (eC Wy) ⟨x2::i,[]⟩) (wants Q₁ E) s:=by exact dl7 hN w A E s i Q₁;refine codeAny_of_tree ? _;show PM _ A.in1 (do VN Wy ⟨x2::i,[]⟩;again (eC Wy ⟨x2::i,[]⟩)) _ _ s;refine b8 (Qm L (f' ⟨plainId_quiet BA.plain_new _,codeAny_builtin_stack BA.entry_new rfl λp N=> ? _⟩));exact rwL (Around.under_plainId BA.plain_new _);have a:=BA.sub_self;have f:=BA.owner_new;obtain⟨O,g,d,r,os⟩:=s;simp only [f];wp_walk;exact h
section E
section E
section
open PySem PySem.W PySem.Calls PyProof.Rows PySem.SeqAt
section
variable{prog:Program}{w:World}{A:Around}{E:el}{s:Shared}
theorem Ay[Rp][lS]{Q:b2->i1}(l:R5 er C4)(q:Q av s):H' (Builtin.Bytes.ownRelease er) Q E s:=by unfold Builtin.Bytes.ownRelease;exact b8 (oo l lk (by ext ij) (by ext QV) (f' q))
theorem Az:a9p [] []=a_ [ap,ap,ap]:=by kernel_rfl
theorem AA(v:Value):a9p [v] []=a_ [d0,ap,ap]:=by kernel_rfl
theorem ox[Rp][lS]{b:N'}{Q:b2->i1}(D:SV)(g:p0 a=aj (bN b 0))(q:Q av s):kS (Builtin.Bytes.exported er<||>(do return(<-Builtin.Bytes.exportsOf er)>0)) Q E s:=by refine ad (kZ D ? _);ext a96;exact ak q
theorem AB[lS]{Q:el}(D:SV)(g:p0 a=aj Yc)(q:∀h',E' a=aj Yc->T5 a e5 h'->Q a1 a1N):bp h6 A (bj (eC VA) [er]) Q E s:=by exact dl7 hN w A E s a Q;have l:R5 er C4:=VV;refine gY BA.slot_init l (by show a07 VA=av;decide) BA.entry_init (BA.args_init_0 _) ? _;unfold a7r;refine aA (Ay l ? _);ext Zq;refine aA (Qm Az ? _);ext b0e;refine aA (ib g (by show(#[]:N').size<=_;exact Q8 _) λh' Y Z=> ? _);exact ad (ak (ak ⟨_,rfl,q h' Y Z⟩))
theorem AC[lS]{k:Int}{t:Tok}{Q:el}(D:SV)(V:0<=k)(H:k<=1000)(g:p0 a=aj Yc)(q:∀h' r,E' a=aj (bN (Array.replicate k.toNat 0) 0)->T5 a e5 h'->Q a1 {s with heap:=h',toks:=r}):bp h6 A (bj (eC VA) [er,v0 t]) Q E s:=by
 exact dl9 hN w A E s a k t Q;have l:R5 er C4:=VV;refine gY BA.slot_init l (by show a07 VA=av;decide) BA.entry_init (BA.args_init_1 _ _) ? _;unfold a7r;refine aA (Ay l ? _);ext Zq;refine aA (Qm (AA _) ? _);ext b0e;refine aA (ib g (by show(#[]:N').size<=_;exact Q8 _) λh' Y Z=> ? _);refine aA (Qm (a:=ap) rfl ? _);ext Zq;refine aA a2U;refine aA (VP (typeIs_int _ k t) F.slot_int_index.lookup ? _);refine jo rfl ? _;refine ad (gP (x4 (Qm (a:=k) rfl ? _)));ext ON;have d:a1k k=am:=by unfold a1k;simp;lia
 refine aW (by exact rwL d;rfl) ? _;refine rf ? _;exact rwL (b9 (by refine a4H V a0));refine aW (by simp;lia) ? _;have I:Builtin.Bytes.tooLong k.toNat=av:=by unfold Builtin.Bytes.tooLong;simp [NM];refine b0m H a0
 refine aW I ? _;refine aA a35;refine rf ? _;exact bcH hk (k>0);. exact rwL (c4 hk);refine aA (ib Y (by exact a3 Array.size_replicate NM;lia) λm b U=> ? _);exact ad (ak (ak ⟨_,rfl,q m _ b (Z.trans U)⟩))
 .exact rwL (b9 hk);have:k=0:=by refine c6 (nat_lit 0x11b0100190001c1a000110) [] a7 V hk a0
  subst this;exact ad (ak (ak ⟨_,rfl,q h' _ Y Z⟩))
section E
section
variable{A:Around}{X:XP}{S:ey}{σ:Sg}{α β γ δ:cv}
theorem aa.newInD[Ol]{o:ae}{t:P7}(P:df o=av)(h:∀s,N7->∀(Q:el)E,a8g->q0 t Q E s):a7k:=by ext s2;ext a5F;refine(U7 Q E λh' r N F=> ? _);ext a7Z
theorem mL{h h':Heap}{o:Obj}(Z:T5 Qq (h.push o) h')(b:Addr)(x:Obj)(e:Th b=eI):E' b=eI:=by
 have M:b≠Qq:=λq=>by ext Q6;replace e:=UR nl▸e;ext pf
 exact rwL (Z.2 b M);exact L' e
theorem oy(a:SV)[Ol]:eG (bj x2 []) (do return a2 (<-ci d (f4 []))):=by refine aa.newInD rfl Xx;have g:(G1 Yc).get? l5=aj Yc:=Vz;refine a9v BA.typeCall_0 (mK [] BA.newCall_0 s4) λj f q=> ? _;refine bx q PY;clear q;ext a1J;refine⟨VV,AB a g λh' Y Z=>⟨rfl,k h' _ (mL Z) λD i x b u=> ? _⟩⟩;show Qy TH=_;exact a3 b u;exact Y
theorem oz(a:SV)[Ol]{n:Int}{t:Tok}(V:0<=n)(H:n<=1000):eG (bj x2 [t5 t]) (do return a2 (<-ci d (f4 (F_ n.toNat 0)))):=by refine aa.newInD rfl Xx;have g:(G1 Yc).get? l5=aj Yc:=Vz;refine a9v (BA.typeCall_1 _) (mK a7 (BA.newCall_1 _) s4) λj f q=> ? _;refine bx q PY;clear q;ext a1J;refine⟨VV,AC a V H g λh' r Y Z=>⟨rfl,k h' _ (mL Z) λD i x b u=> ? _⟩⟩;show Qy TH=_;exact ec b u (show(F_ n.toNat (0:UInt8)).toArray=Array.replicate n.toNat 0 by simp);exact Y
section E
section E
section
open PySem PySem.W PySem.Calls PyProof.Rows PySem.SeqAt
section
variable{A:Around}{X:XP}{S:ey}{σ:Sg}{α β γ δ:cv}
theorem AE:O0 "len"=aj (eC "len"):=by kernel_rfl
theorem AF:O0 "abs"=aj (eC "abs"):=by kernel_rfl
theorem AG:O0 "min"=aj (eC "min"):=by kernel_rfl
theorem AH:O0 "sum"=aj (eC "sum"):=by kernel_rfl
theorem AI:O0 "isinstance"=aj (eC "isinstance"):=by kernel_rfl
theorem vg:O0 "range"=aj U2:=by kernel_rfl
theorem oA:O0 UE=aj RU:=by kernel_rfl
theorem qA:O0 C4=aj x2:=by kernel_rfl
theorem yg:O0 "list"=aj Qs:=by kernel_rfl
theorem AJ:O0 "str"=aj (lL "str"):=by kernel_rfl
theorem yh:O0 D2=aj (lL D2):=by kernel_rfl
theorem eE{n m:Str}{w v:Value}(h:(n==m)=am)(B:O0 n=Oo)(M:O0 m=d0){P:UD}(p:P v):P w:=by replace B:=f1 h▸B;replace B:=M▸B;exact hR B▸p
theorem vi[M'](Z:tq):eG (bj U2 ws) (ja vs):=by cases Z with|nil=>ext d6|cons m z=>refine Oc (T:=λw=>bj U2 (w::_)) m λx t=> ? _;cases z with|nil=>exact vc|cons M z=>exact Vj (T:=λws=>bj U2 (Ur::ws)) (t6 M z) λv w h=>Oc (T:=λw=>bj U2 [Ur,w]) h λy u=>vf
theorem vj(a:G2)[US]:eG (bj RU [w]) (lY v):=by
 induction v using kb with
  |bytes b=>exact h.bytes_el (P:=λw=>eG (bj RU [w]) _) λt=>nc
  |ref i=>
   refine h.ref_el (P:=λw=>eG (bj RU [w]) _) λJ=>R4 λM m=> ? _
   induction M using z5 with
    |list I=>
     refine wn Tg;unfold zZ;refine cM (mZ I) (λN=> ? _) λk N=> ? _;. ext d6
     . exact om a m N L
    |barr b=>exact wn (λL=>ou m L)
    |_=>ext d6
  |_=>ext d6
theorem yi(D:SV)[Ol][M'](Z:tq):eG (bj x2 ws) (FX d vs):=by cases Z with|nil=>exact oy D|cons m z=>exact aa.argv0 (T:=λws=>bj x2 (_::ws)) z (Oc (T:=λw=>bj x2 [w]) m λk t=>wn (λL=>oz D L.1 L.2))
theorem VR.bi_inv{n:Str}[mm](h:dm (.bi n) w):O0 n=Oo:=by cases h;assumption
theorem AK[OP]{t:Tok}{c:V}[mm](h:dm c w):eG (Z0 [ek NP t,w]) (Ji c):=by
 induction c using kb with
  |bi n=>exact hE (λL=>eE L h.bi_inv AJ (P:=λw=>eG (Z0 [ek NP t,w]) _) tu) nz
  |tup l=>
   refine h.tup_el (P:=λw=>eG (Z0 [ek NP t,w]) _) λa items g Z=>aa.argl2 λp q e=> ? _;refine d9 (bW.two (e▸Z)) λW d u m P=> ? _;clear Z e;have it:kn= #[W,d]:=Array.ext' u
   induction p using kb with
    |bi x=>induction q using kb with|bi y=>refine hE Tg nz;ext a0S;have z:=eE L.1 m.bi_inv oA (P:=λw=>w= RU) rfl;have r:=eE L.2 P.bi_inv qA (P:=λw=>w= x2) rfl;replace g:=it▸g;replace g:=z▸g;replace g:=r▸g;exact tv g|_=>ext d6
    |_=>ext d6
  |_=>ext d6
theorem tw[Ol]{n:Str}[mm][M'](D:SV)(p: ZW)(M:G2)(B:O0 n=Oo)(Z:tq):eG (bj w ws) (wA d n vs):=by
 exact dl9 A X S σ d n w vs ws
 exact hE (λh=>eE h B AE (P:=XC) (Vj (T:=λws=>bj (eC "len") ws) Z λv w h=>DP p h)) λJ=>hE (λh=>eE h B vg (P:=XC) (vi Z)) λJ=>hE (λh=>eE h B AG (P:=XC) (aa.argv2 (T:=λws=>bj (eC "min") ws) Z λv w P Q h h'=>Xg (T:=λw Q=>bj (eC "min") [w,Q]) h h' λa t b u=>DR M)) λJ=>hE (λh=>eE h B AF (P:=XC) (Vj (T:=λws=>bj (eC "abs") ws) Z λv w h=>Oc (T:=λw=>bj (eC "abs") [w]) h λa t=>DQ)) λJ=>hE (λh=>eE h B AH (P:=XC) (Vj (T:=λws=>bj (eC "sum") ws) Z λv w h=>Vk (T:=λw=>bj (eC "sum") [w]) h λi J=>aa.atL λI m=>by
  unfold xQ;refine cM (uX I 0) (λN=> ? _) λk N=> ? _;. ext d6
  . exact DS M m N)) λJ=>hE (λh=>eE h B oA (P:=XC) (Vj (T:=λws=>bj RU ws) Z λv w h=>vj M h)) λJ=>hE (λh=>eE h B qA (P:=XC) (yi D Z)) λJ=>hE (λh=>eE h B yg (P:=XC) (Vj (T:=λws=>bj Qs ws) Z λv w h=>Vk (T:=λw=>bj Qs [w]) h λi J=>aa.atL λI m=>wn (λL=>Ax m L))) λJ=>hE (λh=>eE h B AI (P:=XC) (aa.argv2 (T:=λws=>Z0 ws) Z λv w P Q h h'=>aa.onBytes (T:=λw=>Z0 [w,Q]) h λb t=>AK h')) nz
section E
section E
section
open PySem PySem.W PySem.Calls PyProof.Rows PySem.SeqAt
section
variable{A:Around}{X:XP}{S:ey}{σ:Sg}{α β γ δ:cv}{mg mb:h7}{l:p_}{R:gN}{env:Env}{fm:Fm}
def qB(M:Model)(h:Heap)(w:Value):a5:=∃k,(k=Keeper.frame\/k=Keeper.machine\/k=Keeper.boundFrame)/\Looks M h (keeperOf w) k
theorem qB.of_K[Rp]{h:Heap}[mm](X:C.K.In h)(e:keepIn C.K w=am):qB M h w:=keeps_K e h X
theorem qB.plain[Rp]{h:Heap}[mm](e:∀a,w≠er):qB M h w:=by refine⟨.machine,Wj,Looks.of_pure ? _⟩;cases w<;>first|rfl|exact O9 (e _)
def oB:OO| .fn _ _| .cls _| .bi _| .clos _ _ _=>am|_=>av
theorem AL[Rp][lN][m2]{f:V}[mm](h:dm f w)(L:oB f=am):qB M σ.h w:=by cases h with|fn c f a e=>exact .of_K (G.K.keeps I.base) (G.keepF _ _ _ e)|cls c a e=>exact .of_K (G.K.keeps I.base) (G.keepC _ _ e)|bi n v e k=>exact .plain λa q=>by subst q;exact cT k|clos body sc cells a name g cl j o ct q N e r b=>exact⟨.frame,hA,(Looks.ld (part:=ap) e).andThen .now⟩|_=>exact cT L
theorem qC:∀{args:eP}[O7],c7 a6=am->(Yo (Uq a6 env)).any w1=av:=by intro O;induction O with|nil=>intro _ _;exact rfl|cons e r G=>intro pos h;have G:c7 r=am->(Yo (Uq r env)).any w1=av:=G;cases e<;>first|(cases h;done)|exact G h
abbrev Ga[q4]:Sg->b5->Args->a5:=λσ vs a=>∃ws,a=⟨ws,[]⟩/\tq
theorem rA(d:X.Mono)(n:S4)[O_]{args:eP}(B:c7 a6=am)(w:Value)[iv][O3]:Op (Ga C) (evalArgs w am a2O []) a0P:=by
 have tail:∀(t:Sem eS),Op (Jy C) t a0P->Op (Ga C) (t>>=λvs=>(b3 (vs,(ap:II))>>=λp=>o1 (c5++p.2.toList) (evalAll []>>=λZ=>b3 c5>>=λq=>b3 (⟨q,([]:pb).zip Z⟩:Args)))) a0P:=by intro t f;intro s at_ c Q E O;refine ad (aa.thru (λb=>b) f at_ c O λD U a b K z q=> ? _);refine ad (ak (aL ? _));exact ad (ak (ad (ak (ak (q _ ⟨a,rfl,z⟩)))))
 have v:=DO d n pos a6 σ F I;induction a6 using li with|nil=>exact tail _ v|cons e r=>cases e<;>first|(cases B;done)|exact tail _ v
theorem ge(o:X.Mono)(n:S4)[O_]{args:eP}(B:c7 a6=am)[mm]{f:eS}[iv](M:k_)[m2]{R':Sg->β->UD}{k:b5->i2}(N:∀D vs ws,ty->bH C D->bW C D vs ws->(k vs=a8\/(qB QS D.h w/\WV S0 D R' (bj w (f++ws)) (k vs)))):Op R' (callWith pos w f a2O []) (do let vs<-a0P;k vs):=by
 unfold callWith;refine th o (B4 (rA o n pos B w σ M I)) λj a vs x d z=> ? _;refine aN z λws v=> ? _;subst v;intro z;refine mn ? _;rcases N j vs ws x d z with e|⟨⟨y,h,L⟩,Z⟩;. ext ea;ext d6
 have O:=qC (env:=env) (pos:=pos) B;have tail:∀{t:P7},a0Y t (k vs)->a0Y (t>>=λr=>o1 [r] point>>=λJ=>b3 r) (k vs):=by intro t G s at_ p Q E O;exact ad (aa.thru (λb=>b) G at_ p O λD U a b K z q=>ad (aL (ma (ak (q _ z)))))
 have i:∀{c:a5}{_:Yy c}{t u:P7},a0Y t (k vs)->a0Y u (k vs)->a0Y (if c then t else u) (k vs):=λ{c}_ _ _ H F=>if e:c then(c4 e).symm▸H else(b9 e).symm▸F;have m:∀g,a0Y (callMarked g w (f++ws) []) (k vs):=λg s at_ p Q E O=>by unfold callMarked;exact Af (Z s at_ p Q E O)
 refine aa.silent (a:=y) (λs at_ Q E q=>(eZ▸L:Looks _ e5 _ _).here q) ? _;rewrite [O];rcases h with rfl|rfl|rfl;. ext a79
 . exact tail Z
 . ext a79
section E
section E
section
open PySem PySem.W PySem.Calls PyProof.Rows PySem.SeqAt
section
variable{prog:Program}{w:World}{A:Around}{E:el}{s:Shared}
theorem yj[SB](rest:eS):(a2q VO a3P).weight=1:=rfl
theorem AM[SB](rest:eS):(a2q VO a3P).cUnits=1:=rfl
theorem DT[SB](rest:eS):(a2q VO a3P).envs=[]:=rfl
theorem yk[SB](rest:eS):(a2q VO a3P).guards=[]:=rfl
theorem AN[SB](rest:eS):A.under (eC VO a3P)=Yp A:=by obtain⟨hd,d,S,c,u⟩:=A;simp only [Around.under,Yp,yj,AM,DT,yk,pushEnvs,pushGuards]
theorem Hl{K l:Addr}{rest:eS}{Q:el}(C:Makes h6 e5 K)(W:Looks h6 e5 (W7 B6 lP) (aj (a2 l)))(M:∀P,Looks h6 e5 (bindSpecial (a2 l) P) (a2 l,[P]))(B:bp h6 (Yp A) (bj (a2 l) (a2 QM::rest)) (λr U=>r= a1/\Q (a2 QM) U) E {s with heap:=VH TZ}):bp h6 A (bj B6 rest) Q E s:=by
 exact dl9 hN w A E s K l rest Q;have x:=C;obtain⟨⟨y,p,H,O,q,R,u,T⟩,m,i,P,D,a,n⟩:=C;refine je (aR ? _);show QN (load K>>=_) _ _ _;refine aA (W2 q ? _);show QN (callAny.viaDunder B6 _) _ _ _;unfold callAny.viaDunder;refine aA (a.here ? _);ext ON;rewrite [tc_bind];refine ad (ak (ad (ak ? _)));refine ak (a:=Fin.again (.call (eC VO) ⟨B6::rest,[]⟩)) ⟨rfl,rfl,aR ? _⟩;show bp _ A.in1 (do VN VO ⟨B6::rest,[]⟩;again (eC VO ⟨B6::rest,[]⟩)) _ _ s;refine aA (check_slot tc_kind tc_split n (tc_args _ _ _) (ak ⟨a5N (by ext ij),(by show a07 VO=av;decide),jX F.entry_type_call ? _⟩));rewrite [AN];have L:Looks h6 e5 (mroOf B6) H.mro:=((Looks.ld (part:=ap) q).andThen .now).andThen .now;unfold Builtin.«type.__call__»;ext ON;ext Zq;refine aA (L.here ? _);refine aW T ? _;refine aA (m.here ? _);ext ON;refine ad (ak ? _);refine ad (aL ? _);have k:∀b o,R2->(VH TZ).get? b=ck:=λb o e=>L' (L' e);have Y:(VH TZ).get? QM=aj TZ:=by heap_get
 have c:Looks h6 (VH TZ) (typeOf (a2 QM)) B6:=(Looks.ld Y).andThen .now;refine dC (Q:=λv U=>v= a2 QM/\U={s with heap:=VH TZ}) (E:=E) (x4 (wpAny_call ? _)) (λj f I=> ? _) λJ J h=>h;. obtain⟨h,g,d,t,os⟩:=s;exact new_K (R:=λr U=>match r with| .ok LO=>v= a2 (Qq+1)/\U=_| .ok _=>gj| Q1=>E e U) x W hA s4
 refine bx I PY;clear I;subst G;intro N;subst N;refine aA (m:=isInstance _ _) ? _;unfold isInstance;refine b8 (c.here ((P.keeps k).here ? _));ext Zq;refine ad (aL ? _);unfold callSpecial? specialOf;refine ad (aA (c.here (x4 ((W.keeps k).here ? _))));ext ON;refine aL (aA (((M _).keeps k).here ? _));ext ON;refine ad (dC B (λr U z=> ? _) λJ J h=>h);refine bx z PY;subst G;intro z;refine ak ? _;ext ON;exact aW rfl (ak z)
section E
section E
section
set_option backward.match.sparseCases false
open PySem PySem.W PySem.Calls PyProof.Rows PySem.SeqAt
theorem Xc.mono[P8]:(Xc C l).Mono:=λS σ j T s e x⟨a,B,H,F⟩=>⟨a,B,H,F.cls,F.inv,λb o e=>by exact db (x.stay b o e) λo' r=>F.old b o' r⟩
section
variable{A:Around}{X:XP}{S:ey}{σ:Sg}{α β γ δ:cv}{mg mb:h7}{l:p_}{R:gN}{env:Env}{fm:Fm}{call:aD}
theorem At.newInst[eX]{c:Str}{K:Addr}{m1:ac}[QT](u:m1.H=sO nk i (sh []))(W:lc=ap)(L:C.ca c=aj K):∃D,D.m=m1/\ty/\At C D {s with heap:=VH TZ}/\TH=QM/\ao D.m i:=by
 exact dl6 σ i c K m1 s;have k:∀b o,R2->(VH TZ).get? b=ck:=λb o e=>L' (L' e);have Y:(VH TZ).get? QM=aj TZ:=by heap_get
 have hd:(VH TZ).get? l5=aj emptyDict:=by heap_get
 have M:(VH TZ).Ns l5 U6:=(Heap.Ns.new e5 (lL "dict")).push _
 refine bx (at_.inv.make (i:=i) (o:= sh []) (m1:=m1) (a:=QM) (d:=l5) (h':=VH TZ) u W (λb o e=>k b o Wg) (by exact rwR eZ;exact W1 _) (λJ=>⟨by exact rwR eZ;exact nl,λq=>by have q: @Eq Nat QM l5:=q;refine bn (nat_lit 0x1d0b003110001) a7 [] q a0⟩) (λx=>by
  refine⟨K,U6,L,? _,? _,⟨emptyDict,_,_,? _,rfl,rfl,rfl⟩,λy=>ep⟩;. show Heap.get? _ (rb _ _ _ _)=aj (instObj K (rb _ _ _ _));rewrite [dg];rewrite [dg];exact Y
  . show Heap.Ns _ (rb _ _ _ _) _;rewrite [dg];exact M
  . show Heap.get? _ (rb _ _ _ _)=_;rewrite [dg];exact hd)) λI x=> ? _;ext a8J
theorem yl[Ol]{f:V}[mm][M'][lN](D:SV)(M:G2)(K:jd C A l bj)[m2](c8:YT)(i0:dm f w)(Z:tq)(L:oB f=am):TY S0 σ D' (Uh w ws) (z3 bj d f vs):=by
 revert ws;exact gs A σ mg mb l bj d f w vs;exact dl1 ws
 cases i0 with
  |fn c f a e=>exact(K.fn σ c f a vs ws I c8 e Z).of_inC
  |clos body sc cells a name g cl d8 o ct q N e r c9=>exact(K.clos σ hq sc mz _ vs ws I c8 (a7M d8 o ct q N e r c9) Z).of_inC
  |bi n v e k=>exact tw D G.sm M e Z
  |cls c a e=>
   show TY S0 σ D' (Uh er ws) (if ! a0V (c,lP)then a8 else ci U3 (sh [])>>=λi=>bj (.fn c lP) (eF::vs)>>=λr=>match r with| a1=>b3 (og i)|_=>a8);refine hE nz λB=> ? _;have B:a0V (c,lP)=am:=by simpa using B
   refine GT (G.meth c a lP e B) λf m1 f8 d9 h=> ? _;ext s2;ext a5F;refine qW (at_.newInst (i:= bv U3 (σ.m.c U3)) (m1:=σ.m.mk1 U3 (sh [])) dA q e) λj m x W c7 t=> ? _;have Y:=mG G.K at_;refine Hl (makes_of Y (G.make c a e B)) (looks_findIn Y d9) (λP=>bind_fn Y P h) ? _;have e6:∀e∈l,dG C j e:=λe f7=>(c8 e f7).ext x W6;have f9:bW C j (a2 (bv U3 (σ.m.c U3))::vs) (a2 QM::ws):= t6 (by exact rwR c7;exact rv t) (Z.ext I x eH);have e8:=cH.shift Ta x O;have e7:j.m=σ.m.mk1 U3 (sh []):=m;replace e8:=G' e7▸e8;refine aa.step Ta (K.fn j c lP f _ _ W.inv e6 m1 f9) W eH e8 λT H r b y U F e9 u=> ? _
   induction b using kb with
    |none=>
     have:r= a1:=by cases e9;rfl
     refine⟨b_,u.ok (b:=og (Id.mk U3 (σ.m.c U3))) T H _ rfl Q2 U F ? _⟩;have z:T.ρ (bv U3 (σ.m.c U3))=QM:=(y.ρ _ t).trans c7;show D' T _ (a2 QM);exact rwR z;exact rv (y.live _ t)
    |_=>exact u.no
  |_=>exact cT L
section E
section E
section
open PySem PySem.W PySem.Calls PyProof.Rows PySem.SeqAt
section
variable{A:Around}{X:XP}{S:ey}{σ:Sg}{α β γ δ:cv}{mg mb:h7}{l:p_}{R:gN}{env:Env}{fm:Fm}{call:aD}
theorem Ev.assoc{x:xj α}{f:α->i2}{g:β->xj γ}:(x>>=f)>>=g=x>>=λa=>f a>>=g:=rfl
theorem DU[US]:eG (unaryOp .Not w) (do return hP (!(<-cG v))):=by show eG (o1 [w] (truthy w>>=λb=>b3 (Value.bool (! b)))) (cG v>>=λb=>b3 (OK (! b)));exactλs at_ p Q E O=>aL (ad (aa.thru _ (mf (X:=X) (S:=S) h) at_ p O λD U a b K z q=>ak (q _ (by cases z;exact F3))))
theorem AO{v c:Expr}{o k:V}{u q:Value}(P:dm o u)(N:dm k q):eG (VW v c u q) (be o k):=by
 induction o using kb with
  |tup vs=>exact P.tup_el (P:=λu=>eG (VW v c u q) (ni vs k)) λa items g Z=>aa.tailItem (λs at_=>⟨"tuple",_,⟨_,eZ▸g,rfl⟩,PySem.F.slot_tuple_getitem.lookup⟩) (ti g Z N)
  |ref i=>
   refine P.ref_el (P:=λu=>eG (VW v c u q) (aX i>>=λM=>eD M k)) λJ=>R4 λM m=> ? _;exact bcH h (s8 M=am);. exact aa.tailItem (λs at_=>x6 at_ m h) (tj m N)
   . cases M<;>first|exact O9 h|ext d6
  |_=>ext d6
theorem mj[Qf]:∀(e:ez hC)[iv],k_->x_->PC (valueOrNone (evalOpt e env)) (nN R e fm)|P4,σ,F,I=>VF|ap,σ,F,I=>z0 λJ=> a1
theorem ym{i:Expr}{o r:Value}[g_](h:dm v r):eG (letTemporaryGo i o r>>=λJ=>b3 r) (b3 v):=by ext s2;exact aA (wpAny_letTemporaryGo (ak (O.ok σ s r rfl Q2 p at_ h)))
theorem aa.tailR{R:yy}{t:kk}{f:α->Sem γ}{R':Sg->β->γ->a5}{x:i2}[Vn](h:wa x)(F:∀D b a,B5 D->bH C D->R D b a->WV S D R' (f a) (b3 b)):hO R' (t>>=f) x:=by exactλs at_ p Q E O=>ad (aa.step (f:=λb=>b3 b) B h at_ p O λD U a b y g K z L=>F D b a y K.inv z U K g Q E L)
theorem tA{o:Expr}{n:Str}{t:P7}(h:kR o=am):attributeBase o n env t=t:=by
 induction o using Ox with
  |Call f args M p=>
   induction f using Ox with
    |Name x a=>
     induction a6 using li with
      |nil=>induction M using li with|nil=>exact s1 h|cons=>rfl
      |cons=>rfl
    |_=>rfl
  |_=>rfl
theorem yn{args:eP}[O7](Z:c7 a6=am)(T:args.length<29):methodCallForm (args.length+([]:dk Keyword).length) a2O (backToKw pos (keywordEach [] env))=am:=by
 have O:=qC (env:=env) (pos:=pos) Z;unfold methodCallForm;have H:(Yo (Uq a6 env)).all (!·.1)=am:=by exact rwL List.all_eq_not_any_not;simpa using O
 exact rwL H;show(am&&am&&fl (args.length+0+0<30))=am;simp;refine bn (nat_lit 0x10a0000001e2000a0000001d20001) a7 [] T a0
theorem yo[lN][P5]{c n:Str}{F:dd}{w f:Addr}{M:Sem b2}(m:lc=aj (sh F))(B:R3 n=ap)(b:C.ca c=Oo)(p:plainGet C.K w n=am)(a:findIn C.K (a2 w) n=aj (aj (a2 f)))(h:typeIn C.K (a2 f)=aj a0p){Q:m9×eS->i1}{E:el}(q:Q (a2 f,[e0]) s):D1 (o1 [e0] (getMethod e0 n M)) Q E s:=by
 cases rn at_ m with
  |mk d o Y j k I hd _ r _ N H=>
   cases b.symm.trans k
   have g:nsFind Y n=ap:=by
    have H:=H n;replace H:=B▸H;refine cM (nsFind Y n) od λJ e=> ? _;. rfl
    . replace H:=e▸H;exact H.elim
   refine S3 (method_fn (mG G.K at_) I (plainGet_of p).1 (plainGet_of p).2 a h ? _ q);show(lookIn n o).map _=_;exact a3 (qy r N hS n) g;rfl
theorem AP[eX]{b:ae}{n:Str}{M:Sem b2}{Q:m9×eS->i1}{E:el}[QT](m:lc=C2)(r:gz b n=am)(q:Q (eC (mh (dv b) n),[e0]) s):D1 (o1 [e0] (getMethod e0 n M)) Q E s:=by exact dl9 A σ i b n M Q E s;obtain⟨T,pa,c,h,hat⟩:=ya r;obtain⟨d,o',e,f⟩:=hat σ i s at_ m;exact S3 (getMethod_builtin d pa c h (λa q=>by cases q;exact⟨o',e,f⟩) q)
theorem yp{M:ae}{c:Str}{F:dd}(h:dv M=dv (sh F)):∃fs',M= sh fs':=by induction M using z5 with|inst y fs'=>exact⟨fs',by cases h;rfl⟩|_=>exact MK.noConfusion h
def Gb:MK->Str->b2| bC,n=>Zv||n==("insert":Str)||n==("pop":Str)| lI,n=>n==("get":Str)| .sd,n=>n==("update":Str)| f4,n=>Zv|_,_=>av
theorem tB(o:ae)[SC]:gz o n=Gb (dv o) n:=by cases o<;>rfl
theorem tC{M N:ae}{n:Str}(h:dv N=dv M)(r:gz M n=am):gz N n=am:=(tB N n).trans ((hh (Gb · n) h).trans ((tB M n).symm.trans r))
theorem yq[eX]{M:ae}{n:Str}[q'](r:gz M n=am):cA bj i M n vs=uY M i n vs:=by cases M<;>first|rfl|exact s1 r
theorem yr{o:Expr}{n:Str}{v pos:Pos}{args:eP}[lN](D:SV)(c9:G2)(B:X=Xc C l)(e7:S4)(K:jd C A l bj)(H:(v.endLine==qj)=am)(F:args.length<29)(i6:kR o=am)(f7:c7 a6=am)[iv](d8:k_)[m2]:PC (hr (On (W' o n v) a6 [] pos) env) (do let i7<-Qw;dB i7 λi=>FZ bj R i n a6 fm):=by
 revert n v pos args σ;exact gs A X mg mb l R env fm bj o;revert σ;exact dl4 n v pos a6;exact dl1 σ;subst B;have V:=Ta;rewrite [arm_eval_Call];exact rwL (tA i6);refine th V (e7.ev o env fm σ d8 I) λj u i7 x d P=>mn ? _;have e6:=d8.ext I x;unfold methodCall;exact rwL (yn f7 F);have k:methodCallPos am o env v pos=b3 pos:=by unfold methodCallPos;exact rwL H;rfl
 refine Vk (T:=λu=>o1 [u] (getMethod u n _)>>=λp=>methodCallPos am o env v pos>>=λO=>callWith O c5 p.2 a2O []) P λi f9=> ? _;exact rwL k;clear H F i6 k P x d8 I;refine R4 λM m=>hE Tg nz;have Y:(∃c e8,M= sh e8)\/gz M n=am:=by cases M<;>first|exact b7 ⟨_,_,rfl⟩|exact ba L
 rcases Y with⟨c,e8,rfl⟩|r;. have L:((e8.lookup n).isNone&&a0V (c,n))=am:=L;ext a0S;refine i5 (show fE C j i (sh e8)from d.obj i _ m) λw J b J=> ? _;refine GT (G.meth c w n b L.2) λf m1 i0 d9 c8=> ? _;refine aa.silent (a:=(a2 f,[a2 (j.ρ i)])) (λs at_ Q E q=>yo G at_ m (a4Y L.1) b i0 d9 c8 q) (aa.pureL (ge V e7 pos f7 j e6 d λT vs ws t W Z=> ba ⟨.of_K (G.K.keeps W.base) (G.keepF _ _ _ m1),R4 λf8 h=> ? _⟩));refine aN (t.inst i _ m) λN g e9=> ? _;cases h.symm.trans g;refine db (yp e9) λfs' U=> ? _;subst U;refine(K.fn T c n f _ _ W (λe y=>(e6.fr e y).ext t W6) m1 (t6 ? _ Z)).of_inC;exact rwR (t.ρ i f9);exact eF (t.live i f9)
 . refine aa.silent (a:=(eC (mh (dv M) n),[a2 (j.ρ i)])) (λs at_ Q E q=>AP at_ m r q) (aa.pureL (ge V e7 pos f7 j e6 d λT vs ws t W Z=> ba ⟨.plain λa q=>(by cases q),R4 λf8 h=> ? _⟩));refine aN (t.inst i _ m) λN g e9=> ? _;cases h.symm.trans g;have z:=tC e9 r;exact rwLRR (yq z) e9 (t.ρ i f9);exact vb D G.sm z h Z
section E
section E
section
open PySem PySem.W PySem.Calls PyProof.Rows PySem.SeqAt
section
variable{A:Around}{X:XP}{S:ey}{σ:Sg}{α β γ δ:cv}{mg mb:h7}{l:p_}{R:gN}{env:Env}{fm:Fm}{call:aD}
theorem AQ[lN](D:fU A l 0)(B:X=Xc C l)(n:S4)(K:jd C A l bj){f:Expr}{args:eP}[O7](c:c7 a6=am)(y:hr (On f a6 [] pos) env=hr f env>>=λv=>callWith pos v [] a2O [])[iv][O3]:PC (hr (On f a6 [] pos) env) (do let a<-R.ev f fm;let vs<-a0P;z3 bj qj a vs):=by
 subst B;have V:=Ta;exact rwL y;refine th V (n.ev f env fm σ F I) λj w a x d P=> ? _;have i:=vd x;refine ge V n pos c j i d λT vs ws t W Z=> ? _;exact bcH hc (oB a=am);. have b:=Zh P;exact ba ⟨AL G W b hc,yl G D.g D.h K W (λe y=>(i.fr e y).ext t W6) b Z hc⟩
 . left;cases a<;>first|rfl|exact O9 hc
theorem DV(V:X.Mono)(n:S4){op:UnaryOp}{a:Expr}{p:Pos}[O3]:PC (hr (.UnaryOp op a p) env) (M0 R op a fm):=by cases op with|Not=>exact th V (n.ev a env fm σ F I) λj u x P d h₁=>mn (B4 (DU su))|USub=>exact th V (n.ev a env fm σ F I) λj u x P d h₁=>mn (B4 (Oc (T:=λu=>unaryOp .USub u) su λi t=>fF λJ J s at_ Q E h=>neg_int U9))|_=>ext d6
theorem AR(V:X.Mono)(n:S4){o k:Expr}{p:Pos}(d8:k_)[m2]:PC (hr (a14 p) env) (Jm R o k p fm):=by have q:PC (hr o env>>=λu=>o1 [u] (hr k env)>>=λi=>Oh p>>=λJ=>VW o k u i) (Qw>>=λK=>R.ev k fm>>=λr=>be K r):=th V (a1Q d8 I) λj u x P d h₁=>th V (B4 (n.ev k env fm j (d8.ext I P) d)) λT v y t f8 c7=>mn (AO (Zh su) c7);induction k using Ox with|Slice G W N c9=>clear q;show PC (hr o env>>=λu=>o1 [u] (valueOrNone (evalOpt G env)>>=λa=>o1 [a] (valueOrNone (evalOpt W env))>>=λb=>o1 [a,b] (valueOrNone (evalOpt N env))>>=λc=>newFields "slice" [a,b,c])>>=λi=>Oh p>>=λJ=>VW o (.Slice G W N c9) u i) (Qw>>=λK=>nN R G fm>>=λa=>nN R W fm>>=λb=>nN R N fm>>=λc=>km p.line K a b c);refine th V (a1Q d8 I) λj u x P d h₁=> ? _;have f7:=d8.ext I P;clear d8 I P;intro s at_ d9 Q E O;refine ad (aL (ad (aa.step V (mj V n G j f7 d) at_ d9 O λT H a e7 t U F m O=> ? _)));have Y:=f7.ext d t;have h₁:=Zh su;clear f7 t;refine ad (aL (aa.step V (mj V n W T Y F.inv) F U O λZ e6 b e9 f B w M O=> ? _));have z:=Y.ext F.inv f;have h₁:=VR.ext F.inv f eH su;have m:=VR.ext F.inv f eH m;clear Y f;exact ad (aL (aa.step V (mj V n N Z z w.inv) w B O λc8 e c e8 g D h L O=>x8 V (VR.ext w.inv g eH su) (VR.ext w.inv g eH m) (VR.ext w.inv g eH M) L e h D Q E O))|_=>exact q
theorem aa.mapR[Vn]{R:yy}{R':Sg->γ->α->a5}[T']{f:β->γ}(h:wa x)(z:∀D b a,R D b a->R' D (f b) a):hO R' t (x>>=λb=>b3 (f b)):=λs at_ p Q E O=>aa.step B h at_ p O λD U a b y g K r O=>O.ok D U a rfl Q2 g K (z _ _ _ r)
theorem yt[lN](D:fU A l 0)(B:X=Xc C l)(b:S4)(K:jd C A l bj){f:Expr}{args:eP}{p:Pos}[O3]:PC (hr (On f a6 [] p) env) (F5 bj R f a6 p fm):=by induction f using Ox with|Attribute o n s=>refine hE Tg nz;simp only [py,decide_eq_true_eq]at L;exact yr G D.g D.h B b K L.1.1.1 L.1.1.2 L.1.2 L.2 σ F I|Name x a=>exact hE (λL=>AQ G D B b K (py _ _▸L).2 rfl σ F I) nz|_=>ext d6
theorem vk[lN](w:fU A l 0)(B:X=Xc C l)(h:S4)(K:jd C A l bj)(U:∀(H:Arguments)body sc pos env fm σ,a9i)(q:a8p)(c8:a8P):∀[QH][QD][lF][iv],k_->x_->PC N8 (l6 C.P bj R e fm):=by
 intro e env fm σ F I;have V:X.Mono:=B▸Ta;have O:Y_:=by have:=w.u;refine a9u
 induction e using Ox with
  |Constant c k p=>exact qx
  |Name x p=>exact nV G.toPF F
  |BoolOp op vs p=>exact n7 V h p op vs σ F I
  |BinOp a op b p=>exact th V (h.ev a env fm σ F I) λj u x P d h₁=>th V (B4 (h.ev b env fm j (vd P) d)) λT v y N W m=>mn (aa.operate (xU (VR.ext d N eH su) m))
  |UnaryOp op a p=>exact DV V h F I
  |IfExp t a b p=>
   show PC (isTrue t env (hr t env)>>=λc=>if c=am then hr a env else hr b env) (Qa t fm>>=λc=>gm c (R.ev a fm) (R.ev b fm));refine th V (h.test t env fm σ F I) λj u x P d h₁=> ? _;subst h₁;cases x;. exact h.ev b env fm j (vd P) d
   . exact h.ev a env fm j (vd P) d
  |Tuple Y c p=>exact hE (λL=>mn (th V (jL V h p Y σ F I) λj ws vs x d h₁=>k6 su.1 (by exact rwL (su.2);exact L))) nz
  |List Y p=>
   refine hE (λL=>mn (th V (jL V h p Y σ F I) λj ws vs x d h₁=>aa.newIn rfl Xx)) nz;refine wpAny_newList (k _ i_ (λb o e=>L' e) λD i x c9 c7=>⟨ws.toArray,0,? _,? _⟩) (by exact rwRLL (su.1.length) (su.2) NM;refine YG L a0);. exact a3 c9 c7;exact Vz
   . simpa using su.1.ext lv x eH
  |Dict Z vs p=>exact c8 Z vs p env fm σ F I
  |Compare a ops Y p=>exact th V (h.ev a env fm σ F I) λj u x P d h₁=>aa.mapR V (jg V h O p ops Y j x u (vd P) d su) λJ b J r=>(show _=Value.bool b from r)▸B_
  |Attribute o n p=>refine hE Tg nz;show PC (attributeBase o n env (hr o env)>>=λu=>Oh p.atName>>=λJ=>o1 [u] (getAttr u n am)>>=λr=>letTemporaryGo o u r>>=λJ=>b3 r) _;exact rwL (tA L);exact th V (h.ev o env fm σ F I) λj u x P d h₁=>mn (aa.tailR V (B4 (sZ G.K G.attrs su)) λT b a J J z=>ym z)
  |Subscript o k p=>exact AR V h F I
  |Call f args M p=>exact UC (T:=λM=>hr (On f a6 M p) env) (yt G w B h K F I)
  |Lambda H body sc p=>exact U H hq sc p env fm σ F I
  |ListComp elt gens sc p=>exact q elt gens sc p env fm σ F I
  |_=>ext d6
section E
section E
section
set_option backward.match.sparseCases false
open PySem PySem.W PySem.Calls PyProof.Rows PySem.SeqAt
section
variable{A:Around}{X:XP}{S:ey}{σ:Sg}{α β γ δ:cv}{mg mb:h7}{l:p_}{R:gN}{env:Env}{fm:Fm}{call:aD}
theorem tD[Qf][O3][QG]{t:Sem b2}(h:t=(N8>>=λv=>Oh e.pos>>=λJ=>o1 [v] (truthy v))):U' t (tb>>=cG):=by exact rwL h;exact th B VF λj u x P d h₁=>mn (B4 (mf su))
theorem rB[Qf](o:Y_):∀[QH][QD][lF][iv],k_->x_->U' (isTrue e env N8) (sQ R e fm):=by
 intro e env fm σ F I
 induction e using Ox with
  |UnaryOp op x p=>cases op with|Not=>exact th B (n.test x env fm σ F I) λj u b P d h₁=>z0 λJ=>hh not (show b=u from su)|_=>exact tD B n F I rfl
  |BoolOp op vs p=>exact mJ B n op vs σ F I
  |IfExp t a b p=>
   show U' (isTrue t env (hr t env)>>=λc=>if c=am then isTrue a env (hr a env)else isTrue b env (hr b env)) (Qa t fm>>=λc=>gm c (Qa a fm) (Qa b fm));refine th B (n.test t env fm σ F I) λj u x P d h₁=> ? _;subst h₁;cases x;. exact n.test b env fm j (vd P) d
   . exact n.test a env fm j (vd P) d
  |Compare a ops Y p=>exact th B (n.ev a env fm σ F I) λj u x P d h₁=>jh B n o p ops Y j x u (vd P) d su
  |_=>exact tD B n F I rfl
def oC[QD][O_]:Zw->eP->dk (P7×P7)|v_::ks,v::vs=>(hr k env,hr v env>>=λx=>xv>>=λJ=>b3 x)::oC env pos ks vs|_,_=>[]
theorem yu[QG](h:(wB e).isSome=am):∃x y p,e= RQ I' y p:=by
 induction e using Ox with
  |Constant c y p=>cases c with|str x=>exact⟨x,y,p,rfl⟩|_=>exact s1 h
  |_=>exact s1 h
theorem nB{vs:eP}(h:DG [] vs=am):vs=[]:=VI h
theorem oE{k:ez hC}{Z:Zw}{vs:eP}(h:DG (k::Z) vs=am):∃x y p v vs',k=aj (RQ I' y p)/\vs=v::vs'/\DG Z vs'=am:=by induction vs using li with|nil=>exact s1 h|cons v vs=>have h:((k.bind wB).isSome&&DG Z vs)=am:=h;rewrite [py]at h;induction k using u_ with|none=>exact s1 h.1|some e=>refine GV (yu h.1) λx y p w=> ? _;subst w;exact⟨x,y,p,v,vs,rfl,rfl,h.2⟩
theorem rC[O_](Z:Zw):∀(vs:eP),DG Z vs=am->(evalEachOpt Z env).zip ((evalEach vs env).map λv=>do let x<-v;xv;b3 x)=(oC env pos Z vs).map λp=>(aj c5,p.2):=by induction Z with|nil=>intro vs h;exact rwL (nB h);rfl|cons k Z G=>intro vs h;ext a6j;exact hh (_::·) (G vs' h')
theorem vm[O_](Z:Zw):∀(vs:eP),DG Z vs=am->(oC env pos Z vs).length=Xp:=by induction Z with|nil=>intro vs h;exact rwL (nB h);rfl|cons k Z G=>intro vs h;ext a6j;exact hh (·+1) (G vs' h')
abbrev Hm[q4][f0]:Sg->dd->dk (m9×m9)->a5:=λσ Y vs=>Y.length=n/\∃d,Carries ZX vs d/\OG Y d
theorem pW[Qf][O_](Z:Zw):∀(vs:eP)[iv],DG Z vs=am->k_->x_->Op (Hm C Xp) (evalPairs (oC env pos Z vs)) (l3 R Z vs fm):=by induction Z with|nil=>intro vs σ h g I;exact rwL (nB h);exact z0 λJ=>⟨rfl,[],ep,.nil⟩|cons k Z G=>intro vs σ h g I;ext a6j;intro s at_ o Q E O;refine aA (wpAny_mkText (ad (aa.step B (B4 (aa.tailR B (n.ev v env fm σ g I) λD b a J J z=>mn (z0 (R:=D') λJ=>z))) Qj o O λj f w u P e W h₁ O=> ? _)));refine ad (aa.step B (B4 (G vs' j h' (g.ext I P) W.inv)) W e O λT H r Y t U F m O=>ak (O.ok T H _ rfl Q2 U F ⟨hh (·+1) m.1,? _⟩));exact aN m.2 λd i c2=>⟨(x,w)::d,⟨by simp [PySem.strKind,Value.isStrOf],rfl,i⟩,t6 (VR.ext W.inv t eH su) c2⟩
theorem PR.merge{F:dd}{d:us}(h:OG F d):∀{acc:dd}{a:us},OG acc a->(a.map w1).Nodup->OG (F.foldl YV acc) (PySem.merged a d):=by induction h with|nil=>intro acc a m _;exact m|cons Z _ G=>intro acc a m B;exact G (m.set B Z) (lg B _ _)
theorem yv{d:us}{S:ey}[eX][lS]{Y:dd}{vs':dk (m9×m9)}[o2][V6][FL](p:P2)(u:eT=a)(T:Y.length<=15)(b:Carries ZX vs' d)(c2:OG Y d)(W:C3)(O:NN D' (aX i>>=λo=>match o with| .sd []=>cQ i (.sd (Y.foldl YV []))>>=λJ=>b3 (og i)|_=>a8) hM Q E):q0 (storeAll a vs') (λJ U=>Q er U) E s:=by
 revert Q E;exact gs A X σ d S i a Y vs' s;exact dl2 Q E;refine aN O.lookE λM m O=> ? _
 induction M using z5 with
  |sd F=>induction F using li with|cons=>exact O.no|nil=>refine aN (n8 at_ m) λk B K=> ? _;cases K;replace B:=u▸B;refine x4 (wpAny_storeAll (knd:=ZX) vs' d [] s _ b B (by exact rwLRL a4f c2.length NM;refine bn (nat_lit 0x1090100000023000109f10001) a7 [] T a0) λh' c g=> ? _);refine fk (at_.updSd (fs':=Y.foldl YV []) (t:=i_+vs'.length) m (by ext PE;exact c) (by ext PE;exact g) (PR.merge c2 (PR.nil (C:=C) (σ:=σ) (K:=Str)) List.nodup_nil)) λZ q f w=> ? _;refine O.ok (b:=og i) Z _ _ q f.of0 (P9 f) w ? _;exact rwRR u (f.ρ i W);exact eF (f.live i W)
  |_=>exact O.no
theorem AS[Qf]:a8P:=by
 intro Z vs pos env fm σ a I;refine hE Tg λL=>hE (λhd=> ? _) nz;. ext a0S;exact a3 (VI L.1) (VI L.2);rewrite [eval_Dict_empty];refine mn (aa.newIn rfl Xx);unfold newDict;refine wpAny_newObj_type (k _ i_ (λb x e=>L' e) λD i x g u=>⟨[],? _,.nil⟩);exact a3 g u;exact Heap.DictOf.new e5
 .rewrite [py]at hd;rewrite [decide_eq_true_eq]at hd;refine bx hd λr U=> ? _;clear hd;have G:=vm (env:=env) pos Z vs r;have V:oC env pos Z vs≠[]:=λq=>by replace G:=q▸G;have H:Z=[]:=List.length_eq_zero_iff.mp G.symm;subst H;exact L (by exact rwL (nB r);rfl)
  rewrite [arm_eval_Dict];exact a3 (rC pos Z vs r) (dictDisplay_pairs _ V (by refine c6 (nat_lit 0x10a0000001120009f1100b100002) cb [] U G a0));clear L V;ext s2;refine ad (aO (ad ? _));unfold subDict;refine aA (wpAny_alloc ? _);ext a5F;refine qW (at_.newIn (i:= bv qj (σ.m.c qj)) (o:= .sd []) (m1:=σ.m.mk1 qj (.sd [])) (h':=G1 a2L) i_ dA q rfl (λb x e=>L' e) (λD x g u=>⟨[],by exact a3 g u;exact Heap.DictOf.new e5,.nil⟩)) λj m x W P t=> ? _;have o:j.m=σ.m.mk1 qj (.sd []):=m;replace O:=G' o▸O;replace O:=cH.shift B x O;generalize Id.mk qj (σ.m.c qj)=i at P t O;have f:=a.ext I x;clear m o q at_ a I p x;refine ad (aL ? _);exact rwL (c4 (by refine c6 (nat_lit 0x109f10009f1100b100002) cb [] U G a0));refine ad (aa.step B (pW B n pos Z vs j r f W.inv) W eH O λT v vs' Y y w F z O=> ? _);exact aN z.2 λd c c2=>aL (ad (dC (yv F eH ((y.ρ i t).trans P) (z.1▸U) c c2 (y.live i t) O) (λJ s h=>ak (ak (ak h))) λJ J h=>h))
section E
section E
section
set_option backward.match.sparseCases false
open PySem PySem.W PySem.Calls PyProof.Rows PySem.SeqAt
inductive yw [Ro] [q_] : m9 → zn → V → a5 where
  | ref (i a vs) : a3q k → Q0 → yw C σ k er [a] eF
  | rng (G W N a) : IsRangeIter σ.h a (G + k) (YQ G W 1 - k) 1 → yw C σ k er [a] (Uu N)
  | tup (vs a t items) : σ.h.IsTupleIter a t k → j' t = Wp → OV Pn → yw C σ k er [a] w_
  | bytes (b : d7) (a t) : KBw.IsBytesIter σ.h a NP t k → yw C σ k er [a] hj
  | enum (i e a r vs) : e ≠ a → IsEnum σ.h e a k r → a3q k → Q0 → yw C σ k QJ [e, a] Uy
abbrev oF[Ro](it:Value)(fp:zn)[q_](src:V):a5:=yw C σ k it fp src
def iI[Ro](fp:zn):a5:=∀b∈fp,¬QE/\ZF
abbrev In(fp:zn):ey:=λb=>b∈fp
def qD(h:Heap)(b:Addr):a5:=∃o vs,Xo/\B2= NR vs/\o.cls≠U2/\∀q t,vs[1]?≠aj (c1 q t)
theorem tE{P:ey}[lS](h:P a):∀b∈[a],P b:=λb M=>by exact rwL (w6 M);exact h
theorem DW{P:ey}{a c:Addr}(h:P a)(k:P c):∀b∈[a,c],P b:=λb M=>(nr M).elim (λe=>e▸h) (tE k b)
theorem jq{o:Obj}{T:String}(h:o.cls= lL T)(n:T≠"range"):o.cls≠U2:=λe=>n (Value.type.inj (h.symm.trans e))
theorem oG{h:Heap}{a l:Addr}[v1](x:h.IsListIter a l k):qD h a:=x.elim λo x=>⟨o,_,x.1,x.2.2,jq x.2.1 (by decide),λq t z=>(by cases z)⟩
theorem tF{h:Heap}{a l:Addr}[v1](x:h.IsTupleIter a l k):qD h a:=x.elim λo x=>⟨o,_,x.1,x.2.2,jq x.2.1 (by decide),λq t z=>(by cases z)⟩
theorem tG{h:Heap}[lS]{b:N'}{t k:Nat}(x:KBw.IsBytesIter h a b t k):qD h a:=x.elim λo x=>⟨o,_,x.1,x.2.2,jq x.2.1 (by decide),λq t z=>(by cases z)⟩
theorem tH{h:Heap}[lS]{i j k:Int}(x:IsRangeIter h a i j k):qD h a:=⟨_,_,x,rfl,jq rfl (by decide),λq t z=>(by cases z)⟩
theorem vn{h:Heap}{e a:Addr}{k:Int}{r:Value}(x:IsEnum h e a k r):qD h e:=⟨_,_,x,rfl,jq rfl (by decide),λq t z=>(by cases z)⟩
theorem oF.objs[h_][a2y]:∀b∈fp,qD σ.h b:=by cases h with|ref _ _ _ h=>exact tE (oG h)|rng _ _ _ _ h=>exact tE (tH h)|tup _ _ _ _ h=>exact tE (tF h)|bytes _ _ _ h=>exact tE (tG h)|enum _ _ _ _ _ _ h h'=>exact DW (vn h) (oG h')
theorem oF.there[h_][a2y]:∀b∈fp,∃o,PP:=λb M=>(h.objs b M).elim λo x=>⟨o,x.choose_spec.1⟩
theorem oF.sok[h_][a2y](O:Sz fp):bM (In fp) σ:=λb M=>by exact I0 (h.objs b M) λo vs H F c a=>⟨(O b M).1,o,H,λI n q=>by replace q:=F▸q;(cases q),λws q=>by replace q:=F▸q;cases q;exact⟨c,a⟩,λfd q=>by replace q:=F▸q;cases q⟩
theorem oH{o:Obj}{vs:y_}(hd:B2= NR vs):¬jI o:=by rintro⟨_,_,q⟩;replace q:=hd▸q;cases q
theorem oF.moved[RV][a2y](x:ku σ D)(c:∀b∈fp,∀o,PP->Qy b=ck)(l:∀i vs,Q0->∃vs',D.m.H i=aj (bC vs')):oF C D it fp k src:=by cases h with|ref i a vs d W=>ext a7K;exact eF a _ ⟨o,c a YJ o P,L,by exact rwL (x.ρ i (ce W));exact hd⟩ (l i vs W).choose_spec|rng G W N a P=>exact Uu N a (c a YJ _ P)|tup vs a t items d I Z=>ext a7K;exact w_ a t kn ⟨o,c a YJ o P,L,hd⟩ (x.val t _ I (kt _ _) (by ext a3x)) (Z.vext x)|bytes b a t d=>ext a7K;exact hj a t ⟨o,c a YJ o P,L,hd⟩|enum i e a r vs f y d W=>exact fk d λo P L hd=> Uy e a r _ f (c e OU _ y) ⟨o,c a (pn YJ) o P,L,by exact rwL (x.ρ i (ce W));exact hd⟩ (l i vs W).choose_spec
theorem bz.list{S:ey}[RV](x:B5 D)[eX][q'](W:Q0):∃vs',D.m.H i=aj (bC vs'):=by refine aN (x.inst i _ W) λo' H F=> ? _;induction o' using z5 with|list vs'=>exact⟨vs',H⟩|_=>exact MK.noConfusion F
theorem oF.ext{S:ey}[RV][a2y](O:Sz fp)[m2](x:B5 D)(p:P2)(d:∀b∈fp,¬S b):oF C D it fp k src:=h.moved (x.vext I p) (λb M o P=>by refine d9 (h.objs b M) λo' vs H F J=> ? _;cases H.symm.trans P;exact(x.keep b (O b M).1 (d b M)).exact P (oH F)) λi vs W=>x.list W
theorem iI.ext{S:ey}[RV]{fp:zn}(O:Sz fp)(x:B5 D)(Z:∀b∈fp,∃o,PP):iI C D fp:=λb M=>by
 refine⟨b4,(O b M).2⟩;rcases TF b q with q|q;. exact(O b M).1 q
 . refine db (Z b M) Ug;replace P:=q▸P;exact bG P
theorem At.privX{S:ey}[h_][QT][P6](t:Nat)(p:P2)(D:∀b,S b->ZF)(N:∀b o,¬S b->R2->Ou)(a:∀b,S b->∃o,Ou):At C l_ UN/\B5 l_:=by
 refine bx (at_.inv.heap (S:=S) (h':=h') p (λb M o e=> b7 (N b o M Wg)) (λb q=>by refine aN (fB lv q) Zt;ext ea;exact N b o (λz=>(p b z).1 q) Wg) (λb o e=>by
  exact bcH z (S b);. exact a b z
  . exact⟨o,N b o z Wg⟩) (λb o e=>N b o (λz=>by replace e:=D b z▸e;ext pf) (eZ▸at_.inv.base b o e))) λI x=> ? _;exact⟨ZT,x⟩
section
variable{A:Around}{X:XP}{S:ey}{σ:Sg}{α β γ δ:cv}
def qE[Ro][Rj](it:Value)(fp:zn)[q_](src:V)(Q:II->i1):ii->a5|ap=>∀a h',a∈fp->Heap.ExtBut a e5 h'->Q ap a1N|d0=>∀D U w,D.m=hM->bz (In fp) σ D->Ob->D' D v w->oF C D it fp bm src->iI C D fp->Q Oo U
theorem AT{σ₀ σ:Sg}[o2]{T:ey}{fp:zn}[lS][P6][FL](x:bz T e4 σ)(l:∀b,T b->S b\/b∈fp)(V:∀b∈fp,N9 b=ap)(O:Sz fp)(p:bM (In fp) σ)(m:a∈fp)(y:Heap.ExtBut a e5 h'):At C l_ a1N/\bz S e4 l_:=by
 have I:=lv;have f:∀b,QE->b≠a:=λb q z=>(O a m).1 (z▸q);have c:a5C:=λb o M e=>y b o M Wg;obtain⟨_,D,N,n⟩:=p a m;have v:ku σ l_:=⟨λJ h=>h,Q9,λb o e B J=>c b o (λz=>by subst z;replace e:=N▸e;have G:=hR e;clear e;subst G;exact B n) e⟩;have t:∀b,QE->E' b=j' b:=λb q=>by refine aN (fB I q) Zt;ext ea;exact c b o (f b q) e
 have j:bH C l_:=⟨λb o e=>c b o (λz=>by ext a0X;replace e:=(O a m).2▸e;ext pf) Zi,I.new,a8T,I.inj,I.big,I.low,I.tabs⟩;refine⟨⟨rfl,j,at_.gens,at_.os⟩,SI,x.ρ,x.δ,x.inst,λb M Z o e=> ? _,λb o e=> ? _,λb q=>TF b q⟩
 .have w:b∉fp:=λz=>by replace e:=V b z▸e;ext pf
  have u:b≠a:=λz=>w (z▸m);rcases x.keep b M (λz=>(l b z).elim Z w) o e with g|⟨hd,F,g⟩;. exact b7 (c b o u g)
  . exact ba ⟨hd,F,c b _ u g⟩
 .have w:b∉fp:=λz=>by replace e:=V b z▸e;ext pf
  exact db (x.stay b o e) λo' r=>⟨o',c b o' (λz=>w (z▸m)) r⟩
theorem rD{h h':Heap}[lS](Z:T5 a h h')(b:Addr)(o:Obj)(M:¬In [a] b)(e:Xo):Ou:=by exact rwL (Z.2 b λz=>M (by simp [z]));exact e
theorem DX[o2]{E:el}{Y:eP}{c:_}{p:Pos}{a l:Addr}[v1][mm][Rh](d:s.heap.IsListIter a l k)(h:Q () s):D1 (letOwnedTupleGo (L0 Y c p) er w) Q E s:=by cases w with|ref T=>exact wpAny_letOwnedTupleGo_listiter d h|_=>exact f' h
theorem AU[eX][q'][f_]{k:b5->i2}{P:β->ef}{PX:ef}(h:Fc=aj Oj)(Y:q5 i k P PX m):k vs P PX m:=by have q:(match Fc with|ck=>(match o with| Oj=>k vs|_=>a8:i2) P PX m|ap=>gj):=Y;replace q:=h▸q;exact q
structure AV [Ro] (U : Shared) (fp : zn) (h' : Heap) : a5 where
  at_ : At C l_ U
  ext : bz (In fp) σ l_
  priv : iI C l_ fp
theorem AW[o2]{it:Value}[v1][QQ]{fp:zn}[FL](d:oF C σ it fp k src)(O:Sz fp)[P6](t:Nat)(N:∀b o,¬In fp b->R2->Ou)(B:∀b∈fp,∃o,Ou):AV C σ UN fp h':=have x:=at_.privX (h':=h') t (d.sok O) (λb M=>(O b M).2) N B;⟨x.1,x.2,O.ext x.2 d.there⟩
theorem nC[o2]{it:Value}[v1][QQ][lS][FL](d:oF C σ it [a] k src)(O:Sz [a])[P6](t:Nat)(Z:T5 a e5 h')(B:∃o,E' a=ck):AV C σ UN [a] h':=AW at_ d O t (λb o M e=>rD Z b o M e) (tE B)
theorem ku.tup[a0G]{t:Addr}{items:y_}(h:j' t=Wp):Qy t=Wp:=x.val t _ h (kt _ _) (by ext a3x)
section
variable{s:Shared}{E E₂:el}{tgt:Expr}{fp:zn}{k:Nat}{Q:II->i1}
abbrev oI[q4][OF](tgt:Expr)(it:Value)(Q:II->i1)(E E₂:el)[Rj]:a5:=D1 (pyNext it) (λo U=>match o with|ap=>Q ap U|Oo=>D1 (Y0 it w) (λJ t=>Q Oo t) E₂ U) E s
theorem vo[QQ]{P:hC->a5}(m:bg tgt src=am)(n:z4 src=av->∀x p,P Ux)(t:G9 src=am->∀Y c p,P (L0 Y c p)):P tgt:=by induction tgt using Ox with|Name x p=>exact n (Bool.not_eq_true' _▸m) x p|Tuple Y c p=>exact t m Y c p|_=>exact s1 m
theorem vp[QQ]{it w:Value}[Rh](m:bg tgt src=am)(H:G9 src=av)(h:Q () s):D1 (Y0 it w) Q E s:=vo (P:=λtgt=>D1 (Y0 it w) Q E s) m (λJ J J=>f' h) λq=>s1 (H.symm.trans q)
theorem Hn[eX]{a l:Addr}[mm][Rh](m:bg tgt eF=am)(d:s.heap.IsListIter a l k)(h:Q () s):D1 (Y0 er w) Q E s:=vo (P:=λtgt=>D1 (Y0 er w) Q E s) m (λJ J J=>f' h) λJ J J J=>DX d h
theorem AX(M:G2)[eX][lS][q'](m:bg tgt eF=am)[FL](d:a3q k)(W:Q0)(O:Sz [a])(n:a55 eF Q TL):a5b:=by
 ext a84;refine a68;. replace n:=N▸n;exact wpAny_pyNext_list_end M h U (by rewrite [Array.getElem?_eq_none];try rfl;exact rwR B;exact a7q) a5S
 . ext a6J;refine wpAny_pyNext_list_item h U g λh' D b=>Hn m D ? _;have T:=nC at_ (eF a vs d W) O i_ b a7D;exact n l_ _ w rfl T.ext T.at_ (u.ext lv T.ext (oF.sok (eF a vs d W) O)) (eF a vs D W) T.priv
theorem AY(M:G2){G W N:Int}[lS](m:bg tgt (Uu N)=am)[FL](d:IsRangeIter σ.h a (G+k) (YQ G W 1-k) 1)(O:Sz [a])(n:a55 (Uu N) Q (if G+k<W then aj (a4 (G+k))else ap)):a5b:=by
 have h:IsRangeIter e5 a (G+k) (YQ G W 1-k) 1:=eZ▸d;exact bcH hc (G+(k:Int)<W)
 .replace n:=c4 hc▸n;have hsz:YQ G W 1=W-G:=by unfold YQ;simp;lia
  refine wpAny_pyNext_range_item h (by exact rwL hsz;refine bn (nat_lit 0x11a470041000011a0037001021) a7 cb hc a0) λh' D Z=>vp m rfl ? _;have T:=nC at_ (Uu N a d) O (i_+1) Z ⟨_,D⟩;refine n l_ _ _ rfl T.ext T.at_ (di _) (Uu N a ? _) T.priv;have g:G+a10=G+k+1:=by push_cast;refine pk (nat_lit 0x11b31137000033117000011) a7 a7 a0
  have u:YQ G W 1-a10=YQ G W 1-k-1:=by push_cast;refine pk (nat_lit 0x11b41147000043117000011) a7 a7 a0
  exact a3 g u;exact D
 . replace n:=b9 hc▸n;refine wpAny_pyNext_range_end M h ? _ a5S;unfold YQ;simp;split<;>lia
theorem AZ(M:G2)[q']{a t:Addr}{items:y_}(m:bg tgt w_=am)[FL](d:σ.h.IsTupleIter a t k)(I:j' t=Wp)(Z:OV Pn)(O:Sz [a])(n:a55 w_ Q TL):a5b:=by
 have h:s.heap.IsTupleIter a t k:=eZ▸d;have l:=bU at_ I;refine a68;. replace n:=N▸n;exact wpAny_pyNext_tuple_end M h l (by rewrite [Array.getElem?_eq_none];try rfl;exact rwRR SR Xp;exact a7q) a5S
 . ext a6J;refine wpAny_pyNext_tuple_item h l g λh' D b=>vp m rfl ? _;have T:=nC at_ (w_ a t kn d I Z) O i_ b a7D;have x:=T.ext.vext lv (oF.sok (w_ a t kn d I Z) O);exact n l_ _ w rfl T.ext T.at_ (u.vext x) (w_ a t kn D (x.tup I) (Z.vext x)) T.priv
theorem vq(M:G2)[OP]{a t:Addr}(m:bg tgt hj=am)[FL](d:KBw.IsBytesIter σ.h a NP t k)(O:Sz [a])(n:a55 hj Q a7N):a5b:=by
 have h:KBw.IsBytesIter e5 a NP t k:=eZ▸d;refine cM (b[k]?) (λN=> ? _) λv N=> ? _;. replace n:=N▸n;exact KBw.next_end M h (by simpa using N) a5S
 . replace n:=N▸n;refine KBw.next_item h (c:=v) (by simpa using N) λh' D Z=>vp m rfl ? _;have T:=nC at_ (hj a t d) O (i_+1) Z a7D;exact n l_ _ _ rfl T.ext T.at_ (di _) (hj a t D) T.priv
theorem yx[eX]{e a:Addr}{r:Value}[q']{Y:eP}{c:Nat}{p:Pos}(c8:G2)[FL](f:e≠a)(K:IsEnum σ.h e a k r)(d:a3q k)(W:Q0)(O:Sz [e,a])(n:qE C σ s QJ [e,a] k Uy Q ((vs[k]?).map λv=> hD [v0,v])):oI C A (L0 Y c p) QJ Q E E₂ s:=by
 revert r vs Y c p;exact gs A σ s E E₂ k Q i e a;exact dl5 r vs Y c p;ext a84;have l:IsEnum e5 e a k r:=eZ▸K;refine a68;. replace n:=N▸n;exact wpAny_pyNext_enum_end c8 l h U (by rewrite [Array.getElem?_eq_none];try rfl;exact rwR B;exact a7q) λh' y=>n a h' (pn YJ) y
 .ext a6J;refine wpAny_pyNext_enum_item l h U g f λh' m D L c7 R=>wpAny_letOwnedTupleGo_enum m λF I t=> ? _;have G:F.IsListIter a eT bm:=D.elim λo x=>⟨o,by exact rwL (t.2 a (LL f));exact x.1,x.2⟩;have T:=AW (h':=F) at_ (Uy e a r vs f K d W) O (i_+1) (λb o M z=>by have H:b≠e:=λq=>M (q▸OU);exact rwL (t.2 b H);exact R b o H (λq=>M (show b∈[e,a]by ext OI;exact pn YJ)) z) (DW ⟨_,I⟩ (G.elim λo x=>⟨o,x.1⟩));have P:F.get? l5=aj {cls:= PQ,data:= .seq #[v0 i_,w]}:=by exact rwL (t.2 _ (RR (a2r l)));exact L
  refine n {σ with h:=F} _ _ rfl T.ext T.at_ (hD _ _ _ P (t6 (di _) (t6 (u.ext lv T.ext (oF.sok (Uy e a r vs f K d W) O)) .nil))) (Uy e a w vs f ? _ G W) T.priv;have j:a10=(k:Int)+1:=by push_cast;rfl
  exact rwL j;exact I
theorem DY[QQ]{it:Value}{P:ii->ef}{PX:ef}(M:G2)(m:bg tgt src=am)[FL](h:oF C σ it fp k src)(O:Sz fp)(Y:fu src k P PX hM):∃r,P r hM/\∀(Q:II->i1)(E E₂:el),qE C σ s it fp k src Q r->oI C A tgt it Q E E₂ s:=by exact gs A σ s tgt fp k src it P PX;cases h with|ref i a vs d W=>exact⟨_,AU (k:=λvs=>b3 TL) W Y,λQ E E₂ n=>AX M m at_ d W O n⟩|rng G W N a d=>exact⟨_,Y,λQ E E₂ n=>AY M m at_ d O n⟩|tup vs a t items d I Z=>exact⟨_,Y,λQ E E₂ n=>AZ M m at_ d I Z O n⟩|bytes b a t d=>exact⟨_,Y,λQ E E₂ n=>vq M m at_ d O n⟩|enum i e a c vs f K d W=>exact⟨_,AU (k:=λvs=>b3 ((vs[k]?).map λv=>V.tup [v0,v])) W Y,λQ E E₂ n=>vo (P:=λtgt=>oI C A tgt QJ Q E E₂ s) m (λq=>s1 q) λJ J J J=>yx M at_ f K d W O n⟩
section E
section E
section E
section
open PySem PySem.W PySem.Calls PyProof.Rows PySem.SeqAt
section
variable{A:Around}{X:XP}{S:ey}{σ:Sg}{α β γ δ:cv}{mg mb:h7}{l:p_}{R:gN}{env:Env}{fm:Fm}{call:aD}
theorem bM.turn[RV]{L:Addr}(p:P2)(x:bz (λb=>b=L) σ D)(U:¬gJ D L)(P:∃o,Qy L=ck/\e9 o):bM S D:=λb M=>by
 exact bcH z (b=L);. subst z;exact⟨U,P⟩
 .obtain⟨H,o,F,Q⟩:=p b M;refine⟨b4,? _⟩
  .rcases TF b q with q|q;. exact H q
   . replace q:=F▸q;exact iy q
  .rcases x.keep b H z o F with e|⟨_,W,e⟩;. exact⟨o,e,Q⟩
   . exact⟨_,e,Q.slots⟩
theorem cw.locals[h_](a:k_):∃o Y n,j' np=ck/\B2= .dict Y n:=by exact aN a.ns λK U J=>uU U λo Y n H F J=>⟨o,Y,n,H,F⟩
theorem cw.stored[h_][o2][P6]{t:Nat}[N2][g_][mm]{K:h7}(F:k_)[FL](Z:FI)(i:∀y u,fm.loc.lookup y=aj u->∃w,K y=Oo/\dm u w)(B:h'.Ns np (λy=>if y=x then Oo else K y))(a:T5 np e5 h'):At C l_ UN/\bz N_ σ l_/\OL l_ env {fm with loc:=dS x v tn}:=by
 revert K;exact gs l env fm σ s h' t x v w;exact dl1 K;refine qs F.locals λo Y n P hd=> ? _;refine uU (id B) λo' f E m j J=> ? _;have p:bM N_ σ:=λb M=>by subst M;exact⟨F.own,o,P,dw hd⟩
 refine bx (at_.privX (h':=h') t p (λb M=>by subst M;exact F.gb) (λb o M e=>by exact rwL (a.2 b M);exact e) (λb M=>by subst M;exact⟨o',m⟩)) λG T=> ? _;refine⟨G,T,λe I=> ? _,F.kind,F.names,F.glob,F.blt,⟨_,B,λy u e=> ? _⟩,a2p,F.own,F.gb,F.code⟩
 .obtain⟨k,L,oL,d,h,r,W,q,D,H⟩:=F.fr e I;exact bcH z (L=np);. subst z;exact⟨k,_,o',f,E,r,m,j,D,H⟩
  . exact⟨k,L,oL,d,h,r,by replace W:=G' eZ▸W;show E' L=_;exact rwL (a.2 L z);exact W,q,D,H⟩
 .have e:(dS x v tn).lookup y=aj u:=e;rewrite [jK]at e;exact bcH z (y=x);. replace e:=vh▸e;ext RK;exact⟨w,vh,Z.ext lv T p⟩
  . replace e:=K'▸e;exact aN (i y u e) λQ g N=>⟨Q,by show(if y=x then Oo else K y)=_;ext Vo;exact g,N.ext lv T p⟩
 . exact F.cells y c e
theorem cw.priv[h_](F:k_):bM N_ σ:=λb M=>by refine qs F.locals λo Y n P hd=> ? _;subst M;exact⟨F.own,o,P,dw hd⟩
abbrev A2[q4][P8][QD][lF]:Sg->dd->l0->a5:=λσ loc J=>OL σ env mc
theorem et[N2][g_][mm](U:∀b,b=np->S b)(F:k_)(Z:FI):hO a34 (X7 x w) (e8 x v fm):=by
 exact gs A X S σ l env fm x v w;unfold e8;refine cM (RI x) (λN=> ? _) λk N=> ? _;. ext d6
 .cases k with
   |«local»=>
    have o:KX x=xw:=(F.names x _ N).elim id λq=>by cases q.1
    ext s2;refine aN F.ns λP B u=> ? _;refine x4 (wpAny_bindName (wpAny_storeName_local o (eZ▸B) (λh' a g=> ? _) (by exact rwL F.kind;rfl)));exact zF (F.stored (t:=i_+1) at_ Z u a g) λG T I=>uU (id a) λo' f W m j J=>O.ok l_ _ () rfl (T.weaken λb M=>U b M) (p.turn T F.own ⟨o',m,dw j⟩) G I
   |cell=>
    have o:KX x=OM:=(F.names x _ N).elim id λq=>by cases q.1
    refine cM (TW x) Tg λc L=> ? _;. ext d6
    . refine bx (F.cells x c L) λH c2=> ? _;refine R4 λy n=> ? _;induction y using z5 with|cell z=>ext s2;refine aN (Ye c _ n) λt r J=> ? _;refine x4 (wpAny_bindName (wpAny_storeName_cell F.kind o c2 (eZ▸r) λh' h g=> ? _));exact aN (id h) λe d j=>fk (at_.upd (t:=i_) (o':= Uz) n rfl hA g ⟨e,d⟩ rfl λx=>⟨Oo,h,Z.ext lv x eH⟩) λD m1 i K=>O.ok (b:=tn) D _ () m1 i.of0 (P9 i) K (F.ext lv i)|_=>ext d6
   |_=>ext d6
section E
section E
section
open PySem PySem.W PySem.Calls PyProof.Rows PySem.SeqAt
section
variable{A:Around}{X:XP}{S:ey}{σ:Sg}{α β γ δ:cv}{mg mb:h7}{l:p_}{R:gN}{env:Env}{fm:Fm}{call:aD}
theorem cw.extS{D:Sg}[O3](x:B5 D)(p:P2)(U:¬S np)(T:∀e∈l,∀L,X2->¬S L):OL D env fm:=by
 refine aN F.ns λK B Z=> ? _;refine⟨λe a=>(F.fr e a).ext x (T e a),F.kind,F.names,F.glob,F.blt,⟨K,ri (x.keep _ F.own U) B,λy v e=> ? _⟩,a2p,b4,F.gb,F.code⟩;. exact aN (Z y v e) λw g u=>⟨w,g,u.ext I x p⟩
 . exact bx (F.cells y c e) λg u=>⟨SI c g,by exact rwL (x.ρ c g);exact u⟩
 .rcases TF _ q with q|q;. exact F.own q
  . ext a98
theorem aa.bind0[a87](H:Op R t x)(F:∀D a b,ty->bH C D->R D b a->WV S D R' (k a) (f b)):hO R' (t>>=k) (x>>=f):=by ext s2;refine ad ? _;ext a27;refine H s at_ eH _ _ ⟨a50,PX,λb m' d D U a u y g K z=> ? _,λm' L D U e u y g K r=>Y m' L D U e u y.of0 (P9 y) K r,h⟩;exact F D a b y K.inv z U K (P9 y) Q E (cH.shift B y.of0 ⟨P,PX,N,Y,u▸d⟩)
theorem aa.unit0[Vn]{R:Sg->β->l0->a5}{t:Sem l0}{k:l0->Sem l0}{x:xj l0}{b:β}(H:Op k8 t x)(N:∀[Rj](Q:l0->i1)E,Q () s->q0 (k ()) Q E s)(F:∀D,ty->bH C D->R D b ()):h9 (t>>=k) (x>>=λJ=>b3 b):=aa.bind0 B H λD J J y j J=>λs at_ p Q E O=>N s Q E (O.ok D s () rfl Q2 p at_ (F D y j))
theorem gR{vs Z:eS}[Rp][o2][Rh]{E:el}(h:Q () s):kS (release vs Z) Q E s:=λg p j B=>by rewrite [Sem.wp_release];exact h
theorem mM[lN][Qf](U:∀b,b=np->S b):∀(t:Expr)[ss](w:Value)[iv][lF],k_->x_->FI->hO a34 (Zc w) (iC R t v fm):=by intro t v w σ fm F I Z;induction t using Ox with|Name x p=>rewrite [arm_assign_Name];exact mn (et U F Z)|Attribute o a p=>rewrite [arm_assign_Attribute];show hO _ _ (Qw>>=λK=>gy K a v>>=λJ=>b3 tn);exact aa.bind0 B (B4 (a1Q F I)) λj u K x d P=>mn (aa.unit0 B (B4 (s5 G.K G.attrs P (Z.ext I x eH))) (λs Q E h=>gR h) λD y c=>(vd x).ext d y)|Subscript o i p=>rewrite [arm_assign_Subscript];show hO _ _ (Qw>>=λK=>R.ev i fm>>=λr=>e7 K r v>>=λJ=>b3 tn);exact aa.bind0 B (B4 (a1Q F I)) λj u K x d P=>aa.bind0 B (B4 (n.ev i env fm j (vd x) d)) λT q r y W N=>mn (aa.unit0 B (B4 (ru (P.ext d y eH) N (Z.ext I (x.trans y) eH))) (λs Q E h=>gR h) λD z c=>((vd x).ext d y).ext W z)|_=>ext d6
theorem fW{t:Expr}{ts:eP}(h:c7 (t::ts)=am):RW (t::ts) env=(av,Zc)::RW ts env/\c7 ts=am:=by cases t<;>first|ext sp|exact⟨rfl,h⟩
theorem oJ:∀(ts:eP),c7 ts=am->(RW ts env).map (·.2)=ts.map λt=>Zc:=by intro O;induction O with|nil=>intro _;exact rfl|cons t ts G=>intro h;have c:=fW (env:=env) h;exact rwL (c.1);exact hh (_::·) (G c.2)
theorem oK:∀(ts:eP),c7 ts=am->(RW ts env).length=Yv:=by intro O;induction O with|nil=>intro _;exact rfl|cons t ts G=>intro h;have c:=fW (env:=env) h;exact rwL (c.1);exact hh (·+1) (G c.2)
theorem ll:∀(ts:eP),c7 ts=am->(RW ts env).findIdx? w1=ap:=by intro O;induction O with|nil=>intro _;exact rfl|cons t ts G=>intro h;have c:=fW (env:=env) h;exact a3 (c.1) List.findIdx?_cons;show Option.map _ (List.findIdx? _ (RW ts env))=ap;exact rwL (G c.2);rfl
theorem iJ[lN][Qf](U:∀b,b=np->S b)(f:∀b,S b->b=np):∀(ts:eP)[Vw](ws:eS)[iv][lF],k_->x_->tq->hO a34 (a7l ws) (fD R ts vs fm)|[],[],ws,σ,fm,F,I,h=>by cases h;exact z0 λJ=>F|t::ts,v::vs,ws,σ,fm,F,I,h=>by refine d9 h.cons_inv λw o a=> ? _;subst a;intro r z;show hO _ (o1 o (Zc w)>>=λJ=>a7l o) (iC R t v fm>>=λloc=>fD R ts vs mc);refine th B (B4 (mM G B n U t v w σ fm F I r)) λj J loc x d i=> ? _;have p:P2:=λb M=>F.priv b (f b M);exact aa.mono (iJ G B n U f ts vs o j mc i d (z.ext I x p)) λJ J J J J h=>h|[],_::_,ws,σ,fm,F,I,h=>RH|_::_,[],ws,σ,fm,F,I,h=>RH
theorem oM(M:G2){ts:eP}(B:c7 ts=am)[q'][mm](Z:dm w_ w)(U:Yv=ka){x:i2}{R':Sg->β->l0->a5}(h:∀D ws,D.m=hM->ty->bH C D->bW C D vs ws->WV S D R' (a7l ws) x)(f:X.Mono):hO R' (unpack w (RW ts env)) x:=by
 ext s2;refine uU Z.tup_inv λa items n c=> ? _;subst c;intro g W;have d:=bU at_ g;have u:Tb=Yv:=by exact ec U W.length SR;rfl
 unfold unpack;exact rwLLLR (oK ts B) (ll ts B) (oJ ts B) u;refine aA (S3 (wpAny_unpackItems_tuple M d λh' y=> ? _));exact qW (at_.grow (h':=h') (λb o e=>y b o (J' (a2r e)) e) i_) λD m1 i K J J=>h D _ m1 i K.inv (W.ext lv i eH) _ K (P9 i) Q E (by exact rwL m1;exact cH.shift f i.of0 O)
theorem yz(R:gN)[xd](d:Pos)(y:Str)(g:Pos)[Pf][lF]:(e8 x a fm>>=λl=>e8 y b {fm with loc:=l}:xj _)=fD R [jn x d,jn y g] [a,b] fm:=rfl
theorem yA[lN](M:G2)[Qf](U:∀b,b=np->S b)(f:∀b,S b->b=np){t:Expr}[g_][mm][O3](Z:FI):hO a34 (Zc w) (cV t v fm):=by
 induction t using Ox with
  |Name x p=>rewrite [arm_assign_Name];exact mn (et U F Z)
  |Tuple Y c p=>show hO _ (Oh p>>=λJ=>unpack w (RW Y env)) (wC Y v fm);refine mn (aa.arg2 (T:=λY=>unpack w (RW Y env)) λa b=>aa.onName (T:=λa=>unpack w (RW [a,b] env)) λx d=>aa.onName (T:=λb=>unpack w (RW [jn x d,b] env)) λy g=> ? _);induction v using kb with|tup vs=>refine aa.argl2 λa b e=> ? _;subst e;exact rwL (yz R x d y g a b fm);exact oM M (ts:=[jn x d,jn y g]) rfl Z rfl (λD ws m1 i j h=>iJ G B n U f _ _ _ D fm (vd i) j h) B|_=>ext d6
  |_=>ext d6
section E
section E
section
open PySem PySem.W PySem.Calls PyProof.Rows PySem.SeqAt
section
variable{A:Around}{X:XP}{S:ey}{σ:Sg}{α β γ δ:cv}{mg mb:h7}{l:p_}{R:gN}{env:Env}{fm:Fm}{call:aD}
theorem At.keepAll[QT][P6](t:Nat)(N:∀b o,R2->Ou):At C l_ UN/\SN l_:=at_.privX t eH WK (λb o J e=>N b o e) WK
theorem jr[QT][P6]{b:Addr}(M:p0 b=ap):¬gJ (l_:Sg) b/\ZF:=by
 replace M:=eZ▸M;refine⟨b4,? _⟩;. have q:QE:=q;refine aN (fB lv q) Zt;replace e:=M▸e;ext pf
 .refine cM (PO b) b4 W9;. rfl
  . have:=at_.inv.base b o q;replace this:=M▸b_;exact bG b_
def JA[q4](σ₀:Sg)(src:V):Sg->Nat->UD:=λσ J it=>∃u,oF C σ it u 0 src/\Sz u/\∀b∈u,N9 b=ap
inductive tI [q4] (σ₀ σ : Sg) : V → m9 → a5 where
  | val (src w) : dm src w → tI C e4 σ src w
  | enum (i e a vs) : e ≠ a → IsEnum σ.h e a 0 a1 → a3q 0 → Q0 → Sz [e, a] → N9 e = ap → N9 a = ap → tI C e4 σ Uy QJ
theorem fH{S:ey}[RV](x:B5 D){b:Addr}(h:Qy b=ap):j' b=ap:=by
 refine cM (j' b) od λo e=> ? _;. rfl
 . refine db (x.stay b o e) λo' r=> ? _;replace r:=h▸r;exact bG r
theorem rE[Xm][o2][QQ][e3]{o:Obj}(T:bz S0 e4 σ)[FL](d:o.isFreed=av)(W:∀h',h'=G1 o->E' l5=ck->oF C l_ (a2 l5) [l5] 0 src){Q:el}(k:∀D U w,D.m=hM->ty->Ob->JA C e4 src D n w->Q w U):Q (a2 l5) {s with heap:=G1 o}:=by have f:p0 l5=ap:=UR nl;have x:=at_.keepAll (h':=G1 o) i_ λb x e=>L' e;exact k {σ with h:=G1 o} _ _ rfl x.2 x.1 ⟨_,W _ rfl (Heap.get?_push_size _ d),tE (P:=λb=>¬gJ ({σ with h:=G1 o}:Sg) b/\ZF) (jr at_ f),tE (P:=λb=>N9 b=ap) (fH T (eZ▸f))⟩
theorem tJ{G W:Int}(L: Uv<=G/\G<=1000000/\ Uv<=W/\W<=1000000):Builtin.Range.small G W 1=am:=by exact PySem.small_one (G3 (by decide) L.1) (Int.lt_of_le_of_lt L.2.1 (by decide)) (G3 (by decide) L.2.2.1) (Int.lt_of_le_of_lt L.2.2.2 (by decide))
theorem tK[Xm][QQ][mm](T:bz S0 e4 σ)(h:tI C e4 σ src w):hO (JA C e4 src) (pyIter w) TM:=by
 exact dl7 A X S σ e4 src w
 cases h with
  |enum i e a vs f y d W O H F=>exact aa.atL λvs' c=>oi λs at_ Q E k=>wpAny_pyIter_enum (eZ▸y) (k s _ at_ ⟨_,Uy e a a1 vs f y d W,O,DW (P:=λb=>N9 b=ap) H F⟩)
  |val _ _ h=>
   induction src using kb with
    |ref i=>exact h.ref_el (P:=λw=>hO (JA C e4 eF) (pyIter w) _) λJ=>aa.atL λvs m=>aa.made λs at_ Q E k=>fk (cg at_ m) λitems U Z g=>wpAny_pyIter_list U (rE T at_ rfl (λh' e D=> eF _ vs ⟨_,D,rfl,rfl⟩ m) k)
    |tup vs=>refine h.tup_el (P:=λw=>hO (JA C e4 w_) (pyIter w) _) λa items D Z=>a0Z;have p:=D;replace p:=G' eZ▸p;refine wpAny_pyIter_tuple (bU at_ D) (rE T at_ rfl (λh' e W=> w_ _ a kn ⟨_,W,rfl,rfl⟩ (by ext ea;exact L' p) ? _) k);exact Z.ext lv (at_.keepAll (h':=h') i_ λb x r=>by ext ea;exact L' r).2 eH
    |bytes b=>exact h.bytes_el (P:=λw=>hO (JA C e4 hj) (pyIter w) _) λt=>aa.made λs at_ Q E k=>KBw.pyIter_bytes (rE T at_ rfl (λh' e D=> hj _ t ⟨_,D,rfl,rfl⟩) k)
    |rng G W N=>refine wn (λL=>a0Z);cases h with|rng _ _ a u t v z=>refine wpAny_pyIter_range (eZ▸z) (tJ L) (rE T at_ rfl (λh' e D=> Uu 1 _ ? _) k);show E' l5=_;exact rwL D;simp
    |enum i=>cases h
    |_=>ext d6
abbrev oN:ef:=wj
theorem aa.run{R':yy}[T'](h:hO R' t x)[QT](p:P2){P:β->ef}(Y:x P oN hM){Q:O'}{E:el}(n:∀D U a b,P b D.m->B5 D->bM S D->Ob->R' D b a->Q a U):q0 t Q E s:=YA ⟨P,oN,λb m' L D U a u x Z K r=>n D U a b (u▸L) x Z K r,λJ z=>z.elim,Y⟩
theorem aa.runB{R':yy}[T'](h:hO R' t x)[QT](p:P2){f:β->xj γ}{P:γ->ef}(Y:(x>>=f) P oN hM){Q:O'}{E:el}(n:∀D U a b,B5 D->bM S D->Ob->R' D b a->f b P oN D.m->Q a U):q0 t Q E s:=h.run (P:=λb m1=>f b P oN m1) at_ p Y λD U a b L x Z K r=>n D U a b x Z K r L
theorem cw.moved[P6][lS](F:k_)(v:ku σ l_)(c:a5C)(U:np≠a)(T:∀e∈l,∀L,X2->L≠a):OL l_ env fm:=by
 refine aN F.ns λK B Z=> ? _;refine⟨λe i=> ? _,F.kind,F.names,F.glob,F.blt,⟨K,? _,λy u e=> ? _⟩,F.cells,F.own,F.gb,F.code⟩;. obtain⟨k,L,oL,d,h,f,W,q,D,H⟩:=F.fr e i;exact⟨k,L,oL,d,h,f,c L oL (T e i L f) W,q,D,H⟩
 . refine qs B λo Y j P r=> ? _;clear B;exact⟨o,Y,j,c _ o U P,r⟩
 . exact aN (Z y u e) λw g m=>⟨w,g,m.vext v⟩
structure iK [q4] [P8] [QD] [lF] (σ₀ σ : Sg) [Rj] (it : Value) (u : zn) [q_] (src : V) : a5 where
  at_ : N7
  ext : bz (fun b => b = np ∨ b ∈ u) e4 σ
  fok : k_
  it : oF C σ it u k src
  priv : Sz u
structure rF [q4] [P8] [QD] (σ₀ : Sg) (tgt : Expr) (u : zn) (src : V) : a5 where
  new : ∀ b ∈ u, N9 b = ap
  loc : np ∉ u
  frames : ∀ e ∈ l, ∀ L, X2 → L ∉ u
  tgt : bg tgt src = am
theorem iK.step{S:ey}{fm fm':Fm}{σ₀ D:Sg}{s U:Shared}{it:Value}{u:zn}[v1][QQ](L:iK C l env fm e4 σ s it u k src)(x:B5 D)(p:P2)(h:∀b,S b->b=np)(a:np∉u)(K:Ob)(F:OL D env fm'):iK C l env fm' e4 D U it u k src:=⟨K,L.ext.trans (x.weaken λb q=> b7 (h b q)),F,L.it.ext L.priv L.at_.inv x p λb M q=>a (h b q▸M),L.priv.ext x L.it.there⟩
theorem wU[lN](c8:G2)(f8:X.Mono)(n:S4){tgt:Expr}[QQ]{it:Value}{u:zn}[v1][Xm][o2](B:rF C l env e4 tgt u src)(L:iK C l env fm e4 σ s it u k src){fN:i2}{fS:dd->i2}{P:β->ef}(Y:(fu src k>>=λr=>match r with|ap=>fN|d0=>cV tgt v fm>>=fS) P oN hM){e8 c7:Sem γ}{Q:γ->i1}{E d:el}(e7:∀h' U,fN P oN hM->bz N_ e4 l_->At C l_ U->OL l_ env fm->q0 e8 Q E U)(d8:∀D U loc,fS loc P oN D.m->bz (λb=>b=np\/b∈u) σ D->iK C l env mc e4 D U it u bm src->q0 c7 Q E U):q0 (pyNext it) (λr U=>q0 (match r with|ap=>e8|d0=>Y0 it v>>=λJ=>assign tgt env v>>=λJ=>c7) Q E U) d s:=by
 have e6:=L.it.sok L.priv;refine aN (DY (P:=λr m=>(match r with|ap=>fN|d0=>cV tgt v fm>>=fS:i2) P oN m) c8 B.tgt L.at_ L.it L.priv Y) λr Y i0=> ? _;refine x4 (wpAny_mono (i0 (λo U=>q0 (match o with|ap=>e8|d0=>assign tgt env v>>=λJ=>c7) Q E U) d E ? _) (λo f h₁=> ? _) λJ J h=>h);rotate_left;. induction o using u_ with|none=>exact su|some w=>exact ad (x4 su)
 induction r using u_ with|none=>intro a h' f7 y;have c:a5C:=λb o M e=>y b o M (L.at_.heap▸e);refine bx (AT (S:=N_) L.at_ L.ext V8 B.new L.priv e6 f7 y) λd9 c9=> ? _;refine e7 h' _ Y c9 d9 (L.fok.moved (a:=a) ⟨λJ h=>h,Q9,λb o e i0 J=>c b o D_ e⟩ c (λq=>B.loc (q▸f7)) λe y L i6 q=>B.frames e y L i6 (q▸f7));obtain⟨_,f9,N,e9⟩:=e6 b (z▸f7);replace e:=N▸e;ext RK;exact i0 e9|some v=>intro j f w g i7 W Z x I;have i:=L.fok.extS L.at_.inv i7 e6 B.loc B.frames;have p:iK C l env fm e4 j f it u bm src:=⟨W,L.ext.trans (i7.weaken λb q=> ba q),i,x,I⟩;have Y:(cV tgt v fm>>=fS) P oN j.m:=g▸Y;exact ad (aa.runB (yA G c8 f8 n V8 V8 i W.inv Z) W i.priv Y λT H J loc K t F i5 Y=>d8 T H loc Y ((i7.weaken λb q=> ba q).trans (K.weaken λb q=> b7 q)) (p.step K i.priv V8 B.loc F i5))
def qF[QD](c:Expr)(o:Bool):Sem (ForInStep b2):=if o=am then isTrue c env (hr c env)>>=λb=>b3 (.yield b)else b3 (.yield o)
theorem pX(elt tgt it:Expr)(ifs:eP)[X5][O_](g acc:Value)[QD]:compTurn YD 0 g acc env=(Oh it.pos>>=λJ=>pyNext g>>=λr=>match r with|ap=>b3 (.done hH)|d0=>Y0 g v>>=λJ=>assign tgt env v>>=λJ=>forIn ifs am (qF env)>>=λo=>if o=am then(hr elt env>>=λx=>Uh a5U [acc,x]>>=λJ=>b3 ())>>=λJ=>again (a5I env)else again (a5I env)):=by rfl
theorem tL:∀(ifs:eP),(forIn ifs av (qF env):Sem b2)=R9:=by intro O;induction O with|nil=>exact rwL List.forIn_nil;rfl|cons c r G=>rewrite [a4e];exact rwL (show qF env c av=b3 (ForInStep.yield av)from b9 (by decide));rewrite [pure_bind];exact G
theorem DZ[Qf](ifs:eP):∀[iv],k_->x_->U' (forIn ifs am (qF env)) (Yw ifs fm):=by
 induction ifs with
  |nil=>intro σ F I;exact rwL List.forIn_nil;exact z0 hS
  |cons c r G=>
   intro σ F I;have a:Yw (c::r) fm=Qa c fm>>=λt=>gm t (Yw r fm) R9:=rfl;rewrite [a4e];exact a3 (show qF env c am=isTrue c env (hr c env)>>=λb=>b3 (ForInStep.yield b)from s_) a;rewrite [bind_assoc];refine th B (n.test c env fm σ F I) λj u b x d h₁=> ? _;have h₁:b=u:=su;subst h₁;rewrite [pure_bind];cases b;. show WV S0 j (ny C) (forIn r av (qF env)) _;rewrite [tL];exact z0 hS
   . exact G j (vd x) d
section E
section E
section
open PySem PySem.W PySem.Calls PyProof.Rows PySem.SeqAt
section
variable{A:Around}{X:XP}{S:ey}{σ:Sg}{α β γ δ:cv}{mg mb:h7}{l:p_}{R:gN}{env:Env}{fm:Fm}{call:aD}
theorem aa.unR{R':Sg->γ->α->a5}{t:kk}{x:xj l0}{b:γ}(h:hO R' t (x>>=λJ=>b3 b)):hO (λσ J a=>R' σ b a) t x:=λs at_ p Q E O=>by
 ext a4R;refine YA ⟨λc m'=>c=b/\P () m',PX,λc m' L=> ? _,Y,? _⟩;. refine bx L PY;subst G;intro L;exact N () m' L
 .show x (λJ m'=>b=b/\P () m') PX hM;have e:(λ(u:l0)m'=>b=b/\P () m')=P:=by funext u m';rewrite [eq_self];rewrite [true_and];rfl
  ext ea;exact q
theorem yB[eX][g_][mm](Z:FI):hO (λJ J J=>True) (Uh a5U [e0,w]) (kQ i v):=aa.atL λI P=>wn (λL=>(aa.unR (iU P Z L)).mono λJ J J J J J=>ep)
def qG[iv][xi](acc:Value):a5:=C3/\acc= e0
theorem qG.ext[RV][eX]{acc:Value}(h:qG σ i acc)(x:B5 D):qG D i acc:=⟨SI i h.1,h.2.trans (hh Value.ref (x.ρ i h.1).symm)⟩
theorem yC[lN](M:G2)(e6:X.Mono)(Q:S4)[a7n][QQ]{g:Value}{e7:zn}[eX]{acc:Value}{W:Env}[Xm](B:rF C l W e4 tgt e7 src){P:Vt}{Rr:Q'}(I:∀D U fm',P () D.m->bz (λb=>b=Xn) e4 D->Ob->OL D W fm'->qG D i acc->Rr (.ok hH) U)[f0]:∀[q_][lF][iv][Rj],iK C l W fm e4 σ s g e7 k src->qG σ i acc->VE n k fm P oN hM->dM QS A (a5I W) Rr s:=by
 induction n with
  |zero=>intro k fm σ s L m Y;exact Y.elim
  |succ n d8=>
   intro k fm σ s L m Y;refine aR ? _;exact rwL (a1l (c:= a5I W) rfl);refine bT (m:=compTurn YD 0 g acc W) ? _;generalize(λe U=>q0 (do noteFrame e W;theTreesLotGoes e) (λJ c7=>Rr Q1 c7) (λe U=>Rr Q1 U) U:el)=y;rewrite [pX];refine ad (aO (ad (wU (fS:=λloc=>Yw ifs mc>>=λt=>gm t (R.ev elt mc>>=λx=>kQ i x>>=λJ=>VE n bm mc) (VE n bm mc)) (fN:=b3 ()) G M e6 Q B L Y (λh' U e x K e8=> ? _) λj f loc Y c p=> ? _)));. exact ak (I l_ U fm e x K e8 m)
   . have m:=m.ext c;clear c L;refine ad (aa.runB (DZ e6 Q ifs j p.fok p.at_.inv) p.at_ eH Y λT H u t O J F o Y=> ? _);have o:t=u:=o;subst o;have m:=m.ext O;have r:=p.step O eH WK B.loc F (p.fok.ext p.at_.inv O);clear O p;induction t using u' with|false=>exact ak ⟨rfl,rfl,d8 bm mc T H r m Y⟩|true=>refine ad (ad (aa.runB (Q.ev elt W _ T r.fok F.inv) F eH Y λc9 d N d9 z J w Z Y=> ? _));have m:=m.ext z;have E:=r.step z eH WK B.loc w (r.fok.ext F.inv z);clear z r;exact rwL (m.2);refine ad (aa.runB (yB (X:=X) (S:=S0) Z) w eH Y λa c8 J J v J h J Y=>ak (ak ⟨rfl,rfl,? _⟩));exact rwR (m.2);exact d8 bm mc a c8 (E.step v eH WK B.loc h (E.fok.ext w.inv v)) (m.ext v) Y
section E
section E
section
open PySem PySem.W PySem.Calls PyProof.Rows PySem.SeqAt
section
variable{A:Around}{X:XP}{S:ey}{σ:Sg}{α β γ δ:cv}{mg mb:h7}{l:p_}{R:gN}{env:Env}{fm:Fm}{call:aD}
theorem iV(g:Str->NameKind->NameKind):∀(l:Qh)[xd],(l.map λp=>(c5,g c5 p.2)).lookup x=(l.lookup x).map (g x)
 |[],_=>rfl
 |(y,k)::r,x=>by
  exact ec a2f s0 s0;cases e:L2;. exact iV g r x
  . exact rwL (f1 e);rfl
theorem jZ[SC](k:NameKind)(r:Qh)[lF]:ee ((n,k)::r) fm=if k== .free then(TW n).bind λc=>(ee r fm).map λl=>(n,c)::l else ee r fm:=by
 unfold ee;cases e:(k==NameKind.free);. exact rwL (YR (by ext Vg));rfl
 . exact a3 (XA (by ext Vg)) List.mapM_cons;cases TW n with|none=>rfl|some c=>show(((List.filter (λx=>x.2==NameKind.free) r).mapM a7m).bind λl=>aj ((n,c)::l))=_;cases((List.filter (λx=>x.2==NameKind.free) r).mapM a7m)<;>rfl
theorem kB(g:Id->Addr)(L:∀x c,TW x=aj c->env.cells.lookup x=aj (g c)):∀(f:Qh)(acc:Zd)(cells:OX),ee f fm=aj mz->(forIn f acc (λx cs=>(do if x.2== .free then let a<-cellOf env x.1;b3 (ForInStep.yield ((x.1,a)::cs))else b3 (ForInStep.yield cs):Sem _)):Sem _)=b3 ((cells.map λp=>(c5,g p.2)).reverse++acc)
 |[],acc,mz,h=>by
  have:mz=[]:=by ext xp;rfl
  subst this;exact rwL List.forIn_nil;rfl
 |(n,k)::r,acc,mz,h=>by
  rewrite [jZ]at h;rewrite [a4e];exact bcH e ((k==NameKind.free)=am)
  .ext a8U;have b:cellOf env n=b3 (g c):=by unfold cellOf;exact rwL (L n c H);rfl
   simp only [e,if_true,b,pure_bind];exact rwL (kB g L r _ cs Q);simp
  . replace h:=b9 e▸h;simp only [e,if_false,pure_bind,Bool.false_eq_true];exact kB g L r acc mz h
theorem kC:∀(f:Qh)(cells:OX),ee f fm=aj mz->∀p∈mz,TW c5=aj p.2
 |[],mz,h,p,O=>by have a:=hR h;clear h;subst a;cases O
 |(n,k)::r,mz,h,p,O=>by
  rewrite [jZ]at h;exact bcH e ((k==NameKind.free)=am)
  .ext a8U;rcases nr O with rfl|O;. exact H
   . exact kC r cs Q p O
  . replace h:=b9 e▸h;exact kC r mz h p O
theorem iL{β:cv}(a:Str->ez β):∀(l:dk (Str×β))[xd](b:β),(∀p∈l,a c5=aj p.2)->(x,b)∈l->l.lookup x=C2
 |(y,c)::r,x,b,h,u=>by
  exact rwL s0;cases e:L2
  .rcases nr u with q|u;. injection q with q1 q2;subst q1;simp at e
   . exact iL a r x b (λp O=>h p (pn O)) u
  . have e:=f1 e;subst e;have H:=h (x,c) OU;have F:=h (x,b) u;replace F:=H▸F;exact F
theorem dO{β:cv}:∀(l:dk (Str×β))[xd](b:β),l.lookup x=C2->(x,b)∈l
 |(y,c)::r,x,b,h=>by
  rewrite [s0]at h;cases e:L2;. ext Qp;exact pn (dO r x b h)
  . ext Qp;ext xp;exact rwL (f1 e);exact OU
theorem oO[XZ]{cells:OX}(F:k_)(h:ee V1 fm=aj mz):∃cl,closureFor lD env=b3 cl/\a9y:=by
 refine⟨(cells.map λp=>(c5,tp p.2)).reverse++[],? _,λx c Y=> ? _⟩;. exact rwR (kB (env:=env) tp (λx c e=>(F.cells x c e).2) V1 [] mz h);unfold closureFor;show(forIn V1 [] _>>=λcs=>b3 cs)=_;rewrite [bind_pure];rfl
 .have u:=dO _ _ _ Y;have T:=kC _ _ h;refine⟨(F.cells x c (T _ u)).1,? _⟩;rewrite [TX];refine iL (λy=>(TW y).map tp) _ x (tp c) (λp O=> ? _) ? _;. refine aN (WJ (Y1 O)) λq B d=> ? _;subst d;show(TW q.1).map tp=_;exact rwL (T q B);rfl
  . exact List.mem_reverse.mpr (a1R ⟨(x,c),u,rfl⟩)
section E
section E
section
open PySem PySem.W PySem.Calls PyProof.Rows PySem.SeqAt
section
variable{A:Around}{X:XP}{S:ey}{σ:Sg}{α β γ δ:cv}{mg mb:h7}{l:p_}{R:gN}{env:Env}{fm:Fm}{call:aD}
theorem yD[Xm][o2][eX][q'](T:bz S0 e4 σ)[FL](m:Q0)[V6](k:∀D U a,D.m=hM->ty->Ob->tI C e4 D Uy a->Q a U):D1 (Uh (lL D2) [e0]) Q E s:=by refine fk (cg at_ m) λitems c W B=> ? _;refine call_enumerate_list c λh' y d u N=> ? _;have x:=at_.keepAll (h':=h') i_ N;have p:p0 QM=ap:=UR (W1 _);have g:p0 l5=ap:=UR nl;exact k l_ _ _ rfl x.2 x.1 (Uy _ _ vs (a31 _) y d m (DW (P:=λb=>¬gJ (l_:Sg) b/\ZF) (jr at_ p) (jr at_ g)) (fH T (eZ▸p)) (fH T (eZ▸g)))
theorem yE[lN](k:(RI (D2:Str)==aj Ws)=am):name C.P D2 fm=b3 (V.bi D2):=by unfold name;exact a3 (b9 (by decide)) (f1 k);show(if q7.contains D2 then b3 (i7 C.P D2)else a8)=_;exact a3 (c4 (by decide)) G.en;rfl
theorem D0{x:Expr}(h:c7 [x]=am):qt R [x] fm=(R.ev x fm>>=λv=>b3 [v]):=by cases x<;>first|rfl|ext sp
theorem aa.pureEq{R':yy}{t:kk}{b:β}(h:hO R' t (b3 b)):hO (λσ c a=>R' σ c a/\c=b) t (b3 b):=λs at_ p Q E O=>by ext a4R;refine YA ⟨λc m'=>c=b/\P c m',PX,λc m' L D U a u y Z K r=>N c m' L.2 D U a u y Z K ⟨r,L.1⟩,Y,⟨rfl,q⟩⟩
theorem tM[lN](e:X.Mono)(n:S4){d:Pos}{p:Pos}{args:eP}{M:dk Keyword}[O3]:Op (tI C σ) (hr (On (jn D2 d) a6 M p) env) (wD R fm a6 M):=by
 refine aa.arg1 (T:=λargs=>hr (On (jn D2 d) a6 M p) env) λx=>UC (T:=λM=>hr (On (jn D2 d) [x] M p) env) (hE Tg nz);ext a0S;have g:(R.ev x fm>>=a6Q:xj V)=qt R [x] fm>>=λvs=>fT vs a6Q:=by exact a3 (D0 L.2) Ev.assoc;rfl;try rfl
 intro s at_ o Q E O;show QN (hr (jn D2 d) env>>=λv=>callWith p v [] (backTo p (Uq [x] env)) []) _ _ _;have B:=nV (A:=A) (X:=X) (S:=S0) (pos:=d) G.toPF F (x:=D2);replace B:=yE G L.1▸B;replace B:=aa.pureEq B;replace O:=g▸O;refine ad (aa.step (x:=b3 (V.bi D2)) (f:=λJ=>qt R [x] fm>>=λvs=>fT vs a6Q) e B at_ o O λj f w b c t W z O=> ? _);have z:D' j (.bi D2) w:=z.2▸z.1;exact rwL (show w= lL D2 from(hR (yh.symm.trans z.bi_inv)).symm);refine ge e n p L.2 (R':=tI C σ) j (vd c) W.inv (λT vs ws K r Z=> ba ⟨.plain λa q=>(by cases q),? _⟩) f W eH Q E O;exact Vj (T:=λws=>Uh (lL D2) ws) Z λv w h=>Vk (T:=λw=>Uh (lL D2) [w]) h λi J=>aa.atL λvs m=>aa.made λs at_ Q E k=>yD (c.trans K) at_ m k
theorem tN[lN][Qf]{it:Expr}[O3]:Op (tI C σ) (hr it env) (wE R it fm):=hE (λJ=>aa.onCall (T:=λit=>hr it env) λf args M p=>aa.onName (T:=λf=>hr (On f a6 M p) env) λx a=>hE (λh=>f1 h▸tM G B n F I) nz) λJ=>(n.ev it env fm σ F I).mono λJ J J J J h=> .val _ _ h
section E
section E
section
open PySem PySem.W PySem.Calls PyProof.Rows PySem.SeqAt
section
variable{A:Around}{X:XP}{S:ey}{σ:Sg}{α β γ δ:cv}{mg mb:h7}{l:p_}{R:gN}{env:Env}{fm:Fm}{call:aD}
theorem D5[o2]{E:el}[QQ]{g:Value}{u:zn}[v1][FL](h:oF C σ g u k src){Q:el}(n:Q g s):D1 (pyIter g) Q E s:=by have e:=eZ;cases h with|ref i a vs d W=>exact wpAny_pyIter_listiter (e▸d) n|rng G W N a d=>exact wpAny_pyIter_rangeiter (e▸d) n|tup vs a t items d I Z=>exact wpAny_pyIter_tupleiter (e▸d) n|bytes b a t d=>exact KBw.pyIter_self (e▸d) n|enum i c a r vs f K d W=>exact wpAny_pyIter_enum (e▸K) n
theorem mN{it:Expr}(h:nO it=am)(x:Value):foldedSetIterable it env x=b3 x:=by cases it<;>first|rfl|ext sp
def tO[X5](W:Env)(acc:Value)(use:a0h):P7:=let c(vs:Qh):eS:=a8M;let v:=a9m;match use with|ap=>do o1 [acc] (a1s c v.reverse);b3 acc|aj u=>do rule "comprehension.stores-exchanged";o1 (c v) (u acc);a1s c (v.reverse.drop 1++v.reverse.take 1);b3 a1
def fJ[q4][OF](X:XP)[P8][X5](use:a0h)[iv](Q:el)(E:el)(x:xj V)[m5]:a5:=∃P PX,(∀v m',P v m'->∀D U w W fm',D.m=m'->bz (λb=>b=Xn) σ D->j' Xn=ap->Ob->D' D v w->OL D W fm'->a4w->q0 (tO lD W w use) Q E U)/\(∀m',PX m'->∀D U e,D.m=m'->ty->Ob->X σ D U e->E e U)/\x P PX m
theorem fJ.step[Vn][Xm](T:bz S0 e4 σ)[XZ]{use:a0h}{R':yy}[T']{f:β->xj V}[o2]{Q:el}{Q₁:O'}{E:el}(H:Op R' t x)[FL](O:a4s e4 Q E (x>>=f) hM)(k:∀D U a b,ty->Ob->R' D b a->a4s e4 Q E (f b) D.m->Q₁ a U):q0 t Q₁ E s:=by exact d9 O λP PX N Y h=>H s at_ eH _ _ ⟨a50,PX,a9t,λm1 L D U e u y J K z=>Y m1 L D U e u (T.trans y) K (B S0 e4 σ D U e T z),h⟩
def jt(W:Env)(vs:Qh):eS:=a8M
def oP[X5]:Qh:=a9m
def rG[X5](W:Env)(acc:Value)(use:a0h):Except m9 Flow->P7| .ok _=>tO lD W acc use| .error x=>do o1 [x] (a1s (jt W) (oP lD).reverse);passOn "comprehension.variables-let-go" x W
theorem A3{α β:cv}[XI]{vs:eS}{m:kk}{f g:α->Sem β}{Q:β->i1}(h:∀r,f r=g r)(w:kS (o1 vs (m>>=f)) Q E s):kS (o1 vs (m>>=g)) Q E s:=by have:f=g:=funext h;subst this;exact w
theorem yF[OF]:A.mark ap=A:=by obtain⟨a,b,c,d,e⟩:=A;rfl
theorem yG[a7n]{use:a0h}{W:Env}{σ₀ Z:Sg}{d:Shared}[eX]{g:Value}{u:zn}[QQ][e3]{cells:OX}{acc:Value}[V6][lN](M:G2)(q:X.Mono)(p:S4)(B:rF C l W e4 tgt u src)(L:iK C l W a1Y e4 Z d g u 0 src)(j:N9 Xn=ap)(k:qG Z i acc)(a:a4w)(O:a4s e4 Q E (cF (VE cp 0 a1Y)>>=λJ=>b3 (og i)) Z.m):q0 (o1 [a2 Xn] ((o1 (acc::jt W (oP lD)) (PySem.run (.compStart YD 0 g acc W))).attempt>>=rG lD W acc use)) Q E d:=by
 revert scope pos use W σ₀ Z d i g u src n cells acc Q E;exact gs A X mg mb l R elt tgt it ifs;revert src n cells acc Q E;exact gs lD pos use W e4 Z d i g u;exact dl6 src n mz acc Q E;refine d9 O λP PX N J Y=> ? _;clear O;refine aL (ad (gP (aL (nv rfl ? _ (by intro x;exact bG x)))));exact rwL (yF A);have b:=yC (Rr:=λr U=>match r with| .ok f=>q0 (rG lD W acc use (.ok f)) Q E U| Q1=>q0 (rG lD W acc use Q1) Q E U) (elt:=elt) (it:=it) (ifs:=ifs) (scope:=lD) (pos:=pos) G M q p B (P:=λJ m'=>P eF m') (λD U fm' o c K t k=>N eF _ o D U acc W fm' rfl c j K (by exact rwL (k.2);exact eF k.1) t a) cp 0 a1Y Z d L k Y;clear N a j k Y;refine aR ? _;exact rwL (a1l (c:= .compStart YD 0 g acc W) rfl);refine bT (m:=compStart YD 0 g acc W) ? _;unfold compStart;show QN (ask>>=_) _ _ d;refine aA (wpAny_askSetting (rf ? _));split;. exact ak ⟨rfl,rfl,kx b λr s h=>by cases r<;>exact h⟩
 . refine aA a35;show QN (Oh it.pos>>=λJ=>pyIter g>>=λx=>again (.compLoop YD 0 x acc W)) _ _ d;exact ad (aO (aA (D5 L.at_ L.it (ak ⟨rfl,rfl,kx b λr s h=>by cases r<;>exact h⟩))))
theorem tP{α:cv}[XI][RN][O7]{k:PUnit->kk}{Q:O'}(h:kS (k ()) Q E s):kS (if c then(xv>>=k)else k ()) Q E s:=by
 split;. exact ad (aO h)
 . exact h
theorem rH{f:Qh}(h:∀x∈f,a2M)[xd]:(f.lookup x==OM)=av:=by
 refine cM (f.lookup x) od λk e=> ? _;. rfl
 . have:=h _ (dO _ _ _ e);rcases b_ with rfl|rfl|rfl<;>rfl
theorem oQ{f:Qh}(h:∀x∈f,a2M):mF f=ap:=by unfold mF;rewrite [rH h];rewrite [rH h];rewrite [rH h];rfl
theorem oS[XZ](a:∀x∈V1,a2M/\scope.names.lookup x.1=aj x.2)[N2]{k:NameKind}(h:scope.names.lookup x=v_):(scope.names.map λx=>a59).lookup x=aj (if(k== .free&&a2Z&&KX x==OM)=am then NameKind.cell else k):=by
 have e:(λx:Str×NameKind=>a59)=λx=>(x.1,if(x.2== .free&&a2Z&&KX x.1==OM)=am then NameKind.cell else x.2):=by funext x;split<;>rfl
 ext ea;rewrite [iV (λn k=>if(k== .free&&a2Z&&KX n==OM)=am then NameKind.cell else k)];ext Td
theorem iM[XZ](h:bJ lD=am):scope.kind= Wd/\∀x∈V1,a2M/\scope.names.lookup x.1=aj x.2:=by unfold bJ at h;rewrite [py]at h;refine⟨f1 h.1,W3⟩;have:=Qg h.2 x Y;simp only [py,a0o,Zr]at this;exact⟨by rcases b_.1 with(h|h)|h<;>simp [h],b_.2⟩
theorem A4[XZ]{cells:OX}{cl:Zd}{D:Sg}{W:Env}{L:Addr}(b:bJ lD=am)(g:a9y)(d:k_)(x:ty)(a:W={newEnv lD L env.globals cl env.qual ap a1 (aj env) W_ with scope:={lD with names:=scope.names.map λx=>a59}})(Z:D.h.Ns L (λx=>List.lookup x ([]:us).reverse))(H:¬gJ D L)(F:PO L=ap):Xn=L/\OL D W a1Y/\a4w:=by
 exact gs σ l env fm lD mz cl D W L;have N:=iM b;subst a;refine⟨rfl,⟨λe f=>(d.fr e f).ext x W6,N.1,λy k h=> ? _,d.glob,d.blt,⟨_,Z,λy v e=>bG e⟩,a2p,H,F,λt e=> ? _⟩,λy hy e=> ? _⟩
 .have this:=oS (env:=env) N.2 h;exact bcH b ((k== .free&&a2Z&&KX y==OM)=am);. replace this:=c4 b▸b_;simp only [py,Zr]at b;exact ba ⟨b.1.1,b_⟩
  . replace this:=b9 b▸b_;exact b7 b_
 . have h:=g y c e;exact⟨SI c h.1,by exact rwL (x.ρ c h.1);exact h.2⟩
 . replace e:=(oQ λx Y=>(N.2 x Y).1)▸e;ext pf
 . have this:=oS (env:=env) N.2 (N.2 y hy).2;ext a0g;exact b_
section
variable{scope:Scope}{use:a0h}{Q:el}{E:el}{m:ac}
theorem fJ.newE[Ol]{o:ae}{f:Id->xj V}(O:ZL (Mine.Internal.ci d o>>=f) m):m.H VQ=ap/\ZL (f VQ) (v2 d o):=by revert o f;exact gs A X σ l lD use Q E m d;exact dl2 o f;exact d9 O λP PX N Y h=>⟨i8 (j:=0),P,PX,N,Y,h⟩
theorem fJ.opt{o:ez γ}{f:γ->xj V}(O:ZL (Mine.Internal.DF o f) m):∃c,o=aj c/\ZL (f c) m:=by induction o using u_ with|none=>ext a27;clear O;exact Ok|some c=>exact⟨c,rfl,O⟩
theorem fJ.ite[RN]{x:xj V}(O:ZL (if c then x else a8) m):c/\ZL x m:=by
 exact bcH h c;. replace O:=Pa▸O;exact⟨h,O⟩
 . replace O:=Rt▸O;exact d9 O λP PX N Y h=>Ok
section E
theorem oT[a7n]{use:a0h}[o2][V6][lN](c8:G2)[Vn](e9:S4)(f9:k_)[FL](O:ZL (qu R elt lD pos fm tgt it ifs) hM):q0 (comprehension YD lD env it.pos (newList []) av (hr it env) use) Q E s:=by
 revert tgt it ifs scope pos use s Q E;exact gs A X σ mg mb l R env fm elt;exact dl9 tgt it ifs lD pos use s Q E;unfold qu at O;exact bcH hns (nO it=am);rotate_left;. rewrite [c4 (by simpa using hns)]at O;ext a27;clear O;exact Ok
 rewrite [b9 (by simp [hns])]at O;unfold comprehension;have I:=lv;refine ad (fJ.step B Q2 (tN G B e9 f9 I) at_ O λj f x src c W m8 O=>ad (aO (aA (Qm (mN hns x) (ad (aL (fJ.step B c (tK c m8) W O λT H j6 n K l7 d O=> ? _)))))));refine fk d λk6 d j7 c9=> ? _;refine aN O.opt λcells f7 O=> ? _;refine bx O.ite λp O=> ? _;refine bx O.newE λi9 O=> ? _;rewrite [py]at p;have v:=c.trans K;have m7:=f9.ext I v;refine aN (oO m7 f7) λcl a k5=> ? _;have f8:∀e∈l,∀L,X2->L∉k6:=λe y L U M=>by obtain⟨_,l8,o,m6,n,k,c7,_⟩:=f9.fr e y;replace U:=k▸U;have k9:=hR U;clear U;subst k9;replace c7:=c9 _ M▸c7;exact bG c7
 refine tP (aA (wpAny_newList ? _ (by size_fits)));refine qW (l7.newIn (o:= ej) (m1:=T.m.mk1 qj ej) (h':=H.heap.push a7R) H.toks dA i9 rfl (λb x e=>L' e) (λD x g u=>⟨#[],0,by exact a3 g u;exact Vz,.nil⟩)) λZ j8 j9 w i0 t=> ? _;have O:ZL (cF (dx R elt tgt ifs src (bv qj (T.m.c qj)) cp 0 a1Y)>>=λJ=>b3 (og (bv qj (T.m.c qj)))) Z.m:=by exact rwL (show Z.m=T.m.mk1 qj ej from j8);exact O
 generalize Id.mk qj (T.m.c qj)=i at O i0 t;ext F1;refine ad (ak ? _);have d8:=(iM p.2).2;refine aA (wpAny_newFunctionEnv (λx Y e=>by rcases(d8 x Y).1 with h|h|h<;>replace e:=h▸e<;>cases e) (λx Y=>by cases Y) (λh' e8 l6=> ? _) (iM p.2).1);have i5:(H.heap.push a7R).get? a6r=ap:=UR nl;refine bx (w.keepAll (h':=h') H.toks λb o e=>by exact rwL (l6.2 b (λz=>by subst z;replace e:=i5▸e;ext pf));exact L' e) λe7 i7=> ? _;have i6:=jr (h':=h') w i5;refine zF (A4 p.2 k5 m7 (j9.trans i7) rfl e8 i6.1 i6.2) λcL k8 i8=> ? _;have k7:=d.ext j7 l7.inv j9 eH W6;have l3:=j7.ext j9 d.there;have e6:j' a6r=ap:=fH (v.trans j9) (w.heap▸i5);have F:T.h.get? a6r=ap:=fH j9 (w.heap▸i5);exact A3 (λr=>by(iterate 7 clear O);(cases r<;>cases use<;>rfl)) (yG G c8 B e9 (σ₀:=σ) (i:=i) (n:=n) (acc:= a2 H.heap.objs.size) ⟨c9,(λM=>by refine db (d.there _ M) λo e=> ? _;replace e:=cL▸e;replace e:=F▸e;ext pf),f8,c5⟩ ⟨e7,(v.trans (j9.trans i7)).of0,k8,k7.ext l3 w.inv i7 eH W6,l3.ext i7 k7.there⟩ (by exact rwL cL;exact e6) ⟨i7.live i t,by exact rwL i0;rfl⟩ i8 O)
section E
section E
section
open PySem PySem.W PySem.Calls PyProof.Rows PySem.SeqAt
section
variable{A:Around}{X:XP}{S:ey}{σ:Sg}{α β γ δ:cv}{mg mb:h7}{l:p_}{R:gN}{env:Env}{fm:Fm}{call:aD}
theorem wV[XZ]{W:Env}{fm':Fm}[o2]{vs:Qh}{E:el}[Rh][FL](F:OL σ W fm')(N:a4w)(c:∀x∈vs,x∈V1)(h:∀h',At C l_ a1N->bz (λb=>b=Xn) σ l_->Q () a1N)(cf:Qh->eS):D1 (a1s cf vs) Q E s:=by refine aN F.ns λK B J=> ? _;refine wpAny_comp_letGo F.kind vs s K (λx Y e=>N x (c x Y) e) (eZ▸B) λh' m' a g=> ? _;refine qs a λo' f d m J=> ? _;clear a;exact bx (at_.privX (h':=h') i_ F.priv (λb M=>by subst M;exact F.gb) (λb o M e=>by exact rwL (g.2 b M);exact e) (λb M=>by subst M;exact⟨o',m⟩)) λG T=>h h' G T
theorem ml[XZ]:∀x∈oP lD,x∈V1:=λx Y=>(SS Y).1
theorem aa.onGen{R':yy}{g:Comprehension}{T:Comprehension->kk}{k:hC->hC->eP->i2}(f:∀tgt it ifs,hO R' (T ⟨tgt,it,ifs,0⟩) (k tgt it ifs)):hO R' (T g) (Mine.Internal.wF g k):=by obtain⟨tgt,it,ifs,a⟩:=g;exact hE (λh=>by exact rwL h;exact f tgt it ifs) nz
theorem rI[lN](M:G2)[Qf]:a8p:=by intro elt gens scope pos env fm σ F I;refine aa.arg1 (T:=λgens=>hr (a2E lD pos) env) λg=>aa.onGen (T:=λg=>hr (.ListComp elt [g] lD pos) env) λtgt it ifs=> ? _;ext s2;refine d9 O λP PX a Y h=> ? _;clear O;refine oT (use:=ap) G M B n F at_ ⟨P,PX,λv m' L D U w W fm' i c V K Z b N=> ? _,λm' L D U e u y K r=>Y m' L D U e u y eH K r,h⟩;show bp _ A (o1 [w] (a1s (jt W) (oP lD).reverse)>>=λJ=>b3 w) Q E U;refine aA (S3 (wV (Q:=λJ t=>q0 (b3 w) Q E t) (scope:=lD) K b N (λx Y=>ml x (Y1 Y)) (λh' f T=>ak ? _) _));exact a v m' L {D with h:=h'} _ w i ((c.trans T).drop λd hd=> ba (by subst hd;exact V)) eH f (Z.ext K.inv T b.priv)
section E
section E
section
open PySem PySem.W PySem.Calls PyProof.Rows PySem.SeqAt
section
variable{A:Around}{X:XP}{S:ey}{σ:Sg}{α β γ δ:cv}{mg mb:h7}{l:p_}{R:gN}{env:Env}{fm:Fm}{call:aD}
theorem A5{l:eS}(h:TriplesOk l):l=[]\/∃a t b u x r,l= Pi t:: a4 b u::x::r/\TriplesOk r:=by match l,h with|[],_=>exact hA| Pi t:: a4 b u::x::rest,h=>exact ba ⟨a,t,b,u,x,rest,rfl,h⟩
theorem tQ(p:Pos)(c:Value)[f0]:∀(l:eS),OE<n->TriplesOk l->TriplesOk (l++a7p)/\∀pos Z,a0D (l++a7p)=aj Z->a0D l=aj Z\/Z=c:=by
 induction n with
  |zero=>intro l h;cases h
  |succ n G=>
   intro l B I;rcases A5 I with rfl|⟨a,t,b,u,x,r,rfl,z⟩
   .refine⟨ep,λpos Z h=> ba ? _⟩;have h:(if(p.line:Int)==qj&&(p.col:Int)==pos.col then aj c else a0D [])=aj Z:=h;split at h;. exact(hR h).symm
    . ext rs
   .have i:=G r (by simp at B;refine bn (nat_lit 0x10a10000a103113110002) cb [] B a0) z;refine⟨i.1,λpos Z h=> ? _⟩;have h:(if a==qj&&b==pos.col then eI else a0D (r++a7p))=aj Z:=h;show(if a==qj&&b==pos.col then eI else a0D r)=aj Z\/_;split at h;. rename_i e;exact rwL (c4 e);exact b7 h
    . rename_i e;exact rwL (b9 e);exact i.2 pos Z h
theorem aa.noPar{R':yy}{a:Arguments}{T:Arguments->kk}{k:i2}(f:hO R' (T jc) k):hO R' (T a) (Mine.Internal.z6 a k):=by obtain⟨w,t,v,e,L,i,j⟩:=a;refine UC (T:=λw=>T ⟨w,t,v,e,L,i,j⟩) (UC (T:=λt=>T ⟨[],t,v,e,L,i,j⟩) ? _);induction v using u_ with|some=>ext d6|none=>refine UC (T:=λe=>T ⟨[],[],ap,e,L,i,j⟩) (UC (T:=λL=>T ⟨[],[],ap,[],L,i,j⟩) ? _);induction i using u_ with|some=>ext d6|none=>exact UC (T:=λj=>T ⟨[],[],ap,[],[],ap,j⟩) f
theorem qH{s:Nat}:∀{L:M_},az s L≠[]->oq (az s L) L=L
 |[],h=>O9 h
 |(t,l)::r,h=>by
  have h:WT l (az s r)≠[]:=h;show WT ((s,WT l (az s r))::r) ((t,l)::oq (WT l (az s r)) r)=_;refine cO (c0 t s) b4 b4;. exact rwL (TQ q);rfl
  . ext p2;show(t,l)::oq (az s r) r=(t,l)::r;exact rwL (qH h);rfl
theorem A6[f_]{t:Id}{o:ae}(h:m.H t=ck):pj t o=m:=by obtain⟨s,n⟩:=t;ext a8c;exact rwL (qH λq=>by replace B:=q▸B;exact b6 B (by simp));rfl
theorem A7{body:Expr}[XZ][O7]{cells:OX}{t:Id}[lN](e9:k_)[m2](e7:ee V1 fm=aj mz)(j6:(bJ lD&& ! scope.isCoroutine&& ! scope.isGenerator)=am)(f9:mF fm.scope.names=aj t)(m:nk t=aj sw):PC (hr (.Lambda jc hq lD pos) env) (b3 (V.clos hq lD mz)):=by
 revert pos cells t;exact gs A X σ mg mb l env fm hq lD;exact dl3 pos mz t;refine d9 (e9.code t f9) λc P L k7 W=> ? _;refine bx (I.tabs t P k7) λi0 n=> ? _;refine aN (oO e9 e7) λcl f7 g=> ? _;ext s2;refine fk (show fE C σ t sw from Ye t _ m) λj8 w U z=> ? _;replace w:=n▸w;have f:gJ σ P:=n▸l8 m rfl;have e8:=I.new P f;have a:∀b o,PO b=ck->R2:=λb o e=>by exact rwL eZ;exact Zi
 have k:Xh PT mg:=G.g.keeps a;have c9:PT≠P:=λq=>by refine qs G.g λo k6 j e J=> ? _;ext Q6;replace e:=e8▸e;ext pf
 have i7:=(G.bt P e8).keeps a;have f8:p0 P=aj (tabObj j8):=by exact rwL eZ;exact w
 have i9:=kla_eval (M:=QS) (A:=A) (E:=E) (s:=s) (params:=jc) (body:=hq) (scope:=lD) (pos:=pos) (env:=env) (Q:=Q) rfl;refine x4 (i9 ? _);refine cM (a0D j8.toList) (λd=> ? _) λZ d=> ? _
 .refine kla_makeFunction (mg:=mg) f7 e9.glob k L (W.keeps a) f8 U d c9 i7 λy u h' r Y k5 i0 j9 i8=> ? _
  have d8:∀v:Heap,v=h'.push a8H->Q (a2 h'.objs.size) {s with heap:=v,toks:=r}:=by
   intro v j7;have D:v.get? h'.objs.size=aj a8H:=by exact rwL j7;exact Vz
   have K:∀b o,Ou->v.get? b=ck:=λb o e=>by exact rwL j7;exact L' e
   have c8:v.CodeRec (a2 y) (env.qual++"<lambda>"):=j9.keeps K
   refine bx (I.updX (h':=v) (i:=t) (o:= sw) (o':= sw) (a:=P) m rfl (b7 n.symm) (λb o M e=>K b o (Y b o M (by exact rwL eZ;exact e))) ⟨_,K _ _ i8⟩ rfl λx=>by
    refine⟨j8++ #[rawInt qj,rawInt pos.col,a2 y],? _,? _,λi5 Z e=> ? _⟩;. show v.get? (tp t)=_;exact rwL n;exact K _ _ i8
    . exact rwL Array.toList_append;exact(tQ pos _ _ j8.toList (F' _) U).1
    .replace e:=Array.toList_append▸e;rcases(tQ pos (a2 y) _ j8.toList (F' _) U).2 i5 Z e with h|h;. exact db (z i5 Z h) λq B=>⟨q,(x.vext I eH).code B⟩
     . subst h;exact⟨_,c8⟩) λe6 i=> ? _;exact O.ok ⟨tp,σ.δ,σ.m.upd t sw,v⟩ _ _ (A6 m) i eH ⟨rfl,e6,at_.gens,at_.os⟩ (.clos hq lD mz _ _ _ cl _ (a2 y) u _ j6 D c8 λx c e=>bx (g x c e) λH F=>⟨i.live c H,F⟩)
  exact d8 _ rfl
 .refine kla_makeFunctionHit (mg:=mg) f7 e9.glob k L (W.keeps a) f8 U d i7 λu h' r N hsz=> ? _;refine db (z pos Z d) λq B=> ? _
  have d8:∀v:Heap,v=h'.push a8h->Q (a2 h'.objs.size) {s with heap:=v,toks:=r}:=by
   intro v j7;have D:v.get? h'.objs.size=aj a8h:=by exact rwL j7;exact Vz
   have i6:∀b o,R2->v.get? b=ck:=λb o e=>by exact rwL j7;exact L' (N b o e)
   exact bx (at_.keepAll (h':=v) r i6) λc7 T=>O.ok {σ with h:=v} _ _ rfl T eH c7 (.clos hq lD mz _ _ _ cl _ Z u q j6 D (B.keeps λb o e=>i6 b o (by exact rwL eZ;exact e)) λx c e=>g x c e)
  exact d8 _ rfl
theorem vr[lN]:∀H body sc pos env fm σ,a9i:=by intro H body scope pos env fm σ F I;refine aa.noPar (T:=λH=>hr (.Lambda H hq lD pos) env) (aa.opt λcells h=>hE (λp=>aa.opt λt a=>R4 λM m=> ? _) nz);induction M using z5 with|tab=>exact A7 G F I h p a m|_=>ext d6
section E
section E
section
open PySem PySem.W PySem.Calls PyProof.Rows PySem.SeqAt
section
variable{A:Around}{X:XP}{S:ey}{σ:Sg}{α β γ δ:cv}{mg mb:h7}{l:p_}{R:gN}{env:Env}{fm:Fm}{call:aD}
theorem rJ{h i:Heap}:∀{l:p_},(∀e∈l,e.scope.kind≠.module/\∃L o,X2/\i.get? L=ap/\Th L=ck/\∀vs,B2≠NR vs)->h.FunFrames i l:=by intro O;induction O with|nil=>intro _;exact ep|cons e r G=>intro h;exact⟨(h e OU).1,(h e OU).2,G λx Y=>h x (pn Y)⟩
theorem tR{l:p_}[a3w][lS]{B h':Heap}(at_:Ob)(x:bz S e4 D)(k:sS C l e4 D U a B)(p:∀b,S b->N9 b=ap)(v:∀e∈l,∀L,X2->(N9 L=ap)\/(¬gJ e4 L/\∃o Y n,N9 L=ck/\B2= .dict Y n))(y:B.StaysIn h')(F:U.heap.UpToSlots h')(m:B.StaysIn U.heap):At C {D with h:=h'} {U with heap:=h'}/\bz S0 e4 {D with h:=h'}:=by
 refine bx (k.inv.push (h':=h') y) λI J=> ? _
 have c:∀b o,N9 b=ck->∃o',Qy b=aj o'/\(E' b=aj o'\/(jI o'/\∃W,E' b=aj {o' with slots:=W})):=λb o e=>by
  rcases k.old b o e with⟨o',r⟩|M;. exact⟨o',eZ▸m b o' r,b7 (y b o' r)⟩
  .refine aN (List.mem_filterMap.mp M) λw K d=> ? _;rcases v w K b d with q|⟨f,t,Y,n,q,hd⟩;. ext Q6;ext pf
   .ext Q6;ext RK;refine db (x.stay b t q) λG u=> ? _
    have h:∃Y n,G.data= .dict Y n:=by
     rcases x.keep b f (λz=>by replace q:=p b z▸q;exact bG q) t q with j|⟨_,W,j⟩;. replace j:=u▸j;ext a5s;exact⟨Y,n,hd⟩
     . replace j:=u▸j;ext a5s;exact⟨Y,n,hd⟩
    exact IZ h λi E h=>db (F b G (eZ▸u) (λvs q=>by replace q:=h▸q;cases q)) λW Z=>⟨G,u,ba ⟨⟨i,E,h⟩,W,Z⟩⟩
 refine⟨ZT,SI,x.ρ,x.δ,x.inst,λb M J o e=> ? _,λb o e=> ? _,λb q=>TF b q⟩
 .refine aN (c b o e) λo' g u=> ? _;rcases x.keep b M (λz=>by replace e:=p b z▸e;ext pf) o e with j|⟨hd,W,j⟩;. replace j:=g▸j;ext a5s;exact u
  .replace j:=g▸j;ext a5s;rcases u with u|⟨_,s,u⟩;. exact ba ⟨hd,W,u⟩
   . exact ba ⟨hd,s,u⟩
 .refine aN (c b o e) λo' g u=> ? _;rcases u with u|⟨_,s,u⟩;. exact⟨_,u⟩
  . exact⟨_,u⟩
theorem sS.base{l:p_}[a3w][lS]{B:Heap}(k:sS C l e4 D U a B):B.StaysIn U.heap:=by
 refine i5 k.cls λK Z P w=> ? _;obtain h|⟨h,_⟩:=w;. exact h.1
 . exact h
theorem wW[Rh]{E:el}{c:p_}[a3w]{e:Value}{L:Addr}(z:A.frames=aj (env::c))(f9:env.frame=aj L)[a9w](e9:N9 L=ap\/(¬gJ e4 L/\∃o e6 n,N9 L=ck/\B2= .dict e6 n))(P:∀e∈c,dG C e4 e)(c8:∀f t a B,e= er->f.m=D.m->At C f t->bz S0 e4 f->(∃K Z,Za/\Heap.FlyingW B (env::c) a B6 Z t.heap)->bH C ⟨f.ρ,f.δ,f.m,B⟩->(∀b o,N9 b=ck->a7I\/b∈(env::c).filterMap (·.frame))->Q () t):D1 (a0N e) Q E U:=by
 revert L;exact gs A S env Q E c e4 D U e;exact dl1 L;refine i5 Y λa B d=> ? _;clear Y;subst d;intro V
 have v:∀e∈env::c,∀M,e.frame=aj M->(N9 M=ap)\/(¬gJ e4 M/\∃o e6 n,N9 M=ck/\B2= .dict e6 n):=λe y M g=>by
  rcases nr y with rfl|y;. replace g:=f9▸g;ext a3c;exact e9
  . obtain⟨_,j,o,e6,n,k,r,W,q,_⟩:=P e y;replace g:=k▸g;ext a3c;exact ba ⟨q,o,e6,n,r,W⟩
 have I:∀h' K Z,Za->Heap.LeftW B (env::c) a B6 Z U.heap h'->B.get? a=ap->Q () {U with heap:=h'}:=by intro h' K Z e8⟨m,c7,f8,k4⟩d9;exact bx (tR at_ x V p v m k4 V.base) λG c9=>c8 {D with h:=h'} _ a B rfl rfl G c9 ⟨K,Z,e8,m,d9,c7,f8⟩ V.inv V.old
 refine i5 V.cls λK Z e8 w=> ? _;obtain h|⟨H,F,f7,u,vs,e7,d8,s,N,i⟩:=w;. exact GS h λk r W q=>wpAny_leaving_nextW z W f9 q k r λh' T=>I h' K Z e8 T r
 . refine wpAny_leaving_firstW z f7 f9 e7 H F s N i λh' T=> ? _;replace T:=d8▸T;exact I h' K Z e8 T F
theorem qI{c:p_}[a3w]{e:Value}{L:Addr}(z:A.frames=aj (env::c))(d:env.frame=aj L)[a9w](j:N9 L=ap)(P:∀e∈c,dG C e4 e)[Rh]{E:el}(n:∀f t,f.m=D.m->At C f t->bz S0 e4 f->Xc C c e4 f t e->Q () t):D1 (a0N e) Q E U:=by
 refine wW z d at_ x Y p (b7 j) P λf t a B y u g s i H m=>n f t u g s ⟨a,B,y,? _,H,λb o e=> ? _⟩;. refine GU i λK Z v k r N q=> ? _;clear i;refine zF N λJ J W=> ? _;clear N;exact⟨K,Z,v,b7 ⟨k,r,W,q⟩⟩
 .rcases m b o e with h|h;. exact b7 h
  .replace h:=a3z▸h;replace h:=d▸h;rcases nr h with rfl|h;. replace e:=j▸e;ext pf
   . exact ba h
section E
section E
section
set_option backward.match.sparseCases false
open PySem PySem.W PySem.Calls PyProof.Rows PySem.SeqAt
def M4[Ro]:Fl->Flow->a5| hH,hH=>True| .brk,.brk=>True| .cont,.cont=>True| LO,.ret w=>FI|_,_=>gj
abbrev mo[q4][P8][QD][lF]:Sg->m_->Flow->a5:=λσ p f=>M4 C σ c5 f/\OL σ env {fm with loc:=p.2}
structure pY [q4] [OF] [P8] [QD] (R : gN) : a5 where
  st : ∀ N fm σ, k_ → x_ → TY (fun b => b = np) σ (mo C l env fm) (k2 N env) (R.stmt N fm)
section
variable{A:Around}{X:XP}{S:ey}{σ:Sg}{α β γ δ:cv}{mg mb:h7}{l:p_}{R:gN}{env:Env}{fm:Fm}{call:aD}
theorem fz(n:a0y):∀(s:e_)[lF][iv],k_->x_->RF (execs s env) (aB R s fm)
 |[],fm,σ,F,I=>z0 λJ=>⟨ep,F⟩
 |st::r,fm,σ,F,I=>by
  rewrite [execs_cons];show TY _ σ _ _ (R.stmt st fm>>=λp=>match p with|kE=>aB R r mc|f=>b3 f);refine th Ta (n.st st fm σ F I) λj f p x d z=> ? _;obtain⟨k,loc⟩:=p;refine bx z λH i=> ? _;clear z
  induction k using Fl.casesOn with
   |next=>cases f with|next=>exact aa.mono (fz n r mc j i d) λJ J J J J h=>h|_=>exact H.elim
   |brk=>cases f<;>first|exact H.elim|exact z0 λJ=>⟨ep,i⟩
   |cont=>cases f<;>first|exact H.elim|exact z0 λJ=>⟨ep,i⟩
   |ret v=>cases f<;>first|exact H.elim|exact z0 λJ=>⟨H,i⟩
theorem tS{t:ez hC}[QG]{line:Nat}(h:gO e=am):Vd e t line env=R9:=by cases e<;>first|ext sp|rfl|(cases t<;>rfl)
theorem tT{t e:Expr}{line:Nat}(h:gO e=am):Vd e (aj t) line env=R9:=tS h
theorem vt[QG]{line:Nat}(h:gO e=am):Vd e ap line env=R9:=tS h
theorem vu{t elt:Expr}{gens:dk Comprehension}{sc:Scope}{q:Pos}{line:Nat}:(∃x p,t= Ux/\Vd ZK (aj t) line env=b3 am)\/Vd ZK (aj t) line env=R9:=by
 induction t using Ox with
  |Name x p=>
   have e:Vd ZK (aj Ux) line env=b3 a78:=rfl;ext ea;cases a78;. exact NT
   . exact b7 ⟨x,p,rfl,rfl⟩
  |_=>exact NT
theorem aa.thenPure{R':yy}{d:a4m}[T']{c:γ}{g:β->δ}(h:hO R' t x)(z:∀D b a,R' D b a->d D (g b) c):hO d (t>>=λJ=>b3 c) (x>>=λb=>b3 (g b)):=by exactλs at_ p Q E O=>ad (aa.thru g h at_ p O λD U a b K r q=>ak (q c (z D b a r)))
theorem vw(n:SU R)[QG][O7](B:gO e=am)[O3]:RF (k2 (.Expr e pos) env) (tb>>=λJ=>b3 (hH,tn)):=by
 have W:interactive env=av:=by unfold interactive;exact rwL F.kind;rfl
 have g:k2 (.Expr e pos) env=(xv>>=λJ=>N8>>=λv=>dropValue e pos v):=by rewrite [arm_exec_Expr];exact rwL W;show(xv>>=λJ=>Vd e ap qj env>>=λb=>if b=am then(do evalThenUse e env λJ=>point;b3 Flow.next)else(do dropValue e pos (<-N8)))=_;exact rwL (vt B);rfl
 ext NZ;refine mn (TR VF λj w v x d z=> ? _);ext s2;exact x4 (wpAny_dropValue (O.ok (b:=(Pw,tn)) j s hH rfl Q2 p at_ ⟨ep,vd x⟩))
theorem rK(n:SU R)[QG][O7][O3]:RF (k2 (TG P4 pos) env) (tb>>=λv=>b3 (LO,tn)):=by rewrite [exec_Return_some];exact mn (TR VF λj w v x d z=>z0 λJ=>⟨z,vd x⟩)
theorem A8(n:SU R)(m:a0y){t:Expr}{b o:e_}[O7][O3]:RF (k2 (.If t b o pos) env) (Qa t fm>>=λc=>gm c (aB R b fm) (aB R o fm)):=by
 rewrite [exec_If];refine mn (TR (n.test t env fm σ F I) λj c u x d h₁=> ? _);have h₁:u=c:=su;subst h₁;cases u;. exact fz m o fm j (vd x) d
 . exact fz m b fm j (vd x) d
theorem yH(n:SU R){o k:Expr}{p pos:Pos}[O3]:RF (k2 (.Delete [a14 p] pos) env) (Qw>>=λK=>R.ev k fm>>=λr=>kO K r>>=λJ=>b3 (hH,tn)):=by
 rewrite [arm_exec_Delete];show TY _ σ _ (xv>>=λJ=>(delete (a14 p) env>>=λJ=>b3 ())>>=XG) _;rewrite [arm_delete_Subscript];refine mn ? _;have e:((do let K<-hr o env;let m<-o1 [K] (hr k env);Oh p;o1 [K,m] (delItem K m);release [K,m] []:Sem l0)>>=λJ=>b3 ())>>=XG=(hr o env>>=λK=>o1 [K] (hr k env)>>=λm=>Oh p>>=λJ=>o1 [K,m] (delItem K m)>>=λJ=>release [K,m] []>>=XG:Sem Flow):=by simp only [bind_assoc,pure_bind]
 ext ea;refine TR (a1Q F I) λj u K x d P=> ? _;refine TR (B4 (n.ev k env fm j (vd x) d)) λT q r y W N=>mn ? _;refine TR (B4 (te (P.ext d y eH) N)) λZ J J z c J=> ? _;intro s at_ a Q E O;exact ad (gR (ak (O.ok (b:=(Pw,tn)) Z s hH rfl Q2 a at_ ⟨ep,((vd x).ext d y).ext W z⟩)))
theorem wX{op:Operator}[a3j]:eG (inplaceOp op u v) (nP op a b):=Xg (T:=inplaceOp op) o Z λa t b Y=>by cases op with|Add=>exact fF λJ J s at_ Q E h=>AutoIntOps.iadd_0 U9|Sub=>exact fF λJ J s at_ Q E h=>AutoIntOps.isub_0 U9|_=>ext d6
section E
section E
section
open PySem PySem.W PySem.Calls PyProof.Rows PySem.SeqAt
section
variable{A:Around}{X:XP}{S:ey}{σ:Sg}{α β γ δ:cv}{mg mb:h7}{l:p_}{R:gN}{env:Env}{fm:Fm}{call:aD}
theorem tU[lN](n:SU R)[N2]{op:Operator}[QG]{h pos:Pos}[O3]:RF (k2 (.AugAssign (jn x h) op e pos) env) (name C.P x fm>>=λa=>tb>>=λb=>nP op a b>>=λv=>e8 x v fm>>=λloc=>b3 kE):=by
 exact bcH ho (Jl x=am)
 .have:name C.P x fm=a8:=by unfold name;exact rwL (c4 ho);rfl
  ext Od;ext d6
 have i:a3h=av:=by
  refine cO a3h b4 b4;. exact b6 (by unfold Jl;ext OI;rfl) ho
  . rfl
 have g:k2 (.AugAssign (jn x h) op e pos) env=(hr (jn x h) env>>=λr=>o1 [r] N8>>=λv=>xv>>=λJ=>operate [r,v] (inplaceOp op r v)>>=λk=>Oh h>>=λJ=>X7 x k>>=XG):=by rewrite [arm_exec_AugAssign];exact rwL (eval_Name env x h i);rewrite [bind_assoc];rfl
 ext NZ;refine TR (nV G.toPF F) λj u a P d h₁=> ? _;refine TR (B4 (n.ev e env fm j (vd P) d)) λT w b t W m=>mn ? _;refine TR (aa.operate (wX (h₁.ext d t eH) m)) λZ H v f c B=>mn ? _;have z:=((vd P).ext d t).ext W f;exact aa.thenPure (et V8 z B) λD loc J o=>⟨ep,o⟩
theorem tV{o e:Expr}{a:Str}{op:Operator}{k pos:Pos}[lN](n:SU R)[O3]:RF (k2 (.AugAssign (W' o a k) op e pos) env) (Qw>>=λK=>bE K a>>=λx=>tb>>=λy=>nP op x y>>=λv=>gy K a v>>=λJ=>b3 (hH,tn)):=by
 revert a op k pos;exact gs A σ mg mb l R env fm o e;exact dl4 a op k pos;rewrite [arm_exec_AugAssign_2];show RF _ (Qw>>=λK=>(bE K a>>=λx=>tb>>=λy=>nP op x y)>>=λv=>gy K a v>>=λJ=>b3 (Pw,tn));refine mn (TR (a1Q F I) λj u K P d h₁=> ? _);have i:=vd P;have g:TY S0 j D' (Oh k.atName>>=λJ=>getAttr u a am>>=λr=>o1 [r] N8>>=λv=>xv>>=λJ=>operate [r,v] (inplaceOp op r v)) (bE K a>>=λx=>tb>>=λy=>nP op x y):=by refine mn (th Ta (sZ G.K G.attrs su) λT w x t W m=> ? _);refine th Ta (B4 (n.ev e env fm T (i.ext d t) W)) λZ q y f c B=>mn (aa.operate ? _);exact wX (m.ext W f eH) B
 refine TR (B4 g) λT H v t W m=>mn ? _;have Y:=i.ext d t;refine TR (B4 (s5 G.K G.attrs (h₁.ext d t eH) m)) λZ J J f c J=> ? _;ext s2;exact ad (gR (ak (O.ok (b:=(Pw,tn)) Z s hH rfl Q2 p at_ ⟨ep,Y.ext W f⟩)))
theorem mO[lN](n:SU R){t e:Expr}[O7](Z:Vd e (aj t) qj env=R9)(r:∀ts c p,t≠L0 ts c p)(h:k_)[m2]:RF (k2 (UG [t] e pos) env) (tb>>=λv=>iC R t v fm>>=λloc=>b3 kE):=by
 have g:k2 (UG [t] e pos) env=(xv>>=λJ=>N8>>=λv=>a0B [t] e env>>=λU=>assignStores env v U ((RW [t] env).map (·.2))):=by ext a53;show(xv>>=λJ=>Vd e (aj t) qj env>>=λb=>_)=_;exact rwL Z;rfl
 ext NZ;refine mn (TR (n.ev e env fm σ h I) λj w v x d z=> ? _);have k:=h.ext I x;have f:a0B [t] e env=b3 ap->(RW [t] env).map (·.2)=[Zc]->TY N_ j (mo C l env fm) (a0B [t] e env>>=λU=>assignStores env w U ((RW [t] env).map (·.2))) (iC R t v fm>>=λloc=>b3 kE):=by intro H F;exact a3 H F;refine aa.pureL ? _;show TY _ j _ (Zc w>>=XG) _;exact aa.thenPure (mM G Ta n V8 t v w j fm k d z) λD loc J m=>⟨ep,m⟩
 induction t using Ox with|Name y p=>exact f rfl rfl|Attribute o a p=>exact f rfl rfl|Subscript o i p=>exact f rfl rfl|Tuple ts c p=>exact O9 (r ts c p)|_=>ext d6
section E
section E
section
set_option backward.match.sparseCases false
open PySem PySem.W PySem.Calls PyProof.Rows PySem.SeqAt
section
variable{A:Around}{X:XP}{S:ey}{σ:Sg}{α β γ δ:cv}{mg mb:h7}{l:p_}{R:gN}{env:Env}{fm:Fm}{call:aD}
theorem oU[XI]{c:Code}{Q:Flow->i1}(hd:gA c=av)(L:∀y:el,dM M A c (λr U=>match r with| .ok f=>Q f U| Q1=>y e U) s):kS (runOwn c env ap) Q E s:=by
 unfold runOwn;refine bT (nv hd ? _ (by intro x;exact bG x));have N:A.mark ap=A:=by obtain⟨a,b,c,d,e⟩:=A;rfl
 exact rwL N;exact kx (L _) λr U h=>by cases r<;>exact h
theorem vx(tgt:Expr)(g:Value)(body:e_)[QD]:forTurn tgt g hq [] env=(Oh tgt.pos>>=λJ=>(pyNext g).onRaise (λJ=>Oh {tgt.pos with line:=0})>>=λr=>match r with|ap=>again (.block [] env)|d0=>Y0 g v>>=λJ=>assign tgt env v>>=λJ=>execs hq env>>=λf=>match f with| hH| .cont=>again a7Q| .brk=>b3 (.done hH)| LO=>b3 (.done LO)):=by rfl
theorem yI{prog:Program}{w:World}[o2]{Rr:Q'}(h:Rr (.ok hH) s):dM h6 A (.block [] env) Rr s:=by refine aR ? _;show QN (do return Fin.done (<-(execs [] env).onRaise a6C)) _ _ s;exact ad (bT (ak (ak h)))
def rM[q4][P8][QD][lF](σ₀:Sg)(P:lR)(Rr:Q'):a5:=∀D U f p,P p D.m->bz N_ e4 D->Ob->M4 C D c5 f->OL D env {fm with loc:=p.2}->Rr (.ok f) U
theorem tW{a:Fm}[Xm]{P:lR}{Rr:Q'}(I:rM C l env a e4 P Rr){c:Code}(L:c.quiet=am)(hd:gA c=av)[o2]{E:el}{q:m_}{f:Flow}{o:dd->xj m_}(Y:(match q with|kE|Yg=>o loc|Yq=>b3 kE|f=>b3 f:xj m_) P oN hM)(x:bz N_ e4 σ)[FL](d:mo C l env a σ q f)(n:o q.2 P oN hM->dM QS A c Rr s):q0 (match f with| hH| .cont=>again c| .brk=>b3 (.done hH)| LO=>b3 (.done LO)) (λI U=>match I with| .done f=>Rr (.ok f) U| .again c'=>c'.quiet=am/\gA c'=av/\dM QS A c' Rr U) E s:=by
 obtain⟨k,loc⟩:=q;refine bx d λW F=> ? _;clear d
 induction k using Fl.casesOn with
  |next=>cases f with|next=>exact ak ⟨L,hd,n Y⟩|_=>exact W.elim
  |cont=>cases f with|cont=>exact ak ⟨L,hd,n Y⟩|_=>exact W.elim
  |brk=>cases f with|brk=>exact ak (I σ s hH kE Y x at_ ep F)|_=>exact W.elim
  |ret v=>cases f with|ret w=>exact ak (I σ s (.ret w) (LO,loc) Y x at_ W F)|_=>exact W.elim
theorem A9[lN](M:G2)(z:SU R)(m:a0y){tgt:Expr}{body:e_}[QQ]{g:Value}{u:zn}[Xm](B:rF C l env e4 tgt u src){P:lR}{Rr:Q'}(a:Fm)(I:rM C l env a e4 P Rr)[f0]:∀[q_](loc:dd)[iv][Rj],iK C l env U0 e4 σ s g u k src->bF R tgt hq src n k U0 P oN hM->dM QS A a7Q Rr s:=by
 induction n with
  |zero=>intro k loc σ s L Y;exact Y.elim
  |succ n w=>
   intro k loc σ s L Y;refine aR ? _;exact rwL (a1l (c:= a7Q) rfl);refine bT (m:=forTurn tgt g hq [] env) ? _;ext a8E;rewrite [vx];refine ad (aO (ad (bT (wU (fS:=λloc=>aB R hq U0>>=λq=>match q with|kE|Yg=>bF R tgt hq src n bm U0|Yq=>b3 kE|f=>b3 f) (fN:=b3 (Pw,loc)) G M Ta z B L Y (λh' U e x K i=> ? _) λj D loc Y c p=> ? _))));. exact ak ⟨rfl,rfl,yI (I l_ U hH kE e x K ep i)⟩
   . clear c L;refine ad (aa.runB (fz m hq U0 j p.fok p.at_.inv) p.at_ p.fok.priv Y λT H f q v E F o Y=> ? _);have r:=λi=>p.step (fm':={a with loc:=q.2}) v p.fok.priv V8 B.loc F i;have r:=r o.2;exact tW I rfl rfl Y (r.ext.drop λd hd=>hd.elim b7 λh=> ba (B.new d h)) F o λY=>oj q.2 T H r Y
section E
section E
section
set_option backward.match.sparseCases false
open PySem PySem.W PySem.Calls PyProof.Rows PySem.SeqAt
section
variable{A:Around}{X:XP}{S:ey}{σ:Sg}{α β γ δ:cv}{mg mb:h7}{l:p_}{R:gN}{env:Env}{fm:Fm}{call:aD}
theorem tX(tgt it:Expr)(b:e_)[O_]:k2 (.For tgt it b [] pos) env=(xv>>=λJ=>hr it env>>=λx=>foldedSetIterable it env x>>=λx=>Oh it.pos>>=λJ=>o1 [x] (pyIter x)>>=λg=>runOwn (.forLoop tgt g b [] env) env):=rfl
theorem aa.stepK[Vn][Xm](T:bz S e4 σ){R':yy}{c:a4m}[T']{f:β->xj δ}[o2]{Q:γ->i1}{Q₁:O'}{E:el}(H:Op R' t x)[FL](p:P2)(O:cH C X S e4 c (x>>=f) hM Q E)(k:∀D U a b,ty->Ob->R' D b a->cH C X S e4 c (f b) D.m Q E->Q₁ a U):q0 t Q₁ E s:=by exact d9 O λP PX N Y h=>H s at_ eH _ _ ⟨a50,PX,a9t,λm1 L D U e u y J K z=>Y m1 L D U e u (T.trans y.of0) (P9 y) K (B S e4 σ D U e T z),h⟩
theorem cH.ite{R':yy}[RN]{x:i2}[f_]{Q:O'}{E:el}(O:NN R' (if c then x else a8) m Q E):c/\NN R' x m Q E:=by
 exact bcH h c;. replace O:=Pa▸O;exact⟨h,O⟩
 . replace O:=Rt▸O;exact O.no
theorem D6{tgt it:Expr}{b:e_}[O7][lN](c7:G2)(f7:SU R)(e8:a0y)(e6:k_)[m2]:RF (k2 (.For tgt it b [] pos) env) (wK R tgt it b fm):=by
 revert b pos;exact gs A σ mg mb l R env fm tgt it;exact dl2 b pos;refine hE nz λZ=> ? _;have Z:nO it=am:=by simpa using Z
 have B:=Ta;intro s at_ e7 Q E O;rewrite [tX];refine ad (aO (ad (aa.stepK B Q2 ((f7.ev it env fm σ e6 I).mono (R':=tI C σ) λJ J J J J h=> .val _ _ h) at_ e7 O λj i5 x src c W z O=>aA (Qm (mN Z x) (ad (aO (ad (aL (aa.stepK B c.of0 (tK c z) W (e7.ext0 c) O λT H g n e9 F f9 O=> ? _)))))))));refine fk f9 λu f9 V w=> ? _;refine bx O.ite λm O=> ? _;refine d9 O λP PX N J c8=> ? _;clear O;have a:np∉u:=λM=>by refine qs e6.locals λo Y n e J=> ? _;replace e:=w _ M▸e;ext pf
 have q:∀e∈l,∀L,X2->L∉u:=λe y L i0 M=>by obtain⟨_,i6,o,Y,n,k,r,_⟩:=e6.fr e y;replace i0:=k▸i0;have f8:=hR i0;clear i0;subst f8;replace r:=w _ M▸r;exact bG r
 have v:=c.trans e9;exact oU rfl λc9=>A9 G c7 f7 e8 (σ₀:=σ) (P:=P) ⟨w,a,q,m⟩ fm (λD U f p d8 i K d t=>N p _ d8 D U f rfl i t.priv K ⟨d,t⟩) cp 0 tn T H ⟨F,v.of0,e6.ext I v,f9,V⟩ c8
theorem vy(r:SU R)(m:a0y){g:Expr}{body:e_}[Xm]{P:lR}{Rr:Q'}(a:Fm)(I:rM C l env a e4 P Rr)[f0]:∀(loc:dd)[iv][Rj],N7->bz N_ e4 σ->OL σ env U0->cU R g hq n U0 P oN hM->dM QS A (.whileLoop g hq [] env) Rr s:=by induction n with|zero=>intro loc σ s at_ k h Y;exact Y.elim|succ n G=>intro loc σ s at_ k h Y;refine aR ? _;exact rwL (a1l (c:= .whileLoop g hq [] env) rfl);refine bT (m:=whileTurn g hq [] env) ? _;ext a8E;have Y:(Qa g U0>>=λc=>gm c (aB R hq U0>>=λq=>match q with|kE|Yg=>cU R g hq n U0|Yq=>b3 kE|f=>b3 f) (b3 (Pw,loc))) P oN hM:=Y;show QN (isTrue g env (hr g env)>>=λb=>if b=am then execs hq env>>=λf=>match f with| hH| .cont=>again (.whileLoop g hq [] env)| .brk=>b3 (.done hH)| LO=>b3 (.done LO)else execs [] env>>=λf=>b3 (.done f)) _ _ _;refine ad (aa.runB (r.test g env U0 σ h lv) at_ eH Y λj w u c p E W o Y=> ? _);have o:c=u:=o;subst o;have i:=h.ext lv p;have x:=k.trans p.of0;clear h k p;induction c using u' with|false=>exact ad (ak (ak (I j w hH kE Y x W ep i)))|true=>refine ad (aa.runB (fz m hq U0 j i W.inv) W i.priv Y λT H f q K z F d Y=> ? _);exact tW I rfl rfl Y (x.trans K) F d λY=>G q.2 T H F (x.trans K) d.2 Y
theorem yJ(n:SU R)(m:a0y){g:Expr}{b:e_}[O7](F:k_):RF (k2 (.While g b [] pos) env) (cF (cU R g b 60 fm)):=by intro s at_ a Q E O;rewrite [exec_While];refine ad (aO ? _);refine d9 O λP PX N J T=> ? _;clear O;exact oU rfl λy=>vy n m (σ₀:=σ) (P:=P) fm (λD U f p L i K d t=>N p _ L D U f rfl i t.priv K ⟨d,t⟩) 60 tn σ s at_ Q2 F T
section E
section E
section
open PySem PySem.W PySem.Calls PyProof.Rows PySem.SeqAt
section
variable{A:Around}{X:XP}{S:ey}{σ:Sg}{α β γ δ:cv}{mg mb:h7}{l:p_}{R:gN}{env:Env}{fm:Fm}{call:aD}
class inductive gf [QD] : eP → pb → a5 where
  | nil : gf env [] []
  | cons {x p ts c} : KX x = xw → gf env ts c → gf env (Ux :: ts) (x :: c)
theorem rN{F:hC->ez Str}(a:∀t x,F t=eI->∃p,t= Ux/\KX x=xw)(ts:eP):(ts.filterMap F).length=Yv->gf env ts (ts.filterMap F):=by
 induction ts with
  |nil=>intro _;exact .nil
  |cons t ts G=>
   intro h;rw [a3z]at h⊢;refine cM (F t) od λx e=> ? _;. ext Qp;exact b6 (ei (O1 h.symm) (List.length_filterMap_le F ts)) (Nat.not_succ_le_self _)
   . ext Qp;refine aN (a t x e) λp U=> ? _;subst U;intro N;exact t6 N (G (a2n h))
theorem Np{α:cv}{P:α->a5}{b c2 c3 N n:a5}{B:Yy b}{K:Yy c2}{p:Yy c3}{i:Yy N}{Y:Yy n}{a x y:α}(V:P a)(h:¬c3->¬N->(n->P x)/\(¬n->P y)):P (@ite α b B a (@ite α c2 K a (@ite α c3 p a (@ite α N i a (@ite α n Y x y))))):=if g:b then(c4 g).symm▸V else(b9 g).symm▸if u:c2 then(c4 u).symm▸V else(b9 u).symm▸if j:c3 then(c4 j).symm▸V else(b9 j).symm▸if T:N then(c4 T).symm▸V else(b9 T).symm▸if e:n then(c4 e).symm▸(h j T).1 e else(b9 e).symm▸(h j T).2 e
abbrev Nq[QD](ts:eP)(t:Sem (ez pb)):a5:=t=b3 ap\/∃f,t=b3 (aj f)/\gf env ts f
theorem pZ{ts:eP}{c:Nat}{p:Pos}[QG](r:wH e=am):a0B [L0 ts c p] e env=b3 ap\/∃f,a0B [L0 ts c p] e env=b3 (aj f)/\gf env ts f:=by
 exact dl5 env ts c p e
 induction e using Ox with
  |Tuple vs c2 d=>
   refine Np (P:=Nq env ts) hA λU b=>⟨zf,λ_=> ba ⟨_,rfl,rN (λt x h=> ? _) ts ? _⟩⟩;. have r:a9Z=am:=r;replace r:=a▸r;rewrite [Bool.not_true,Bool.or_false]at r;exact(b r).elim
   .induction t using Ox with
     |Name id pos=>
      have e:(if KX id==xw&&qj==_ then aj id else ap)=eI:=h;exact bcH hc ((KX id==xw&&qj==(ts.head?.map (·.pos.line)).getD 0)=am);. replace e:=c4 hc▸e;ext RK;exact⟨pos,rfl,f1 (py _ _▸hc).1⟩
      . replace e:=b9 hc▸e;ext pf
     |_=>ext rs
   . rewrite [a0o,not_or,bne_iff_ne,ne_eq,Decidable.not_not]at U;exact U.1
  |_=>exact hA
section E
section E
section
open PySem PySem.W PySem.Calls PyProof.Rows PySem.SeqAt
section
variable{A:Around}{X:XP}{S:ey}{σ:Sg}{α β γ δ:cv}{mg mb:h7}{l:p_}{R:gN}{env:Env}{fm:Fm}{call:aD}
theorem bH.hide[h_][m2](T:YT):bH C ⟨tp,σ.δ,hM,a1I⟩:=by
 have a:∀b,b∈a2F->∃o Y n,PP/\B2= .dict Y n/\¬QE/\ZF:=λb M=>by refine aN (List.mem_filterMap.mp M) λe y d=> ? _;obtain⟨_,L,o,Y,n,k,r,g,j,D⟩:=T e y;replace k:=d▸k;have O:=hR k;clear k;subst O;exact⟨o,Y,n,r,g,j,D⟩
 have c:∀b o,b∉a2F->PP->(a1I).get? b=ck:=λb o M e=>a2c e M;have v:ku σ ⟨tp,σ.δ,hM,a1I⟩:=⟨λJ h=>h,Q9,λb o e B J=>c b o (λM=>by refine uU (a b M) λo' Y n k r J=> ? _;replace e:=k▸e;ext RK;exact B (dw r)) e⟩;have t:∀b,QE->(a1I).get? b=j' b:=λb q=>by refine aN (fB I q) Zt;ext ea;exact c b o (λM=>(a b M).choose_spec.choose_spec.choose_spec.2.2.1 q) e
 exact⟨λb o e=>c b o (λM=>by refine xM (a b M) λJ J J J J J f=> ? _;replace e:=f▸e;ext pf) Zi,I.new,a8T,I.inj,I.big,I.low,I.tabs⟩
theorem bH.same_maps[RV]{B:Heap}(I:bH C a3r)(u:D.m=hM)(n:∀i,C3->TH=eT)(a:∀i,C3->D.δ i=Qx):a7w:=by ext PE;have loc:∀p,m6 a5H p->m6 a3r p/\(a5H:Sg).loc p=(a3r:Sg).loc p:=λp h=>⟨h,by obtain⟨i,b⟩:=p;induction b using u' with|false=>exact n i h.live|true=>exact a i h.live⟩;have c:∀b,gJ a5H b->gJ a3r b:=λb h=>h.has.elim λp O=>O.2.1▸(loc p O.1).2.symm▸(loc p O.1).1.own O.2.2;have v:ku a3r a5H:=⟨λJ h=>h,n,λJ J e J J=>e⟩;exact⟨I.base,λb h=>I.new b (c b h),λi o W=>(I.obj i o W).vsame v a W hS hS,λp q O d e=>I.inj p q (loc p O).1 (loc q d).1 ((loc p O).2.symm.trans (e.trans (loc q d).2)),λb h=>I.big b (c b h),I.low,λt P e=>⟨XW.1,(n t XW.1).trans XW.2⟩⟩
theorem p4[QH][O_]:a7G=(xv>>=λJ=>raiseStmt env (aj (N8>>=λv=>xv>>=λJ=>b3 v)) ap):=rfl
theorem yK[lN](B:nQ C)(i5:fU A l 0)[N2][v1]{p U t pos:Pos}(D:a1F)(F:k_){R':Sg->β->Flow->a5}:TY N_ σ R' (k2 (.Raise (aj (a7d t)) ap pos) env) Ev.exc:=by
 intro s at_ d9 Q E O;rewrite [p4];refine ad (aO ? _);unfold raiseStmt;ext ON;refine ad (ad (m:=hr (a7d t) env) (B l A i5 σ env fm F lv D x k p U t s at_ eH _ _ ⟨λJ m'=>m'=hM,wj,λJ m' c9 j f w g c J W r=>ad (aO (ak ? _)),λJ z=>z.elim,rfl⟩));have g:=g.trans c9;refine x4 (b8 O8);obtain⟨N,a,K,u,vs,Z,rfl,P,i0,m,j6,hd,V,H⟩:=r;replace m:=G' W.heap▸m;have N:∀b o,R2->f.heap.get? b=ck:=λb o e=>by exact rwL W.heap;exact N b o Wg
 have I:E er f:=O.ex j f er g c.of0 (d9.ext0 c) W ⟨a,a1I,rfl,⟨K,Z,P,ba ⟨λb o e=>N b o (eZ▸of_hideAll _ e),(by
  refine cM ((a1I).get? a) b4 W9;. exact q
  . have:=of_hideAll _ q;replace this:=i0▸b_;exact bG b_),rJ (λe y=>by obtain⟨f9,L,o,Y,n,j8,c7,e6,i7,e8⟩:=F.fr e y;exact⟨f9,L,o,j8,hideAll_none _ (List.mem_filterMap.mpr ⟨e,y,j8⟩),N L o (by exact rwL eZ;exact c7),λvs q=>by replace q:=e6▸q;cases q⟩),u,vs,m,j6,hd,H,V⟩⟩,by obtain⟨i6,f7,d8⟩:j.m=hM/\(∀i,C3->j.ρ i=eT)/\(∀i,C3->j.δ i=Qx):=⟨g,c.ρ,c.δ⟩;exact(at_.inv.hide F.fr).same_maps i6 f7 d8,λb o e=>by
  exact bcH hb (b∈a2F);. exact ba hb
  . exact b7 ⟨o,a2c e hb⟩⟩;refine Lz (G.bk K P) λb1 j9 i8 c8 T=> ? _;have e9:C.K.In f.heap:=mG G.K W;obtain⟨j7,e7,i9,f8⟩:=u;dsimp only at j6 hd;subst j6 hd;have M:=i5.h;clear O N i0 d9 at_ W c g F D i5 B;have h:∀{d:Around}{Q:el}{E},Q B6 f->PM QS d (typeOf er) Q E f:=λq=>((Looks.ld m).andThen .now:Looks QS f.heap (typeOf er) B6).here q;have v:∀{d:Around}{Q:b2->i1}{E},Q av f->PM QS d (isType er) Q E f:=λq=>by unfold isType loadHead;exact b8 (wpAny_loadPart m (f' q))
 refine b8 (S3 ? _);unfold excFromValue isExcClass;refine b8 (b8 (v ? _));refine O8;exact rwL (b9 (by decide));refine b8 (m:=isInstance er a5J) ? _;unfold isInstance;refine b8 (h ((looks_subIn e9 j9).here ? _));ext UA;refine O8;ext ON;refine b8 (v ? _);exact rwL (b9 (by decide));refine b8 ? _;unfold raisedInstance;refine b8 (h (b8 ((looks_typeIn e9 c8).here ? _)));exact rwL (c4 (TV _));refine O8;unfold setFlight;refine b8 (b8 (wpAny_field m rfl H ? _));exact rwL (b9 (by decide));refine O8;unfold raiseNew;refine b8 (wpAny_handled ? _);exact rwL M;exact b8 (f' (wpAny_throw I))
theorem vz[lN](B:nQ C)(k:fU A l 0)[QG][O7](j:k_):RF a7G (Aa fm e):=aa.onCall (T:=λe=>a7G) λg i M p=>aa.onName (T:=λg=>k2 (.Raise (aj (On g i M p)) ap pos) env) λx d=>aa.arg1 (T:=λi=>k2 (.Raise (aj (On (jn x d) i M p)) ap pos) env) λa=>aa.onCon (T:=λa=>k2 (.Raise (aj (On (jn x d) [a] M p)) ap pos) env) λc y f=>UC (T:=λM=>k2 (.Raise (aj (On (jn x d) [RQ c y f] M p)) ap pos) env) (hE (λh=>by rewrite [py]at h;refine bx h V_;clear h;unfold wM at F;rewrite [py]at F;refine bx F λY D=> ? _;clear F;have Y:=f1 Y;subst Y;cases c with|str s=>exact yK G B k (f1 D) j|_=>exact s1 H) nz)
section E
section E
section
open PySem PySem.W PySem.Calls PyProof.Rows PySem.SeqAt
section
variable{prog:Program}{w:World}{A:Around}{R:Q'}{s:Shared}
theorem p5[lS]{args:Args}{o:Obj}{fd:FuncData}{body:e_}[a8o](i:fd.body= .stmts hq)(W:s.heap.CodeRec fd.code q)(h:PM h6 A.in1 (bindArgs fd a6) (λbinds f=>a8l (λenv H=>H.heap.NoLimit/\dM h6 A (.func hq env) R H) a1S f) a1S s):dM h6 A (.call er a6) R s:=by revert q;exact gs hN w A R s a a6 o fd hq;exact dl1 q;ext a7T
theorem vA{body:e_}{env:Env}(h:bp h6 a11 (execs hq env) (λf U=>R (.ok (.ret (match f with| LO=>v|_=> a1))) U) (λe U=>bp h6 a11 (a0N e) (λJ t=>R Q1 t) (λr t=>R (.error r) t) U) s):dM h6 A (.func hq env) R s:=by refine aR ? _;show bp _ a11 (do point;match<-(execs hq env).onRaise a0N with| LO=>ret v|_=>ret a1) _ _ s;refine ad (ma (ad (bT (dC h (λf U h'=> ? _) λJ J h'=>h'))));cases f<;>exact ak h'
theorem p6[lS]{args:Args}{o:Obj}{fd:FuncData}{body:Expr}[a8o](i:fd.body= .expr hq)(W:s.heap.CodeRec fd.code q)(h:PM h6 A.in1 (bindArgs fd a6) (λbinds f=>a8l (λenv H=>H.heap.NoLimit/\dM h6 A (.expr hq env) R H) a1S f) a1S s):dM h6 A (.call er a6) R s:=by ext a7T
theorem vB[QG]{env:Env}(h:bp h6 a11 N8 (λv U=>R (.ok LO) U) (λr U=>bp h6 a11 (a0N r) (λJ t=>R (.error r) t) (λa t=>R (.error a) t) U) s):dM h6 A (.expr e env) R s:=by refine aR ? _;show bp _ a11 (do point;ret (<-(hr e env).onRaise a0N)) _ _ s;exact ad (ma (ad (bT (dC h (λv U h'=>ak h') λJ J h'=>h'))))
section E
section
variable{A:Around}{X:XP}{S:ey}{σ:Sg}{α β γ δ:cv}{mg mb:h7}{l:p_}{R:gN}{env:Env}{fm:Fm}{call:aD}
theorem rO{α β:cv}:∀(l:dk α)(m:dk β),(l.zip m).map w1=l.take m.length|[],_=>by simp|_::_,[]=>by simp|a::l,b::m=>by simp [rO l m]
theorem oV{a:Arguments}[q']{B:dd}(h:fy a vs=aj B):∃n,B.map w1=(a.args.map (·.arg)).take n:=by
 exact dl3 a vs B;unfold fy at h;dsimp only at h;split at h
 .refine aN ZS λds J h=> ? _;split at h;. ext xp;exact⟨_,rO _ _⟩
  . ext rs
 . ext rs
theorem rP{f:Qh}(a:(cn f).Nodup)[f0][N2](h:f.lookup x=OM):((cellsFrom n f []).lookup x).isSome=am:=by
 rewrite [gd];rewrite [TX];have u:x∈cn f:=by unfold cn;exact a1R ⟨(x,f2),List.mem_filter.mpr ⟨dO _ _ _ h,rfl⟩,rfl⟩
 refine db (List.mem_iff_getElem?.mp u) V4;exact rwL (nZ _ n j x a D);rfl
def oW[q4][OF][P8][QD][w'](d:Nat):a5:=SU (ops C.P bj d)/\pY C A l env (ops C.P bj d)
set_option backward.match.sparseCases false in def Gd(r:m_):xj V:=match r with|(LO,_)=>b3 v|_=>b3 a1
set_option backward.match.sparseCases false in theorem D7{c f:Str}[q']{d:mD}(hd:gX C.P c f=aj d):bA C.P bj Tm vs=(match fy d.params vs with| a1=>a8|aj bs=>kU bs (gu Q3)>>=λcells=>aB (ops C.P bj AD) d.body ⟨d.scope,bs.filter λp=>SQ c5==xw,mz⟩>>=Gd):=by show(match gX C.P c f with| a1=>a8|aj d=>_)=_;(exact rwL hd)<;>rfl
theorem wY[lN][e3](D:fU A l cp)(f7:∀e9 env,fU e9 Ri n->VM->oW C e9 Ri env bj AD){c f:Str}[lS][M'][m2](n7:YT)(k9:C.fa c f=C1)(Z:tq):a4I (Uh er ws) (bA C.P bj Tm vs):=by
 refine aN (G.fn c f a k9) λd hd d8=> ? _;exact rwL (D7 hd);refine cM (fy d.params vs) (λo4=> ? _) λo5 o4=> ? _;. ext d6
 .intro s at_ k7 Q E O;obtain⟨o,fd,q,o8,l7,j8,n3,i0,e7,l8,c7,o7⟩:=d8.fd;have o9:∀b o,PO b=ck->R2:=λb o e=>by exact rwL eZ;exact Zi
  refine d9 O λP PX N i9 O=> ? _;refine i5 (sX O) λcells m1 O l3=> ? _;have o0:=oV o4;refine db o0 λn6 o0=> ? _;have i7:(o5.map w1).Nodup:=by exact rwL o0;exact(List.take_sublist _ _).nodup d8.pars
  have j6:∀x∈o5.map w1,SQ x=xw\/SQ x=OM:=λx Y=>by replace Y:=o0▸Y;refine aN (WJ (a5M Y)) λy hy n9=> ? _;subst n9;exact d8.kinds y hy
  refine je (p5 (q:=q) (by ext a8C) (o9 a o o8) l7 (by exact rwL j8;exact d8.co) (by exact rwL j8;exact d8.gen) n3 (c7.keeps o9) (o7 vs o5 o4 σ s ws at_ Z _ _ _ _ λj9 l6=> ? _));exact w3 j8 e7 i0 l8;refine wpAny_newFunctionEnv_cells d8.kind W3 λenv m U Y=> ? _
  .have Y:x.1∈o5.map w1:=by exact rwL l6.names;exact Z4 Y
   rcases j6 _ Y with h|h;. exact b7 h
   . exact ba ⟨h,rP d8.cells _ h⟩
  refine qW (Jw at_ l6 i7 d8.cells d8.kind m Y d8.look (λt j7=>d8.tab o fd o8 l7 t j7) l3 n7) λj W g e8 i o6=> ? _;refine⟨(G.lim.keeps W.inv.base).keeps λb o e=>by exact rwL W.heap;exact e,vA ? _⟩;have z:VM:=by ext Wa
  have k6:fU ((Yp A).deeper env) Ri n:=by
   refine⟨? _,D.g,D.h,? _,? _⟩;. show A.frames.map (env::·)=_;exact rwL D.fr;rfl
   . ext a8m
   . ext a8k
  refine bx (f7 _ env k6 z) λm8 c8=> ? _;have f8:j' np=ap:=by exact rwLR m eZ;exact UR nl
  refine fz c8 d.body _ j i W.inv U W o6 _ _ ⟨λr m'=>Gd r P PX m',PX,λp e6 L T n8 k u K J F p4=> ? _,λe6 L T n8 e u K J F B=> ? _,g▸O⟩
  .have k8:SN T:=(e8.of0.trans K).drop λd hd=> ba (by subst hd;exact f8);obtain⟨i8,loc⟩:=p;refine bx p4 λH J=> ? _;clear p4
   induction i8 using Fl.casesOn with
    |ret v=>cases k with|ret w=>exact N v e6 L T n8 w u k8 eH F H|_=>exact H.elim
    |next=>cases k with|next=>exact a7c|_=>exact H.elim
    |brk=>cases k with|brk=>exact a7c|_=>exact H.elim
    |cont=>cases k with|cont=>exact a7c|_=>exact H.elim
  . have k8:bz N_ σ T:=e8.of0.trans K;have m6:=Xc.mono Ri S0 σ j T n8 e e8 B;refine x4 (qI k6.fr z F k8 m6 (λb M=>by subst M;exact f8) f8 n7 λi6 c9 m7 f9 k5 o3=> ? _);exact i9 e6 L i6 c9 e (m7.trans u) k5 eH f9 o3
theorem qJ[e3]{b:Expr}{sc:Scope}{cl:OX}[mm][M'][lN](D:fU A l cp)(i5:∀i0 env,fU i0 Ri n->VM->oW C i0 Ri env bj AD)[m2](n6:YT)(l6:dm WL w)(Z:tq):a4I (Uh w ws) (bA C.P bj WL vs):=by
 revert w vs ws;exact gs A σ mg mb l bj n b sc cl;exact dl3 w vs ws
 induction vs using li with
  |cons=>ext d6
  |nil=>
   have:=Z.nil_inv;subst this
   cases l6 with
    |clos _ _ _ a name g e8 k7 l3 ct q N e r f7=>
     ext s2;have O:cH C (Xc C l) S0 σ D' ((ops C.P bj AD).ev b ⟨sc,[],cl⟩) hM Q E:=O;simp only [py,Bool.not_eq_true']at N;refine bx N λe7 c8=> ? _;clear N;refine bx e7 λl8 m6=> ? _;clear e7;unfold bJ at l8;rewrite [py]at l8;refine bx l8 λj7 c9=> ? _;clear l8;have j7:sc.kind= Wd:=f1 j7;have c9:∀x∈sc.names,a2M/\sc.names.lookup x.1=aj x.2:=λx Y=>by have:=Qg c9 x Y;simp only [py,a0o,Zr]at this;exact⟨by rcases b_.1 with(h|h)|h<;>simp [h],b_.2⟩
     refine je (p6 (q:=q) (by ext a8C) (by exact rwL eZ;exact e) rfl m6 c8 rfl (show s.heap.CodeRec l3 q from r.keeps λb o e=>by exact rwL eZ;exact e) (Qm (a:=[]) rfl ? _));refine wpAny_newFunctionEnv (λx Y e=>by rcases(c9 x Y).1 with h|h|h<;>replace e:=h▸e<;>cases e) (λx Y=>by cases Y) (λh' d8 m8=> ? _) j7;have f:p0 l5=ap:=UR nl;have c7:∀b o,R2->Ou:=λb o e=>by exact rwL (m8.2 b (λz=>by subst z;replace e:=f▸e;ext pf));exact L' e
     refine bx (at_.keepAll (h':=h') (i_+([]:us).length) c7) λW f8=> ? _;refine bx (jr (h':=h') at_ f) λk9 n7=> ? _;obtain⟨env,m⟩:∃env,env=newEnv sc l5 PT e8 (q++".<locals>.") C1 l3 ap W_:=U1;have i8:VM:=by ext Wa
     have i9:np=l5:=by ext Wa
     have i6:j' np=ap:=by exact rwLR i9 eZ;exact f
     have M:h'.Ns np (λx=>List.lookup x ([]:us).reverse):=by exact rwL i9;exact d8
     refine uU (id M) λoL n3 l7 j8 o0 J=> ? _
     have i:cw C Ri l_ env ⟨sc,[],cl⟩:=by
      refine⟨λe e6=> ? _,by exact rwL m;exact j7,λx k h=> b7 (by exact rwL m;exact h),by ext Wa,by ext Wa,⟨_,M,λy v e=>by ext pf⟩,λx c e=> ? _,by exact rwL i9;exact k9,by exact rwL i9;exact n7,λt e=> ? _⟩
      .rcases nr e6 with rfl|e6;. exact⟨by exact rwL m;show sc.kind≠_;exact rwL j7;decide,e.locals,oL,n3,l7,i8,j8,o0,by exact rwL i9;exact k9,by exact rwL i9;exact n7⟩
       . exact(n6 e e6).ext f8 W6
      . exact bx (f7 x c e) λk5 f9=>⟨k5,by exact rwL m;exact f9⟩
      . replace e:=(oQ λx Y=>(c9 x Y).1)▸e;ext pf
     refine⟨(G.lim.keeps W.inv.base).keeps λb o e=>e,? _⟩
     have k8:fU ((Yp A).deeper env) Ri n:=by
      refine⟨? _,D.g,D.h,? _,? _⟩;. show A.frames.map (env::·)=_;exact rwL D.fr;rfl
      . ext a8m
      . ext a8k
     refine bx (i5 _ env k8 i8) λm7 J=> ? _;have body:dM QS (Yp A) (.expr b env) a6i {s with heap:=h',toks:=i_+([]:us).length}:=by refine d9 O λP PX N j9 O=> ? _;refine vB (m7.ev b env ⟨sc,[],cl⟩ l_ i W.inv _ W eH _ _ ⟨P,PX,λv e9 L T H w u K J F n8=>N v e9 L T H w u (f8.trans K) eH F n8,λe9 L T H e u K J F B=> ? _,O⟩);refine x4 (qI k8.fr i8 F (f8.trans K) (Xc.mono Ri S0 σ _ T H e f8 B) WK i6 n6 λj6 d j i7 k6 n9=> ? _);exact j9 e9 L j6 d e (j.trans u) k6 eH i7 n9
     replace body:=m▸hq;exact hq
section E
section E
section
open PySem PySem.W PySem.Calls PyProof.Rows PySem.SeqAt
section
variable{A:Around}{X:XP}{S:ey}{σ:Sg}{α β γ δ:cv}{mg mb:h7}{l outer:p_}{R:gN}{env:Env}{fm:Fm}{call:aD}
theorem mP(b:e_)(Z:a3X)[O_]:a4T=(xv>>=λJ=>tryStmt av (execs b env) Z (execs [] env) [] env):=rfl
theorem rQ{b:e_}{Z:a3X}[O7](m:a0y)[O3]:RF a4T (cF (aB R b fm)):=by exact dl9 A σ l R env fm b Z pos;intro s at_ e Q E O;ext b0o;refine d9 O λP PX N J T=> ? _;clear O;refine ad (gP (aa.run (P:=P) (fz m b fm σ F I) at_ e T λD U f p L c g K d=> ? _));have a:q0 (b3 f) Q E U:=ak (N p _ L D U f rfl c g K d);cases f with|next=>exact a|brk=>exact a|cont=>exact a|ret v=>exact a
def Rc:gN:=⟨λe J=>wy e λc=>QC (iA c),λJ J=>a8,λJ J=>a8⟩
theorem JB:bh C A X l Rc:=⟨λe env fm σ F I=>by cases e<;>first|exact qx|ext d6,λJ J J J J J=>RH⟩
theorem D8[Vn]{r:Expr}{O:Pos}[O3]:WV N_ σ (mo C l env fm) (execs [TG un O] env) (DJ r fm):=by
 refine aa.onTupE (T:=λr=>execs [TG un O] env) λY t k=>aa.arg2 (T:=λY=>execs [TG (aj (L0 Y t k)) O] env) λa b=>aa.onCon (T:=λa=>execs [TG (aj (L0 [a,b] t k)) O] env) λa h pa=>aa.onCon (T:=λb=>execs [TG (aj (L0 [RQ a h pa,b] t k)) O] env) λb i n=>aa.opt λu o=>aa.opt λv M=> ? _;have g:qt Rc a5B fm=(b3 [u,v]:xj _):=by show(QC (iA a)>>=λx=>(QC (iA b)>>=λy=>b3 []>>=λr=>b3 (y::r))>>=λr=>b3 (x::r):xj _)=_;exact a3 o M;rfl
 have e:PC (hr (L0 a5B t k) env) (qt Rc a5B fm>>=λvs=>b3 w_):=mn (th B (jL B (JB (A:=A)) k a5B σ F I) λj ws vs x d h₁=>k6 su.1 (by exact rwL (su.2);exact SO rfl));replace e:=g▸e;intro s at_ p Q E z;refine ad (ad (aO (ad (aa.run (P:=λb m=>b= hD [u,v]/\m=hM) e at_ eH s4 λj f w b L c J W q=>ak (ak ? _)))));exact z.ok (b:=(Fl.ret (V.tup [u,v]),tn)) j f (.ret w) L.2 c.of0 (P9 c) W ⟨L.1▸q,vd c⟩
theorem yL[o2]{a K:Addr}{u:Obj}{Q:b2->i1}{E:el}[lN](P:Za)(Y:C.K.In e5)(m:p0 a=aj u)(L:u.cls= B6)(h:Q am s):D1 (excMatches er B6) Q E s:=by
 exact dl9 A mg mb s a K u Q E;refine Lz (G.bk K P) λb1 q j v T=> ? _;obtain⟨y,p,g,d⟩:=u;dsimp only at L;subst L;refine db (UM T) λH T=> ? _;have f:∃y p W,p0 K=aj ⟨y,p,.cls H,W⟩:=by revert T;unfold clsIn;refine cM (C.K.lookup K) (λJ T=>bG T) λo e T=> ? _;obtain⟨y,p,k,W⟩:=o;cases k<;>first|exact bG T|(have O:=hR T;clear T;subst O;exact⟨_,_,_,Y _ _ e⟩)
 refine GV f λb c2 c3 i=> ? _;clear f;have c:Looks QS e5 (typeOf er) B6:=(Looks.ld m).andThen .now;have n:Looks QS e5 (isType B6) am:=(Looks.ld i).andThen .now;have t:Looks QS e5 (isExcClass B6) am:=n.andThen (looks_subIn Y q);unfold excMatches;refine b8 ((looks_instIn Y b1).here ? _);exact rwL (b9 (by decide));refine b8 O8;simp only [a4e,List.forIn_nil];refine b8 (b8 (b8 (t.here ? _)));exact rwL (b9 (by decide));refine f' (f' (b8 (c.here (b8 (b8 (b8 ((looks_subIn Y j).here ? _)))))));ext UA;exact f' (f' (f' h))
theorem tY[o2]{K:Addr}{y:Pos}[V6][lN][FL](a:k_)(D:a1F)(P:Za)(h:Q B6 s):D1 (hr (jn w7 y) env) Q E s:=by
 revert Q E;exact gs A σ mg mb l env fm s K y;exact dl2 Q E;have N:KX w7=aj Ws:=(a.names _ _ D).elim id λq=>by cases q.1
 refine aN (G.glob w7 (by decide)) λw r z=> ? _;have z:=z σ;replace z:=G.bc▸z;have e:w= B6:=by cases z with|cls c Z e=>replace e:=P▸e;ext RK;rfl
 replace r:=e▸r;clear z e;exact rwL (eval_Name env _ y (by decide));refine b8 (wpAny_standAt ? _);exact rwL (PyProof.Rows.loadName_read a.kind N);have p:Xh env.globals mg:=by exact a3 a.glob eZ;exact at_.inv.ns G.g
 rcases r with r|⟨H,F⟩;. exact loadGlobal_global p r h
 . exact loadGlobal_builtin p H (by exact a3 a.blt eZ;exact at_.inv.ns G.b) F h
theorem p7[o2]{a K:Addr}{y j:Pos}{u:Obj}{Q:Flow->i1}{E:el}[lN][FL](F:k_)(D:a1F)(P:Za)(m:p0 a=aj u)(L:u.cls= B6)(h:Q .brk s):q0 (runOwn b0l env (aj er)) Q E s:=by revert y j u Q E;exact gs A σ mg mb l env fm s a K;exact dl5 y j u Q E;unfold runOwn;refine bT (nv rfl ? _ (by intro q;cases q));refine aR ? _;exact rwL (show(A.mark (aj er)).under b0l=A.mark (aj er)from a1l rfl);show QN (do return Fin.done (<-(Oh j>>=λJ=>hr (jn w7 y) env>>=λc=>Oh j>>=λJ=>excMatches er c>>=λb=>b3 (if b=am then Flow.brk else Flow.next)).onRaise a6C)) _ _ s;exact ad (bT (ad (aO (aA (tY G at_ F D P (ad (aO (aA (yL G P (mG G.K at_) m L (ak (ak h)))))))))))
theorem ne{e:Value}{j:Pos}{body:e_}:handleWith e env [UW ap ap hq j]=(Oh j>>=λJ=>setFlight e ap>>=λJ=>execs hq env):=rfl
theorem Ba[lN](e6:A.frames=aj J_)(d:VM)[lS]{B:Heap}{K:Addr}{Z:Value}[a3w]{e9 j:Pos}{body:e_}{h:xj m_}(c7:a1F)(at_:Ob)(x:bz S0 e4 D)(F:cw C J_ e4 env fm)(c:bH C e4)(i6:Za)(W:Heap.FlyingW B J_ a B6 Z U.heap)(H:a7w)(f9:∀b o,N9 b=ck->a7I\/b∈(env::outer).filterMap (·.frame))(i:∀(c9:Around)[iv],a0c->x_->aa C c9 (Xc C J_) N_ σ (mo C J_ env fm) (execs hq env) h){Q:Flow->i1}{E:el}{P:lR}(N:∀b m',P b m'->F6 C N_ e4 (mo C J_ env fm) b m' Q)(Y:h P oN D.m):q0 (handleBy er env [UW (aj (jn w7 e9)) ap hq j]) Q E U:=by
 refine aN W.there λu i9 e7=> ? _;unfold handleBy;refine ad (aL (p7 G at_ (F.ext c x) c7 i6 i9 e7 (ad (ak (aW rfl (ad (aL ? _)))))));unfold runOwn;refine bT (nv rfl ? _ (by intro q;cases q));refine aR ? _;exact rwL (show(A.mark (aj er)).under (.handlers er [UW ap ap hq j] env)=A.mark (aj er)from a1l rfl);show QN (do return Fin.done (<-(handleWith er env [UW ap ap hq j]).onRaise a6C)) _ _ U;refine ad (bT ? _);exact rwL ne;have d8:sS C J_ e4 D U a B:=⟨⟨K,Z,i6,b7 W⟩,H,f9⟩;have v:∀e∈J_,∀M,e.frame=aj M->(N9 M=ap)\/(¬gJ e4 M/\∃o i5 n,N9 M=ck/\B2= .dict i5 n):=λe y M g=>by obtain⟨_,i8,o,i5,n,k,r,d9,i7,_⟩:=F.fr e y;replace g:=k▸g;ext a3c;exact ba ⟨i7,o,i5,n,r,d9⟩
 refine ad (aO (aA (wpAny_setFlight_noneW W.1 W.2.2.1 W.2.2.2.at λh' m c8 t k4=> ? _)));refine bx (tR at_ x d8 WK v m (λb o e i0=>⟨o.slots,k4 b o e i0⟩) W.1) λs z=> ? _;have I:=F.ext c z;exact aa.run (i _ {D with h:=h'} I s.inv) s I.priv Y λf8 w f p L e8 f7 T d=>ak (ak (N p _ L f8 w f rfl (z.of0.trans e8) f7 T d))
theorem D9{e r:Expr}{rp a j k pos:Pos}[lN](V:fU A J_ 0)(z:VM)(n:ZZ R)(F:a0c)[m2](W:a1F):a03 (k2 (a1h a6d [] [] pos) env) (Jn (tb>>=λv=>b3 (LO,tn)) (cF (DJ r fm))):=by revert rp a j k pos;exact gs A σ mg mb outer R env fm e r;exact dl5 rp a j k pos;have c7:=Xc.mono J_;ext s2;ext b0o;refine d9 O λP PX N J q=> ? _;clear O;refine ad (gP (ad (m:=Oh rp>>=λJ=>N8>>=λv=>b3 (Flow.ret v)) (ad (aO (ad (VF s at_ eH _ _ ⟨λv m'=>P (LO,tn) m',λm'=>DJ r fm P oN m',λv m' L D U w g c J T Y=>ak (ak (ak (N _ m' L D U (.ret w) g c.of0 (P9 c) T ⟨Y,vd c⟩))),λm' L D U h g c J T x=> ? _,q⟩))))));show q0 a9a Q E U;exact rwL (show a9a=(a0N h>>=λJ=>handleBy h env a6d)by unfold leaving;rewrite [bind_assoc];rfl);refine aA (wW V.fr z T c x WK (ba ⟨F.own,F.locals⟩) (λe y=>F.fr e (pn y)) λf t c8 B y u o M i H m=> ? _);subst y;exact i5 i λK Z c9 i=>Ba G V.fr z W o M F I c9 i H m (λd σ F I=>D8 c7 F I) N (by exact a3 u g;exact L)
theorem tZ[lN](D:fU A J_ 0)(z:VM)(n:ZZ R)(m:pY C A J_ env R){b:e_}{Z:a3X}[O7](F:a0c)[m2]:a03 a4T (wN R b Z fm):=by
 refine hE O5 O5;. exact aa.arg1 (T:=λb=>a4T) λs=>aa.onRet (T:=λs=>k2 (.Try [s] Z [] [] pos) env) λe rp=>aa.arg1 (T:=λZ=>k2 (a1h Z [] [] pos) env) λh=>aa.onHand (T:=λh=>k2 (a1h [h] [] [] pos) env) λt M k=>aa.onName (T:=λt=>k2 (a1h [UW (aj t) ap M k] [] [] pos) env) λx a=>aa.arg1 (T:=λM=>k2 (a1h [UW (aj (jn x a)) ap M k] [] [] pos) env) λs=>aa.onRet (T:=λs=>k2 (a1h [UW (aj (jn x a)) ap [s] k] [] [] pos) env) λr j=>hE (λL=>by unfold wM at L;ext a0S;have Y:=f1 L.1;subst Y;exact D9 G D z n F I (f1 L.2)) nz
 . induction Z using li with|nil=>ext d6|cons h Z=>exact rQ m F I
section E
section E
section
set_option backward.match.sparseCases false
open PySem PySem.W PySem.Calls PyProof.Rows PySem.SeqAt
section
variable{A:Around}{X:XP}{S:ey}{σ:Sg}{α β γ δ:cv}{mg mb:h7}{l outer:p_}{R:gN}{env:Env}{fm:Fm}{call:aD}
theorem gf.eq{ts:eP}{c:pb}(h:gf env ts c):ts.filterMap z8=c/\R7=Yv:=by induction h with|nil=>exact s4|cons _ _ G=>exact⟨hh (_::·) G.1,hh (·+1) G.2⟩
def ju(H:dd)(loc:dd):dd:=H.foldl (λl p=>dS c5 p.2 l) loc
theorem mQ[N2][g_]{loc:dd}(h:RI x=xw):e8 x v mc=b3 (dS x v loc):=by unfold e8;exact rwL (show(mc:Fm).scope.names.lookup x=xw from h);rfl
theorem t7{ts:eP}{f:pb}(h:gf env ts f)(B:∀x k,RI x=v_->KX x=v_\/(k= .free/\KX x=OM)){P:dd->ef}{PX:ef}:∀[Vw](loc:dd)[m5],Yv=ka->fD R ts vs mc P PX m->P (ju (f.zip vs) loc) m/\∀x∈f,RI x=xw:=by
 induction h with
  |nil=>intro vs loc m T Y;induction vs using li with|nil=>exact⟨Y,λx Y=>by cases Y⟩|cons=>exact xN T rfl
  | @cons x p ts c N _ G=>
   intro vs loc m T Y
   induction vs using li with
    |nil=>exact xN T rfl
    |cons v vs=>
     have T:Yv=ka:=by simpa using T
     have Y:e8 x v mc (λloc m=>fD R ts vs mc P PX m) PX m:=Y;have bad:e8 x v mc=a8->gj:=λe=>by replace Y:=e▸Y;exact Y
     refine cM (RI x) (λZ=> ? _) λk Z=> ? _;. exact(bad (by unfold e8;exact rwL Z;rfl)).elim
     .cases k with
       |«local»=>replace Y:=mQ Z▸Y;exact bx (G vs (dS x v loc) m T Y) λH F=>⟨H,λy hy=>(nr hy).elim (λq=>q▸Z) (F y)⟩
       |cell=>
        rcases B x _ Z with q|⟨q,_⟩;. replace q:=N▸q;cases q
        . cases q
       |_=>exact(bad (by unfold e8;exact rwL Z;rfl)).elim
theorem mR:∀(H:dd)(ws:eS)[iv][Rj](loc:dd)(Q:l0->i1)(E:el),N7->OL σ env mc->xb (H.map (·.2)) ws->(∀p∈H,RI c5=xw)->(∀D U,D.m=hM->bz N_ σ D->Ob->OL D env {fm with loc:=ju H loc}->Q () U)->q0 (assignInOrder (H.map λp=>X7 c5) ws) Q E s
 |[],ws,σ,s,loc,Q,E,at_,F,hv,hk,h=>ak (h σ s rfl Q2 at_ F)
 |p::H,ws,σ,s,loc,Q,E,at_,F,hv,hk,h=>by
  refine d9 hv.cons_inv λw o d=> ? _;subst d;intro r z;have Y:e8 c5 p.2 mc (λl m=>l=dS c5 p.2 loc/\m=hM) oN hM:=by exact rwL (mQ (hk p OU));exact s4
  refine ad (aL (aa.run (et (A:=A) (X:=λJ J J J=>True) (S:=N_) V8 F r) at_ F.priv Y λj f J a L c J W i=> ? _));refine bx L PY;subst G;intro g;exact mR H o j f (dS c5 p.2 loc) Q E W i (z.ext lv c F.priv) (λq B=>hk q (pn B)) λD U u e K t=>h D U (u.trans g) (c.trans e) K t
theorem jv:∀(H loc:dd)(y:Str),(ju H loc).lookup y=(H.reverse.lookup y).or (loc.lookup y)
 |[],loc,y=>by simp [ju]
 |(x,v)::r,loc,y=>by
  show(ju r (dS x v loc)).lookup y=_;rewrite [jv r];rewrite [jK];exact a3 List.reverse_cons List.lookup_append;refine cM (r.reverse.lookup y) V' λb h=> ? _
  .exact bcH e (y=x);. subst e;simp
   .have:(y==x)=av:=by ext Vg
    simp [e,s0,b_]
  . rfl
theorem oX{β:cv}:∀(l:dk (Str×β)),(l.map w1).Nodup->∀p∈l,l.lookup c5=aj p.2
 |(x,b)::r,h,p,O=>by
  refine bx (List.nodup_cons.mp h) V_;exact rwL s0;rcases nr O with rfl|O;. simp
  .have:(c5==x)=av:=by
    cases e:(c5==x);. rfl
    . exact b6 (f1 e▸(Z4 O:c5∈r.map w1)) H
   ext Od;exact oX r F p O
theorem Bb{β:cv}(l:dk (Str×β))(h:(l.map w1).Nodup)(y:Str):l.reverse.lookup y=l.lookup y:=by
 have a:=oX l h;refine cM (l.lookup y) od λb e=> ? _
 .refine cM (l.reverse.lookup y) (λu=> ? _) λb u=> ? _;. rfl
  . have:=a (y,b) (Y1 (dO _ _ _ u));ext a0g;exact bG b_
 . exact iL (λy=>l.lookup y) l.reverse y b (λp O=>a p (Y1 O)) (List.mem_reverse.mpr (dO _ _ _ e))
theorem cw.reloc{loc a:dd}(F:OL σ env mc)(h:∀y,a.lookup y=loc.lookup y):OL σ env {fm with loc:=a}:=by exact aN F.ns λK B Z=>⟨F.fr,F.kind,F.names,F.glob,F.blt,⟨K,B,λy v e=>Z y v (by show loc.lookup y=_;rewrite [<-h];exact e)⟩,F.cells,F.own,F.gb,F.code⟩
theorem p8{ts:eP}{c:Nat}{k pos:Pos}[QG][lN](M:G2)(d8:SU R)(e9:k_)[m2]:RF (k2 (UG [L0 ts c k] e pos) env) (if(!(wH e&&c7 ts))=am then a8 else tb>>=λr=>match r with| w_=>if Yv=ka/\(ts.filterMap z8).Nodup then fD R ts vs fm>>=λloc=>b3 kE else a8|_=>a8):=by
 revert k pos e;exact gs A σ mg mb l R env fm ts c;exact dl3 k pos e;refine hE nz Tg;have B:=Ta;have L:(wH e&&c7 ts)=am:=by simpa using L
 ext a0S;refine bx L λk7 i7=> ? _;clear L;have i0:gO e=am:=by cases e<;>first|rfl|exact cT k7
 have i8:k2 (UG [L0 ts c k] e pos) env=(xv>>=λJ=>N8>>=λv=>a0B [L0 ts c k] e env>>=λk5=>assignStores env v k5 [assign (L0 ts c k) env]):=by ext a53;show(xv>>=λJ=>Vd e (aj (L0 ts c k)) qj env>>=λb=>_)=_;exact rwL (tT i0);rfl
 exact rwL i8;refine mn (aa.bind0 B (d8.ev e env fm σ e9 I) λj w v x d z=> ? _);have i:=e9.ext I x
 induction v using kb with
  |tup vs=>
   refine hE (λl7=> ? _) nz;refine bx l7 λU i6=> ? _;clear l7;rcases pZ (env:=env) (ts:=ts) (c:=c) (p:=k) k7 with Z|⟨f,Z,i9⟩;. exact rwL Z;refine aa.pureL ? _;show TY _ j _ ((Oh k>>=λJ=>unpack w (RW ts env))>>=XG) _;exact aa.thenPure (mn (oM M i7 z U (λD ws m1 l8 e6 c8=>iJ G B d8 V8 V8 ts vs ws D fm (i.ext d l8) e6 c8) B)) λD loc J t=>⟨ep,t⟩
   .exact rwL Z;refine aa.pureL ? _;refine bx i9.eq λk9 l6=> ? _;replace i6:=k9▸i6;intro s at_ j7 Q E O;refine uU z.tup_inv λa items n j6=> ? _;subst j6;intro g W;have k8:=bU at_ g;have f9:Tb=Tq:=by exact w3 l6 U W.length SR;rfl
    show QN (rule "assign.swapped-stores">>=λJ=>unpackItems er Tq ap>>=λitems=>assignInOrder (f.reverse.map λn=>X7 n) items.reverse>>=XG) _ _ _;refine aA a35;exact rwR f9;refine aA (wpAny_unpackItems_tuple M k8 λh' e7=> ? _);refine qW (at_.grow (h':=h') (λb o e=>e7 b o (J' (a2r e)) e) i_) λD m1 l8 K J J=> ? _;have t:=i.ext d l8;have f7:(f.zip vs).map w1=f:=by rewrite [rO];exact rwL (a3g (by exact a3 l6 U;exact nl));rfl
    have k6:(f.zip vs).map (·.2)=vs:=by
     have h:∀(l:pb)(m:b5),OE=m.length->(l.zip m).map (·.2)=m:=by
      intro l
      induction l with
       |nil=>intro m l3;cases m<;>first|rfl|exact xN l3 rfl
       |cons x l c9=>intro m l3;induction m using li with|nil=>exact xN l3 rfl|cons y m=>exact hh (y::·) (c9 m (by simpa using l3))
     exact h f vs (by exact a3 l6 U;rfl)
    refine d9 O λP PX i5 J O=> ? _;refine bx (t7 (R:=R) (P:=λloc m=>P (Pw,loc) m) (PX:=PX) i9 t.names vs tn j.m U O) λf8 N=> ? _;have e8:(f.reverse.map λn=>X7 n)=(a5v λp=>X7 c5):=by exact a3 (show(a5v λp=>X7 c5)=(a5v w1).map λn=>X7 n by exact rwL List.map_map;rfl) (show a5v w1=f.reverse by exact a3 List.map_reverse f7;rfl);rfl
    exact rwL e8;refine ad (mR (f.zip vs).reverse items.toList.reverse D _ tn _ _ K t ? _ (λp O=> ? _) λT H u j9 F Y=>ak ? _);. exact a3 List.map_reverse k6;exact(W.ext lv l8 eH).reverse
    .have:c5∈f:=by exact rwR f7;exact Z4 (Y1 O)
     exact N c5 b_
    . have j8:bz N_ j T:=l8.of0.trans j9;refine i5 (hH,ju (f.zip vs) tn) _ f8 T H hH (u.trans m1) j8 Y.priv F ⟨ep,Y.reloc Xj⟩;show(ju (f.zip vs) tn).lookup y=(ju (f.zip vs).reverse tn).lookup y;rewrite [jv];rewrite [jv];rewrite [List.reverse_reverse];rewrite [Bb _ (by exact rwL f7;exact i6)];rfl
  |_=>ext d6
section E
section E
section
open PySem PySem.W PySem.Calls PyProof.Rows PySem.SeqAt
section
variable{A:Around}{X:XP}{S:ey}{σ:Sg}{α β γ δ:cv}{mg mb:h7}{l outer:p_}{R:gN}{env:Env}{fm:Fm}{call:aD}
theorem yM{k:hC->hC->eP->i2}(gens:dk Comprehension):(∃tgt it ifs,gens=[⟨tgt,it,ifs,0⟩])\/(Mine.Internal.fT gens λg=>wF g k)=a8:=by
 rcases gens with _|⟨⟨tgt,it,ifs,a⟩,r⟩;. exact NT
 .induction r using li with
   |cons=>exact NT
   |nil=>
    exact bcH h (a=0);. exact b7 ⟨tgt,it,ifs,by ext Td⟩
    . exact ba Rt
theorem oY{R':gN}[N2]{p q pos:Pos}{elt:Expr}{gens:dk Comprehension}{sc:Scope}[lN](M:G2)(d8:SU R')(c9:Vd ZK (aj Ux) qj env=b3 am)(f9:k_)[m2]:RF (k2 (UG [Ux] ZK pos) env) (l6 C.P bj R' ZK fm>>=λv=>iC R Ux v fm>>=λloc=>b3 kE):=by
 revert x p q pos elt gens sc;exact gs A σ mg mb l R env fm bj R';exact dl7 x p q pos elt gens sc;have n6:=Ta;rcases yM (k:=qu R' elt sc q fm) gens with⟨tgt,it,ifs,rfl⟩|h;rotate_left;. exact rwL (show l6 C.P bj R' ZK fm=a8 from h);ext d6
 intro s at_ k7 Q E O;have g:k2 (UG [Ux] (a4N sc q) pos) env=(xv>>=λJ=>(comprehension (a4N sc q) sc env it.pos (newList []) av (hr it env) (aj λv=>assign Ux env v)>>=λJ=>b3 ())>>=XG):=by ext a53;show(xv>>=λJ=>Vd (a4N sc q) (aj Ux) qj env>>=λb=>_)=_;exact rwL c9;rfl
 ext NZ;refine d9 O λP PX i7 j7 O=> ? _;refine ad (aO (ad (ad (oT G M n6 d8 f9 at_ ⟨λv m'=>e8 x v fm (λloc m=>P kE m) PX m',PX,λv m' i5 j f w W fm' g i0 V k5 Z m8 N=> ? _,λm' i5 D U e n3 y K r=>j7 m' i5 D U e n3 y.of0 (k7.ext0 y) K r,O⟩))));subst g;have e7:SN j:=i0.drop λd hd=> ba (by subst hd;exact V);have i:=f9.ext I e7;show QN (rule "comprehension.stores-exchanged">>=λJ=>o1 (jt W (oP sc)) (assign Ux env w)>>=λJ=>a1s (jt W) ((oP sc).reverse.drop 1++(oP sc).reverse.take 1)>>=λJ=>b3 Value.none) _ _ _;refine aA (wpAny_rule (ad (aL ? _)));have a:Xn≠np:=λz=>by refine qs f9.locals λo Y n e J=> ? _;replace V:=z▸V;replace e:=V▸e;ext pf
 have j6:TY N_ j a34 (Oh p>>=λJ=>X7 x w) (e8 x v fm):=mn (et V8 i Z);rewrite [arm_assign_Name];refine j6 f k5 i.priv _ _ ⟨λloc m=>P kE m,PX,λloc f7 m7 T H J j8 k8 j9 F n9=> ? _,λf7 m7 T H e j8 k8 j9 F r=>j7 f7 m7 T H e j8 (e7.of0.trans k8) j9 F (n6 S0 σ j T H e e7 r),i5⟩;refine aN m8.ns λi6 B i8=> ? _;refine qs m8.locals λoL l8 k9 i9 n8=> ? _;have e6:=ri (k8.keep _ m8.own a) B
 have l3:OL T W fm':=by
  refine⟨n9.fr,m8.kind,m8.names,m8.glob,m8.blt,⟨i6,e6,λy u e=> ? _⟩,a2p,D_,m8.gb,m8.code⟩;. exact aN (i8 y u e) λn7 g j8=>⟨n7,g,j8.ext k5.inv k8 i.priv⟩
  . exact bx (m8.cells y c e) λg j8=>⟨k8.live c g,by exact rwL (k8.ρ c g);exact j8⟩
  .rcases k8.fresh _ z with z|z;. exact m8.own z
   . replace z:=i9▸z;exact iy z
 refine aA (wV (Q:=λJ t=>q0 (b3 Value.none) (λJ U=>q0 (b3 ()) (λJ U=>q0 (b3 Flow.next) Q E U) E U) E t) (scope:=sc) F l3 N (λy hy=> ? _) (λh' c8 k6=>ak (ak (ak ? _))) _)
 .rcases VJ hy with hy|hy;. exact ml y (Y1 (List.mem_of_mem_drop hy))
  . exact ml y (Y1 (a5M hy))
 . have f8:OL {T with h:=h'} env mc:=n9.extS F.inv k6 l3.priv (λz=>a z.symm) (λe e9 L o0 z=>by obtain⟨_,l7,o,Y,n,k,c7,_⟩:=f9.fr e e9;replace o0:=k▸o0;injection o0 with o0;replace c7:=o0▸c7;replace c7:=(show L=Xn from z)▸c7;replace c7:=V▸c7;exact bG c7);have m6:bz N_ σ {T with h:=h'}:=((e7.of0.trans (k8.weaken λb z=> b7 z)).trans (k6.weaken λb z=>(ba z:b=np\/b=Xn))).drop λd hd=>hd.elim b7 λz=> ba (by exact rwL z;exact V);exact i7 kE _ m7 {T with h:=h'} _ hH j8 m6 f8.priv c8 ⟨ep,f8⟩
section E
section E
section
open PySem PySem.W PySem.Calls PyProof.Rows PySem.SeqAt
section
variable{A:Around}{X:XP}{S:ey}{σ:Sg}{α β γ δ:cv}{mg mb:h7}{outer:p_}{R:gN}{env:Env}{fm:Fm}{call:aD}
theorem Ea[QG](h:¬gO e=am)(M:wG e=av):∃elt gens sc q,e= ZK:=by cases e<;>first|exact⟨_,_,_,_,rfl⟩|exact O9 h|exact s1 M
theorem p9{t e:Expr}{p:Pos}[lN](D:fU A J_ 0)(n:ZZ R)(a:a9B)(v:∀ts c q,t≠L0 ts c q)(F:a0c)[m2]:a03 (k2 (UG [t] e p) env) (qv R t e fm):=by
 revert e p;exact gs A σ mg mb outer R env fm bj t;exact dl2 e p;refine hE nz λg=> ? _;exact bcH hno (gO e=am);. exact mO G n (tT hno) v F I
 .refine Nm (Ea hno (by simpa using g)) λelt gens sc q k=> ? _;subst k;rcases vu (t:=t) (elt:=elt) (gens:=gens) (sc:=sc) (q:=q) (line:=p.line) (env:=env)with⟨x,d,rfl,f⟩|f
  .rcases a with h|⟨R',O,h⟩;. rewrite [h];ext d6
   . rewrite [h];exact oY G D.h O f F I
  . exact mO G n f v F I
theorem t8[lN](n:ZZ R){t e:Expr}{op:Operator}{p:Pos}(F:a0c)[m2]:a03 (k2 (.AugAssign t op e p) env) (wI C.P R t op e fm):=by induction t using Ox with|Name x h=>exact tU G n F I|Attribute o a k=>exact tV G n F I|_=>ext d6
theorem t9(n:ZZ R){t:Expr}{p:Pos}(F:a0c)[m2]:a03 (k2 (.Delete [t] p) env) (wJ R t fm):=by induction t using Ox with|Subscript o k q=>exact yH n F I|_=>ext d6
theorem rS[lN](B:nQ C)(D:fU A J_ 0)(z:VM)(n:ZZ R)(m:pY C A J_ env R)(a:a9B):∀(N:Stmt)[lF][iv],a0c->x_->a03 (k2 N env) (sR C.P R N fm):=by
 intro N fm σ F I
 induction N using Stmt.casesOn with
  |Expr e p=>exact hE nz λd=>vw n (by simpa using d) F I
  |Pass p=>exact mn (z0 λJ=>⟨ep,F⟩)
  |Break p=>exact mn (z0 λJ=>⟨ep,F⟩)
  |Return e p=>induction e using u_ with|none=>exact mn (z0 λJ=>⟨a1,F⟩)|some e=>exact rK n F I
  |Assign ts e p=>exact aa.arg1 (T:=λts=>k2 (UG ts e p) env) λt=>hE (λJ=>aa.onTupE (T:=λt=>k2 (UG [t] e p) env) λts c k=>p8 G D.h n F I) λv=>p9 G D n a (λts c q e=>v (by ext PD)) F I
  |AugAssign t op e p=>exact t8 G n F I
  |Delete ts p=>exact aa.arg1 (T:=λts=>k2 (.Delete ts p) env) λt=>t9 n F I
  |If t b o p=>exact A8 n m F I
  |While t b o p=>exact UC (T:=λo=>k2 (.While t b o p) env) (yJ n m F)
  |For tgt it b o p=>exact UC (T:=λo=>k2 (.For tgt it b o p) env) (D6 G D.h n m F I)
  |Raise e c p=>refine aa.optS (T:=λe=>k2 (.Raise e c p) env) od;induction c using u_ with|none=>exact vz G B D F|some=>ext d6
  |Try b Z o f p=>exact UC (T:=λo=>k2 (.Try b Z o f p) env) (UC (T:=λf=>k2 (.Try b Z [] f p) env) (tZ G D z n m F I))
  |_=>ext d6
section E
section E
section
open PySem PySem.W PySem.Calls PyProof.Rows PySem.SeqAt
section
variable{A:Around}{X:XP}{S:ey}{σ:Sg}{mg mb:h7}{l outer:p_}{env:Env}{fm:Fm}{call:aD}
theorem fU.zero[e3](h:fU A l n):fU A l 0:=⟨h.fr,h.g,h.h,by have:=h.d;refine bn (nat_lit 0x10a1032132501000a10321325200003) eb [] b_ a0,by have:=h.u;refine bn (nat_lit 0x10a10300000014235501000a103000000142355200003) eb [] b_ a0⟩
theorem rT[lN](B:nQ C)(D:fU A J_ 0)(z:VM)(K:jd C A J_ bj):∀d,oW C A J_ env bj d
 |0=>⟨⟨λJ J J J J J=>RH,λJ J J J J J=>RH⟩,⟨λJ J J J J=>RH⟩⟩
 |d+1=>by
  have c:=rT G B D z K d;refine bx c λn m=> ? _;clear c;have b:=Xc.mono J_;have o:Y_:=by have:=D.u;refine a9u
  refine⟨⟨λe a fm σ F I=> ? _,λe a fm σ F I=> ? _⟩,⟨λN fm σ F I=> ? _⟩⟩;. exact vk G D rfl n K (λH body sc pos env fm σ F I=>vr G H hq sc pos env fm σ F I) (λelt gens sc pos env fm σ F I=>rI G D.h b n elt gens sc pos env fm σ F I) (λZ vs pos env fm σ F I=>AS b n Z vs pos env fm σ F I) e a fm σ F I
  . exact rB b n o e a fm σ F I
  . refine rS (call:=bj) G B D z n m ? _ N fm σ F I;cases(d)with|zero=>exact b7 Q9|succ d=>exact ba ⟨ops C.P bj d,(rT G B D z K d).1,Q9⟩
theorem oZ[lN](B:nQ C):∀[f0][OF][P8],fU A l n->jd C A l (au C.P n)|0,A,l,Ar=>a9F|cp,A,l,Ar=>by have h:∀d env,fU d Ri n->VM->oW C d Ri env (au C.P n) AD:=λd env N z=>rT G B N.zero z (oZ G B n d Ri N) AD;exact⟨λσ c f a vs ws I T g Z=>wY G Ar h I T g Z,λσ b sc cl w vs ws I T r Z=>qJ G Ar h I T r Z⟩
section E
section E
section
open PySem PySem.W PySem.Calls PyProof.Rows PySem.SeqAt
def j6(a:us)(nd:us):us:=nd.foldl (λr x=>if(r.lookup x.1).isNone then r++[x]else r) a
theorem o0(f:Str×m9->us->Sem (ForInStep us))(d:∀x r,f x r=b3 (.yield (if(r.lookup x.1).isNone then r++[x]else r))):∀(nd a:us),forIn nd a f=(b3 (j6 a nd):Sem us)|[],_=>rfl|x::r,s=>by rewrite [a4e];rewrite [d];exact o0 f d r _
theorem j7:∀(c:pb)(ws:eS)[xd],x∉c->a3R x=ap
 |[],_,_,_=>rfl
 |_::_,[],_,_=>rfl
 |n::c,w::ws,x,h=>by
  exact a3 List.zip_cons_cons s0;have:(x==n)=av:=by simp only [Y6,not_or]at h;simpa using h.1
  ext Od;exact j7 c ws x λq=>h (pn q)
theorem gZ:∀(c:pb)(ws:eS)[xd],R7<=Rf->x∈c->(a3R x).isSome=am
 |n::c,w::ws,x,hl,h=>by
  exact a3 List.zip_cons_cons s0;exact bcH e (x=n);. subst e;simp
  .have:(x==n)=av:=by ext Vg
   ext Od;exact gZ c ws x (Nat.le_of_succ_le_succ hl) ((nr h).resolve_left e)
 |n::c,[],x,hl,_=>by cases hl
theorem nf(a b:us)[xd]:(a++b).lookup x=(a.lookup x).or (b.lookup x):=by induction a with|nil=>rfl|cons p r G=>obtain⟨k,v⟩:=p;exact ec List.cons_append s0 s0;cases x==k<;>simp [G]
theorem qK(s:us):∀(nd:us),(∀x∈nd,(s.lookup x.1).isSome=am)->j6 s nd=s|[],_=>rfl|x::r,h=>by have V:=h x UH;show j6 (if(s.lookup x.1).isNone then s++[x]else s) r=s;exact rwL (b9 (by rewrite [Option.isNone_iff_eq_none];intro q;replace V:=q▸V;exact cT V));exact qK s r λy hy=>h y (pn hy)
theorem yN:∀(nd s:us),(∀x∈nd,s.lookup x.1=ap)->(nd.map w1).Nodup->j6 s nd=s++nd:=by
 intro O
 induction O with
  |nil=>intro s _ _;exact(TX s).symm
  |cons x r G=>
   intro s h B;show j6 (if(s.lookup x.1).isNone then s++[x]else s) r=_;exact rwL (c4 (by exact rwL (h x UH);rfl));ext a6s;rewrite [G _ (λy hy=> ? _) B.2,List.append_assoc];rfl;rewrite [nf];exact rwL (h y (pn hy));show List.lookup y.1 [x]=ap;exact rwL s0
   have:(y.1==x.1)=av:=by
    refine cO (y.1==x.1) b4 b4;. exact b6 (a1R ⟨y,hy,f1 q⟩) B.1
    . rfl
   ext Od;rfl
theorem rU(s a b:us):j6 s (a++b)=j6 (j6 s a) b:=List.foldl_append ..
theorem qa:∀(c:pb)(ws:eS),c.Nodup->R7=Rf->c.filterMap (λn=>(a3R n).map λx=>(n,x))=c.zip ws:=by
 have S:∀(c:pb)(ws:eS)(L:us),c.Nodup->R7=Rf->(∀n∈c,L.lookup n=a3R n)->c.filterMap (λn=>(L.lookup n).map λx=>(n,x))=c.zip ws:=by
  intro c
  induction c with
   |nil=>intro ws L _ _ _;rfl
   |cons n r G=>
    intro ws L B T U
    induction ws using li with
     |nil=>exact xN T rfl
     |cons w ws=>
      rewrite [List.nodup_cons]at B;have V:L.lookup n=Oo:=by exact ec (U n UH) List.zip_cons_cons s0;simp
      exact a3 a3z V;show(n,w)::_=_;rewrite [G ws L B.2 (a2n T) W3];rfl;exact ec (U x (pn Y)) List.zip_cons_cons s0
      have:(x==n)=av:=by
       refine cO (x==n) b4 b4;. exact b6 (f1 q▸Y) B.1
       . rfl
      ext Od;rfl
 exactλc ws B T=>S c ws _ B T Q9
theorem Bc {c : pb} {ws ds : eS} (T : Rf ≤ R7) (d : Ve ≤ R7) (e : R7 - Rf ≤ Ve) (B : c.Nodup) :
    j6 (c.zip ws) ((c.drop UQ).zip ds) = c.zip (ws ++ ds.drop (Ve - (R7 - Rf))) := by
  exact dl3 c ws ds
  generalize N : Rf = k at *
  generalize D : Ve - (R7 - k) = j
  have g : c.zip ws = (c.take k).zip ws := by
    conv => lhs; rw [← a1r k c]
    exact rwRL (TX ws) (List.zip_append (by exact a3 SY (SZ T); exact N.symm))
    simp
  have u : c.zip (ws ++ ds.drop j) = (c.take k).zip ws ++ (c.drop k).zip (ds.drop j) := by
    conv => lhs; rw [← a1r k c]
    exact rwL (List.zip_append (by exact a3 SY (SZ T); exact N.symm)); rfl
  have f : (c.drop UQ).zip ds = ((c.drop UQ).take j).zip (ds.take j) ++ (c.drop k).zip (ds.drop j) := by
    have M : (c.drop UQ).drop j = c.drop k := by exact rwL List.drop_drop; congr 1; refine a8O
    have b : (c.drop UQ).length = Ve := by exact rwL XO; refine bn (nat_lit 0x10b104410000009001002) cb [] d a0
    exact rwR M
    generalize c.drop UQ = A at b ⊢
    exact rwR (List.zip_append (by exact ec SY SY b; rfl)); rewrite [a1r]; rewrite [a1r]; rfl
  have a : ∀ x, x ∈ (c.drop UQ).take j → x ∈ c.take k := by
    intro x Y
    replace Y := List.take_drop ▸ Y
    have := List.mem_of_mem_drop Y
    rwa [show UQ + j = k by refine a8O] at this
  have h : ∀ x, x ∈ c.drop k → x ∉ c.take k := by
    intro x H F
    have := B
    replace this := G' (a1r k c) ▸ b_; rewrite [List.nodup_append] at this
    exact b_.2.2 x F x H rfl
  have i : j6 ((c.take k).zip ws) (((c.drop UQ).take j).zip (ds.take j)) = (c.take k).zip ws :=
    qK _ _ fun x Y => gZ _ _ _ (by exact a3 SY (SZ T); exact O1 N.symm) (a _ (List.of_mem_zip (a := x.1) (b := x.2) Y).1)
  exact ec g u f; rewrite [rU]; exact rwL i
  refine yN _ _ (fun x Y => ? _) ? _
  · exact j7 _ _ _ (h _ (List.of_mem_zip (a := x.1) (b := x.2) Y).1)
  · exact rwL (List.map_fst_zip (by simp only [XO]; refine c6 (nat_lit 0x10943020410000920410000b304410002004) Rb [] e D a0))
    exact B.sublist (List.drop_sublist _ _)
theorem o3 [Rp] {A : Around} {E : m9 → a17} {Q : us → a17} {fd : FuncData} {ws ds : eS} [o2] (H : fd.params.posonlyargs = []) (F : fd.params.kwonlyargs = []) (l : fd.params.vararg = ap) (C : fd.params.kwarg = ap) (hd : ∀ (M : Model) [OF] (E : m9 → a17) (Q : ez y_ → a17), (∀ o, ((o.getD #[]).toList = ds) → Q o s) → H' (seqItems? fd.defaults) Q E s) (T : Rf ≤ a5A) (d : Ve ≤ a5A) (u : a5A - Rf ≤ Ve) (B : (fd.params.args.map (·.arg)).Nodup) (h : Q ((fd.params.args.map (·.arg)).zip (ws ++ ds.drop (Ve - (a5A - Rf)))) s) : H' (bindArgs fd ⟨ws, []⟩) Q E s := by
  exact dl8 M A E Q fd ws ds s
  unfold bindArgs
  generalize fd.params = p at *
  obtain ⟨w, t, v, e, L, i, j⟩ := p
  cases H; cases F; cases l; cases C
  dsimp only [List.map_nil, List.nil_append] at *
  refine b8 (show H' (b3 _) _ _ _ from O8)
  ext ON
  refine b8 (hd _ _ _ _ fun o P => ? _)
  exact rwL P
  generalize Z : t.map (·.arg) = c at B h ⊢
  have U : R7 = Tp := by exact rwR Z; rewrite [a0n]; rfl
  rw [← U] at T d u h
  exact rwL (b9 (by simp; refine bn (nat_lit 0x109100009100002) cb [] T a0))
  have k : ds.drop (Ve - R7) = ds := by exact rwL (Nat.sub_eq_zero_of_le d); rfl
  exact rwL k
  have m : ((c.take UQ).filter fun n => (a3R n).isNone) = [] := by
    rewrite [List.filter_eq_nil_iff]
    intro x Y
    have f : x ∈ c.take Rf := by
      have : c.take UQ = (c.take Rf).take UQ := by exact a3 List.take_take (SZ (by refine bn (nat_lit 0x109204100009104200003) eb [] u a0)); rfl
      replace Y := b_ ▸ Y; exact a5M Y
    have g : c.zip ws = (c.take Rf).zip ws := by
      conv => lhs; rw [← a1r Rf c]
      exact rwRL (TX ws) (List.zip_append (by exact rwL SY; rewrite [TX]; exact SZ T))
      simp
    have := gZ (c.take Rf) ws x (by exact a3 SY (SZ T); exact nl) f
    ext NZ
    intro q
    rewrite [Option.isNone_iff_eq_none] at q
    replace this := q ▸ b_; exact cT b_
  exact rwL m
  exact rwL (b9 (by decide))
  rewrite [o0 _ (fun x r => by obtain ⟨a, b⟩ := x; ext ON; split <;> rfl)]
  refine b8 O8
  refine b8 (show H' (b3 _) _ _ _ from O8)
  ext ON
  exact rwL (b9 (by decide))
  refine O8
  exact rwL List.map_nil; rewrite [List.nil_append]; rewrite [TX]; exact a3 (Bc T d u B) (qa c _ B (by simp only [Qi, XO]; refine c6 (nat_lit 0x10b344410002020100009204100009001003) eb [] u T a0))
  exact h
section E
section
open PySem PySem.W PySem.Calls PyProof.Rows PySem.SeqAt
abbrev FT:=dk (Str×Str×Addr)
def zH(T:FT)(c f:Str):UZ:=(T.find? λx=>x.1==c&&x.2.1==f).map (·.2.2)
def zI(T:Zd)(c:Str):UZ:=T.lookup c
theorem wZ{T:FT}{c f:Str}[lS](h:zH T c f=C1):(c,f,a)∈T:=by unfold zH at h;refine aN (ZV h) λx Y d=> ? _;subst d;have H:=List.find?_some Y;simp only [py,Zr]at H;obtain⟨y,j,Z⟩:=x;refine bx H PY;ext a1J;exact List.mem_of_find?_eq_some Y
set_option tactic.hygienic true in theorem Eb{T:Zd}{c:Str}[lS](h:zI T c=C1):(c,a)∈T:=by unfold zI at h;induction T with|nil=>ext rs|cons p r G=>obtain⟨k,v⟩:=p;rewrite [s0]at h;cases e:(c==k)with|true=>ext Qp;ext xp;exact rwL (f1 e);exact UH |false=>ext Qp;exact pn (G h)
def LQ:m9->b2| a1=>am|_=>av
def LS[Pu]:m9->b2| hP c=>b==c|_=>av
def LU(i:Int):m9->b2| a4 j _=>i==j|_=>av
def LV(s:Str):m9->b2| c1 t _=>s==t|_=>av
def Ho(a:UZ):m9->b2| a2 r=>a==un|_=>av
def Ld(g:Str->Wm)(k:Wm)[ss](w:Value):b2:=match v with| a1=>LQ w| B_=>LS b w| f6=>LU i w| c1 s=>LV s w| Tm=>Ho (g c f) w| .cls c=>Ho (k c) w|_=>av
theorem xa{a:UZ}[mm](h:Ho a w=am):∃r,w= a2 r/\a=un:=by cases w with|ref r=>exact⟨r,rfl,f1 h⟩|_=>ext sp
theorem Bd{C:Cx}{g:Str->Wm}{k:Wm}(d:∀c f r,g c f=un->C.fa c f=un)(L:∀c r,k c=un->C.ca c=un)[g_][mm](h:Ld g k v w=am)[iv]:FI:=by
 induction v using kb with
  |none=>cases w with|none=>exact a1|_=>ext sp
  |bool b=>cases w with|bool c=>cases f1 h;exact F3|_=>ext sp
  |int i=>cases w with|int j=>cases f1 h;exact di _|_=>ext sp
  |str s=>cases w with|str t=>cases f1 h;exact c1 _ _|_=>ext sp
  |fn c f=>refine aN (xa h) λr U=> ? _;subst U;intro e;exact .fn _ _ _ (d c f r e)
  |cls c=>refine aN (xa h) λr U=> ? _;subst U;intro e;exact .cls _ _ (L c r e)
  |_=>ext sp
def xc[xd]:OO| .bi y=>y==x|_=>av
theorem ua[N2][g_](h:xc x v=am):v= .bi x:=by cases v<;>first|ext sp|exact hh V.bi (f1 h)
def Be:II->b2|d0=>Jq v| a1=>av
def Bf[Qc](g:Str->Wm)(k:Wm)(P:e_)[xd]:b2:=match nsIn K PT x with| a1=>av|aj u=>match u with|Oo=>Ld g k (i7 P x) w| a1=>xc x (i7 P x)&&x !=("__name__":Str)&&Be (O0 x)
set_option tactic.hygienic true in theorem Ec{C:Cx}{mg S:h7}{h:Heap}(X:C.K.In h)(g:h.Ns PT mg)(M:∀x:Str,x≠"__name__"->S x=O0 x)[N2](e:Bf C.K C.fa C.ca C.P x=am):∃w,(mg x=Oo\/(mg x=ap/\S x=Oo))/\∀σ,dm (i7 C.P x) w:=by
 unfold Bf at e;refine cM (nsIn C.K PT x) (λr=> ? _) λu r=> ? _;. replace e:=r▸e;exact cT e
 .replace e:=r▸e;refine cM u D_ λw z=> ? _
  .subst z;replace e:(xc x (i7 C.P x)&&x !=("__name__":Str)&&Be (O0 x))=am:=e;rewrite [py,py]at e;refine bx e λG j=> ? _;clear e;refine bx G λb a=> ? _;clear G;have hy:=ua b;refine cM (O0 x) (λZ=> ? _) λv Z=> ? _;. replace j:=Z▸j;exact cT j
   .replace j:=Z▸j;have Y:x≠("__name__":Str):=by simpa using a
    refine⟨v,ba ⟨ns_none_of X g r,(M x Y).trans Z⟩,λσ=> ? _⟩;exact rwL hy;exact .bi x v Z j
  . subst z;exact⟨w,b7 (mg_of X g r),λσ=>Bd (λJ J J q=>q) W6 e σ⟩
instance:Inhabited mD:=⟨⟨w0,[],w0⟩⟩
def ub[Qc][SB]:ez FuncData:=match Ut a with|aj ⟨_,_,.func fd,_⟩=>aj fd|_=>ap
def Bg[Qc][SB]:ez (Scope×FuncBody×Arguments×Zd×Addr×Addr):=(ub K a).map λfd=>(fd.scope,fd.body,fd.params,fd.closure,fd.globals,fd.builtins)
def Bh(P:e_)(c f:Str):ez (Scope×FuncBody×Arguments×Zd×Addr×Addr):=(gX P c f).map λd=>(d.scope,.stmts d.body,d.params,[],PT,W_)
def Ge[Qc](v:Value):b2:=match v with| a2 c=>a8r|_=>av
def o4:eP->eS->b2|[],[]=>am|e::es,w::ws=>a9Y&&o4 es ws|_,_=>av
def Gf[Qc](Y:eP)(v:Value):b2:=match v with| a1=>Y.isEmpty| er=>(match Ut a with|aj ⟨_,_,.seq xs _,_⟩=>o4 Y xs.toList|_=>av)|_=>av
def o5{u:cv} [BEq u]:dk u->b2|[]=>am|x::r=> !(r.contains x)&&o5 r
theorem kD{u:cv} [BEq u] [LawfulBEq u]:∀{l:dk u},o5 l=am->l.Nodup:=by intro O;induction O with|nil=>intro _;exact List.nodup_nil|cons x r G=>intro h;exact bx (UK (show(!(r.contains x)&&o5 r)=am from h)) λH F=>List.nodup_cons.mpr ⟨λz=>by replace H:=(show r.contains x=am from List.elem_eq_true_of_mem z)▸H;exact s1 H,G F⟩
def JC[Qc](w:Addr):UZ->b2|aj Pt=>codeHdIn K w Pt| a1=>av
def Nr[Qc](b:Id->UZ)(Q:Value):ez Id->b2| a1=>am|aj t=>match Q with| a2 cc=>JC K cc (b t)|_=>av
def LW[Qc](b:Id->UZ)(P:e_)(c f:Str)[SB]:b2:=match gX P c f,ub K a with|aj d,aj fd=>Ge K fd.code&&Gf K d.params.defaults fd.defaults&&d.params.posonlyargs.isEmpty&&d.params.kwonlyargs.isEmpty&&d.params.vararg.isNone&&d.params.kwarg.isNone&&fl (d.params.defaults.length<=d.params.args.length)&&o5 (a47)&& ! d.scope.isCoroutine&& ! d.scope.isGenerator&&d.scope.kind== Wd&&o5 (cn Q3)&&(cn Q3).all (λx=>SQ x==OM)&&d.params.args.all (λx=>SQ x.arg==xw||SQ x.arg==OM)&&Nr K b fd.code (mF Q3)|_,_=>av
theorem vC{C:Cx}[iv]{Y:eP}:∀{ws:eS},o4 Y ws=am->∃vs,Y.mapM qw=aj vs/\tq:=by
 induction Y with
  |nil=>intro ws h;induction ws using li with|nil=>exact⟨[],rfl,.nil⟩|cons w ws=>ext sp
  |cons e Y G=>
   intro ws h
   induction ws using li with
    |nil=>ext sp
    |cons w ws=>
     have h:(a9Y&&o4 Y ws)=am:=h;rewrite [py]at h;refine aN (G h.2) λvs g u=> ? _;have H:=h.1;refine cM (qw e) b4 λv q=> ? _;. replace H:=q▸H;exact cT H
     . replace H:=q▸H;exact⟨v::vs,by exact ec List.mapM_cons q g;rfl,t6 (Bd (λJ J J q=>by exact bG q) (λJ J q=>by exact bG q) H σ) u⟩
theorem BR.zip{C:Cx}[h_](c:pb):∀[M'],tq->BR C σ (c.zip vs) (c.zip ws):=by induction c with|nil=>exactλJ=> .nil|cons n c G=>intro vs ws h;cases h with|nil=>exact .nil|cons a b=>exact t6 a (G b)
theorem Bi{u Y:cv}{f:u->ez Y}{l:dk u}:∀{r:dk Y},l.mapM f=un->r.length=OE:=by induction l with|nil=>intro r h;rewrite [List.mapM_nil]at h;ext xp;rfl|cons a l G=>intro r h;rewrite [List.mapM_cons]at h;refine aN ZS λb J h=> ? _;refine aN ZS λB H h=> ? _;ext xp;exact ec XQ XQ (G H);rfl
theorem Bj{K:Frag}[lS]{fd:FuncData}(h:ub K a=aj fd):∃c d W,Ut a=aj ⟨c,d,.func fd,W⟩:=by
 unfold ub at h;refine cM (Ut a) b4 W9;. ext p2;ext rs
 . ext p2;obtain⟨c,d,x,W⟩:=o;cases x with|func f=>ext xp;exact⟨c,d,W,rfl⟩|_=>ext rs
theorem Bk{K:Frag}{v:Value}{h:Heap}(X:K.In h)(e:Ge K v=am):∃q,h.CodeRec v q:=by
 cases v with
  |ref c=>
   have e:a8r=am:=e;refine cM (Ut c) b4 W9;. ext Q6;exact cT e
   .ext Q6;obtain⟨b,a,x,W⟩:=o
    cases x with
     |fields vs=>have e:(match(vs[1]? :II)with|aj (c1 _ _)=>am|_=>av)=am:=e;cases B:(vs[1]? :II)with|none=>replace e:=B▸e;exact cT e|some u=>replace e:=B▸e;cases u with|str s t=>exact⟨s,c,_,vs,t,rfl,X _ _ q,rfl,B⟩|_=>exact cT e
     |_=>exact cT e
  |_=>exact cT e
theorem Bl{C:Cx}{Y:eP}{v:Value}[o2][iv](X:C.K.In e5)(h:Gf C.K Y v=am):∃ds,(∀(M:Model)[OF](E:el)(Q:ez y_->i1),(∀o,((o.getD #[]).toList=ds)->Q o s)->H' (seqItems? v) Q E s)/\∃r,Y.mapM qw=un/\xb r ds:=by
 exact dl5 C Y v s σ
 cases v with
  |none=>exact⟨[],λM A E Q k=>f' (k ap rfl),[],by exact rwL (VI h);rfl,.nil⟩
  |ref t=>
   have h:(match C.K.lookup t with|aj ⟨_,_,.seq I _,_⟩=>o4 Y I.toList|_=>av)=am:=h;refine cM (C.K.lookup t) b4 W9;. ext p2;ext sp
   . ext p2;obtain⟨b,B,x,W⟩:=o;cases x with|seq I n=>refine aN (vC (C:=C) σ h) λr g u=> ? _;refine⟨I.toList,λM A E Q k=> ? _,r,g,u⟩;refine b8 (W2 (X _ _ q) ? _);exact f' (k (aj I) rfl)|_=>ext sp
  |_=>ext sp
theorem LX{u Y i l m g:cv}{a Z:u}{b b':Y}{c y:i}{d X:l}{e r:m}{f j:g}(h:(a,b,c,d,e,f)=(Z,b',y,X,r,j)):a=Z/\b=b'/\c=y/\d=X/\e=r/\f=j:=⟨hh w1 h,hh (·.2.1) h,hh (·.2.2.1) h,hh (·.2.2.2.1) h,hh (·.2.2.2.2.1) h,hh (·.2.2.2.2.2) h⟩
theorem Ed{C:Cx}{c f:Str}[lS](X:C.K.In C.gb)(H:Bg C.K a=Bh C.P c f)(F:LW C.K C.tabs C.P c f a=am):∃d,gX C.P c f=aj d/\Js C d a:=by
 exact dl4 C c f a;unfold LW at F;unfold Bg Bh at H;refine cM (gX C.P c f) (λhd=> ? _) λd hd=> ? _;. replace F:=hd▸F;exact cT F
 .refine⟨d,rfl,? _⟩;refine cM (ub C.K a) (λe9=> ? _) λfd e9=> ? _;. replace F:=hd▸F;replace F:=e9▸F;exact cT F
  .rw [hd,e9]at H F;dsimp only at F;refine Nj (LX (hR H)) λb c2 c3 N n c9=> ? _;clear H;simp only [py,Bool.not_eq_true']at F;refine bx F λG e=> ? _;clear F;refine bx G λG U=> ? _;refine bx G λG R=> ? _;refine bx G λG z=> ? _;refine bx G λG L=> ? _;refine bx G λG V=> ? _;refine bx G λG e7=> ? _;refine bx G λG d8=> ? _;refine bx G λG S=> ? _;refine bx G λG d9=> ? _;refine bx G λG T=> ? _;refine bx G λG v=> ? _;refine bx G λG e8=> ? _;refine bx G λb1 P=> ? _;clear G;have S:=a0d S;refine GV (Bj e9) λy p W f8=> ? _;have f7:=X _ _ f8;refine db (Bk X b1) λq h=> ? _;refine⟨⟨_,fd,q,f7,rfl,b,c2,N,n,c9,h,? _⟩,? _,e7,V,f1 L,kD z,λx Y=>f1 (Qg R x Y),kD d8,W3⟩
   .intro vs B c7 σ s ws at_ Z M A E Q k;obtain⟨ds,D,r,o,i⟩:=Bl σ (mG X at_) P;unfold fy at c7;dsimp only at c7;exact bcH hle (ka<=(a47).length)
    .replace c7:=c4 hle▸c7;replace c7:=o▸c7;exact bcH hmi ((a47).length-ka<=r.length);. rewrite [Option.bind_some]at c7;replace c7:=c4 hmi▸c7;have O:=hR c7;clear c7;subst O;have l:=Xp;have K:=i.length;have c8:r.length=d.params.defaults.length:=Bi o;rw [a0n]at hle hmi;refine o3 (ds:=ds) (by exact rwL c3;exact VI e8) (by exact rwL c3;exact VI v) (by exact rwL c3;exact a4Y T) (by exact rwL c3;exact a4Y d9) D (by exact rwL c3;refine c6 (nat_lit 0x10910000910200b002003) eb [] hle l a0) (by exact rwL c3;refine kq (nat_lit 0x10910000910200b00300b203004) Rb [] S K c8 a0) (by exact rwL c3;refine kq (nat_lit 0x10920410000940430000b10300b204005) S_ [] hmi l K a0) (by exact rwL c3;exact kD d8) (k _ ? _);exact rwLRR c3 l K;rewrite [a0n];exact BR.zip _ (Z.append (i.drop _))
     . rewrite [Option.bind_some]at c7;replace c7:=b9 hmi▸c7;exact bG c7
    . replace c7:=b9 hle▸c7;exact bG c7
   .intro o' e6 m j t I;replace m:=f7▸m;have O:=hR m;clear m;subst O;cases j;replace e:=I▸e
    cases g:fd.code with
     |ref w=>
      replace e:=g▸e;replace e:JC C.K w (C.tabs t)=am:=e;refine cM (C.tabs t) (λu=> ? _) λPt u=> ? _;. replace e:=u▸e;exact cT e
      . replace e:=u▸e;exact⟨w,Pt,rfl,rfl,codeHd_of_K X e⟩
     |_=>replace e:=g▸e;exact cT e
   . have:=Qg U x Y;rewrite [a0o]at this;exact this.imp f1 f1
section E
section
open PySem PySem.W PySem.Calls PyProof.Rows PySem.SeqAt
def dH:FT:=([("","octets_of",203),("",Qu,801),("",T9,806),("","_law_met",813),("","_law_child",818),("",QZ,825),("",Qt,832),("",a2h,839),("",XF,846),("",V2,853),("",Zn,860),("",Zu,867),("",a0f,874),("",UO,879),("","_law_open",884),("","law",889),(hL,lP,105),(hL,"waiting",112),(hL,"room",119),(hL,Un,126),(hL,Oe,133),(hL,RB,140),(hL,A_,147),(Qr,lP,169),(Qr,"make",176),(Qr,A_,183),(Qr,"count",190),("Parts",lP,218),(s3,lP,239),(s3,OC,246),(s3,"sleep_on",253),(s3,"fork",274),(s3,"let_go",281),(s3,"exit",288),(s3,Pd,295),(s3,"kill",302),(s3,A_,323),(s3,"let_close",330),(s3,"dup",337),(s3,N1,344),(s3,RB,358),(s3,Oe,365),(U8,lP,386),(U8,"side",393),(r_,lP,421),(r_,"count",428),(r_,"need_room",435),(r_,"enter",442),(r_,"open_pipe",449),(r_,"share",470),(r_,A_,475),(r_,RB,489),(r_,Oe,503),(r_,"waits_for",524),(Pm,lP,546),(Pm,"put",553),(Pm,"free",558),(Pm,"get",565),(Pm,"take",572),(Pm,"all_files",577),(Pm,"copy",584),(Qv,lP,612),(Qv,"clear",619),(Qv,"is_there",626),(fI,lP,667),(fI,"free_place",674),(fI,"new",682),(fI,QO,689),(fI,"all",694),(fI,Xa,699),(fI,qi,706),(fI,"fork",728),(fI,"reparent",735),(fI,a2s,742),(fI,"exit",749),(fI,"reap",756),(fI,Pd,763),(fI,"sleep",770),(fI,Pz,777),(fI,"kill",784)]:dk (String×String×Nat)).map λx=>(VZ x.1,VZ x.2.1,x.2.2)
def dP:Zd:=([("BoardError",39),("BadArgument",52),("NoRoom",64),(w7,76),("Stuck",88),(hL,150),(Qr,193),("Parts",221),(s3,368),(U8,403),(r_,527),(Pm,594),(Qv,651),(fI,792)]:dk (String×Nat)).map λx=>(VZ x.1,x.2)
def cW:Id->UZ| bv r k=>bif c0 r 3000000 then(a3o:zn)[k]? else ap
def Bm[Qc](g:Str->Wm)(k:Wm)(x:Str×Str):b2:=match k x.1 with|aj A=>(match g x.1 x.2 with|aj f=>plainGet K A x.2&&a1U x.2==aj (aj (a2 f))&&typeIn K (a2 f)==aj a0p&&(x.2 !=(lP:Str)||makesIn K A)|_=>av)|_=>am
def Gg[Qc](k:Wm)(x:Str×pb):b2:=match k x.1 with|aj A=>x.2.all λa=>q9 K A a|_=>am
def LY[Qc](A:Addr):b2:=instIn K (a2 A) PQ==aj av&&subIn K (a2 A) a5J==aj am&&subIn K (a2 A) (a2 A)==aj am&&typeIn K (a2 A)==aj a0L&&(clsIn K A).isSome
def Gh[xd]:OO| .cls y=>y==x|_=>av
theorem Bn[N2][g_](h:Gh x v=am):v= .cls x:=by cases v<;>first|ext sp|exact hh V.cls (f1 h)
structure rV [Qc] : a5 where
  glob : (q7.all fun x => Bf K (zH dH) (zI dP) hN x) = am
  core : (dH.map fun x => Bg K x.2.2) = dH.map fun x => Bh hN x.1 x.2.1
  fns : (dH.all fun x => LW K cW hN x.1 x.2.1 x.2.2) = am
  keepF : (dH.all fun x => keepIn K (a2 x.2.2)) = am
  keepC : (dP.all fun x => keepIn K (a2 x.2)) = am
  meth : (mE.all fun x => Bm K (zH dH) (zI dP) x) = am
  attr : (nm.all fun x => Gg K (zI dP) x) = am
  bk : (match zI dP (w7 : Str) with | aj A => LY K A | _ => av) = am
  nameE : xc (D2 : Str) (i7 hN (D2 : Str)) = am
  nameB : Gh (w7 : Str) (i7 hN (w7 : Str)) = am
  tabs : ([841, 855, 862, 876, 886].all fun a => (Ut a).isNone) = am
  lists : (K.all fun x => x.2.cls != Qs) = am
section E
section
open PySem PySem.W PySem.Calls PyProof.Rows PySem.SeqAt
def eV:zn:=a3o
def yO(p:Program)(w:World)(h:Heap)(os:OsState)[Qc]:Cx:=⟨p,w,hideAll h eV,os,hN,zH dH,zI dP,K,4,cW⟩
def Bo(h:Heap):a5:=∀a∈eV,Th a=aj (tabObj #[])
section
variable{p:Program}{w:World}{h:Heap}{os:OsState}{K:Frag}{mg mb:h7}
theorem Bo.seen(v:Bo h)[lS]{o:Obj}(e:Th a=ck)(F:∀vs,B2≠NR vs):(hideAll h eV).get? a=ck:=by refine a2c e λu=> ? _;have r:=v a u;ext a4E;exact F _ rfl
theorem Bo.ns(v:Bo h)[lS]{m:h7}(B:h.Ns a m):(hideAll h eV).Ns a m:=by refine uU B λo Y j e hd r=> ? _;clear B;exact⟨o,Y,j,v.seen e (λvs q=>by replace q:=hd▸q;cases q),hd,r⟩
theorem Bo.inK(y:rV K)(X:K.In h):K.In (hideAll h eV):=λa o e=>by refine a2c (X a o e) λu=> ? _;have:=Qg y.tabs a u;ext a0g;exact cT b_
theorem Bp{c a:Str}(h:eM c a=am):∃l,(c,l)∈nm/\a∈l:=by
 unfold eM at h;refine cM (nm.lookup c) od λl e=> ? _;. ext Qp;ext sp
 . ext Qp;exact⟨l,dO _ _ _ e,a5h h⟩
set_option tactic.hygienic true in
theorem JD {q : Program} {k : pb} {t : ExcName → II} (y : rV K) (X : K.In h) (v : Bo h) (T : Top q k t mg mb h) : GF (yO p w h os K) mg mb where
  K := Bo.inK y X
  g := v.ns T.g
  b := v.ns T.b
  glob := fun x Y => Ec (C := yO p w h os K) (Bo.inK y X) (v.ns T.g) T.builtins (Qg y.glob x Y)
  attrs := fun c A a L m => by
    refine aN (Bp m) fun l H F => ? _
    have e := Qg y.attr _ H
    unfold Gg at e
    replace e := (show zI dP (c, l).1 = aj A from L) ▸ e
    exact Qg e a F
  sm := by show (1 : Nat) < 4; decide
  keepF := fun c f a e => Qg y.keepF _ (wZ e)
  keepC := fun c a e => Qg y.keepC _ (Eb e)
  meth := fun c A n L B => by
    have e := Qg y.meth _ (a5h B)
    unfold Bm at e
    replace e := (show zI dP (c, n).1 = aj A from L) ▸ e
    refine cM (zH dH c n) (fun d => ? _) fun f d => ? _
    · replace e := (show zH dH (c, n).1 (c, n).2 = ap from d) ▸ e; exact cT e
    ·
      replace e := (show zH dH (c, n).1 (c, n).2 = aj f from d) ▸ e
      simp only [py, Zr] at e
      exact ⟨f, d, e.1.1.1, e.1.1.2, e.1.2⟩
  make := fun c A L B => by
    have e := Qg y.meth _ (a5h B)
    unfold Bm at e
    replace e := (show zI dP (c, (lP : Str)).1 = aj A from L) ▸ e
    refine cM (zH dH c lP) (fun d => ? _) fun f d => ? _
    · replace e := (show zH dH (c, (lP : Str)).1 (c, (lP : Str)).2 = ap from d) ▸ e; exact cT e
    ·
      replace e := (show zH dH (c, (lP : Str)).1 (c, (lP : Str)).2 = aj f from d) ▸ e
      simp only [py] at e
      show makesIn K A = am
      simpa using e.2
  lim := by exact aN T.nolimit fun g H F => ⟨g, v.ns H, F⟩
  en := ua y.nameE
  bc := Bn y.nameB
  bk := fun A N => by
    have e := y.bk
    replace e := (show zI dP w7 = aj A from N) ▸ e
    have e : LY K A = am := e
    unfold LY at e
    simp only [py, Zr] at e
    exact ⟨e.1.1.1.1, e.1.1.1.2, e.1.1.2, e.1.2, e.2⟩
  bt := fun P i => by
    refine LB T.bmain fun b M H F Q C S s => ? _
    have D : (hideAll h eV).get? b = aj M := v.seen Q (fun vs q => by replace q := s ▸ q; cases q)
    refine ⟨b, M, H, F, fun q => ? _, fun q => ? _, D, C, S, s⟩
    · refine uU T.g fun o r j e hd J => ? _
      replace e := G' q ▸ e; replace e := Q ▸ e; have O := hR e; clear e; subst O
      replace hd := s ▸ hd; cases hd
    · have i : (hideAll h eV).get? P = ap := i
      replace i := G' q ▸ i; replace i := D ▸ i; exact iy i
  fn := fun c f a e => by
    have u := wZ e
    exact Ed (C := yO p w h os K) (Bo.inK y X) (List.map_inj_left.mp y.core _ u) (Qg y.fns _ u)
section E
section E
section
open PySem PySem.W PySem.Calls PyProof.Rows PySem.SeqAt
section
variable{prog:Program}{w:World}{A:Around}{R:Q'}{E:el}{h:Heap}{g:Array GenState}{d:Drawn}{t:Nat}{os:OsState}
theorem yP[Rp]{rest:eS}[Rh](q:a2m)(B:Q () XN):H' (VN "ValueError.__new__" ⟨NU::rest,[]⟩) Q E XN:=by
 exact gs A E h g d t os M rest Q;ext a2V;have a:a1e R6=am:=by decide
 have b:=F.noStar;unfold iT at q;simp only [VN,F.newKind,F.newSplit,F.newRow];repeat(first|refine WE q ? _|(refine a5X q ? _;ext F1)|refine wpAny_staticBase_exc q ? _|refine wpAny_madeBy_exc q ? _|simp only [bne_self_eq_false,Bool.false_eq_true,if_false]|wp_step)
 exact B
theorem Hp{rest:eS}(q:a2m)(B:R (.ok (.ret (a2 (Qq+1)))) ⟨a8w,g,d,t,os⟩)(b:rest.length<=sizeLine):codeAny h6 A (eC "ValueError.__new__" ⟨NU::rest,[]⟩) R XN:=by
 exact gs hN w A R h g d t os rest;ext a2V;have e:=F.ends;have c:a1e R6=am:=by decide
 have f:a1e (lL "AttributeError")=av:=by decide
 have i:a1e (lL "NameError")=av:=by decide
 unfold iT at q;refine codeAny_builtinAt F.entry ? _;unfold Builtin.«BaseException.__new__»;refine PySem.wpAt_bind ? _;show PySem.wpAt _ _ _ (stack>>=_) _ _ _;refine PySem.wpAt_bind (PySem.wpAt_stack λp a=>PySem.wpAt_of_wpAny ? _);wp_walk;refine PySem.wpAt_of_wpAny ? _;exact rwL F.owner;repeat(first|with_reducible refine wpAny_madeHere_exc F.canon q ? _|with_reducible refine WE q ? _|(with_reducible refine a5X q ? _;first|exact rwL c|exact rwL f|exact rwL i)|wp_step)
 show R _ _;rewrite [Heap.size_push];exact B
def qL(h:Heap)(rest:eS):Heap:=a8w
theorem o6{rest:eS}:∀b o,Xo->(qL h rest).get? b=ck:=λJ J e=>L' (L' e)
theorem uc{rest:eS}:(qL h rest).get? (Qq+1)=aj {cls:= NU,data:= NR #[a2 Qq,a1,a1,a1,NS,a1]}:=by unfold qL;heap_get
theorem Ee{rest:eS}{K:Frag}{Q:el}(X:K.In h)(B:nR K)(b:rest.length<=sizeLine)(j:PM h6 (A.under (eC VO ⟨NU::rest,[]⟩)) (bj (a2 36) (a2 (Qq+1)::rest)) (λr U=>r= a1/\Q (a2 (Qq+1)) U) E ⟨qL h rest,g,d,t,os⟩):PM h6 A (bj NU rest) Q E XN:=by
 revert K Q;exact gs hN w A E h g d t os rest;exact dl2 K Q;have q:a2m:=X _ _ B.cls;ext a2V;have o:=tc_lookup;have m:=tc_bind NU;have f:=q;unfold iT at q;have l:(XN:Shared).TypeIs NU "type":=⟨_,q,rfl⟩;refine wpAny_call (codeAny_of_tree ? _);show NX (callAny NU _) _ _ _;repeat(any_goals(first|assumption|with_reducible refine WE q ? _|wp_step))
 refine⟨rfl,? _⟩;refine codeAny_call_builtin_at (a5N (by ext ij)) entry_typeCall (wpAny_check_type_call_sub q ? _);repeat(first|with_reducible refine WE q ? _|with_reducible refine wpAny_madeBy_exc q ? _|wp_step)
 refine codeAny_call_builtin_code (a5N F.quiet) (yP f ? _);refine Hp f ? _ b;show NX _ _ _ _;have k:=o6 (h:=h) (rest:=rest);have a:=uc (h:=h) (rest:=rest);unfold qL at k a;have e:=k _ _ q;have c:=X.keeps k;have i:a1e NU=am:=by decide
 unfold isInstance;repeat(first|with_reducible refine WE a ? _|wp_step)
 refine a5X e ? _;exact rwL i;repeat(first|with_reducible refine WE a ? _|wp_step)
 show NX (W7 NU _) _ _ _;refine(looks_findIn c B.init).here ? _;refine S3 (b8 ? _);refine(bind_fn c _ B.fty).here ? _;refine b8 (wpAny_mono j (λr U z=> ? _) λJ J x=>x);refine bx z PY;subst G;intro n;wp_walk;exact n
section E
section E
section
open PySem PySem.W PySem.Calls PyProof.Rows PySem.SeqAt Builtin Builtin.ObjectAttr
section
variable{prog:Program}{w:World}{A:Around}{R:Q'}{E:el}{s:Shared}{K:Frag}
theorem yQ{h:Heap}(X:K.In h)(B:nR K):h.CodeRec uP.code uP.qualname:=by
 refine aN (any_some (show(Ut 35).any _=am from B.code)) λo P e=> ? _;obtain⟨y,p,k,W⟩:=o
 cases k with
  |fields vs=>dsimp only at e;cases q:(vs[1]? :II)with|none=>ext Q6;exact cT e|some v=>ext Q6;cases v with|str x t=>exact⟨35,_,vs,t,rfl,X _ _ P,rfl,by exact a3 q (f1 e);rfl⟩|_=>exact cT e
  |_=>exact cT e
theorem Ef{x y:Value}(X:K.In e5)(B:nR K):BindsTo s uP ⟨[x,y],[]⟩ [(P_,x),(QB,y)]:=λM A E Q a=>o3 (fd:=uP) (ws:=[x,y]) (ds:=[c1 "" 208]) rfl rfl rfl rfl (λM A E Q k=>b8 (W2 (X _ _ B.dflt) (f' (k (aj #[c1 "" 208]) rfl)))) (oa 2) (by decide) (Q8 _) (by decide) a
theorem Eg{e:Addr}{x:Value}{Q:el}(X:K.In e5)(B:nR K)(H:s.heap.NoLimit)(k:A.depth<a13)(i:∀c,c.Ns l5 (λn=>List.lookup n [(QB,x),(P_,QJ)])->(∀b o,R2->c.get? b=ck)->∀r,PM h6 (A.deeper (callEnv uP l5 36)) (execs sT (callEnv uP l5 36)) (λf U=>f= hH/\Q a1 U) (λJ J=>gj) {s with heap:=c,toks:=r}):PM h6 A (bj (a2 36) [QJ,x]) Q E s:=by refine wpAny_call (codeAny_call_def (body:=sT) (binds:=[(P_,QJ),(QB,x)]) k (X _ _ B.fn) rfl H (yQ X B) rfl (Ef X B) (by decide) (λp O=>by exact(nr O).elim (λq=>q▸rfl) λO=>(w6 O)▸rfl) λc Z N=> ? _);refine wpAny_mono (i c Z N _) (λf U z=> ? _) λJ J z=>z.elim;refine bx z PY;subst G;intro z;exact z
section E
section
variable{prog:Program}{w:World}{A:Around}{E:el}{h:Heap}{g:Array GenState}{d:Drawn}{t:Nat}{os:OsState}{K:Frag}{x:Addr}{v:Value}{vs:y_}
theorem Eh(X:K.In h)(Y:Th x=aj a5f):InstAt h x a5f 76 ap:=⟨Y,rfl,rfl,ep⟩
theorem Ei(P:Value):refuseLoop P "__setattr__" (NU::kX)=QK:=by unfold kX;rewrite [refuseLoop_ref];rewrite [refuseLoop_ref];exact PySem.F.store_ValueError.passes P
theorem Hq[Rh](X:K.In h)(B:nR K)(Y:Th x=aj a5f)(H:∀h' p,(∀b o,b≠x->Xo->Ou)->(∃n,E' x=aj n/\n.cls= NU/\n.data= NR vs)->Q () ⟨h',g,d,p,os⟩):PM h6 A (setAttr (a2 x) QB v) Q E XN:=by
 revert x v vs Q;exact gs hN w A E h g d t os K;exact dl4 x v vs Q;have I:=Eh X Y;have k:=PySem.F.store_object;have q:a2m:=X _ _ B.cls;unfold iT at q;refine set_plain X I B.sa ? _;have i:Looks h6 h (isInstance (a2 x) (lL "object")) am:=I.type.andThen (looks_subIn X B.obj);refine codeAny_call_builtin k.slot.plain k.entry (@check_slot h6 _ _ _ "object.__setattr__" "object" "__setattr__" (a2 x) [c1 QB t,v] [] _ k.kind k.split i (k.args (a2 x) (c1 QB t) v) ? _);rewrite [osa_eq];rewrite [refuse_eq];refine b8 (b8 (I.type.here (b8 (wpAny_mroOf_exc q ? _))));rewrite [Ei];refine f' (b8 (I.type.here (b8 ((looks_findIn X B.tk).here (b8 O8)))));show NX (storeInOwnDict _ _ _ _ _ _) _ _ _;obtain⟨o,P⟩:∃o:Obj,o=a5f:=U1;replace Y:=G' P▸Y;have L:o.cls= NU:=by exact rwL P;rfl
 have f:o.dict=ap:=by exact rwL P;rfl
 have m:B2= NR vs:=by exact rwL P;rfl
 clear P I i;unfold storeInOwnDict;repeat(first|(with_reducible refine WE Y ? _;exact rwL L)|with_reducible refine WE q ? _|wp_step)
 exact ec f (b9 (by simp [typeHasDict])) m;have c:(h.push a2L).get? x=ck:=L' Y;have j:x≠Qq:=J' (a2r Y);refine b8 (wpAny_alloc' ? _);refine b8 (wpAny_update' c ? _);refine O8;have z:((h.push a2L).update x λo=>a6t).get? Qq=aj a2L:=(Heap.get?_update_ne _ _ _ _ j.symm).trans (Heap.get?_push_at rfl rfl);have S:((h.push a2L).update x λo=>a6t).Ns Qq U6:=⟨_,#[],_,z,rfl,λe y=>b6 y (by simp),hS⟩;show NX (storeInDict Qq (c1 QB t) QB v) _ _ _;unfold storeInDict newKeyGuard;refine b8 (f' (b8 (wpAny_nsSet1 (Heap.Ns1.of_empty S) λh' a Z=> ? _)));refine uU (a.count (Within.cons QB v Within.nil)) λG D F C r u=> ? _;refine b8 (wpAny_lookBehind C (by exact rwL r;exact pastItsLine_dict (ei u (by exact ec XQ a4f NM;refine pk (nat_lit 0x1093110100000023110100) [] [] a0))) ? _);wp_walk;refine H h' _ (λb N l M=> ? _) ⟨a6t,? _,L,m⟩;. exact(Z.2 b (J' (a2r M))).trans ((Heap.get?_update_ne _ _ _ _ l).trans (L' M))
 . refine(Z.2 x j).trans (a29 c ? _);ext Wa
section E
section E
section
open PySem PySem.W PySem.Calls PyProof.Rows PySem.SeqAt Builtin Builtin.ObjectAttr
section
variable{prog:Program}{w:World}{A:Around}{E:el}{h:Heap}{g:Array GenState}{d:Drawn}{t:Nat}{os:OsState}{K:Frag}{x:Addr}{v:Value}{vs:y_}
theorem Ej[o2]{T:Sem b2}{Q:m9×eS->i1}(h:Q (eC a3n,[]) Z3):PM h6 A (getMethod R6 lP T) Q E s:=by
 have X:Frag.In [] e5:=λa o e=>by ext pf
 have I:typeOf R6=a_ a0L:=by kernel_rfl
 have Z:Manifest.isStub QW=av:=by kernel_rfl
 have e:PySem.W.findCls [] R6 a0L lP=aj (.val (eC a3n)):=by kernel_rfl
 have b:opaqueClassAbove R6=a_ ap:=by unfold opaqueClassAbove;ext ON;exact rwL Z;rfl
 have L:Looks h6 e5 (typeOf R6) a0L:=Looks.of_pure I;have D:findIn [] a0L "__getattribute__"=aj (aj (eC "type.__getattribute__")):=type_tga;unfold getMethod specialOf;refine b8 (b8 (L.here ((looks_findIn X D).here ? _)));ext ON;exact rwL (c4 canon_tga);refine b8 (wpAny_mono (Q:=λv=>Q (v,[])) (E:=E) ? _ (λJ J z=>f' z) λJ J z=>z);have c:Looks h6 e5 (opaqueClassAbove R6) ap:=Looks.of_pure b;refine cls_open X c L D (looks_hook X (r:=ap) (by rfl)) (by show subIn [] _ _=_;rfl) e (f' (by show NX (handedOut _) _ _ _;exact rwL (handedOut_of (by rfl));exact f' h))
theorem ud[Rp]{o:Obj}{rest:eS}[Rh](q:a2m)(y:Th x=ck)(f:o.cls= NU)(B:Q () XN):H' (VN a3n ⟨a2 x::rest,[]⟩) Q E XN:=by
 revert rest Q;exact gs A E h g d t os x M o;exact dl2 rest Q;ext a2V;have c:a1e R6=am:=by decide
 have e:=F.noStar;unfold iT at q;simp only [VN,F.initKind,F.initSplit,F.initRow];repeat(first|(with_reducible refine WE y ? _;exact rwL f)|with_reducible refine WE q ? _|(with_reducible refine a5X q ? _;exact rwL c)|wp_step)
 refine wpAny_onRaise ? _;rewrite [show∀(a b:String)[f0],Bind.check ⟨.positional,"*",QW,.self,[⟨"args",.varPos,av⟩]⟩ a b n (List.map (λx=>x.fst) ({pos:=Value.ref x::rest}:Args).kw)=QK fromλa b n=>check_star_args _ _ _ _ _ _];exact f' B
theorem vD{y:Value}{l:Addr}{Q:el}(q:a2m)(a:Th x=b0p)(B:∀h',(∀b o,b≠x->Xo->Ou)->(∃Y,E' x=aj {cls:= NU,data:= NR #[a2 Y,a1,a1,a1,NS,a1]})->Q a1 ⟨h',g,d,t,os⟩):PM h6 A (bj (eC a3n) [a2 x,y]) Q E XN:=by
 revert y l Q;exact gs hN w A E h g d t os x;exact dl3 y l Q;ext a2V;refine wpAny_call (codeAny_call_builtin F.init.plain F.initEntry (ud q a rfl ? _));unfold Builtin.«BaseException.__init__»;wp_walk;refine B _ (λb o M e=> ? _) ⟨Qq,? _⟩;. rewrite [Heap.get?_update_other _ _ λz=>M z.symm];exact L' e
 . rewrite [a29 (L' a) rfl];rfl
theorem lr{env:Env}{n:Str}{p:Pos}{m:h7}[o2]{Q:el}[Rp](N:env.scope.kind= Wd)(T:KX n=xw)(B:Xh np m)(Z:m n=d0)(q:Q v s)(hd:(n==("__debug__":Str))=av:=by decide):H' (hr (jn n p) env) Q E s:=wpAny_Name (wpAny_loadName_local N T B Z q) hd
theorem Ek{L e:Addr}{y:Value}{mg S m:h7}{l:Addr}[o2]{Q:Flow->i1}(X:K.In e5)(B:nR K)(P:Ut e=ap)(u:Xh L m)(m1:m P_=aj QJ)(R:m QB=aj y)(D:Xh PT mg)(M:Xh W_ S)(V:mg QW=ap)(f:S QW=aj R6)(c9:p0 e=b0p)(d9:∀h' p,(∀b o,b≠e->R2->Ou)->(∃e6 n,E' e=aj n/\n.cls= NU/\n.data= NR #[a2 e6,a1,a1,a1,NS,a1])->Q hH {s with heap:=h',toks:=p}):PM h6 A (execs sT XH) Q E s:=by
 revert m l s Q;exact gs hN w A E K L e y mg S;exact dl4 m l s Q;have W:interactive XH=av:=rfl;unfold sT;rewrite [execs_cons];refine b8 ? _;rewrite [arm_exec_Expr];exact rwL W;refine b8 (wpAny_standAt ? _);show NX (hr (On (W' (jn QW _) lP _) _ [] _) XH>>=λv=>dropValue _ _ v) _ _ _;refine b8 (methodCall_KW ? _);refine wpAny_Name ? _;show NX (loadGlobal XH QW) _ _ _;refine loadGlobal_builtin D V M f (Ej ? _);show NX (callWith _ (eC a3n) [] (backTo _ (Uq (jn P_ _::_) XH)) []) _ _ _;refine PyProof.Rows.callWith_builtin1 ? _;refine args_cons (lr rfl rfl u m1 ? _);refine args_cons (lr rfl rfl u R ? _);refine args_nil ? _;obtain⟨c8,g,d,t,os⟩:=s;have q:=X _ _ B.cls;dsimp only at c9 q u d9;refine vD q c9 ? _;rintro h' k⟨e6,i⟩;refine wpAny_dropValue ? _;have c:h'.Ns L m:=by refine qs u λo Y j d8 r=> ? _;clear u;exact⟨o,Y,j,k _ _ (λz=>by subst z;replace d8:=c9▸d8;have O:=hR d8;clear d8;subst O;cases r.1) d8,r⟩
 have Z:K.In h':=λa o N=>k _ _ (λz=>by subst z;replace N:=P▸N;exact bG N) (X _ _ N);show NX (execs a7 _) _ _ _;rewrite [execs_cons];refine b8 ? _;ext a53;refine b8 (wpAny_standAt ? _);show NX (hr (jn QB _) XH>>=λv=>a0B a7 _ XH>>=λU=>assignStores XH v U _) _ _ _;refine b8 (lr rfl rfl c R ? _);refine b8 O8;show NX (assign (W' _ _ _) XH y>>=XG) _ _ _;rewrite [arm_assign_Attribute];refine b8 (b8 (S3 (lr rfl rfl c m1 ? _)));refine b8 (wpAny_standAt (b8 (S3 (Hq Z B i λF C c7 H=> ? _))));refine wpAny_release (f' O8);exact fk H λn G T I=>d9 F C (λb o M e=>c7 b o M (k b o M e)) ⟨e6,n,G,T,I⟩
section E
section E
section
open PySem PySem.W PySem.Calls PyProof.Rows PySem.SeqAt Builtin Builtin.ObjectAttr
theorem Hr{mg S:h7}(G:GF C mg S)(K:C.ca w7=aj 76)(B:nR C.K)(f:S QW=aj R6):nQ C:=by
 intro l A e7 σ env fm F I D x k Z U pos s at_ p Q E O;have a:∀b o,PO b=ck->R2:=λb o e=>by exact rwL eZ;exact Zi
 have X:C.K.In e5:=mG G.K at_;have V:mg QW=ap:=ns_none_of (h:=C.gb) G.K G.g B.ve;have c7:Xh PT mg:=G.g.keeps a;have w:Xh W_ S:=G.b.keeps a;have H:=G.lim.keeps a;refine x4 ? _;show D1 (hr (jn w7 Z) env>>=λv=>callWith pos v [] (Yo (Uq [RQ I' k U] env)) []) Q E s;refine b8 (tY G at_ F D K ? _);refine callWith_of (P:=λh=>C.K.In h) rfl (keeps_K (G.keepC w7 76 K)) (evalArgs_plain ? _);refine args_cons (wpAny_Constant_str ? _) rfl;refine args_nil ⟨X,? _⟩;obtain⟨M,g,d,t,W⟩:=s;dsimp only at*;have R:=o6 (h:=M) (rest:=[I' t]);have hsz:M.get? (M.objs.size+1)=ap:=UR (W1 _)
 have L:C.K.lookup (M.objs.size+1)=ap:=by
  refine cM (C.K.lookup (M.objs.size+1)) b4 W9;. rfl
  . replace hsz:=X _ _ q▸hsz;exact iy hsz
 refine Ee X B (by exact rwL NM;exact SO rfl) (Eg (s:=⟨qL M [I' t],g,d,t+1,W⟩) (X.keeps R) B (H.keeps R) (by show A.depth+1<a13;have:=e7.d;refine bn (nat_lit 0x10a10311000a10321325010002) cb [] b_ a0) λc u N r=> ? _);dsimp only at N;refine Ek ((X.keeps R).keeps N) B L u rfl rfl ((c7.keeps R).keeps N) ((w.keeps R).keeps N) V f (N _ _ uc) λh' c9 m Y=>⟨rfl,rfl,? _⟩;refine d9 Y λd8 n c8 T e6=> ? _;clear Y;have y:∀b o,M.get? b=ck->Ou:=λb o e=>m b o (λz=>by ext a0X;replace e:=hsz▸e;ext pf) (N _ _ (R _ _ e));have P:M=σ.h:=eZ;exact bx (at_.inv.push (h':=h') (P▸y)) λj i=>O.ok l_ _ _ rfl i.of0 (P9 i) ⟨rfl,j,at_.gens,at_.os⟩ ⟨P▸y,_,76,n,_,a2 d8,rfl,K,P▸hsz,c8,T,e6,rfl,rfl⟩
section E
section
set_option backward.match.sparseCases false
open PySem
def o7:x0->V|ap=> a1|aj i=> f6
structure Pr where
  pid : Int
  state : Str
  par : V
  regs : V
  fil : V
  nam : Str
  chan : V
  killed : b2
  status : Int
  prog : Int
structure Pp where
  rc : Int
  wc : Int
  ro : b2
  wo : b2
structure Rw where
  rest : d7
  done : Int
  bye : x0
  ended : x0
  told : b2
  killed : b2
def aq[hB]:Id:= bv 1000460 j
def bS[jm]:Id:= bv 1000285 f
def aE[z1]:Id:= bv 1000080 i
def j8:Nat->Id|0=> bv 1000729 0|c_=> bv 1000404 j
def bw[hB](p:Pr):ae:= Om Qv [("place",a4 j),("pid",a4 p.pid),(UF,c1 p.state),("parent",p.par),("space",a1),("registers",p.regs),("pc",l1),("files",p.fil),("cwd",a1),("name",c1 p.nam),(Un,p.chan),(Xq,hP p.killed),("status",a4 p.status),("in_call",a1),("progress",a4 p.prog),("told",a1),("wakes",a1),("job",a1),("turns",l1)]
def aS(s:Int)[z1](p:Pp):ae:= Om hL [("ident",f6),(SJ,a4 s),("ring",a2 D4),(V0,a4 p.rc),(WQ,a4 m4),(Yh,hP p.ro),(X9,hP p.wo)]
def cX[jm](h:Int):ae:= Om U8 [("kind",c1 N1),("readable",hP (f%2==0)),("writable",hP (f%2==1)),(We,a4 h),("place",l1),(N1,a2 (aE (f/2))),("node",a1),("major",l1)]
def fb[hB]:Nat:=if j=1 then 1 else if j%2=0 then 3 else 2
def sF[hB]:Nat:=if j=1 then 2 else 1
def LZ[A1]:V:=if j=n then a1 else a4 (sF j)
def jU[A1](sz:Int)(s:Bool)(r:Rw):ae:= .sd [(OC,f5),("pid",a4 (c_:Nat)),("in",LZ n j),("out",a4 (fb j)),(SJ,a4 sz),("rest",ek RA),("done",a4 r.done),("bye",o7 r.bye),("ended",o7 PL),("is_told",hP r.told),("is_killed",hP OD),("stays",hP s)]
structure Cf where
  scr : b5
  room : Int
  text : d7
  sz : Nat → Int
  stays : Nat → b2
  lsz : Int
  small : b5
  gr : d_
  so : d_
  sk : Nat
  tl : d_
structure St where
  P : Nat → Pr
  F : Nat → Int
  SL : Nat → b5
  D : RO
  I : Nat → Pp
  RG : Nat → d7
  R : Nat → Rw
  lbye : x0
  lend : x0
  lrest : d7
  came : Nat → Int
  gone : Nat → Int
  left : Int
  out : d7
  opn : Id
  ol : d_
  rl : d_
  gl : d_
  gi : Nat
  at_ : Int
  pv : b5
  pl : d_
  rd : d_
  re : d_
instance:E2 Pp:=⟨a30⟩
instance:E2 Pr:=⟨⟨0,w0,a1,a1,a1,w0,a1,am,0,0⟩⟩
instance:E2 Rw:=⟨⟨[],0,ap,ap,am,am⟩⟩
instance:E2 Cf:=⟨⟨[],0,[],Oi,λJ=>am,0,[],[],[],0,[]⟩⟩
instance:E2 St:=⟨⟨λJ=>⟨0,w0,a1,a1,a1,w0,a1,am,0,0⟩,Oi,λJ=>[],[],λJ=>a30,λJ=>[],λJ=>⟨[],0,ap,ap,am,am⟩,ap,ap,[],Oi,Oi,0,[],bv 0 0,[],[],[],0,0,[],[],[],[]⟩⟩
def aF{u:cv}(f:Nat->u):Nat->dk u|0=>[]|cp=>aF f n++[f n]
def Le[LR](A R:d_):ac:=⟨[(0,[F2 c.scr]),Xw,(2000000,[f2 (aj (a2 TK)),f2 Xl,f2 (aj (ek N0)),f2 (aj (a2 Zb)),f2 (aj js),f2 (aj XR)]),(597,c.gr),a6c,(601,s.gl),(725,c.tl),(1000726,[a8D]),(460,[bC (aF (λj=> f5) cp)]),(1000460,A),(430,s.rl),(523,aF (λJ=> VG) n),(1000727,[a9L,Om r_ [("most",a4 (hG:Nat)),("pipes",a2 (Yi 0)),("nodes",a1),("journal",a1),("devices",a2 (bv 727 0)),("block",a4 16),("open",a2 s.opn)]]),(77,[lI s.D]),(727,[lI []]),(266,[bC (aF (λf=> Ui) hG)]),(310,s.ol),a71,(109,[lI []]),a9s,(1000404,a9b n),(378,aF (λx=>a4D) (hG+2)),(1000080,aF (λi=>aS f3 i (s.I i)) n),(31,aF (λi=> f4 (oD i)) n),(1000285,aF (λf=>cX f (s.F f)) hG),(619,R),(634,[a74]),(636,[bC [a2 X_],bC ((aF (λk=> a2 a2k) n)++[a2 X_])]),(732,[a7X]),(733,[NL,bC (aF (λk=> a4 (zz k)) n),NL,bC (aF (λk=> a4 (Oz k)) n)]),(734,[bC s.pv]),(639,s.pl),(740,s.rd),(741,s.re)]⟩
def MM[LR]:ac:=Le n c s a5l a01
section E
section
set_option backward.match.sparseCases false
open PySem
section
variable{α β:cv}{K:β->ef}{X:ef}{m:ac}{i:Id}
theorem aK{o:ae}{f:ae->E β}(h:RC)(N:f o K X m):(aX i>>=f) K X m:=by show(match Fc with|ck=>f o K X m|ap=>gj);exact rwL h;exact N
theorem aC{c a:Str}{F:dd}[g_]{f:V->E β}(h:Fc=aj (sh F))(b:eM c a=am)(d:R3 a=d0)(N:f v K X m):(bE eF a>>=f) K X m:=by show(aX i>>=λM=>(match M with| sh F=>if eM c a then QC (R3 a)else a8|_=>a8)>>=f) K X m;refine aK h ? _;show((if eM c a then QC (R3 a)else a8)>>=f) K X m;exact a3 (c4 b) d;exact N
theorem fc{c a:Str}{F:dd}[g_]{f:l0->E β}(h:Fc=aj (sh F))(b:(eM c a&&fl (Us<=1000))=am)(N:f () K X (pj i (sh (dS a v F)))):(gy eF a v>>=f) K X m:=by show(aX i>>=λM=>(match M with| sh F=>if eM c a&&Us<=1000 then cQ i (sh (dS a v F))else a8|_=>a8)>>=f) K X m;refine aK h ? _;show((if eM c a&&fl (Us<=1000)then cQ i (sh (dS a v F))else a8)>>=f) K X m;exact rwL (c4 b);exact N
theorem bY{a b:V}{r:Bool}{f:b2->E β}(h:YW=un)(N:f r K X m):(gM a b>>=f) K X m:=by show(match YW with|un=>f r K X m|ap=>gj);exact rwL h;exact N
theorem dT[RN]{x:E β}(h:c)(N:Vs):i4 c x K X m:=by show bL (fl c) _ _;exact rwL (T0 h);exact N
theorem qM{b:Bool}{x y:E β}(H:b=am->Vs)(F:b=av->y K X m):kp x y K X m:=by
 cases b;. exact F rfl
 . exact H rfl
theorem dy{b:Bool}{x y:j_}{f:α->E β}(H:b=am->(x>>=f) K X m)(F:b=av->(y>>=f) K X m):(kp x y>>=f) K X m:=by
 cases b;. exact F rfl
 . exact H rfl
theorem mq[q']{g:b5->j_}{f:α->E β}(h:Fc=aj Oj)(N:(g vs>>=f) K X m):(q5 i g>>=f) K X m:=show(aX i>>=λo=>(match o with| Oj=>g vs|_=>a8)>>=f) K X m from aK h N
section E
def bq(c f:Str):e_:=match gX hN c f with|aj d=>d.body|ap=>[]
def cu(c f:Str):Scope:=match gX hN c f with|aj d=>d.scope|ap=>w0
def yR(l:e_)[z1]:hC:=match l[i]? with|aj (.For t _ _ _ _)=>t|_=>w0
def yS(l:e_)[z1]:e_:=match l[i]? with|aj (.For _ _ b _ _)=>b|_=>[]
theorem aM{α:cv}{f:Nat->α}:∀[e3],(aF f n).length=n:=by intro O;induction O with|zero=>exact rfl|succ n G=>show(aF f n++[f n]).length=cp;exact a3 Qi G;rfl
theorem aG{α:cv}{f:Nat->α}:∀{n j:Nat},(aF f n)[j]? =if j<n then aj (f j)else ap:=by
 intro O
 induction O with
  |zero=>intro j;exact rwL (b9 (Qk j));rfl
  |succ n G=>
   intro j;show(aF f n++[f n])[j]? =_;exact bcH h (j<n);. rewrite [a24 (by ext QF;exact h),G,Pa,c4 (by refine a6N h a0)];try rfl
   .rewrite [Vy (by ext QF;refine bn (nat_lit 0x1091000c0a001002) cb [] h a0),aM];exact bcH q (j=n);. subst q;rewrite [RT];exact rwL (c4 (by refine pk (nat_lit 0x10a311000001) a7 [] a0));rfl
    . exact rwL (b9 (by refine c6 (nat_lit 0x1c0a3111000c0a1000c0b100002) cb [] h q a0));exact a5z (by show 1<=j-n;refine c6 (nat_lit 0x1094100011c0a1000c0b100002) cb [] h q a0)
theorem dz{α:cv}{f g:Nat->α}:∀[e3],(∀j,j<n->f j=g j)->aF f n=aF g n:=by intro O;induction O with|zero=>intro _;exact rfl|succ n G=>intro h;show aF f n++[f n]=aF g n++[g n];exact a3 (G λj D=>h j (by refine a6N D a0)) (h n (by refine pk (nat_lit 0x10a311000001) a7 [] a0));rfl
theorem Bq{α:cv}{f:Nat->α}{a:α}{n j:Nat}(h:j<n):(aF f n).set j a=aF (λi=>if i=j then a else f i) n:=by
 refine List.ext_getElem? λi=> ? _;rewrite [List.getElem?_set,aG,aG,aM];exact bcH q (j=i);. subst q;exact w3 s_ Pa Pa s_;rfl
 .exact rwL w2;exact bcH r (i<n);. exact ec (c4 r) (c4 r) (b9 (LL q));rfl
  . exact a3 (b9 r) (b9 r);rfl
theorem ic{s:Nat}{a b:d_}:∀{L:M_},oq b (oq a L)=oq b L
 |[]=>by show bL (c0 s s) _ _=_;ext Wv
 |(t,l)::r=>by
  show oq b (WT ((s,a)::r) ((t,l)::oq a r))=WT ((s,b)::r) ((t,l)::oq b r);refine cO (c0 t s) b4 b4;. show bL (c0 s s) _ _=_;ext Wv
  . show WT _ ((t,l)::oq b (oq a r))=_;exact a3 q ic;rfl
theorem rW{s:Nat}{l:d_}:∀{L:M_},az s L=l->l≠[]->oq l L=L
 |[],h,h'=>b6 h.symm h'
 |(t,k)::r,h,h'=>by
  have h:WT k (az s r)=l:=h;show WT ((s,l)::r) ((t,k)::oq l r)=_;refine cO (c0 t s) b4 b4;. ext p2;exact rwLR (TQ q) h;rfl
  . ext p2;exact hh ((t,k)::·) (rW h h')
section E
section
set_option backward.match.sparseCases false
open PySem
inductive ie : V → a5 where
  | none : ie a1
  | pipe (i s) : ie (hD [c1 N1, f6, a4 s])
  | child (p) : ie (hD [c1 Og, a4 p])
def JE[Pf]:b2:=match a with| I'=>(match b with| c1 y=>L2|_=>av)|_=>av
def Hs[Pf]:b2:=match a with| a4 x=>(match b with| a4 y=>L2|_=>av)|_=>av
def L3(l m:b5):b2:=match l with|[a,b,c]=>(match m with|[d,e,f]=>JE a d&&(Hs b e&&Hs c f)|_=>av)|[a,b]=>(match m with|[d,e]=>JE a d&&Hs b e|_=>av)|_=>av
def Lg[Pf]:b2:=match a with| hD l=>(match b with| hD m=>L3 l m|_=>av)|_=>av
theorem JF{v:Wb}{a b:V}(c:ie a)(M:ie b)(B:d8 b=av):pN (q6 v 5) v a b=aj (Lg a b):=by
 cases c with
  |none=>cases M with|none=>exact sK B|pipe=>rfl|child=>rfl
  |pipe i s=>cases M with|none=>exact sK B|pipe j t=>show aj (((N1:Str)==(N1:Str)&&(i==j&&(s==t&&am)))&&am)=aj ((N1:Str)==(N1:Str)&&(i==j&&s==t));ext a1K;ext a1K;rfl|child p=>show aj (((N1:Str)==(Og:Str)&&(i==p&&am))&&av)=aj av;ext Wx;rfl
  |child p=>cases M with|none=>exact sK B|pipe j t=>show aj (((Og:Str)==(N1:Str)&&(p==j&&am))&&av)=aj av;ext Wx;rfl|child q=>show aj (((Og:Str)==(Og:Str)&&(p==q&&am))&&am)=aj ((Og:Str)==(Og:Str)&&p==q);ext a1K;ext a1K;rfl
def Gi[xd]:ae->V| Om _ fs=>(fs.lookup x).getD a1|_=> a1
def qb[xd](o:ae):Int:=match Gi x o with| f6=>i|_=>0
def JG[xd](o:ae):Str:=match Gi x o with| c1 i=>i|_=>Str.empty
def Br[xd](o:ae):b2:=match Gi x o with| hP i=>i|_=>av
def jw(o:ae):Pr:=⟨qb "pid" o,JG UF o,Gi "parent" o,Gi "registers" o,Gi "files" o,JG "name" o,Gi Un o,Br Xq o,qb "status" o,qb "progress" o⟩
theorem gg[hB](p:Pr):jw (t0 p)=p:=by cases p;kernel_rfl
def yT(f:Nat->ae->ae):Nat->d_->d_|_,[]=>[]|k,o::r=>f k o::yT f bm r
theorem o8{f:Nat->ae->ae}:∀{l:d_}{k j:Nat},(yT f k l)[j]? =(l[j]?).map (f (k+j))|[],_,_=>rfl|o::r,k,0=>rfl|o::r,k,c_=>by show(yT f bm r)[j]? =(r[j]?).map _;exact a3 o8 (show bm+j=k+c_ by refine pk (nat_lit 0x10b331110003103110002) cb [] a0);rfl
def jx(p:Pr)(A:V):b2:=p.state==(Ra:Str)&&Lg p.chan A
def dq(A:V)(p:Pr):Pr:=⟨p.pid,bif jx p A then qi else p.state,p.par,p.regs,p.fil,p.nam,bif jx p A then a1 else p.chan,p.killed,p.status,p.prog⟩
def xe(A:V)[m5]:ac:=⟨WO (yT (λj o=>t0 (dq A (jw o))) 0 a0l) m.L⟩
def eu(P:h8)[f0]:d_:=aF (λj=>t0 m3) n
theorem vE{f:Pr->Pr}{P:h8}[e3]:yT (λj o=>t0 (f (jw o))) 0 (eu P n)=eu (λj=>f m3) n:=by
 refine List.ext_getElem? λi=> ? _;unfold eu;exact ec o8 aG aG;exact bcH h (i<n);. exact a3 Pa Pa;rewrite [Ow];show aj (bw i (f (jw (bw i (P i)))))=_;rewrite [gg];rfl
 . exact a3 Rt Rt;rfl
def o9[f0]:ae:= a8D
def nD[f0]:ae:= bC (aF (λj=> f5) cp)
structure cy [f0] (P : Nat → Pr) [m5] : a5 where
  tab : az 1000726 m.L = [o9 n]
  pl : az 460 m.L = [nD n]
  ps : a0l = eu P cp
  ch : ∀ j, ie (P j).chan
  sm : n ≤ 100
theorem cy.table[e3]{P:h8}[f_][Uk]:m.H OY=aj (o9 n):=by show(az 1000726 m.L)[0]? =_;exact rwL h.tab;rfl
theorem cy.places[e3]{P:h8}[f_][Uk]:m.H (bv 460 0)=aj (nD n):=by show(az 460 m.L)[0]? =_;exact rwL h.pl;rfl
theorem cy.proc[e3]{P:h8}[f_][Uk][mv](D:gp):m.H x1=aj (t0 m3):=by show a0l[j]? =_;exact rwL h.ps;rewrite [eu];exact a3 aG (c4 (by refine a6y));rfl
def ac.setP[m5](P:h8)[f0]:ac:=⟨WO (eu P n) m.L⟩
theorem ac.setP_id[f_]{P:h8}[e3](h:a0l=eu P cp):QL P cp=m:=by show ac.mk (WO (eu P cp) m.L)=m;exact rwL (rW h λq=>by have:=a0u q;rewrite [eu]at this;replace this:=aM▸b_;exact xN b_ rfl);rfl
theorem ac.setP_upd[f_]{P:h8}{n j:Nat}{p:Pr}(D:j<n):(QL P n).upd x1 (t0 p)=QL (λi=>if i=j then p else P i) n:=by
 show ac.mk (WO ((az 1000460 (WO (eu P n) m.L)).set j (t0 p)) (WO (eu P n) m.L))=_;exact ec aZ s_ ic;rewrite [eu];exact rwL (Bq D);show a3U=a3U;congr 2;refine dz λi J=> ? _;show(if i=j then t0 p else bw i (P i))=_;ext Po;. exact a3 PH q;show t0 p=t0 (if j=j then p else m3);ext UA;rfl
 . exact rwL w2;show bw i (P i)=bw i (if i=j then p else P i);exact rwL w2;rfl
theorem cy.setP[e3]{P P':h8}[f_][Uk](L:∀j,ie (P' j).chan):cy n P' (QL P' cp):=⟨(aZ).trans ((b9 (by decide)).trans h.tab),(aZ).trans ((b9 (by decide)).trans h.pl),(aZ).trans s_,L,h.sm⟩
def gh(p:Pr):Pr:=⟨p.pid,qi,p.par,p.regs,p.fil,p.nam,a1,p.killed,p.status,p.prog⟩
abbrev jy:V:= a2 OY
theorem Bs(f j:Nat)[p3]:n_ (OH qi) [jy,f5] K X m=(gy f5 UF (c1 qi)>>=λJ=>gy f5 Un a1>>=a8y) K X m:=by kernel_rfl
theorem yU{f j n:Nat}{P:h8}[N5][Uk](D:gp)(N:K a1 (QL a63 cp)):n_ (OH qi) [jy,f5] K X m:=by
 exact dl7 f j n P K X m;rewrite [Bs];have Q:=ac.setP_id h.ps;have O:=h.proc D;refine fc O (by kernel_rfl) ? _;exact rwL (show(ae.inst Qv (dS UF (c1 qi) _))=t0 a58 by kernel_rfl);exact rwRL Q (ac.setP_upd (by refine a6y))
 have H:=h.setP (P':=λi=>if i=j then a58 else P i) (λi=>by
  ext Po;. subst q;ext UA;exact h.ch i
  . exact rwL w2;exact h.ch i);have t:=H.proc D;replace t:=s_▸t;refine fc t (by kernel_rfl) ? _;exact a3 (show(ae.inst Qv (dS Un a1 _))=t0 (gh m3)by kernel_rfl) (ac.setP_upd (by refine a6y))
 have u:(QL (λi=>if i=j then gh m3 else if i=j then a58 else P i) cp)=QL a63 cp:=by
  congr 1;funext i;ext Po;. subst q;exact a3 s_ s_;rfl
  . exact ec w2 w2 w2;rfl
 ext PE
 have F:=h.setP (P':=a63) (λi=>by
  ext Po;. subst q;ext UA;exact a1
  . exact rwL w2;exact h.ch i);exact aC (v:= a1) F.table (by kernel_rfl) (by kernel_rfl) N
section
variable{α β:cv}{K:β->ef}{X:ef}{m:ac}{i:Id}
theorem cz{call:aD}{c n:Str}{F:dd}[q']{f:V->E β}(h:Fc=aj (sh F))(O:ed (sh F) n=am)(N:(bj (.fn c n) (eF::vs)>>=f) K X m):((aX i>>=λM=>a6o)>>=f) K X m:=by refine aK (f:=λM=>a6o>>=f) h ? _;show((if ed (sh F) n=am then _ else _)>>=f) K X m;exact rwL (c4 O);exact aK (f:=λM=>cA bj i M n vs>>=f) h N
theorem fe{R:gN}{t:Expr}{b:e_}[QQ]{k j:Nat}{fm:Fm}:bF R t b src bm j fm=(fu src j>>=λo=>match o with|ap=>X8|d0=>cV t v fm>>=λloc=>aB R b mc>>=λr=>match r with|kE|Yg=>bF R t b src k c_ mc|Yq=>a_ kE|f=>a_ f):=rfl
theorem ff[q'][mv]{f:ii->E β}(h:Fc=aj Oj)(N:f vs[j]? K X m):(fu eF j>>=f) K X m:=mq (g:=λvs=>a_ vs[j]?) h N
section E
abbrev Gj:hC:=yR (bq fI Pz) 1
abbrev I3:e_:=yS (bq fI Pz) 1
abbrev El(A:V)(c:Int)(w:dd):dd:=(P_,jy)::(Un,A)::(Rz,a4 c)::w
theorem Em{β:cv}[jm](v u A:V)(c:Int)[Pu](G:m_->E β)(K:β->ef)[Qe]:(cV Gj v ⟨N4 Pz,El A c a2I,[]⟩>>=λloc=>aB WZ I3 ⟨N4 Pz,loc,[]⟩>>=G) K X m=(bE v UF>>=λN=>gM N (c1 Ra)>>=λb=>kp (bE v Un>>=λy=>gM y A>>=λb=>a_ b) A'>>=λb=>kp ((aX OY>>=λM=>if ed M qi=am then aX OY>>=λM=>cA n_ OY M qi [v]else a8)>>=λJ=>bV (c+1)>>=λs=>a_ (Pw,[((P_:Str),jy),((Un:Str),A),((Rz:Str),s),((OC:Str),v)])) (a_ (Pw,El A c [((OC:Str),v)]))>>=G) K X m:=by cases b<;>kernel_rfl
theorem jM{p:Pr}{A:V}(h:jx p A=av):dq A p=p:=by obtain⟨a,b,c,d,e,f,g,x,y,z⟩:=p;unfold dq;ext Td
theorem pd{p:Pr}{A:V}(h:jx p A=am):dq A p=gh p:=by unfold dq gh;ext Td
theorem xf{p:Pr}{A:V}(h:ie p.chan):ie (dq A p).chan:=by
 refine cO (jx p A) b4 b4;. exact rwL (pd q);exact a1
 . exact rwL (jM q);exact h
theorem ac.setP_setP[f_]{P Q:h8}[e3]:(QL P n).setP Q n=QL Q n:=by show ac.mk (WO _ (WO _ m.L))=a3U;exact rwL ic;rfl
def eW(A:V)(P:h8)[hB]:h8:=λi=>if i<j then dq A (P i)else P i
theorem pe{A:V}{P:h8}[mv]:Ry c_=λi=>if i=j then dq A (P i)else Ry j i:=by
 funext i;unfold eW;ext Po;. exact a3 (c4 (by refine bn (nat_lit 0x10a31110000b100002) cb [] q a0)) PH;rfl
 .exact rwL w2;exact bcH r (i<j);. exact a3 (c4 r) (c4 (by refine a6N r a0));rfl
  . exact a3 (b9 r) (b9 (by refine c6 (nat_lit 0x1c0a3111000c0b1000c0a100002) cb [] q r a0));rfl
theorem ue:(1000000:Int)<dF:=by ext ij
theorem aQ{i:Int}(h: Uv<=i/\i<=1000000): -dF<i/\i<dF:=by have:=ue;refine kq (nat_lit 0x1e1a00101a1080019108000f4240219000f42402101a00000f4240220) [] cb h.1 h.2 b_ a0
theorem xg{f n:Nat}{P:h8}[f_]{A:V}[Uk](L:ie A)(B:d8 A=av){K:lR}[l2](N:∀(c:Int)(w:dd),K (hH,El A c w) (QL (Ry cp) cp)):∀(d j:Nat),j+d=cp->∀(c:Int)[Pu](u:V),0<=c/\c<=j->bF WZ Gj I3 SX (d+1) j ⟨N4 Pz,El A c a2I,[]⟩ K X (QL (Ry j) cp)
 |0,j,hd,c,b,u,hcj=>by
  have a:∀i,ie (Ry j i).chan:=λi=>by
   unfold eW;exact bcH r (i<j);. exact rwL (c4 r);exact xf (h.ch i)
   . exact rwL (b9 r);exact h.ch i
  have D:=h.setP a;exact rwL fe;refine ff D.places ? _;exact ec aG (b9 (by refine bn (nat_lit 0x1c0a31110000b311103010002) cb [] hd a0)) (show j=cp by refine bn (nat_lit 0x10b31110000b311103010002) cb [] hd a0);exact N c _
 |d+1,j,hd,c,b,u,hcj=>by
  have a:∀i,ie (Ry j i).chan:=λi=>by
   unfold eW;exact bcH r (i<j);. exact rwL (c4 r);exact xf (h.ch i)
   . exact rwL (b9 r);exact h.ch i
  have D:=h.setP a;have p:=h.sm;have G:=xg (f:=f) (X:=X) h L B N d c_ (by refine bn (nat_lit 0x10b31120310311000b311203311100003) eb [] hd a0);exact rwL fe;refine ff D.places ? _;exact a3 aG (c4 (by refine bn (nat_lit 0x10a31110000b311103311200003) eb [] hd a0));show(cV Gj f5 ⟨N4 Pz,El A c a2I,[]⟩>>=λloc=>aB WZ I3 ⟨N4 Pz,loc,[]⟩>>=_) K X _;rewrite [Em];have O:=D.proc (j:=j) (by refine b0d);have g:Ry j j=m3:=b9 (VU j)
  have s:jx m3 A=av->QL (Ry j) cp=QL (Ry c_) cp:=λq=>by
   exact rwL pe;congr 1;funext i;exact bcH r (i=j);. exact w3 (c4 r) r (jM q) g;rfl
   . exact rwL (b9 r);rfl
  refine aC (v:= c1 Yd) O (by kernel_rfl) (by ext NZ;kernel_rfl) (bY (r:=Yd==(Ra:Str)) rfl ? _);refine dy Va Va
  .refine aC (v:=(P j).chan) O (by kernel_rfl) (by ext NZ;kernel_rfl) (bY (r:=Lg (P j).chan A) (JF (h.ch j) L B) ? _);show(gm (Lg (P j).chan A) _ _>>=_) K X _;refine dy RY RY
   .have q:jx m3 A=am:=by unfold jx;exact a3 R T;rfl
    refine cz D.table (by kernel_rfl) ? _;show n_ (OH qi) [jy,f5] _ X _;refine yU D (by refine b0d) ? _;refine dT (aQ (by refine lin4 (nat_lit 0x1e19000f424023110019311008000f424020b31120331110001900011970000090000006422013) eb a7 hd hcj.1 hcj.2 p a0)) ? _
    have e:(QL (Ry j) cp).setP (λi=>if i=j then gh (Ry j i)else Ry j i) cp=QL (Ry c_) cp:=by
     exact a3 ac.setP_setP pe;congr 1;funext i;exact bcH r (i=j);. refine rwl (c4 r) (rwl (c4 r) (rwl r (rwl (pd q) (rwl g ? _))));rfl
     . exact a3 (b9 r) (b9 r);rfl
    ext ea;exact G (c+1) am f5 (by refine c6 (nat_lit 0x1e1973110031100193110001190001197000011) a7 a7 hcj.1 hcj.2 a0)
   . exact rwL (s (by unfold jx;exact a3 R T;rfl));exact G c am f5 (by refine a8Y)
  . exact rwL (s (by unfold jx;exact rwL R;rfl));exact G c am f5 (by refine a8Y)
def Bt(A:V):E V:=λk J m=>(∃n P,cy n P m/\ie A/\d8 A=av)/\∀c:Int,k (a4 c) (xe A m)
theorem En[jm](A:V)[p3]:kz (OH Pz) [jy,A] K X m=(bE jy "places">>=λsrc=>TM>>=λk=>if bg Gj src then cF (bF WZ Gj I3 src bm 0 ⟨N4 Pz,El A 0 [],[]⟩)else a8) a8e X m:=by kernel_rfl
theorem Bu[jm](A:V)(c:Int)(w:dd)(K:lR)[Qe]:a0x ((bq fI Pz).drop 2) ⟨N4 Pz,El A c w,[]⟩ K X m=K (.ret (a4 c),El A c w) m:=by kernel_rfl
theorem Eo[jm](A:V)[p3](h:Bt A K X m):kz (OH Pz) [jy,A] K X m:=by
 exact dl5 f A K X m;refine bx h λG N=> ? _;clear h;refine d9 G λn P I L B=> ? _;clear G;rewrite [En];refine aC (v:= SX) I.table (by kernel_rfl) (by kernel_rfl) ? _;refine mq (g:=λvs=>a_ ka) I.places ? _;ext QF;show(if bg Gj SX=am then cF (bF _ Gj I3 SX (cp+1) 0 _)else a8) _ X m;exact rwL (c4 (by kernel_rfl));show bF _ Gj I3 SX (cp+1) 0 _ _ _ m;have Q:QL (Ry 0) cp=m:=by exact rwL (show Ry 0=P from funext λi=>b9 (Qk i));exact ac.setP_id I.ps
 have g:QL (Ry cp) cp=xe A m:=by unfold xe ac.setP;exact a3 I.ps vE;congr 2;exact dz λj D=>by unfold eW;exact rwL (c4 D);rfl
 have:=xg (f:=f) (X:=wj) I L B (K:=a8e) (λc w=>by show aB _ _ ⟨N4 Pz,El A c w,[]⟩ _ X _;rewrite [Bu];ext NZ;exact N c) cp 0 (by refine pk (nat_lit 0x10b311003311000101) a7 [] a0) 0 av a1 (by refine pk (nat_lit 0x1e197010119010100) [] [] a0);replace this:=Q▸b_;exact b_
section E
section
set_option backward.match.sparseCases false
open PySem
abbrev Ht:hC:=yR (bq fI QO) 0
abbrev JH:e_:=yS (bq fI QO) 0
abbrev Gk[ss](w:dd):dd:=(P_,jy)::("pid",v)::w
def bu(p:Pr):b2:= !(p.state==Ze)
def ew(P:h8)(q:Int):Nat->Nat->ez Nat|0,_=>ap|d+1,j=>a95
def Gl:ez Nat->V|ap=> a1|aj j=> f5
theorem Bv(f j:Nat)[p3]:a5k [f5] K X m=(bE f5 UF>>=λv=>(if pO v (c1 "unused")=am then gM v (c1 "unused")>>=W4 else a8)>>=λb=>a_ (OK b)) K X m:=by kernel_rfl
theorem qN{f j:Nat}{p:Pr}[N5](O:m.H x1=aj (t0 p))(N:K (hP (bu p)) m):a5k [f5] K X m:=by rewrite [Bv];refine aC (v:= c1 p.state) O (by kernel_rfl) (by kernel_rfl) ? _;show(gM (V.str p.state) (c1 "unused")>>=λb=>(a_ (OK (! b)):E V)) K X m;exact bY (r:=p.state==Ze) rfl N
theorem yV[tz][jm][hB](q:Int)[Pu](u:V)(G:m_->E Y)[WX]:(cV Ht f5 ⟨N4 QO,ZJ a2I,[]⟩>>=λloc=>aB WZ JH ⟨N4 QO,loc,[]⟩>>=G) K X m=(a8B>>=λb=>kp (bE f5 "pid">>=λv=>gM v (a4 q)>>=λb=>a_ b) A'>>=λb=>kp (a_ (Fl.ret f5,ZJ [((OC:Str),f5)])) (a_ (Pw,ZJ [((OC:Str),f5)]))>>=G) K X m:=by cases b<;>kernel_rfl
theorem Ep[jm](q:Int)[p3]:kz (OH QO) [jy,a4 q] K X m=(bE jy "places">>=λsrc=>TM>>=λk=>if bg Ht src then cF (bF WZ Ht JH src bm 0 ⟨N4 QO,ZJ [],[]⟩)else a8) a8f X m:=by kernel_rfl
theorem Bw[jm](q:Int)(w:dd)(K:lR)[Qe]:a0x ((bq fI QO).drop 1) ⟨N4 QO,ZJ w,[]⟩ K X m=K (.ret a1,ZJ w) m:=by kernel_rfl
theorem Er[jm][e3]{P:h8}(q:Int)[p3][Uk](N:K (Gl (ew P q cp 0)) m):kz (OH QO) [jy,a4 q] K X m:=by
 exact dl7 f n P q K X m;rewrite [Ep];refine aC (v:= SX) h.table (by kernel_rfl) (by kernel_rfl) ? _;refine mq (g:=λvs=>a_ ka) h.places ? _;ext QF;show(if bg Ht SX=am then cF (bF _ Ht JH SX (cp+1) 0 _)else a8) _ X m;exact rwL (c4 (by kernel_rfl));show bF _ Ht JH SX (cp+1) 0 _ _ wj m
 have S:∀(d j:Nat)[Pu](u:V),j+d=cp->K (Gl (ew P q d j)) m->bF WZ Ht JH SX (d+1) j ⟨N4 QO,ZJ a2I,[]⟩ a8f wj m:=λd=>by
  induction d with
   |zero=>intro j b u hd N;exact rwL fe;refine ff h.places ? _;exact a3 aG (b9 (by exact rwR hd;exact VU j));show aB _ _ ⟨N4 QO,ZJ _,[]⟩ _ X m;rewrite [Bw];exact N
   |succ d G=>
    intro j b u hd N;have a:j<cp:=hd▸YK;exact rwL fe;refine ff h.places ? _;exact a3 aG (c4 a);refine(yV ..).mpr ? _;have O:=h.proc (oc a);refine cz O (by kernel_rfl) ? _;show a5k [f5] _ _ m;refine qN O ? _;have G:=G c_ am f5 ((Nat.succ_add j d).trans hd);unfold ew at N;show(gm (bu m3) _ _>>=_) _ _ m;refine dy Va Va
    .replace N:=R▸N;refine aC (v:= a4 (P j).pid) O (by kernel_rfl) (by kernel_rfl) (bY (r:=(P j).pid==q) rfl ? _);show(gm ((P j).pid==q) _ _>>=_) _ _ m;refine dy RY RY;. replace N:=T▸N;exact N
     . replace N:=T▸N;exact G N
    . replace N:=R▸N;exact G N
 exact S cp 0 av a1 (Ow _) N
section E
section
set_option backward.match.sparseCases false
open PySem
theorem gk[f_][eX]{a b:ae}:(pj i a).upd i b=pj i b:=by obtain⟨s,n⟩:=i;show ac.mk (oq ((az s WS).set n b) WS)=ac.mk WS;exact ec aZ s_ ic;rewrite [List.set_set];rfl
theorem dh[f_][eX]{o a:ae}(h:RC):(pj i a).H i=C1:=by exact rwL (kM h);exact s_
theorem fX[f_][R0](h:RC):pj i o=m:=by obtain⟨s,n⟩:=i;ext a8c;exact rwL (rW rfl λq=>by replace B:=q▸B;exact Qk _ B);rfl
theorem nE{R:gN}{elt tgt:Expr}{ifs:eP}[QQ][eX]{n k:Nat}{fm:Fm}:VE cp k fm=(fu src k>>=λo=>match o with|ap=>QK|d0=>cV tgt v fm>>=λloc=>Yw ifs mc>>=λb=>kp (R.ev elt mc>>=λx=>kQ i x>>=λJ=>VE n bm mc) (VE n bm mc)):=rfl
def hJ[xd]:ii->dd|ap=>[]|d0=>[(x,v)]
theorem fK{R:gN}{elt tgt:Expr}{ifs:eP}{sc:Scope}{cells:OX}[N2][q']{p:OO}{f:V->V}[eX][QQ][f_]{o:ae}{K:Vt}[l2](W:RC)(z:∀(acc:b5)[q_](G:ii->E l0),G TL K X a0i->(fu src k>>=G) K X a0i)(M:∀(acc:b5)[q_][ss],TL =d0->∀(w:ii)(G:dd->b2->E l0),G [(x,v)] (p v) K X a0i->(cV tgt v ⟨sc,hJ x w,mz⟩>>=λloc=>Yw ifs ⟨sc,loc,mz⟩>>=T4) K X a0i)(y:∀(acc:b5)[q_][ss],TL =d0->p v=am->∀G:V->E l0,G (f v) K X a0i->(R.ev elt ⟨sc,[(x,v)],mz⟩>>=G) K X a0i)(T:ZG)(N:K () (pj i (bC ((vs.filter p).map f)))):VE (ka+1) 0 ⟨sc,[],mz⟩ K X (pj i ej):=by
 have S:∀(d k:Nat)(w:ii)(acc:b5),k+d=ka->acc.length<=k->K () (pj i (bC (acc++((vs.drop k).filter p).map f)))->VE (d+1) k ⟨sc,hJ x w,mz⟩ K X a0i:=λd=>by
  induction d with
   |zero=>intro k w acc hd _ N;exact rwL nE;refine z acc k _ ? _;have hd:k=ka:=hd;rewrite [a5z (O1 hd.symm)];replace N:=List.drop_eq_nil_of_le (O1 hd.symm)▸N;replace N:=List.filter_nil▸N;replace N:=List.map_nil▸N;rewrite [TX]at N;exact N
   |succ d e=>
    intro k w acc hd c N;have a:k<ka:=hd▸YK;have j:bm+d=ka:=by rewrite [XE];exact hd
    exact rwL nE;refine z acc k _ ? _;rewrite [F4 a];replace N:=List.drop_eq_getElem_cons a▸N;generalize Z:vs[k]=v at N;have Z:TL =d0:=by rewrite [F4 a,Z];try rfl
    refine M acc k v Z w _ ? _;refine qM b4 b4;. refine y acc k v Z q _ ? _;refine aK (f:=λg=>(match g with| Oj=>i4 ZG (cQ i (bC (vs++[f v])))|_=>a8)>>=_) (dh W) ? _;refine dT (ei c (ei (OZ a) T)) ? _;show VE (d+1) bm ⟨sc,hJ x d0,mz⟩ K X ((pj i (bC acc)).upd i (bC (acc++[f v])));exact rwL gk;refine e bm d0 (acc++[f v]) j (by exact rwL Qi;exact Nat.succ_le_succ c) ? _;replace N:=XA q▸N;replace N:=a2f▸N;rewrite [List.append_assoc];exact N
    . refine e bm d0 acc j (a0e c) ? _;rewrite [YR (by ext OI;exact WC)]at N;exact N
 exact S ka 0 ap [] (Ow _) (oa 0) N
section E
section
set_option backward.match.sparseCases false
open PySem
def JI(l:e_)[z1]:hC:=match l[i]? with|aj (TG P4 _)=>e|_=>w0
def uf(l:e_)[z1]:hC:=match l[i]? with|aj (UG _ e _)=>e|_=>w0
structure Lc where
  elt : hC
  tgt : hC
  ifs : eP
  sc : Scope
def Du:hC->Lc
 | a2E sc _=>match gens with|[]=>⟨elt,elt,[],sc⟩|⟨t,_,ifs,_⟩::_=>⟨elt,t,ifs,sc⟩
 |e=>⟨e,e,[],w0⟩
abbrev bf[m5]:Id:= nn X'
theorem Bx{u:cv}[RN]{x y:E u}{K:u->ef}[l2][f_](h:c)(N:Vs):(if c then x else y) K X m:=by exact rwL Pa;exact N
theorem dE{u Y:cv}[RN]{x y:E u}{f:u->E Y}[C_](h:c)(N:(x>>=f) K X m):((if c then x else y)>>=f) K X m:=by exact rwL Pa;exact N
theorem gD[tz][eX][q']{f:Nat->E Y}[C_](h:Fc=aj Oj)(N:f ka K X m):(cj eF>>=f) K X m:=mq (g:=λvs=>a_ ka) h N
def xh:Lc:=Du (JI (bq fI Xa) 0)
abbrev uQ(q:V)[m5]:ac:=iD [(P_,jy),(OC,q)] [OC] m
theorem By[jm](q:V)[p3]:kz (OH Xa) [jy,q] K X m=(bE jy "places">>=λsrc=>TM>>=λn=>(if(bg xh.tgt src&&bJ xh.sc)=am then ci 493 ej>>=λi=>cF (dx (wb n_ 38) xh.elt xh.tgt xh.ifs src i cp 0 ⟨xh.sc,[],[(OC,NQ)]⟩)>>=Y9 else a8)) K X (uQ q m):=by kernel_rfl
theorem vF[jm](w:ii)[hB](c:Id)[UL]:(cV xh.tgt f5 ⟨xh.sc,hJ Vr w,[(OC,c)]⟩>>=λloc=>bK (wb n_ 38) .And xh.ifs ⟨xh.sc,loc,[(OC,c)]⟩>>=T4) K X m=(a8B>>=λb=>kp (bE f5 "parent">>=λv=>aX c>>=λo=>(match o with| f2 (aj u)=>a_ u|_=>a8)>>=λu=>uO v u>>=λb=>a_ b) A'>>=λb=>SK>>=λb=>G [(Vr,f5)] b) K X m:=by exact dl8 f w j c G K X m;ext UV
abbrev ac.at[m5](s:Nat)(l:d_):ac:=⟨oq l m.L⟩
theorem cK[f_]{s t k:Nat}{l:d_}(h:t≠s):(m.at s l).H Uo=m.H Uo:=by show(hK (oq l m.L))[k]? =(hK m.L)[k]?;exact a3 aZ Rt;rfl
theorem cy.other[e3]{P:h8}[f_]{s:Nat}{l:d_}[Uk](H:(1000726==s||460==s||1000460==s)=av):cy n P (m.at s l):=by rewrite [a3s]at H;rewrite [a3s]at H;rewrite [a1E]at H;rewrite [a1E]at H;rewrite [a1E]at H;exact⟨aZ.trans ((b9 H.1.1).trans h.tab),aZ.trans ((b9 H.1.2).trans h.pl),aZ.trans ((b9 H.2).trans h.ps),h.ch,h.sm⟩
theorem nF[f_]{B:dd}[N2]:(iD B [x] m).H NQ=aj (f2 a0J):=by exact a3 (show(iD B [x] m).H NQ=_ from ww) (c4 ⟨rfl,nl⟩);rewrite [RT];rfl
def jz(P:h8)(q:V):OO| a2 (bv _ j)=>bu m3&&gx (P j).par q|_=>av
def xk(P:h8):a5:=∀j,(P j).par= a1\/(P j).par= js
theorem dI[f_]{s:Nat}{o o':ae}:(v2 s o).upd (bv s (m.c s)) o'=v2 s o':=by show ac.mk (oq ((az s WS).set _ o') WS)=ac.mk WS;exact ec aZ s_ ic;congr 2;exact(List.set_append_right _ _ nl).trans (by rewrite [RT];rfl)
theorem Hu[g_][eX]{K:b2->ef}[l2][f_](h:v= a1\/v= js)(N:K (gx v eF) m):(uO v eF) K X m:=by
 rcases h with rfl|rfl;. exact N
 . exact N
def cR(P:h8)(q:V)[f0]:b5:=(aF (λj=> f5) cp).filter (jz P q)
theorem qO{f n q:Nat}{P:h8}[N5][Uk](b:xk P)(N:K (a2 WA) (a0b (bC T8))):kz (OH Xa) [jy,N6] K X m:=by
 exact dl7 f n q P K X m;rewrite [By];have H:cy n P (uQ N6 m):=h.other (by decide);refine aC (v:= SX) H.table (by kernel_rfl) (by kernel_rfl) ? _;refine gD H.places (Bx (by kernel_rfl) ? _);generalize g:uQ N6 m=m1 at N H;have L:m1.c 493=m.c 493:=by exact rwR g;exact a0u (aZ.trans (b9 (by decide)))
 have d:m1.H NQ=aj (f2 (aj N6)):=by exact rwR g;exact nF.trans (by kernel_rfl)
 replace N:=G' L▸N;have W:(Pc 493 ej).H a1z=Rx:=by ext SW
 show dx (wb n_ 38) xh.elt xh.tgt xh.ifs SX a1z ((XM cp).length+1) 0 ⟨xh.sc,[],[(OC,NQ)]⟩ (λJ m'=>K (og a1z) m') wj (Pc 493 ej);exact rwR (fX W);have r:∀acc,cy n P ((Pc 493 ej).upd a1z (bC acc)):=λacc=>cy.other (cy.other H (by decide)) (by decide);have c:∀acc,((Pc 493 ej).upd a1z (bC acc)).H NQ=aj (f2 (aj N6)):=λacc=>(cK (by decide)).trans ((cK (by decide)).trans d)
 have a:∀[v1][g_],(XM cp)[k]? =d0->k<=n/\v= a2 (aq k):=λ{k v}e=>by
  ext a0M;exact bcH N (k<cp);. replace e:=c4 N▸e;exact⟨oc N,XY⟩
  . ext a3m
 refine fK (x:=Vr) (p:=jz P N6) (f:=id) (o:= ej) ? _ ? _ ? _ ? _ ? _ ? _;. exact W
 . exactλacc k G A=>ff (r acc).places A
 rotate_left 2;. ext QF;exact ei (Nat.succ_le_succ h.sm) (by decide)
 . exact rwL dI;ext a0k;exact N
 .ext a37;ext a40;refine(vF f w k NQ G _ _ _).mpr ? _;have O:=(r acc).proc t;refine cz O (by kernel_rfl) ? _;show a5k [a2 (aq k)] _ _ _;refine qN O ? _;have A:G [(Vr,a2 (aq k))] (bu (P k)&&gx (P k).par N6) (λJ m'=>K (og a1z) m') wj _:=A;show(gm (bu (P k)) _ _>>=_) _ _ _;refine dy Va Va;. refine aC (v:=(P k).par) O (by kernel_rfl) (by kernel_rfl) ? _;refine aK (f:=λo=>(match o with| f2 (aj u)=>a_ u|_=>a8)>>=_) (c acc) ? _;refine Hu (b k) ? _;replace A:=R▸A;cases T:gx (P k).par N6<;>(replace A:=T▸A;exact A)
  . replace A:=R▸A;exact A
 . intro acc k v Z O G A;ext a40;exact A
section E
section
set_option backward.match.sparseCases false
open PySem
def jA:Id:= Yi 0
theorem yW[Wo](s:Int)[p3](h:a33=av):a44 K X m=(gm (s==0) (gy wd Yh NS) (gy wd X9 NS)>>=a57) K X m:=by
 have e:a44 K X m=(gm a33 a8 QK>>=λJ=>gm (s==0) (gy wd Yh NS) (gy wd X9 NS)>>=a57) K X m:=by kernel_rfl
 exact a3 e h;rfl
def bB(s:Int)(p:Pp):Pp:=⟨p.rc,m4,bif s==0 then av else p.ro,bif s==0 then p.wo else av⟩
def gS(p:Pp):b2:= ! p.ro&& ! p.wo
theorem vG{f i:Nat}{s sz:Int}{p:Pp}[N5](h:a0a)(Z:a33=av)(N:K (hP (gS R1)) (pj nL (KI R1))):a44 K X m:=by
 exact dl8 f i s sz p K X m;exact rwL (yW _ _ _ _ _ _ Z)
 have e:a0a->∀(a:Str)(q:Pp),KI q= Om hL (dS a NS [("ident",f6),(SJ,a4 sz),("ring",a2 D4),(V0,a4 p.rc),(WQ,a4 m4),(Yh,hP p.ro),(X9,hP p.wo)])->(eM hL a&&fl (7<=1000))=am->q=R1->(gy wd a NS>>=a57) K X m:=λh a q g u j=>by
  refine fc h u ? _;subst j;exact rwL (show ae.inst hL (dS a NS _)=KI R1 from g.symm);have h':=dh (a:=KI R1) h;refine aC (v:= hP (bB s p).ro) h' (by kernel_rfl) (by kernel_rfl) ? _;unfold gS at N;show gm (!(bB s p).ro) _ _ _ _ _;refine qM b4 b4;. refine aC (v:= hP (bB s p).wo) h' (by kernel_rfl) (by kernel_rfl) ? _;replace N:=q▸N;exact N
  . replace N:=q▸N;show K (OK (!(bB s p).ro)) _;ext OI;exact N
 refine dy (λq=>e h Yh R1 ? _ (by kernel_rfl) rfl) λq=>e h X9 R1 ? _ (by kernel_rfl) rfl;. unfold bB;ext OI;kernel_rfl
 . unfold bB;ext OI;kernel_rfl
theorem JJ[Wo](s:Int)[p3]:kz (.fn Qr A_) [a2 jA,wd,a4 s] K X m=((aX nL>>=λM=>if ed M A_=am then aX nL>>=λM=>cA n_ nL M A_ [a4 s]else a8)>>=cG>>=λb=>kp (bE (a2 jA) "pipes">>=λd=>(dB d λa=>aX a>>=λM=>(if ed M "get"=am then N3 "ident">>=λk=>aX a>>=λM=>cA n_ a M "get" [k]else a8))>>=λr=>uO r wd>>=λb=>SK) A'>>=λb=>kp (bE (a2 jA) "pipes">>=λd=>N3 "ident">>=λk=>kO d k>>=λJ=>V7) V7) K X m:=by kernel_rfl
def vH(o:ae):Pp:=⟨qb V0 o,qb WQ o,Br Yh o,Br X9 o⟩
theorem Hv{f i n:Nat}{s sz:Int}{p:Pp}{S:RO}[N5](h:a0a)(Z:a33=av)(I:m.H jA=a6k)(l:m.H NO=aj (lI S))(T:QA<=1000)(D:gS R1=am->dp Of S=aj wd)(N:K a1 ((pj nL (KI R1)).upd NO (lI (bif gS R1 then fC Of S else S)))):kz (.fn Qr A_) [a2 jA,wd,a4 s] K X m:=by
 exact gs f i n s sz p S K X m;rewrite [JJ];refine cz h (by kernel_rfl) ? _;show a44 _ _ _;refine vG h Z ? _;have H:=dh (a:=KI R1) h;have b:(pj nL (KI R1)).H jA=_:=(cK (by decide)).trans I;have a:(pj nL (KI R1)).H NO=_:=(cK (by decide)).trans l;generalize pj nL (KI R1)=m1 at*;show(gm (gS R1) _ _>>=_) K X m1;refine dy b4 b4;. replace N:=q▸N;have D:=D q;refine aC (v:= a2 NO) b (by kernel_rfl) (by kernel_rfl) ? _;refine aK (f:=λM=>(if ed M "get"=am then N3 "ident">>=λk=>aX NO>>=λM=>cA n_ NO M "get" [k]else a8)>>=_) a ? _;refine aC (v:= f6) H (by kernel_rfl) (by kernel_rfl) ? _;refine aK (f:=λM=>cA n_ NO M "get" [f6]>>=_) a ? _;show(uO ((dp Of S).getD a1) wd>>=_) _ _ _;exact rwL D;show(gm (fl (nL=nL)) TA A'>>=_) K X m1;exact rwL (T0 rfl);refine aC (v:= a2 NO) b (by kernel_rfl) (by kernel_rfl) ? _;refine aC (v:= f6) H (by kernel_rfl) (by kernel_rfl) ? _;refine aK (f:=λM=>(match M with| lI es=>dX f6 λk=>if(dp k es).isSome&&a4g then cQ NO (lI (fC k es))else a8|_=>a8)>>=_) a ? _;refine dE (x:=cQ NO (lI (fC Of S))) (y:=a8) (c:=((dp Of S).isSome&&fl (QA<=1000))=am) ? _ N;exact a3 D (T0 T);rfl
 . replace N:=q▸N;have e:m1.upd NO (lI (bif av then fC Of S else S))=m1:=fX a;replace N:=e▸N;exact N
section E
section
set_option backward.match.sparseCases false
open PySem
theorem aI{u Y i:cv}{x:E u}{g:u->E Y}{f:Y->E i}{K:i->ef}[l2][f_](h:(x>>=λa=>g a>>=f) K X m):((x>>=g)>>=f) K X m:=h
theorem bX[tz]{i:Int}{f:Rq}[C_](h: -dF<i/\i<dF)(N:f f6 K X m):(bV i>>=f) K X m:=dT (x:=a_ (j1 i)>>=f) h N
def dK:Id:= Yi 1
def sG:Lc:=Du (uf (bq r_ A_) 4)
abbrev qP(q:V)[m5]:ac:=iD [(P_,Ru),("file",q)] ["file"] m
abbrev bP(c:Id):E V:=aX c>>=λo=>a1a
abbrev vI[w'][xi][SC][Vw]:E V:=aX i>>=λM=>a6o
theorem Es(f x:Nat)[p3]:n_ (.fn U8 "side") [RS] K X m=(bE RS "writable">>=cG>>=λb=>kp (a_ (j1 1)) (a_ (j1 0))) K X m:=by kernel_rfl
theorem Gm[jm](q:V)[p3]:Y5 (.fn r_ A_) [Ru,q] K X m=(QR>>=λv=>bE v We>>=λh=>aY h tt YS>>=λb=>kp (a8:E l0) QK>>=λJ=>QR>>=λv=>bE v We>>=λh=>gM h tt>>=λb=>kp (QR>>=λv=>bE v "kind">>=λk=>(if pO k (c1 N1)=am then gM k (c1 N1)>>=W4 else a8)>>=λb=>SK) A'>>=λb=>kp (bE Ru "journal">>=λj=>(dB j λi=>vI kz i "begin" [])>>=λJ=>QK) QK>>=λJ=>QR>>=λv=>bE v We>>=λh=>aY h tt a1V>>=λh=>gy v We h>>=λJ=>QR>>=λv=>bE v We>>=λh=>aY h l1 a5n>>=λb=>kp V7 (bE Ru "open">>=λsrc=>TM>>=λn=>(if(bg sG.tgt src&&bJ sG.sc)=am then ci 310 ej>>=λi=>cF (dx (wb kz 38) sG.elt sG.tgt sG.ifs src i cp 0 ⟨sG.sc,[],[("file",NQ)]⟩)>>=Y9 else a8)>>=λN=>gy Ru "open" N>>=λJ=>QR>>=λv=>bE v "kind">>=λk=>gM k (c1 N1)>>=λb=>kp (bE Ru "pipes">>=λp=>(dB p λd=>aX d>>=λM=>if ed M A_=am then QR>>=λv=>bE v N1>>=λG=>QR>>=λv=>(dB v λQ=>vI kz Q "side" [])>>=λT=>aX d>>=λM=>cA kz d M A_ [G,T]else a8)>>=λJ=>V7) a8)) K X (qP q m):=by kernel_rfl
theorem Et[jm](w:ii)(u:V)(c:Id)[UL]:(cV sG.tgt u ⟨sG.sc,hJ Vr w,[("file",c)]⟩>>=λloc=>bK (wb n_ 38) .And sG.ifs ⟨sG.sc,loc,[("file",c)]⟩>>=T4) K X m=(bP c>>=λv=>uO u v>>=λb=>gm (! b) TA A'>>=λb=>G [(Vr,u)] b) K X m:=by ext UV
def vJ(most:Int)(o:Id):ae:= Om r_ [("most",a4 most),("pipes",a2 jA),("nodes",a1),("journal",a1),("devices",a2 (bv 727 0)),("block",a4 16),("open",a2 o)]
def qc(x:Nat):OO| eF=> ! fl (i=bS x)|_=>av
def eY(x:Nat):Int:=bif x%2==1 then 1 else 0
theorem aT[f_]{s:Nat}{o b:ae}{j:Id}(h:m.H j=ck):(v2 s b).H j=ck:=by exact rwL dA;refine(b9 b4).trans h;subst q;replace h:=(show m.H (bv s (m.c s))=ap from i8 (j:=0))▸h;ext rs
theorem Eu{f x:Nat}{h:Int}[N5](d:m.H (bS x)=aj (cX x h))(H:2<=h/\h<=1000)(N:K a1 (YF (cX x (h-1)))):Y5 (.fn r_ A_) [Ru,RS] K X m:=by exact dl6 f x h K X m;rewrite [Gm];have L:(qP RS m).H NQ=aj (f2 (aj RS)):=nF.trans (by kernel_rfl);have F:(qP RS m).H (bS x)=aj (cX x h):=(cK (by decide)).trans d;have C:∀[a7O],a9I:=λL D=>aK (f:=λo=>a1a>>=_) L D;refine C L (aC (v:= a4 h) F (by kernel_rfl) (by kernel_rfl) ? _);show(gm (fl (h<1)) _ _>>=_) K X _;exact rwL (S1 (by refine bn (nat_lit 0x1c1a110019002110) [] a7 H.1 a0));refine C L (aC (v:= a4 h) F (by kernel_rfl) (by kernel_rfl) (bY (r:=h==1) rfl ? _));exact rwL (show(h==1)=av from RL (by refine bn (nat_lit 0x1c1b110019002110) [] a7 H.1 a0));refine C L (aC (v:= a4 h) F (by kernel_rfl) (by kernel_rfl) (dT (aQ (by refine c6 (nat_lit 0x1e19000f424024110019411008000f4240219002119000003e820010) [] a7 H.1 H.2 a0)) ? _));refine fc F (by kernel_rfl) ? _;exact rwL (show ae.inst U8 (dS We (a4 (h-1)) _)=cX x (h-1)by kernel_rfl);have a:(YF (cX x (h-1))).H NQ=_:=(cK (by decide)).trans L;refine C a (aC (v:= a4 (h-1)) (dh F) (by kernel_rfl) (by kernel_rfl) ? _);show gm (fl (0<h-1)) _ _ K X _;exact rwL (T0 (by refine bn (nat_lit 0x11a411000119002110) [] a7 H.1 a0));exact N
theorem Hw{f x n:Nat}{sz most:Int}{u:Id}{p:Pp}{L:b5}{S:RO}[N5](d:m.H (bS x)=aj (cX x 1))(d8:m.H dK=aj (vJ most u))(k7:m.H u=T7)(P:(u.1==310||u.1==266)=am)(z:∀v∈L,∃i,v= eF)(B:PV<=1000)(O:m.H Tv=aj (aS sz hI p))(f7:m.H jA=a6k)(l:m.H NO=aj (lI S))(T:QA<=1000)(c7:gS (Vc p)=am->dp a1Z S=aj (a2 Tv))(N:K a1 (((((YF (cX x 0)).mk1 310 a5j).upd dK (vJ most (TJ (m.c 310)))).upd Tv (aS sz hI (Vc p))).upd NO (lI (bif gS (Vc p)then fC a1Z S else S)))):Y5 (.fn r_ A_) [Ru,RS] K X m:=by
 revert X m;exact gs f x n sz most u p L S K;exact dl2 X m;rewrite [Gm];obtain⟨y,e8⟩:=u;have P:(y==310||y==266)=am:=P;have i6:∀t,(t==310||t==266)=av->y≠t:=λt e q=>by replace e:=G' q▸e;replace e:=P▸e;exact sK e
 have e9:(qP RS m).H NQ=aj (f2 (aj RS)):=nF.trans (by kernel_rfl);have F:(qP RS m).H (bS x)=aj (cX x 1):=(cK (by decide)).trans d;have C:∀[a7O],a9I:=λe9 c7=>aK (f:=λo=>a1a>>=_) e9 c7;refine C e9 (aC (v:= tt) F (by kernel_rfl) (by kernel_rfl) ? _);refine C e9 (aC (v:= tt) F (by kernel_rfl) (by kernel_rfl) (bY (r:=am) rfl ? _));refine C e9 (aC (v:= c1 N1) F (by kernel_rfl) (by kernel_rfl) (dE (by kernel_rfl) (aI (bY (r:=am) (by kernel_rfl) ? _))));refine C e9 (aC (v:= tt) F (by kernel_rfl) (by kernel_rfl) (bX (i:=1-1) (aQ (by decide)) ? _));refine fc F (by kernel_rfl) ? _;exact rwL (show ae.inst U8 (dS We (a4 (1-1)) _)=cX x 0 by kernel_rfl);have c8:Y8 NQ=_:=(cK (by decide)).trans e9;have k6:Y8 (bS x)=_:=dh F;have c:∀{t k:Nat},t≠2000000->t≠1000285->Y8 Uo=m.H Uo:=λa b=>(cK b).trans (cK a);have H:Y8 dK=_:=(c (by decide) (by decide)).trans d8;have j9:Y8 (bv y e8)=_:=(c (i6 _ (by decide)) (i6 _ (by decide))).trans k7;have d9:Y8 Tv=_:=(c (by decide) (by decide)).trans O;have i7:Y8 jA=_:=(c (by decide) (by decide)).trans f7;have i9:Y8 NO=_:=(c (by decide) (by decide)).trans l;have j8:(YF (cX x 0)).c 310=m.c 310:=a0u (aZ.trans ((b9 (by decide)).trans (aZ.trans (b9 (by decide)))));replace N:=G' j8▸N;generalize YF (cX x 0)=R at*;refine C c8 (aC (v:= l1) k6 (by kernel_rfl) (by kernel_rfl) ? _);refine aC (v:= a2 (bv y e8)) H (by kernel_rfl) (by kernel_rfl) (gD j9 (dE ? _ ? _))
 .have e:(bg sG.tgt (a2 (bv y e8))&&bJ sG.sc)=(bg sG.tgt OW&&bJ sG.sc):=by kernel_rfl
  ext Zp
 have W:(R.mk1 310 ej).H Z7=Rx:=by ext SW
 have r:∀{j:Id}{o:ae}(a:ae),R.H j=ck->(R.mk1 310 a).H j=ck:=λa h=>aT h;show dx (wb kz 38) sG.elt sG.tgt sG.ifs (a2 (bv y e8)) Z7 (PV+1) 0 ⟨sG.sc,[],[("file",NQ)]⟩ _ wj (R.mk1 310 ej);exact rwR (fX W);refine fK (x:=Vr) (p:=qc x) (f:=id) (o:= ej) ? _ ? _ ? _ ? _ ? _ ? _;. exact W
 . intro acc k G A;rw [dI]at A⊢;exact ff (r _ j9) A
 rotate_left 2;. exact B
 .exact rwL dI;ext a0k;refine fc (r _ H) (by kernel_rfl) ? _;exact rwL (show ae.inst r_ (dS "open" (a2 Z7) _)=vJ most Z7 by kernel_rfl);have f8:∀{j:Id}{o:ae},j≠dK->R.H j=ck->((R.mk1 310 a5j).upd dK (vJ most Z7)).H j=ck:=λD h=>by exact rwL (kM (r _ H));exact(b9 D).trans (r _ h)
  have i0:=f8 (by intro q;cases q) c8;have j6:=f8 (by intro q;cases q) k6;have k5:=f8 (by intro q;cases q) d9;have i8:=f8 (by intro q;cases q) i7;have e6:=f8 (by intro q;cases q) i9;have j7:=dh (a:=vJ most Z7) (r a5j H);generalize(R.mk1 310 a5j).upd dK (vJ most Z7)=i5 at*;refine C i0 (aC (v:= c1 N1) j6 (by kernel_rfl) (by kernel_rfl) (bY (r:=am) (by kernel_rfl) ? _));refine aC (v:= a2 jA) j7 (by kernel_rfl) (by kernel_rfl) ? _;refine aK (f:=λM=>(if ed M A_=am then QR>>=λv=>bE v N1>>=λc9=>QR>>=λv=>(dB v λQ=>vI kz Q "side" [])>>=λf9=>aX jA>>=λM=>cA kz jA M A_ [c9,f9]else a8)>>=_) i8 (dE (by kernel_rfl) ? _);refine C i0 (aC (v:= a2 Tv) j6 (by kernel_rfl) (by kernel_rfl) (C i0 ? _));refine cz j6 (by kernel_rfl) ? _;show kz (.fn U8 "side") [RS] _ _ _;rewrite [Es];refine aC (v:= hP (x%2==1)) j6 (by kernel_rfl) (by kernel_rfl) ? _;have I:∀s:Int,eY x=s->a33=av->(aX jA>>=λM=>cA kz jA M A_ [a2 Tv,a4 s]) (λJ m'=>K a1 m') X i5:=λs e e7=>by refine aK (f:=λM=>cA kz jA M A_ [a2 Tv,a4 s]) i8 ? _;show kz (.fn Qr A_) [a2 jA,a2 Tv,a4 s] _ _ _;rw [e]at c7 N;exact Hv k5 e7 i8 e6 T c7 N
  show gm (x%2==1) _ _ _ _ _;exact qM (λq=>I 1 (by unfold eY;ext OI;rfl) (by decide)) λq=>I 0 (by unfold eY;ext OI;rfl) (by decide)
 .ext a37;refine db (z v (SP Z)) Yn;subst U;refine(Et ..).mpr ? _;rw [dI]at A⊢;refine C (r _ c8) ? _;show(gm (! fl (i=bS x)) _ _>>=_) _ _ _;have A:G [(Vr,eF)] (! fl (i=bS x)) _ _ _:=A;refine dy b4 b4;. ext a1G
  . ext a1G
 . intro acc k v Z O G A;exact A
section E
section
set_option backward.match.sparseCases false
open PySem
theorem aV{u Y:cv}[RN]{x:E u}{f:u->E Y}[C_](h:c)(N:(x>>=f) K X m):(i4 c x>>=f) K X m:=dT (x:=x>>=f) h N
theorem xl[tz][OP]{f:Rq}[C_](h:Zk)(N:f (a4 nw) K X m):(kP hj>>=f) K X m:=aV (x:=a_ (j1 nw)) h N
theorem ug[tz][OP][v1]{f:ii->E Y}[C_](N:f a7N K X m):(fu hj k>>=f) K X m:=N
abbrev Hx:hC:=yR (bq hL Oe) 2
abbrev Lh:e_:=yS (bq hL Oe) 2
theorem Ew[Wo][p3]:kz (.fn hL "room") [wd] K X m=(N3 SJ>>=λs=>vI n_ nL "waiting" []>>=λw=>aY s w a1V) K X m:=by kernel_rfl
theorem ph[Wo][p3]:n_ Z6 [wd] K X m=(N3 WQ>>=λs=>N3 V0>>=λw=>aY s w a1V) K X m:=by kernel_rfl
abbrev Gn[z1](b:d7)(t:Int)(w:dd):dd:=(P_,wd)::("octets",hj)::("taken",Ph)::w
theorem Go[Wo](b:d7)[p3]:Y5 (.fn hL Oe) [wd,hj] K X m=(N3 Yh>>=cG>>=λo=>gm (! o) (a_ (V.tup [l1,a4 2])) (kP hj>>=λl=>vI kz nL "room" []>>=λr=>aY l r (λa b=>a_ (j1 (if b<a then b else a)))>>=λt=>(km 0 hj a1 t a1>>=λsrc=>TM>>=λn=>if bg Hx src=am then cF (bF WY Hx Lh src cp 0 ⟨cu hL Oe,[(P_,wd),("octets",hj),("taken",t)],[]⟩)else a8)>>=λr=>a8I>>=λr=>YC)) K X m:=by kernel_rfl
theorem Ex[tz][Wo](b:d7)(u:UInt8)(t:Int)(w:ii)(G:m_->E Y)[WX]:(cV Hx (a4 Ts) ⟨cu hL Oe,Gn i b t (hJ "octet" w),[]⟩>>=λloc=>aB WZ Lh ⟨cu hL Oe,loc,[]⟩>>=G) K X m=(N3 "ring">>=λr=>N3 WQ>>=λc=>N3 SJ>>=λs=>aY c s ZQ>>=λj=>e7 r j (a4 Ts)>>=λJ=>N3 WQ>>=λc=>aY c tt (λa b=>bV (a+b))>>=λc=>gy wd WQ c>>=λJ=>G (hH,Gn i b t [("octet",a4 Ts)])) K X m:=by ext UV
theorem Hy[Wo](b:d7)(t:Int)(w:dd)(K:lR)[Qe]:a0x ((bq hL Oe).drop 3) ⟨cu hL Oe,Gn i b t w,[]⟩ K X m=(kP hj>>=λl=>gM Ph l>>=λq=>gm q (a_ (j1 0)) (a_ (j1 1))>>=λs=>a_ (Fl.ret (hD [Ph,s]),Gn i b t w)) K X m:=by kernel_rfl
theorem lu{u:cv}{I:dk u}{a W:x0}{A B:Nat}(e:sliceBounds a W ap kN=((A:Int),(B:Int),1)):bO I a W ap=(I.drop A).take (B-A):=by unfold bO;ext ea;show(sliceRange (A:Int) (B:Int) 1).filterMap (I[·]?)=_;rewrite [sliceRange_one];generalize B-A=k;induction k with|zero=>rfl|succ k G=>rewrite [List.range_succ,List.map_append,List.filterMap_append,G,List.take_add_one,List.getElem?_drop];congr 1
theorem lw(n a:Nat):clipAt n (a:Int)=min a n:=by
 unfold clipAt;rewrite [b9 (Int.not_lt.mpr (TT a))];rcases Nat.le_total a n with h|h;. exact ec (Int.min_eq_left (a0j h)) (Int.max_eq_right (TT _)) (SZ h);exact a1M _
 . exact ec (Int.min_eq_right (a0j h)) (Int.max_eq_right (TT _)) (Nat.min_eq_right h);exact a1M _
theorem pq(n A B:Nat)(G W:x0)(H:G=ap/\A=0\/G=aj (A:Int)/\A<=n)(F:W=ap/\B=n\/W=aj (B:Int)/\B<=n):sliceBounds G W ap n=((A:Int),(B:Int),1):=by
 have e:∀a:Nat,a<=n->clipAt n (a:Int)=a:=λa h=>(lw n a).trans (SZ h);rewrite [sliceBounds_plain];have l:G.elim 0 (clipAt n)=A:=H.elim (λh=>by exact a3 (h.1) (h.2);rfl) λh=>by exact rwL (h.1);exact e A h.2
 have r:W.elim n (clipAt n)=B:=F.elim (λh=>by exact a3 (h.1) (h.2);rfl) λh=>by exact rwL (h.1);exact e B h.2
 exact a3 l r;rfl
theorem yX{u:cv}{I:dk u}{a b:Nat}:bO I C1 C2 ap=(I.drop (min a kN)).take (min b kN-min a kN):=lu (by rewrite [sliceBounds_plain];show(((clipAt _ (a:Int):Nat):Int),((clipAt _ (b:Int):Nat):Int),_)=_;exact a3 (lw kN a) (lw kN b);rfl)
theorem uh{u:cv}{I:dk u}{a b:Nat}:(I.drop a).take (min b kN-a)=(I.drop a).take (b-a):=by
 exact bcH M (b<=kN);. exact rwL (SZ M);rfl
 . have M:=Nat.le_of_not_le M;have l:(I.drop a).length<=kN-a:=O1 XO;exact ec (Nat.min_eq_right M) (a3g l) (a3g (ei l (Nat.sub_le_sub_right M a)));rfl
theorem ui{u:cv}{I:dk u}{a b:Nat}(h:a<=kN):bO I C1 C2 ap=(I.drop a).take (b-a):=by exact a3 yX (SZ h);exact uh
theorem vK{u:cv}{I:dk u}{a:Nat}(h:a<=kN):bO I C1 ap ap=I.drop a:=by exact rwL (lu (pq kN a kN _ _ (ba ⟨rfl,h⟩) (b7 s4)));exact a3g (O1 XO)
theorem kF{u:cv}{I:dk u}{b:Nat}:bO I ap (aj (b:Int)) ap=I.take b:=(lu (A:=0) (B:=min b kN) (by rewrite [sliceBounds_plain];show(_,((clipAt _ (b:Int):Nat):Int),_)=_;exact rwL (lw kN b);rfl)).trans (uh (a:=0))
theorem qQ{s t:Nat}(h:s≠t){a b:d_}:∀{L:M_},az s L≠[]->oq a (bo t b L)=bo t b (oq a L):=λ{L}=>by
 induction L with
  |nil=>exactλh=>O9 h
  |cons p r G=>
   obtain⟨x,l⟩:=p;intro H;have H:bL (c0 x s) l (az s r)≠[]:=H;show oq a (bL (c0 x t) ((t,b)::r) ((x,l)::bo t b r))=bo t b (bL (c0 x s) ((s,a)::r) ((x,l)::oq a r));refine cO (c0 x t) Va Va;. exact rwL (fR λe=>h (a0I (TQ R)));show WT _ ((t,b)::oq a r)=bL (c0 x t) _ _;exact a3 (fR (LL h)) R;rfl
   .show bL (c0 x s) _ ((x,l)::oq a (bo t b r))=_;refine cO (c0 x s) RY RY;. show _=bL (c0 s t) _ ((s,a)::bo t b r);exact rwL (fR h);rfl
    . replace H:=T▸H;show(x,l)::oq a (bo t b r)=bL (c0 x t) _ ((x,l)::bo t b (oq a r));exact a3 R (G H);rfl
theorem xm[f_]{s j:Nat}{o:ae}(H:m.H Vf=ck):Yx≠[]:=λq=>by replace H:=(show m.H Vf=Yx[j]? from rfl)▸H;replace H:=q▸H;exact bG H
theorem pu[f_]{s t j k:Nat}{a b o o':ae}(h:s≠t)(H:m.H Vf=ck)(_:m.H Uo=aj o'):(pj Uo b).upd Vf a=(pj Vf a).upd Uo b:=by show a94=ac.mk (bo t ((hK WS).set k b) WS);refine a8Z;rfl
theorem iN[f_]{s t j:Nat}{a b o:ae}(h:s≠t)(H:m.H Vf=ck):(v2 t b).upd Vf a=(pj Vf a).mk1 t b:=by show a94=ac.mk (bo t (hK WS++[b]) WS);refine a8Z;rfl
def cY(sz g:Int)(b:d7)(y:d7):Nat->d7|0=>y|bm=>(cY sz g b y k).set (xz (g+k) sz).toNat (b[k]?.getD 0)
theorem mr{sz g:Int}{b y:d7}:∀[v1],(cY sz g b y k).length=y.length:=by intro O;induction O with|zero=>exact rfl|succ k G=>show((cY sz g b y k).set _ _).length=_;exact a3 List.length_set G;rfl
def gE(p:Pp)(k:Int):Pp:=⟨p.rc,m4+k,p.ro,p.wo⟩
theorem gF{u Y:cv}{o:ez u}{a:u}{f:u->E Y}[C_](h:o=C1)(N:f a K X m):(QC o>>=f) K X m:=by subst h;exact N
theorem Hz{f i:Nat}{sz:Int}{p:Pp}{b y:d7}[N5](O:a0a)(z:m.H D4=aj (f4 y))(P:p.ro=am)(H:1<=sz/\sz<=1000)(F:(y.length:Int)=sz)(Q:a6u)(C:Wh)(T:Nat)(l:NW=if sz-z_<nw then sz-z_ else nw)(N:K (hD [a4 (if sz-z_<nw then sz-z_ else nw),if NW=nw then l1 else tt]) ((pj D4 (f4 (UT T))).upd nL (KI (gE p T)))):Y5 (.fn hL Oe) [wd,hj] K X m:=by
 revert T;exact dl9 f i sz p b y K X m;exact dl1 T;rewrite [Go]
 have h:T<=nw:=by
  exact bcH q (sz-z_<nw);. replace l:=PH▸l;refine c6 (nat_lit 0x10910001a710442010001b4420100070032) cb eb q l a0
  . replace l:=w2▸l;refine bn (nat_lit 0x10910001b71070002) cb [] l a0
 refine aC (v:= hP p.ro) O (by kernel_rfl) (by kernel_rfl) ? _;show gm (! p.ro) _ _ _ _ _;exact rwL P;show(kP hj>>=_) K X m;refine xl (ei C (by decide)) ? _;refine cz O (by kernel_rfl) ? _;show kz (.fn hL "room") [wd] _ _ _;rewrite [Ew];refine aC (v:= a4 sz) O (by kernel_rfl) (by kernel_rfl) ? _;refine cz O (by kernel_rfl) ? _;show n_ Z6 [wd] _ _ _;rewrite [ph];refine aC (v:= a4 m4) O (by kernel_rfl) (by kernel_rfl) (aC (v:= a4 p.rc) O (by kernel_rfl) (by kernel_rfl) ? _);refine bX (i:=z_) (aQ (by refine a8q)) ? _;refine bX (i:=sz-z_) (aQ (by refine kq (nat_lit 0x1e19000f424024420100019442010008000f4240219000003e820019102019300201030) [] eb H.2 Q.2.1 Q.2.2.1 a0)) ? _;replace N:=G' l▸N;show((km 0 hj a1 (j1 (if sz-z_<(nw:Int)then sz-z_ else(nw:Int))) a1>>=λsrc=>TM>>=λn=>if bg Hx src=am then _ else _)>>=_) K X m;exact rwR l;refine aI (aV (x:=a_ (V.bytes (bO b ap (aj NW) ap))) ⟨rfl,ei C (show 1000<=16777216 by decide)⟩ ? _);exact a3 (lu (pq nw 0 T ap (aj NW) (b7 s4) (ba ⟨rfl,h⟩))) List.drop_zero;rewrite [Nat.sub_zero];have U:(b.take T).length=T:=by exact a3 SY (SZ h);rfl
 show((if bg Hx (ek (b.take T))=am then cF (bF WY Hx Lh (ek (b.take T)) ((b.take T).length+1) 0 ⟨cu hL Oe,Gn i b T [],[]⟩)else a8)>>=_) K X m;refine dE (by kernel_rfl) ? _;exact rwL U
 have S:∀{K:lR}(_:∀w,K (hH,Gn i b T w) ((pj D4 (f4 (UT T))).upd nL (KI (gE p T))))(d k:Nat)(w:ii),k+d=T->bF WY Hx Lh (ek (b.take T)) (d+1) k ⟨cu hL Oe,Gn i b T (hJ "octet" w),[]⟩ K wj (a4X Zg):=λ{K}N d=>by
  induction d with
   |zero=>intro k w hd;have hd:k=T:=hd;subst hd;exact rwL fe;refine ug ? _;rewrite [a5z (O1 U)];exact N _
   |succ d G=>
    intro k w hd;have a:k<T:=hd▸YK;have c:k<nw:=Os a h;exact rwL fe;refine ug ? _;rewrite [a3L,c4 a,F4 c];refine(Ex OQ i b b[k] T w _ _ _ _).mpr ? _;have A:(pj D4 (f4 (UT k))).H D4=aj (f4 (UT k)):=dh z;have j:(pj D4 (f4 (UT k))).H nL=aj (KI p):=(cK (by decide)).trans O;have t:=dh (a:=Zg) j;have e:(a4X Zg).H D4=aj (f4 (UT k)):=(cK (by decide)).trans A;refine aC (v:= a2 D4) t (by kernel_rfl) (by kernel_rfl) (aC (v:= a4 (m4+k)) t (by kernel_rfl) (by kernel_rfl) (aC (v:= a4 sz) t (by kernel_rfl) (by kernel_rfl) ? _));have o:=a3f (m4+k) (show 0<sz by refine Xv H.1 a0);have L:=a3K (m4+k) (show 0<sz by refine Xv H.1 a0);refine aV (c:=sz≠0) (x:=bV (xz (m4+k) sz)) (by refine a4G H.1 a0) (bX (aQ (by refine a4o H.2 o L a0)) ? _);refine aK (f:=λs=>iB D4 s (a4 (xz (m4+k) sz)) (a4 (b[k].toNat))>>=_) e ? _;have M:=b[k].toNat_lt;refine aV (x:=cQ D4 a8V) (by exact rwL mr;exact⟨o,a1H L (a2t F.symm),by refine c6 (nat_lit 0x109000003e820019000003e82001b0070011) a7 a7 H.2 F a0,by refine a6U,Int.ofNat_lt.mpr M⟩) ? _;have g:((a4X Zg).upd D4 a8V)=(pj D4 (f4 (UT bm))).upd nL Zg:=by rewrite [show(PJ ((b[k].toNat:Int)).toNat)=b[k]?.getD 0 by rewrite [F4 c];exact UInt8.ofNat_toNat];refine(pu (by decide) A j).trans ? _;exact rwL gk;rfl
    show(N3 WQ>>=_) K _ ((a4X Zg).upd D4 _);ext NZ;have B:((pj D4 (f4 (UT bm))).upd nL Zg).H nL=aj Zg:=dh (o:=KI p) ((cK (by decide)).trans O);refine aC (v:= a4 (m4+k)) B (by kernel_rfl) (by kernel_rfl) (bX (i:=m4+k+1) (aQ (by refine lin6 (nat_lit 0x1e19000f42402311370000193113700008000f4240219100119001019000186a020009000003e82100910200b203311300024) Rb cb Q.1 Q.2.1 Q.2.2.2 C h hd a0)) (fc B (by kernel_rfl) ? _));exact ec (show ae.inst hL (dS WQ (a4 (m4+k+1)) _)=KI ⟨p.rc,m4+k+1,p.ro,p.wo⟩by kernel_rfl) gk (show(⟨p.rc,m4+k+1,p.ro,p.wo⟩:Pp)=gE p a10 by unfold gE;rewrite [WR];rfl);exact G bm (aj (a4 b[k].toNat)) (by refine a9X)
 have k0:=S (K:=λr m'=>(a8I>>=λr=>YC) K X m') (λw=>by
  show aB _ _ ⟨cu hL Oe,Gn i b T w,[]⟩ _ X _;rewrite [Hy];refine xl (ei C (by decide)) (bY (r:=NW==(nw:Int)) rfl ? _);refine dy b4 b4;. replace N:=c4 (f1 q)▸N;exact N
  . replace N:=b9 (beq_eq_false_iff_ne.mp q)▸N;exact N) T 0 ap (Ow T);have u:((pj D4 (f4 (UT 0))).upd nL (KI (gE p (0:Nat))))=m:=by exact w3 (show UT 0=y from rfl) (fX z) (show gE p (0:Nat)=p by unfold gE;exact rwL (show m4+((0:Nat):Int)=m4 from T6 _);rfl) (fX O);rfl
 replace k0:=u▸k0;exact k0
section E
section
set_option backward.match.sparseCases false
open PySem
theorem vL[tz]{call:aD}[eX][OP]{u:Int}{f:Rq}[C_](h:0<=u/\u<256/\Wh)(N:f a1 K X (pj i (f4 (b++[PJ Ts])))):(cA bj i (f4 b) Q_ [Qd]>>=f) K X m:=by
 have e:(cA bj i (f4 b) Q_ [Qd]>>=f) K X m=(i4 (0<=u/\u<256/\Wh) (cQ i (f4 (b++[PJ Ts]))>>=λJ=>V7)>>=f) K X m:=by kernel_rfl
 ext ea;exact aV h N
def Nt(l:e_)[z1]:hC:=match l[i]? with|aj (.While t _ _ _)=>t|_=>w0
def Nu(l:e_)[z1]:e_:=match l[i]? with|aj (.While _ b _ _)=>b|_=>[]
abbrev I4:hC:=Nt (bq hL RB) 2
abbrev I5:e_:=Nu (bq hL RB) 2
abbrev zJ[z1](c:Int)(g:Id):dd:=[(P_,wd),("count",a4 c),("given",a2 g)]
theorem Gp[Wo](c:Int)[p3]:a6X=(gm (fl (0<c)) (vI kz nL "waiting" []>>=λw=>gM w l1>>=λb=>kp (N3 X9>>=cG>>=λb=>SK) A') A'>>=λb=>kp (a_ (V.tup [ek [],tt])) (ci 58 (f4 [])>>=λg=>cF (cU WY I4 I5 60 a2Q)>>=λr=>a6b>>=λr=>YC)) K X m:=by kernel_rfl
theorem xn{R:gN}{t:Expr}{b:e_}[e3]{fm:Fm}:cU R t b cp fm=(Qa t fm>>=λq=>gm q (aB R b fm>>=λr=>match r with|kE|Yg=>cU R t b n mc|Yq=>a_ kE|f=>a_ f) X8):=rfl
theorem xo[tz][Wo](c:Int)(g:Id)(G:b2->E Y)[WX]:((wb n_ 39).test I4 a2Q>>=G) K X m=(kP (a2 g)>>=λl=>aY l (a4 c) YS>>=λb=>kp (vI n_ nL "waiting" []>>=λw=>aY w l1 a5n>>=λb=>SK) A'>>=G) K X m:=by kernel_rfl
theorem Ey[tz][Wo](c:Int)(g:Id)(G:m_->E Y)[WX]:(aB WZ I5 a2Q>>=G) K X m=((aX g>>=λM=>if ed M Q_=am then N3 "ring">>=λr=>N3 V0>>=λa=>N3 SJ>>=λs=>aY a s ZQ>>=λj=>be r j>>=λv=>aX g>>=λM=>cA n_ g M Q_ [v]else a8)>>=λJ=>N3 V0>>=λa=>aY a tt (λa b=>bV (a+b))>>=λv=>gy wd V0 v>>=λJ=>G (Pw,zJ i c g)) K X m:=by kernel_rfl
theorem HA[Wo](c:Int)(g:Id)(K:lR)[Qe]:a0x ((bq hL RB).drop 3) a2Q K X m=(lY (a2 g)>>=λv=>a_ (Fl.ret (hD [v,l1]),zJ i c g)) K X m:=by kernel_rfl
def cm(y:d7)(sz r:Int):Nat->d7|0=>[]|bm=>cm y sz r k++[y[(xz (r+k) sz).toNat]?.getD 0]
theorem gv{y:d7}{sz r:Int}:∀[v1],(cm y sz r k).length=k:=by intro O;induction O with|zero=>exact rfl|succ k G=>show(cm y sz r k++a7).length=bm;exact a3 Qi G;rfl
def e6(p:Pp)(k:Int):Pp:=⟨O6,m4,p.ro,p.wo⟩
theorem gT{f i:Nat}{sz:Int}{p:Pp}[N5](O:a0a)(M: Uv<=z_/\z_<=1000000)(N:K (a4 z_) m):n_ Z6 [wd] K X m:=by rewrite [ph];exact aC (v:= a4 m4) O (by kernel_rfl) (by kernel_rfl) (aC (v:= a4 p.rc) O (by kernel_rfl) (by kernel_rfl) (dT (x:=a_ (j1 z_)) (aQ M) N))
theorem Bz{f i:Nat}{sz c:Int}{p:Pp}[N5](O:a0a)(H:0<c)(F:z_=0)(Q:p.wo=am)(N:K (hD [ek [],tt]) m):a6X:=by exact dl8 f i sz c p K X m;rewrite [Gp];show(gm (fl (0<c)) _ _>>=_) K X m;exact rwL (T0 H);refine cz O (by kernel_rfl) ? _;show kz Z6 [wd] _ _ _;refine gT O (by exact rwL F;decide) ? _;exact rwL F;refine bY (r:=am) rfl ? _;refine aC (v:= hP p.wo) O (by kernel_rfl) (by kernel_rfl) ? _;exact rwL Q;exact N
theorem HB{f i:Nat}{sz c:Int}{p:Pp}{y:d7}[N5](O:a0a)(z:m.H D4=aj (f4 y))(H:1<=sz/\sz<=1000)(F:(y.length:Int)=sz)(Q:a6u)(C:0<=c/\c<=50)(Z:(fl (0<c)&&(z_==0&&p.wo))=av)(T:Nat)(l:NW=if z_<c then z_ else c)(N:K (hD [ek (RP T),l1]) (a7C (KI (e6 p T)))):a6X:=by
 revert T;exact dl9 f i sz c p y K X m;exact dl1 T;rewrite [Gp]
 have n:NW<=c/\NW<=z_/\(NW=c\/NW=z_):=by
  exact bcH q (z_<c);. replace l:=PH▸l;refine c6 (nat_lit 0x1eef1b420107001b00700194201070019007001a00420101b4201070031) a7 eb q l a0
  . replace l:=w2▸l;refine c6 (nat_lit 0x1eef1b420107001b0070019420107001900700c1a00420101b0070031) a7 eb q l a0
 have d8:∀(d k:Nat)(c8:lR),k+d=T->c8 (hH,zJ i c Wu) (a7C (KI (e6 p T)))->∀e,cU WY I4 I5 (e+d+1) a4P c8 wj (YI T1):=λd=>by
  induction d with
   |zero=>intro k c8 hd S e;have hd:k=T:=hd;subst hd;have t:(YI T1).H nL=aj T1:=dh (aT O);have D:(YI T1).H Wu=aj (f4 (RP k)):=(cK (by decide)).trans (by ext SW);exact rwL xn;refine(xo ..).mpr (aK (f:=λo=>lX o>>=_) D (aV (x:=a_ (j1 ((RP k).length:Nat))) (by exact rwL gv;refine c6 (nat_lit 0x109010000002001900000032200190070011) a7 a7 C.2 n.1 a0) ? _));exact rwL gv;show(gm (fl ((k:Int)<c)) _ _>>=_) _ _ _;refine dy b4 λq=>S;refine cz t (by kernel_rfl) ? _;show kz Z6 [wd] _ _ _;have q:=a0d q;refine gT t (by show _<=m4-O6/\m4-O6<=_;refine c6 (nat_lit 0x1e19000f42402437001000194370010008000f42402f1b410007001b207001a2070031) a7 eb n.2.2 q a0) ? _;show(gm (fl (0<m4-O6)) _ _>>=_) _ _ _;exact rwL (S1 (by refine c6 (nat_lit 0x1c1a43700100001f1b410007001b207001a2070031) a7 eb n.2.2 q a0));exact S
   |succ d G=>
    intro k c8 hd S e;have t:(YI T1).H nL=aj T1:=dh (aT O);have w:(v2 58 (f4 (RP k))).H Wu=aj (f4 (RP k)):=by ext SW
    have D:(YI T1).H Wu=aj (f4 (RP k)):=(cK (by decide)).trans w;have A:(YI T1).H D4=aj (f4 y):=(cK (by decide)).trans (aT z);exact a3 (show e+(d+1)=e+d+1 from rfl) xn;refine(xo ..).mpr (aK (f:=λo=>lX o>>=_) D (aV (x:=a_ (j1 ((RP k).length:Nat))) (by exact rwL gv;refine kq (nat_lit 0x10901000000200190000003220019007100b103311200013) eb a7 C.2 n.1 hd a0) ? _));exact rwL gv;show(gm (fl ((k:Int)<c)) _ _>>=_) _ _ _;exact rwL (T0 (by refine c6 (nat_lit 0x11a0070019007100b103311200013) eb a7 n.1 hd a0));refine cz t (by kernel_rfl) ? _;show kz Z6 [wd] _ _ _;refine gT t (by show _<=m4-O6/\m4-O6<=_;refine lin4 (nat_lit 0x1e19000f42402437001000194370010008000f4240219100119000186a020019410007100b103311200023) eb cb Q.1 Q.2.2.2 n.2.1 hd a0) ? _;show(gm (fl (0<m4-O6)) _ _>>=_) _ _ _;exact rwL (T0 (by refine c6 (nat_lit 0x11a4370010000119410007100b103311200023) eb cb n.2.1 hd a0));refine(Ey ..).mpr ? _;refine aK (f:=λM=>(if ed M Q_=am then N3 "ring">>=λr=>N3 V0>>=λa=>N3 SJ>>=λs=>aY a s ZQ>>=λj=>be r j>>=λv=>aX Wu>>=λM=>cA kz Wu M Q_ [v]else a8)>>=_) D (dE (by kernel_rfl) ? _);refine aC (v:= a2 D4) t (by kernel_rfl) (by kernel_rfl) (aC (v:= a4 O6) t (by kernel_rfl) (by kernel_rfl) (aC (v:= a4 sz) t (by kernel_rfl) (by kernel_rfl) ? _));have c7:=a3f O6 (show 0<sz by refine Xv H.1 a0);have L:=a3K O6 (show 0<sz by refine Xv H.1 a0);refine aV (c:=sz≠0) (x:=bV (xz O6 sz)) (by refine a4G H.1 a0) (bX (aQ (by refine a4o H.2 c7 L a0)) ? _);have Y:y[(xz O6 sz).toNat]? =aj (y[(xz O6 sz).toNat]?.getD 0):=by rewrite [F4 ((Int.toNat_lt c7).mpr (a1H L (a2t F.symm)))];rfl
    generalize c9:y[(xz O6 sz).toNat]?.getD 0=u at Y;refine aK (f:=λM=>eD M (a4 (xz O6 sz))>>=_) A (aV (by refine kq (nat_lit 0x1e19000003e820019000119000003e82101900011a100020) [] cb H.2 c7 L a0) (gF (a:=j1 Ts) (by exact rwL Y;rfl) ? _));have U:=u.toNat_lt;refine aK (f:=λM=>cA kz Wu M Q_ [a4 Ts]>>=_) D ? _;refine vL (by exact rwL gv;exact⟨by refine a6U,Int.ofNat_lt.mpr U,by refine kq (nat_lit 0x109000003e8200190000003220019007100b103311200013) eb a7 C.2 n.1 hd a0⟩) ? _;have e7:((YI T1).upd Wu (f4 (RP k++[PJ ((Ts:Int)).toNat])))=(v2 58 (f4 (RP bm))).upd nL T1:=by exact rwLR (show PJ ((Ts:Int)).toNat=u from UInt8.ofNat_toNat) c9;refine(pu (by decide) w (aT O)).trans ? _;exact rwL dI;rfl
    show(N3 V0>>=_) _ _ ((YI T1).upd _ _);exact rwL e7;have B:((v2 58 (f4 (RP bm))).upd nL T1).H nL=aj T1:=dh (aT O);refine aC (v:= a4 O6) B (by kernel_rfl) (by kernel_rfl) (bX (i:=O6+1) (aQ (by refine lin4 (nat_lit 0x1e19000f42402311370000193113700008000f4240219000119000186a021019400107100b103311200023) eb cb Q.1 Q.2.2.2 n.2.1 hd a0)) (fc B (by kernel_rfl) ? _));exact ec (show ae.inst hL (dS V0 (a4 (O6+1)) _)=KI ⟨O6+1,m4,p.ro,p.wo⟩by kernel_rfl) gk (show(⟨O6+1,m4,p.ro,p.wo⟩:Pp)=e6 p a10 by unfold e6;rewrite [WR];rfl);exact G bm c8 (by refine a9X) S e
 have d9:(v2 58 (f4 (RP 0))).upd nL (KI (e6 p (0:Nat)))=v2 58 (f4 []):=by exact a3 (show e6 p (0:Nat)=p by unfold e6;exact rwL (show p.rc+((0:Nat):Int)=p.rc from T6 _);rfl) (fX (aT O));rfl
 have I:(ci 58 (f4 [])>>=λg=>cF (cU WY I4 I5 60 a2Q)>>=λr=>a6b>>=λr=>YC) K X m:=by
  have:=d8 T 0 (λr m'=>(a6b>>=λr=>YC) K X m') (Ow T) (by show aB _ _ a4P _ X _;rewrite [HA];have D:(a7C (KI (e6 p T))).H Wu=aj (f4 (RP T)):=(cK (by decide)).trans (by ext SW);refine aK (f:=λo=>nM o>>=_) D (aV (x:=a_ (V.bytes (RP T))) (by exact rwL gv;refine c6 (nat_lit 0x109000003e82001900000032200190070011) a7 a7 C.2 n.1 a0) ? _);exact N) (59-T);replace this:=d9▸b_;replace this:=Pk (by refine c6 (nat_lit 0x1090000003b2001900000032200190070011) a7 a7 C.2 n.1 a0)▸b_;have W:∀x,x=60->cU WY I4 I5 x a4P=cU WY I4 I5 60 a4P:=λx h=>by ext Td
  replace this:=W (59+1) rfl▸b_;exact b_
 refine cO (fl (0<c)) (λP=> ? _) λP=> ? _
 .refine cz O (by kernel_rfl) ? _;show kz Z6 [wd] _ _ _;refine gT O (by refine a8q) ? _;refine bY (r:=z_==0) rfl ? _;replace Z:=P▸Z;refine cO (z_==0) Va Va;. replace Z:=R▸Z;refine aC (v:= hP p.wo) O (by kernel_rfl) (by kernel_rfl) ? _;exact rwL (show p.wo=av from Z);exact I
  . exact I
 . exact I
section E
section
set_option backward.match.sparseCases false
open PySem
abbrev I6:hC:=yR (bq fI Pd) 1
abbrev L4:e_:=yS (bq fI Pd) 1
abbrev Gq(q l:V)(w:dd):dd:=(P_,jy)::(OC,q)::(Xa,l)::w
theorem Ez[jm](q:V)[p3]:Y5 (OH Pd) [jy,q] K X m=(vI kz OY Xa [q]>>=λl=>cj l>>=λk=>(if bg I6 l then cF (bF WY I6 L4 l bm 0 ⟨N4 Pd,Gq q l [],[]⟩)else a8)>>=λr=>a8A>>=λr=>YC) K X m:=by kernel_rfl
theorem yY[tz](f j:Nat)(q l:V)(w:ii)(G:m_->E Y)[WX]:(cV I6 f5 ⟨N4 Pd,Gq q l (hJ Og w),[]⟩>>=λloc=>aB WZ L4 ⟨N4 Pd,loc,[]⟩>>=G) K X m=(bE f5 UF>>=λs=>gM s (c1 "zombie")>>=λb=>kp (vI n_ OY "reap" [f5]>>=λv=>a_ (Fl.ret v,Gq q l [(Og,f5)])) (a_ (Pw,Gq q l [(Og,f5)]))>>=G) K X m:=by ext UV
theorem BB[jm](q l:V)(w:dd)(K:lR)[Qe]:a0x ((bq fI Pd).drop 2) ⟨N4 Pd,Gq q l w,[]⟩ K X m=(ci 565 ej>>=λe=>gM l QJ>>=λb=>kp TA (bE q Xq>>=cG>>=λb=>SK)>>=λb=>kp (Ev.exc:E l0) QK>>=λJ=>(aX OY>>=λM=>if ed M "sleep"=am then vI n_ OY a2s [q]>>=λc=>aX OY>>=λM=>cA n_ OY M "sleep" [q,c]else a8)>>=λJ=>a_ (Fl.ret V.none,Gq q l w)) K X m:=by kernel_rfl
theorem EA(f j:Nat)[p3]:n_ (OH a2s) [jy,f5] K X m=(bE f5 "pid">>=λp=>a_ (V.tup [c1 Og,p])) K X m:=by kernel_rfl
theorem BC(f j:Nat)(c:V)[p3]:n_ (OH "sleep") [jy,f5,c] K X m=(gy f5 UF (c1 Ra)>>=λJ=>gy f5 Un c>>=a8y) K X m:=by kernel_rfl
def uj[xi]:dd->E V->E V|[],x=>x|p::r,x=>gy eF c5 p.2>>=λJ=>uj i r x
def JK(l F:dd):dd:=l.foldl (λF p=>dS c5 p.2 F) F
def BD(c:Str):dd->dd->b2|[],_=>am|p::r,fs=>(eM c c5&&fl (fs.length<=1000))&&BD c r (dS c5 p.2 fs)
theorem xq[eX]{c:Str}{x:E V}{K:si}[l2]:∀{l F:dd}[f_],Fc=aj (sh F)->BD c l F=am->(∀m',m'=pj i (sh (JK l F))->x K X m')->uj i l x K X m:=by intro O;induction O with|nil=>intro F m h _ Y;exact Y m (fX h).symm|cons p r G=>intro F m h P Y;have P:((eM c c5&&fl (Us<=1000))&&BD c r (dS c5 p.2 F))=am:=P;rewrite [py]at P;refine fc h P.1 (G (dh h) P.2 λm' e=>Y m' ? _);exact a3 e gk;rfl
theorem BE(f j:Nat)[p3]:n_ (.fn Qv "clear") [f5] K X m=uj x1 [("pid",l1),(UF,c1 "unused"),("parent",a1),("space",a1)] (ci 430 NL>>=λl=>xP 430 (a2 l) (a4 32)>>=λr=>uj x1 [("registers",r),("pc",l1),("files",a1),("cwd",a1),("name",c1 ""),(Un,a1),(Xq,NS),("status",l1),("in_call",a1),("progress",l1),("told",a1),("wakes",a1),("job",a1),("turns",l1)] V7) K X m:=by kernel_rfl
theorem EB(f j:Nat)[p3]:kz (OH "reap") [jy,f5] K X m=(bE f5 "pid">>=λa=>bE f5 "status">>=λb=>bE f5 "space">>=λs=>uO s a1>>=λb'=>gm (! b') (bE f5 "space">>=λs=>(dB s λi=>vI n_ i "free" [])>>=λJ=>QK) QK>>=λJ=>vI n_ x1 "clear" []>>=λJ=>a_ (V.tup [a,b])) K X m:=by kernel_rfl
theorem JL[f_]{s:Nat}{o:ae}:(v2 s o).c s=m.c s+1:=by show(az s (oq (Yx++[o]) m.L)).length=_;exact ec aZ s_ Qi;rfl
theorem EC[f_]{s t:Nat}{l:d_}(h:t≠s):(m.at s l).c t=m.c t:=a0u (aZ.trans Rt)
def ED(p:Pr):Pr:=⟨0,"unused",a1,p.regs,p.fil,p.nam,p.chan,p.killed,p.status,p.prog⟩
def iO(r:Nat):Pr:=⟨0,"unused",a1,a2 (bv 430 r),a1,"",a1,av,0,0⟩
def BF[hB](p:Pr)[m5]:ac:=(((pj x1 (t0 (ED p))).mk1 430 NL).mk1 430 VG).upd x1 (t0 a1X)
theorem yZ{f j:Nat}{p:Pr}[N5](O:m.H x1=aj (t0 p))(N:K a1 (BF j p m)):n_ (.fn Qv "clear") [f5] K X m:=by
 exact dl6 f j p K X m;rewrite [BE];refine xq O (by kernel_rfl) λm1 g=> ? _;have g:m1=pj x1 (t0 (ED p)):=g.trans (hh _ (by kernel_rfl));have H:m1.H x1=aj (t0 (ED p)):=by ext NZ;exact dh O
 have L:m1.c 430=m.c 430:=by ext NZ;exact EC (by decide)
 have T:(Pc 430 NL).H (bv 430 (m1.c 430))=aj NL:=by ext SW
 show(q5 (bv 430 (m1.c 430)) _>>=_) _ _ (Pc 430 NL);refine mq T ? _;refine aV (c:=H_<=32/\(32:Int)<=1000) (x:=ci 430 (bC (F_ (32:Int).toNat l1))>>=λi=>a_ (og i)) (by decide) ? _;show uj x1 _ _ K X ((Pc 430 NL).mk1 430 VG);exact a3 JL L;have F:((Pc 430 NL).mk1 430 VG).H x1=aj (t0 (ED p)):=aT (aT H);refine xq F (by kernel_rfl) λR u=> ? _;have u:R=((Pc 430 NL).mk1 430 VG).upd x1 (t0 a1X):=u.trans (hh _ (by kernel_rfl));show K a1 R;exact a3 u g;exact N
theorem BG{f j:Nat}{p:Pr}[N5](I:∃F,m.H OY=aj (Om fI F))(O:m.H x1=aj (t0 p))(N:K (hD [a4 p.pid,a4 p.status]) (BF j p m)):kz (OH "reap") [jy,f5] K X m:=by rewrite [EB];refine aC (v:= a4 p.pid) O (by kernel_rfl) (by kernel_rfl) (aC (v:= a4 p.status) O (by kernel_rfl) (by kernel_rfl) (aC (v:= a1) O (by kernel_rfl) (by kernel_rfl) ? _));refine cz O (by kernel_rfl) ? _;show n_ (.fn Qv "clear") [f5] _ _ _;exact yZ O N
def y0(p:Pr)(c:V):Pr:=⟨p.pid,Ra,p.par,p.regs,p.fil,p.nam,c,p.killed,p.status,p.prog⟩
theorem y3{f j n:Nat}{P:h8}{c:V}[N5][Uk](D:gp)(N:K a1 (pj x1 (t0 (y0 m3 c)))):n_ (OH "sleep") [jy,f5,c] K X m:=by rewrite [BC];have O:=h.proc D;refine fc O (by kernel_rfl) (fc (dh O) (by kernel_rfl) ? _);exact a3 gk (show ae.inst Qv (dS Un c _)=t0 (y0 m3 c)by kernel_rfl);have I:(pj x1 (t0 (y0 m3 c))).H OY=aj (o9 n):=(cK (by decide)).trans h.table;exact aC (v:= a1) I (by kernel_rfl) (by kernel_rfl) N
def c8(P:h8):b5->ez Nat|[]=>ap|v::r=>match v with| a2 (bv _ j)=>bif Yd==Ot then aj j else c8 P r|_=>ap
theorem BH{f n q:Nat}{P:h8}[N5][Uk](b:xk P)(B:q<=n)(H:∀j,c8 P T8=aj j->K (hD [a4 (P j).pid,a4 (P j).status]) (BF j m3 (a0b (bC T8))))(F:c8 P T8=ap->(cR P N6 n).isEmpty=am\/(P q).killed=am->X (((a0b (bC T8)).mk1 565 ej)))(Q:c8 P T8=ap->(cR P N6 n).isEmpty=av->(P q).killed=av->K a1 (((a0b (bC T8)).mk1 565 ej).upd (aq q) (bw q (y0 (P q) (hD [c1 Og,a4 (P q).pid]))))):Y5 (OH Pd) [jy,N6] K X m:=by
 exact dl7 f n q P K X m;rewrite [Ez];refine cz h.table (by kernel_rfl) ? _;show kz (OH Xa) [jy,N6] _ _ _;refine qO h b ? _;have z:(uQ N6 m).c 493=m.c 493:=EC (by decide);have l:cy n P (a0b (bC T8)):=cy.other (cy.other h (by decide)) (by decide);have U:(a0b (bC T8)).H WA=aj (bC T8):=by exact rwLR dA z;exact s_
 have t:∀v∈T8,∃j,gp/\v= f5:=λv Z=>by
  obtain⟨i,W,e⟩:=a1D (SS Z).1;replace W:=aM▸W;have:(XM cp)[i]? =d0:=by rewrite [F4 (by ext QF;exact W),e];try rfl
  ext a6H;exact⟨i,oc W,(hR b_).symm⟩
 generalize a0b (bC T8)=m1 at*;generalize T8=L at*;refine gD U ? _
 refine dE (by
  have e:bg I6 (a2 WA)=bg I6 OW:=by kernel_rfl
  ext Zp) ? _
 have I:∀w,c8 P L=ap->aB (wb kz 40) ((bq fI Pd).drop 2) ⟨N4 Pd,Gq N6 (a2 WA) w,[]⟩ a5R X m1:=λw u=>by
  rewrite [BB];have s:(Pc 565 ej).H WA=T7:=aT U;have y:(Pc 565 ej).H (bv 565 (m1.c 565))=Rx:=by ext SW
  have g:cy n P (Pc 565 ej):=l.other (by decide);show(gM (a2 WA) (a2 (bv 565 (m1.c 565)))>>=_) _ _ (Pc 565 ej);refine bY (r:=L.isEmpty) ? _ ? _;. show(iS ((Pc 565 ej).H WA)).bind (λx=>(iS ((Pc 565 ej).H (bv 565 (m1.c 565)))).bind λp=>zG _ x p)=_;exact a3 s y;cases L<;>rfl
  .refine cO L.isEmpty RY RY;. exact F u (b7 T)
   .have O:=g.proc B;refine aC (v:= hP (P q).killed) O (by kernel_rfl) (by kernel_rfl) ? _;refine cO (P q).killed (λo=> ? _) λo=> ? _;. exact F u (ba o)
    . refine aK (f:=λM=>(if ed M "sleep"=am then vI kz OY a2s [N6]>>=λc=>aX OY>>=λM=>cA kz OY M "sleep" [N6,c]else a8)>>=_) g.table (dE (by kernel_rfl) ? _);refine aI (cz g.table (by kernel_rfl) ? _);show kz (OH a2s) [jy,N6] _ _ _;rewrite [EA];refine aC (v:= a4 (P q).pid) O (by kernel_rfl) (by kernel_rfl) ? _;refine aK (f:=λM=>cA kz OY M "sleep" [N6,hD [c1 Og,a4 (P q).pid]]>>=_) g.table ? _;show kz (OH "sleep") [jy,N6,hD [c1 Og,a4 (P q).pid]] _ _ _;exact y3 g B (Q u T o)
 have S:∀(d k:Nat)(w:ii),k+d=PV->c8 P (L.drop k)=c8 P L->bF WY I6 L4 (a2 WA) (d+1) k ⟨N4 Pd,Gq N6 (a2 WA) (hJ Og w),[]⟩ (λr m'=>(a8A>>=λr=>YC) K X m') wj m1:=λd=>by
  induction d with
   |zero=>intro k w hd u;have hd:k=PV:=hd;exact rwL fe;refine ff U ? _;rewrite [a5z (O1 hd.symm)];replace u:=List.drop_eq_nil_of_le (O1 hd.symm)▸u;exact I _ u.symm
   |succ d G=>
    intro k w hd u;have a:k<PV:=hd▸YK;exact rwL fe;refine ff U ? _;rewrite [F4 a];replace u:=List.drop_eq_getElem_cons a▸u;refine aN (t L[k] (List.getElem_mem a)) λj D e=> ? _;rw [e]at u⊢;refine(yY ..).mpr ? _;have O:=l.proc D;refine aC (v:= c1 Yd) O (by kernel_rfl) (by kernel_rfl) (bY (r:=Yd==Ot) rfl ? _);have u:(bif Yd==Ot then aj j else c8 P (L.drop bm))=c8 P L:=u;refine dy Va Va;. replace u:=R▸u;refine aI (cz l.table (by kernel_rfl) ? _);show kz (OH "reap") [jy,f5] _ _ _;exact BG ⟨_,l.table⟩ O (H j u.symm)
    . replace u:=R▸u;exact G bm (aj f5) ((Nat.succ_add k d).trans hd) u
 exact S PV 0 ap (Ow _) rfl
section E
section
set_option backward.match.sparseCases false
open PySem
def JM(l:e_)[z1]:hC:=match uf l i with| L0 es _ _=>(es[1]?).getD w0|e=>e
def sH:Lc:=Du (JM (bq "" T9) 1)
abbrev BI(N many:V)[m5]:ac:=iD [("store",N),(Rz,eg)] [Rz] m
theorem EE[w'](s:Id)(many:V)[p3]:bA hN bj Oq [Rk,eg] K X m=(be Rk (c1 "at")>>=λa=>be Rk (c1 UB)>>=λsm=>jR 601 a tt>>=λG=>a4l>>=λsrc=>TM>>=λn=>(if(bg sH.tgt src&&bJ sH.sc)=am then ci 601 ej>>=λi=>cF (dx (O2 37) sH.elt sH.tgt sH.ifs src i cp 0 ⟨sH.sc,[],[(Rz,NQ)]⟩)>>=Y9 else a8)>>=λg=>e7 Rk (c1 "at") G>>=λJ=>e7 Rk (c1 RX) g>>=λJ=>a4l>>=λg=>ci 602 ej>>=λe=>(if pO g QJ=am then gM g QJ>>=W4 else a8)>>=λb=>kp (a4l>>=λg=>(dB g λQ=>vI bj Q "pop" [])>>=λr=>a4l>>=λg=>(dB g λQ=>aX Q>>=λM=>if ed M Q_=am then QR>>=λH=>aY r H a2B>>=λq=>aX Q>>=λM=>cA bj Q M Q_ [q]else a8)>>=λJ=>QR>>=λH=>aY r H ZQ) (kP sm>>=λl=>aY a l ZQ>>=λk=>be sm k>>=λx=>fT [sm] (λa=>dB a λi=>q5 i xQ)>>=λy=>jR 606 x y>>=λz=>xP 606 (a4 4) a>>=λt=>jR 606 z t>>=λz=>xP 606 a a>>=λt=>aY t (a4 5) a2B>>=λt=>jR 606 z t>>=λz=>QR>>=λH=>aY z H ZQ)) K X (BI Rk eg m):=by kernel_rfl
theorem y4[w'](w:ii)(u:V)(c:Id)[UL]:(cV sH.tgt u ⟨sH.sc,hJ "row" w,[(Rz,c)]⟩>>=λloc=>bK (O2 37) .And sH.ifs ⟨sH.sc,loc,[(Rz,c)]⟩>>=T4) K X m=(bP c>>=λv=>aY u v (λa b=>a_ (fl (b<=a)))>>=λb=>SK>>=λb=>G [("row",u)] b) K X m:=by ext UV
theorem EF[tz]{s:Nat}{o:ae}{f:Id->E Y}[C_](N:f (bv s (m.c s)) K X (v2 s o)):(ci s o>>=f) K X m:=N
def bD(g sm:Id)(a:Int):ae:= .sd a6L
def cZ(l:b5):a5:=OE<=100/\∀v∈l,∃i:Int,v= f6/\0<=i/\i<10^130
def j9(l:b5):a5:=1<=OE/\OE<=41/\∀v∈l,a7i
theorem fL[f_]{B:dd}{c:pb}{j:Id}{o:ae}(h:m.H j=ck):(iD B c m).H j=ck:=by obtain⟨s,k⟩:=j;refine ww.trans ((b9 b4).trans h);refine bx q PY;subst G;intro q;have:=(L_ h).1;exact a3Z b_ q
theorem HC:∀{l:b5}{a:Int},(∀v∈l,a7i)->∃t,uX l a=aj t/\a-OE*Pb<=t/\t<=a+OE*Pb:=λ{l}=>by
 induction l with
  |nil=>exactλ{a}J=>⟨a,rfl,by simp,by simp⟩
  |cons v r G=>
   intro a h;refine fk (h v OU) Yn;subst U;intro H F;refine fk (G (a:=a+i) λv Z=>h v (pn Z)) λt e Q C=> ? _;refine⟨t,e,? _,? _⟩;. exact rwL XQ;lia
   . exact rwL XQ;lia
theorem fM{i:Int}(h: -10^130<=i/\i<=10^130): -dF<i/\i<dF:=by
 have:(10:Int)^130<dF:=by ext ij
 refine kq (nat_lit 0x1e1a00101a1080019108201920101a002030) [] eb h.1 h.2 b_ a0
def pw(many:Int)(s sm:Id)(gl:b5)(a:Int)[m5]:ac:=(((BI Rk Ps m).mk1 601 Ud).upd s a4k).mk1 602 ej
theorem uk{call:aD}{s g sm:Id}{a many:Int}{L SM:b5}[N5](k7:m.H s=a4j)(D:m.H g=T7)(k6:m.H sm=aj (bC SM))(q8:cZ L)(n6:j9 SM)(e9:0<=a/\a<=10000)(u:Y4)(e7:(s.1==601||s.1==602)=av)(N:∀r gl,0<=r->r<eg->cZ gl->Xk (pw eg s sm gl a m)):bA hN bj Oq [Rk,Ps] K X m:=by
 revert m;exact gs bj s g sm a eg L SM K X;exact dl1 m;rewrite [EE];have p4:(BI Rk Ps m).c 601=m.c 601:=EC (by decide);have d:(BI Rk Ps m).H NQ=aj (f2 (aj Ps)):=nF.trans (by kernel_rfl);have c9:(BI Rk Ps m).H s=_:=fL k7;have o0:(BI Rk Ps m).H g=_:=fL D;have j8:(BI Rk Ps m).H sm=_:=fL k6;unfold pw at N;replace N:=G' p4▸N;generalize BI Rk Ps m=m1 at*;have C:∀[a7O],m'.H NQ=aj (f2 (aj Ps))->g Ps K X m'->(QR>>=g) K X m':=λk9 D=>aK (f:=λo=>a1a>>=_) k9 D;have p7:∀{m':ac}{r6:Id}{q7:Int}[N2][g_][a2S],m'.H s=aj (bD r6 sm q7)->dp x [((RX:Str),og r6),((UB:Str),a2 sm),(("at":Str),a4 q7)]=d0->F v K X m'->(be Rk I'>>=F) K X m':=λh e j6=>a7y h (gF e j6);refine p7 (v:= Pi) c9 (by kernel_rfl) (p7 (v:= a2 sm) c9 (by kernel_rfl) (bX (i:=Oa) (aQ (by refine c6 (nat_lit 0x1e19000f424023110019311008000f42402190001190000271020010) [] a7 e9.1 e9.2 a0)) (p7 (v:= a2 g) c9 (by kernel_rfl) (gD o0 (dE ? _ ? _)))))
 .have e:(bg sH.tgt (a2 g)&&bJ sH.sc)=(bg sH.tgt OW&&bJ sH.sc):=by kernel_rfl
  ext Zp
 have W:(Pc 601 ej).H Xu=Rx:=by ext SW
 show dx (O2 37) sH.elt sH.tgt sH.ifs (a2 g) Xu (PV+1) 0 ⟨sH.sc,[],[(Rz,NQ)]⟩ _ wj (Pc 601 ej);exact rwR (fX W);generalize O:(λv:V=>match v with| f6=>fl (eg<=i)|_=>av)=p;refine fK (x:="row") (p:=p) (f:=id) (o:= ej) ? _ ? _ ? _ ? _ ? _ ? _;. exact W
 . intro acc k G A;rw [dI]at A⊢;exact ff (aT o0) A
 rotate_left 2;. exact ei q8.1 (by decide)
 .exact rwL dI;ext a0k;have j6:cZ (L.filter p):=⟨ZU q8.1,λv Z=>q8.2 v (SS Z).1⟩;have o7:∀v∈L.filter p,∃i:Int,v= f6/\eg<=i/\i<10^130:=λv Z=>by refine fk (j6.2 v Z) Yn;subst U;intro R T;have:=(SS Z).2;replace this:=G' O▸b_;exact⟨i,rfl,a0d b_,T⟩
  generalize L.filter p=F at*;have d8:(Pc 601 (bC F)).H s=a4j:=aT c9;refine aK (f:=λM=>iB s M (c1 "at") (a4 Oa)>>=_) d8 ? _;show(cQ s (.sd (gL ("at":Str) (j1 Oa) a6L))>>=_) _ _ _;exact rwL (show ae.sd (gL ("at":Str) (j1 Oa) a6L)=bD g sm Oa by kernel_rfl);refine aK (m:=a20 (bD g sm Oa)) (f:=λM=>iB s M (c1 RX) (a2 Xu)>>=_) (dh d8) ? _;show(cQ s (.sd a86)>>=_) _ _ _;exact rwL (show ae.sd a86=a12 by kernel_rfl);show(a4l>>=_) K X ((a20 (bD g sm Oa)).upd s a12);exact rwL gk;have e6:a2D s=aj a12:=dh d8;have m7:∀{j:Id}{o:ae},(∀c7,o≠.sd c7)->(Pc 601 (bC F)).H j=ck->a2D j=ck:=λP h=>by exact rwL (kM d8);refine(b9 b4).trans h;subst q;replace h:=d8▸h;exact P _ (hR h).symm
  have i6:a2D Xu=aj (bC F):=m7 (λJ q=>by exact xK ae.ctorIdx q rfl) (by ext SW);have n3:a2D sm=aj (bC SM):=m7 (λJ q=>by exact xK ae.ctorIdx q rfl) (aT j8);have n7:a2D NQ=_:=m7 (λJ q=>by exact xK ae.ctorIdx q rfl) (aT d);have N:∀r gl,0<=r->r<eg->cZ gl->Xk ((a20 a12).mk1 602 ej|>.upd Xu Ud):=λr gl R T q9=>by have:=N r gl R T q9;obtain⟨f7,i9⟩:=s;rewrite [a3s]at e7;rewrite [a1E]at e7;rewrite [a1E]at e7;exact ec (iN (by decide) i6) (pu (LL e7.1) (by ext SW) d8) dI;exact b_
  generalize a20 a12=p6 at*;refine p7 (v:= a2 Xu) e6 (by kernel_rfl) ? _;have p9:a3O Xu=aj (bC F):=aT i6;have i8:a3O (bv 602 (p6.c 602))=Rx:=by ext SW
  have i0:a3O s=_:=aT e6;have c:a3O NQ=_:=aT n7;have n9:a3O sm=_:=aT n3;refine EF ? _;generalize p6.c 602=o5 at*;generalize p6.mk1 602 ej=d9 at*;generalize Id.mk 601 (m1.c 601)=Q at*;refine dE rfl (aI (bY (r:=F.isEmpty) ? _ ? _));. show(iS (d9.H Q)).bind (λI=>(iS (d9.H (bv 602 o5))).bind λf8=>zG _ I f8)=_;exact a3 p9 i8;cases F<;>rfl
  refine LG F (λq6=> ? _) λx I q6=> ? _
  .refine fk (HC (a:=0) n6.2.2) λt l3 o4 n=> ? _;have o8:=n6.1;have p5:=n6.2.1;refine aK (f:=λo=>lX o>>=_) n9 (aV (x:=a_ (j1 (SM.length:Nat))) (by refine bn (nat_lit 0x10901000000200090000002920001) a7 [] p5 a0) ? _);have m6:=a3f a (show H_<SM.length by refine bn (nat_lit 0x11a7000109001101) a7 [] o8 a0);have q5:=a3K a (show H_<SM.length by refine bn (nat_lit 0x11a7000109001101) a7 [] o8 a0);refine aV (c:=(SM.length:Int)≠0) (x:=bV (xz a SM.length)) (by refine bn (nat_lit 0x1c1b0170009001101) a7 [] o8 a0) (bX (aQ (by refine kq (nat_lit 0x1e19000f424020019008000f4240209000000292001900011a7000011) a7 a7 p5 m6 q5 a0)) ? _);refine fk (n6.2.2 (SM[(xz a SM.length).toNat]'((Int.toNat_lt m6).mpr q5)) (List.getElem_mem _)) λy hy o3 l7=> ? _;refine aK (f:=λM=>eD M (a4 (xz a SM.length))>>=_) n9 (aV (by refine kq (nat_lit 0x1e19000003e820019008000003e8209000000292001900011a7000011) a7 a7 p5 m6 q5 a0) (gF (a:= a4 y) ? _ ? _));. unfold eJ;rewrite [c4 m6,F4 ((Int.toNat_lt m6).mpr q5),hy];try rfl
   refine mq (g:=xQ) n9 ? _;have i5:∀[tz](G:Rq)[WX],(bV t>>=G) K X m->(xQ SM>>=G) K X m:=λG K X m h=>by unfold xQ;exact rwL l3;exact h
   have n8:∀x:Int,-(15*Pb+15*Pb+13*Pb+1000000000)<=x->x<=15*Pb+15*Pb+13*Pb+1000000000-> -10^130<=x/\x<=10^130:=λx a b=>⟨G3 (by decide) a,G3 b (by decide)⟩;have m0:(SM.length:Int)*Pb<=15*Pb+15*Pb+11*Pb:=G3 (Int.mul_le_mul_of_nonneg_right (a0j p5) (by decide)) (by decide);generalize(10:Int)^18=B at n8 m0 o4 n o3 l7;have S:0<=a*a/\a*a<=100000000:=⟨Int.mul_nonneg e9.1 e9.1,by exact G3 (Int.mul_le_mul e9.2 e9.2 e9.1 (by decide)) (by decide)⟩;have o9:0<=Tj (a*a) 5/\Tj (a*a) 5<=a*a:=by exact rwL (Int.fdiv_eq_ediv_of_nonneg _ (by decide));exact⟨Int.ediv_nonneg S.1 (by decide),Int.ediv_le_self _ S.1⟩
   refine i5 _ _ _ _ (bX (fM (n8 _ (by refine kq (nat_lit 0x11910833b9aca0023d5003f500f500193b5003f500f5002019104200119320011030) [] eb m0 o4 n a0) (by refine kq (nat_lit 0x11933b9aca0023d5103f510f51000193b5103f510f5102019004200119320010030) [] eb m0 o4 n a0))) ? _);refine bX (i:=y+t) (fM (n8 _ (by refine lin4 (nat_lit 0x11932010833b9aca0023d5003f500f500193b5003f500f50030192043001193300120191080040) [] Rb m0 o4 n o3 a0) (by refine lin4 (nat_lit 0x11933b9aca0023d5203f520f52031000193b5203f520f5203019104300119330011019200040) [] Rb m0 o4 n l7 a0))) ? _;refine aV (c:= -(2^64)<(4:Int)/\(4:Int)<2^64) (x:=bV (4*a)) (by decide) (bX (aQ (by refine c6 (nat_lit 0x1e19000f4240245001945008000f42402190001190000271020010) [] a7 e9.1 e9.2 a0)) ? _);refine bX (i:=y+t+4*a) (fM (n8 _ (by refine lin5 (nat_lit 0x1193453032010833b9aca0023d5003f500f500193001193b5003f500f50040192044001193400120191080050) [] S_ e9.1 m0 o4 n o3 a0) (by refine lin5 (nat_lit 0x11933b9aca0023d5303f530f53034520310001900002710220193b5303f530f5304019104400119340011019300050) [] S_ e9.2 m0 o4 n l7 a0))) ? _;refine aV (c:= -(2^64)<a/\a<2^64) (x:=bV (a*a)) ⟨a1H (by decide) e9.1,Int.lt_of_le_of_lt e9.2 (by decide)⟩ (bX (fM (n8 _ (by refine a8s S.1 a0) (by refine lin4 (nat_lit 0x11933b9aca0023d5103f510f51000193b5103f510f510201930420011932001301905f5e10020040) [] Rb m0 o4 n S.2 a0))) ? _);refine aV (c:=H_<5/\(5:Int)<1073741824) (x:=bV (Tj (a*a) 5)) (by decide) (bX (fM (n8 _ (by refine a8s o9.1 a0) (by refine lin5 (nat_lit 0x11933b9aca0023d5103f510f51000193b5103f510f510201930420011932001301905f5e10024019400050) [] S_ m0 o4 n S.2 o9.2 a0))) ? _);refine bX (i:=y+t+4*a+Tj (a*a) 5) (fM (n8 _ (by refine lin6 (nat_lit 0x1193403453032010833b9aca0023d5003f500f500193001193b5003f500f50050192045001193500120191080019400160) [] [_,_,_,_,_,_] e9.1 m0 o4 n o3 o9.1 a0) (by refine lin7 (nat_lit 0x11933b9aca0023d5403f540f54033034520310001900002710220193b5403f540f540501910450011935001101940001905f5e10026019603070) [] a4d e9.2 m0 o4 n l7 S.2 o9.2 a0))) ? _;generalize y+t+4*a+Tj (a*a) 5=w;have k8:=a3f w (show 0<eg by refine Xv u.1 a0);have l6:=a3K w (show 0<eg by refine Xv u.1 a0);refine C c (dT (x:=bV (xz w eg)) (by refine a4G u.1 a0) (dT (x:=a_ (j1 (xz w eg))) (aQ (by refine a4o u.2 k8 l6 a0)) ? _));have:=N _ [] k8 l6 ⟨Q8 _,λv Z=>(by cases Z)⟩;replace p9:=q6▸p9;replace this:=fX p9▸b_;exact b_
  .exact rwRL q6 (show F.isEmpty=av by exact rwL q6;rfl);have f:F≠[]:=λq=>by replace q6:=q▸q6;exact Nn q6
   obtain⟨z,i7⟩:∃z,F.getLast? =aj z:=⟨F.getLast f,List.getLast?_eq_some_getLast f⟩;refine fk (o7 z (List.mem_of_getLast? i7)) Yn;subst U;intro R T;refine p7 (v:= a2 Q) i0 (by kernel_rfl) ? _;refine aK (f:=λM=>(if ed M "pop"=am then aX Q>>=λM=>cA bj Q M "pop" []else a8)>>=_) p9 (dE (by kernel_rfl) (aK (f:=λM=>cA bj Q M "pop" []>>=_) p9 ? _));have k5:∀[tz](G:Rq)[WX],(cA bj Q (bC F) "pop" []>>=G) K X m=((match F.getLast? with|d0=>i4 (Us<=1000) (cQ Q Y7>>=λJ=>a_ v)|ap=>a8)>>=G) K X m:=λG K X m=>by kernel_rfl
   rewrite [k5];exact rwL i7;refine aV (x:=cQ Q Y7>>=λJ=>a_ (j1 i)) (ei j6.1 (by decide)) ? _;have j7:(d9.upd Q Y7).H s=aj (bD Q sm Oa):=by exact rwL (kM p9);exact(b9 λq=>by replace i0:=q▸i0;replace i0:=p9▸i0;cases i0).trans i0
   have m8:(d9.upd Q Y7).H NQ=aj (f2 (aj Ps)):=by exact rwL (kM p9);exact(b9 λq=>by replace c:=q▸c;replace c:=p9▸c;cases c).trans c
   have f9:(d9.upd Q Y7).H Q=aj Y7:=dh p9;have e8:0<=Tj i eg/\Tj i eg<=i:=by exact rwL (Int.fdiv_eq_ediv_of_nonneg _ (by refine bn (nat_lit 0x119000119001110) [] a7 u.1 a0));exact⟨Int.ediv_nonneg (by refine b0c) (by refine bn (nat_lit 0x119000119001110) [] a7 u.1 a0),Int.ediv_le_self _ (by refine b0c)⟩
   refine p7 (v:= a2 Q) (m':=d9.upd Q Y7) j7 (by kernel_rfl) ? _;refine aK (f:=λM=>(if ed M Q_=am then QR>>=λH=>aY f6 H a2B>>=λq=>aX Q>>=λM=>cA bj Q M Q_ [q]else a8)>>=_) f9 (dE (by kernel_rfl) (aI (C m8 ? _)));refine aV (c:=0<eg/\eg<1073741824) (x:=bV (Tj i eg)) (by refine c6 (nat_lit 0x1e1a400000002001a000119001119000003e820010) [] a7 u.1 u.2 a0) (bX (fM (by refine kq (nat_lit 0x1e19001019108001a002019100119201030) [] eb T e8.1 e8.2 a0)) ? _);refine aK (f:=λM=>cA bj Q M Q_ [a4 (Tj i eg)]>>=_) f9 ? _;have o6:∀[tz](G:Rq)[WX][ss](l:b5),(cA bj Q RD Q_ [v]>>=G) K X m=(i4 (OE<=1000) (cQ Q (bC (l++[v]))>>=λJ=>V7)>>=G) K X m:=λG K X m v l=>by kernel_rfl
   refine(o6 _ _ _ _ _ _).mpr ? _;refine aV (x:=cQ Q a6W>>=λJ=>V7) (show F.dropLast.length<=1000 by exact rwL List.length_dropLast;exact ei (Uf _ _) (ei j6.1 (by decide))) ? _;show(QR>>=_) K X ((d9.upd Q Y7).upd Q a6W);exact rwL gk;have p8:(d9.upd Q a6W).H NQ=aj (f2 (aj Ps)):=by exact rwL (kM p9);exact(b9 λq=>by replace c:=q▸c;replace c:=p9▸c;cases c).trans c
   have k8:=a3f i (show 0<eg by refine Xv u.1 a0);have l6:=a3K i (show 0<eg by refine Xv u.1 a0);refine C p8 (dT (x:=bV (xz i eg)) (by refine a4G u.1 a0) (dT (x:=a_ (j1 (xz i eg))) (aQ (by refine a4o u.2 k8 l6 a0)) ? _));refine N _ _ k8 l6 ⟨? _,λv Z=> ? _⟩;. exact a3 Qi List.length_dropLast;have l8:=j6.1;have c8:Us≠0:=λq=>f (List.length_eq_zero_iff.mp q);show Us-1+1<=100;refine bn (nat_lit 0x10900000064231141100090000006420001) a7 [] l8 a0
   .rcases VJ Z with h|h;. exact j6.2 v (List.dropLast_subset _ h)
    . exact rwL (w6 h);exact⟨_,rfl,e8.1,by refine c6 (nat_lit 0x11a10001a102019200030) [] eb T e8.2 a0⟩
 .ext a37;refine fk (q8.2 v (SP Z)) Yn;subst U;intro R T;refine(y4 ..).mpr ? _;rw [dI]at A⊢;refine C (aT d) ? _;show(gm (fl (eg<=i)) _ _>>=_) _ _ _;replace A:=G' O▸A;have A:G [("row",f6)] (fl (eg<=i)) _ _ _:=A;refine dy b4 b4;. ext a1G
  . ext a1G
 . intro acc k v Z O G A;exact A
section E
section
set_option backward.match.sparseCases false
open PySem
def eA(k L S:Int)(op:Bool):ae:= .sd [("k",v0),("kind",a4 L),("from",a4 S),("is_open",hP op)]
theorem HD[jm](p r:Id)(t:Int)[p3]:n_ (hQ a2h) [a2 p,a2 r,Ph] K X m=((be (a2 p) (c1 "is_open")>>=cG>>=W4)>>=λb=>kp TA (be (a2 p) (c1 "from")>>=λv=>aY Ph v YS>>=λb=>SK)>>=λb=>kp (a_ (OK av)) (a3e>>=a7S)) K X m:=by kernel_rfl
theorem EG{f n j:Nat}{p r:Id}{t k L S sz:Int}{op g:Bool}{R:Rw}{A:Pr}[N5](O:m.H p=aj (eA k L S op))(z:m.H r=aj (jU n j sz g R))(B:m.H x1=aj (t0 A))(d: -1000<=S/\S<=1000)(c:K NS m)(N:op=am->∀b,K B_ m):n_ (hQ a2h) [a2 p,a2 r,Ph] K X m:=by
 revert op g R A K X m;exact gs f n j p r t k L S sz;exact dl7 op g R A K X m;rewrite [HD];have P:∀[N2][g_][a2S],dp x [(("k":Str),j1 k),(("kind":Str),a4 L),(("from":Str),a4 S),(("is_open":Str),hP op)]=d0->F v K X m->(be (a2 p) I'>>=F) K X m:=λe l=>a7y O (gF e l);have Q:∀[N2][g_][a2S],(match jU n j sz g R with| .sd fs=>dp x fs|_=>ap)=d0->F v K X m->(be (a2 r) I'>>=F) K X m:=λe l=>a7y z (gF e l);refine aI (P (v:= hP op) (by kernel_rfl) ? _);show(gm (! op) _ _>>=_) K X m;refine dy (λJ=>c) b4;replace N:=N (by induction op using u' with|true=>rfl|false=>exact sK q)
 have I:(a3e>>=a7V) K X m:=by
  refine P (v:= a4 L) (by kernel_rfl) (qM (λJ=>N _) λJ=>Q (v:=o7 R.ended) (by kernel_rfl) ? _);have e:∀{F:b2->E V},(∀b,F b K X m)->(uO (o7 R.ended) a1>>=F) K X m:=λh=>by cases R.ended<;>exact h _
  refine e λb=>qM O5 λJ=>N _;exact Q (v:= ek R.rest) (by kernel_rfl) (bY (r:=R.rest==[]) rfl (P (v:= a4 L) (by kernel_rfl) (bY (r:=L==2) rfl (bY (r:=(R.rest==[])==(L==2)) rfl (N _)))))
 have rest:(a3e>>=a7S) K X m:=by refine P (v:= a4 L) (by kernel_rfl) (bY (r:=L==0) rfl (dy O5 λJ=>I));refine aI (P (v:= a4 S) (by kernel_rfl) (bX (i:=S+6) (aQ (by refine c6 (nat_lit 0x1e19000f424023610019361008000f4240219008000003e8219000003e820010) [] a7 d.1 d.2 a0)) ? _));refine dy O5 λJ=>I;refine Q (v:= f5) (by kernel_rfl) (aC (v:= c1 A.state) B (by kernel_rfl) (by kernel_rfl) (bY (r:=A.state==(Ra:Str)) rfl (qM O5 λJ=>N _)));exact Q (v:= a4 R.done) (by kernel_rfl) (N _)
 refine aI (P (v:= a4 S) (by kernel_rfl) ? _);show(gm (fl (t<S)) _ _>>=_) K X m;exact dy (λJ=>N _) λJ=>rest
section E
section
set_option backward.match.sparseCases false
open PySem
def ig[ss](s:Nat):ez Nat:=match v with
 | eF=>match i with| Uo=>if t=s then v_ else ap
 |_=>ap
theorem cD[g_]{s k:Nat}(h:ig v s=v_):v= a2 (bv s k):=by
 induction v using kb with
  |ref i=>
   ext X0;have h:(if t=s then aj j else ap)=v_:=h;exact bcH q (t=s);. ext a0w;ext xp;ext OI;rfl
   . ext a1A
  |_=>ext rs
def BJ(T a PS:d_):a5:=∃n P,T=[o9 n]/\a=[nD n]/\PS=eu P cp/\(∀j,ie (P j).chan)/\xk P/\n<=100
abbrev BK[m5]:a5:=BJ (az 1000726 m.L) (az 460 m.L) a0l
theorem nG[f_](h:BK m):∃n P,cy n P m/\xk P:=by exact LB h λn P H F Q C S s=>⟨n,P,⟨H,F,Q,C,s⟩,S⟩
def L5[ss]:b2:=match v with| di=>am|_=>av
def L6(s:Str)[ss]:b2:=match v with| c1 a=>a==s|_=>av
theorem xr[g_](h:L5 v=am):UX:=by induction v using kb with|int i=>exact⟨i,rfl⟩|_=>ext sp
theorem xt{s:Str}[g_](h:L6 s v=am):v= c1 s:=by induction v using kb with|str a=>exact rwL (f1 h);rfl|_=>ext sp
def Nv:b5->b2|[]=>av|x::r=>match r with|[]=>av|y::r=>L5 y&&match r with|[]=>L6 Og x|z::r=>r.isEmpty&&(L5 z&&L6 N1 x)
def M5[ss]:b2:=match v with| w_=>Nv vs|_=>av
theorem HE[g_](h:M5 v=am):ie v/\d8 v=av:=by
 induction v using kb with
  |tup vs=>induction vs using li with|nil=>ext sp|cons x r=>induction r using li with|nil=>ext sp|cons y r=>refine bx (UK h) V_;refine db (xr H) Yn;subst U;induction r using li with|nil=>exact rwL (xt F);exact⟨.child _,rfl⟩|cons z r=>refine bx (UK F) λQ C=> ? _;refine bx (UK C) λS s=> ? _;refine db (xr S) λk U=> ? _;subst U;induction r using li with|nil=>exact rwL (xt s);exact⟨.pipe _ _,rfl⟩|cons=>exact cT Q
  |_=>ext sp
def two(l:b5)(f:V->V->w9):w9:=match l with|[]=>ap|a::r=>match r with|[]=>ap|b::r=>match r with|[]=>f a b|_::_=>ap
theorem eB{l:b5}{f:V->V->w9}{x:E V}(h:two l f=eI):∃a b,l=[a,b]/\f a b=eI:=by induction l using li with|nil=>ext rs|cons a r=>induction r using li with|nil=>ext rs|cons b r=>induction r using li with|nil=>exact⟨a,b,rfl,h⟩|cons=>ext rs
def y5[ss](f:Int->w9):w9:=match v with| f6=>f i|_=>ap
theorem ik[g_]{f:Int->w9}{x:E V}(h:y5 v f=eI):∃i,v= f6/\f i=eI:=by induction v using kb with|int i=>exact⟨i,rfl,h⟩|_=>ext rs
def BL[ss](f:d7->w9):w9:=match v with| ek i=>f i|_=>ap
theorem ul[g_]{f:d7->w9}{x:E V}(h:BL v f=eI):∃i,v= ek i/\f i=eI:=by induction v using kb with|bytes i=>exact⟨i,rfl,h⟩|_=>ext rs
def HF[ss](f:Id->w9):w9:=match v with| eF=>f i|_=>ap
theorem qR[g_]{f:Id->w9}{x:E V}(h:HF v f=eI):∃i,v= eF/\f i=eI:=by induction v using kb with|ref i=>exact⟨i,rfl,h⟩|_=>ext rs
def Gr[wl]:w9:=two a6 λt A=>if ig t 1000726=t_/\M5 A=am then aj λk J m=>BK m/\∀c:Int,k (a4 c) (xe A m)else ap
def fY[m5][hB]:Pr:=jw (a0l[j]?.getD sw)
def Gs[wl]:w9:=two a6 λt v=>y5 v λq=>if ig t 1000726=t_ then aj λk J m=>(BK m/\ew (fY m) q (az 1000460 m.L).length 0=bif bu (fY m (q-1).toNat)then aj (q-1).toNat else ap)/\bL (bu (fY m (q-1).toNat)) (k (a2 (aq (q-1).toNat)) m) (k a1 m)else ap
def Gu[wl]:w9:=two a6 λt p=>(ig p 1000460).bind λj=>if ig t 1000726=t_/\j≠0 then aj λk J m=>BK m/\k (a2 WA) ((uQ p m).mk1 493 ej)else ap
def BM(x:Nat)(o a b op f c:ez ae):a5:=o=aj (cX x 1)/\∃(n:Nat)(sz most:Int)(u:Id)(p:Pp)(L:b5)(S:RO),a=aj (vJ most u)/\b=T7/\(u.1==310||u.1==266)=am/\(∀v∈L,∃i,v= eF)/\PV<=1000/\op=aj (aS sz hI p)/\f=a6k/\c=aj (lI S)/\QA<=1000/\(gS (Vc p)=am->dp a1Z S=aj (a2 Tv))
def c9[m5][xi]:ae:=(m.H i).getD sw
def HG[xd](o:ae):Id:=match Gi x o with| eF=>i|_=> bv 0 0
def vM:ae->b5| RD=>l|_=>[]
def JN:ae->RO| lI l=>l|_=>[]
def L7:ae->d7| f4 l=>l|_=>[]
def Gv(x:Nat)[m5]:ac:=((((YF (cX x 0)).mk1 310 (bC ((vM (c9 m a1u)).filter (qc x)))).upd dK (vJ (qb "most" (c9 m dK)) (TJ (m.c 310)))).upd Tv (aS (qb SJ (c9 m Tv)) hI (Vc (vH (c9 m Tv))))|>.upd NO (lI (bif gS (Vc (vH (c9 m Tv)))then fC a1Z (JN (c9 m NO))else JN (c9 m NO))))
def M6[wl]:w9:=two a6 λt p=>(ig p 1000285).bind λx=>if ig t 1000727=aj 1 then aj λk J m=>bL (qb We (c9 m (bS x))==1) (BM x (m.H (bS x)) (m.H dK) (m.H a1u) (m.H Tv) (m.H jA) (m.H NO)/\k a1 (Gv x m)) (m.H (bS x)=aj (cX x 2)/\k a1 (YF (cX x 1)))else ap
def mS[z1](op o:ez ae):a5:=∃sz p y,op=aj (KI p)/\o=aj (f4 y)/\(1<=sz/\sz<=1000)/\(y.length:Int)=sz/\a6u
def BN[m5][z1]:Int:=qb SJ (c9 m nL)
def qd[m5][z1]:Pp:=vH (c9 m nL)
def HH[m5][z1]:d7:=L7 (c9 m D4)
def BO[z1](b:d7)(T:Nat)[m5]:ac:=(pj D4 (f4 (cY (BN m i) (qd m i).wc b (HH m i) T))).upd nL (aS (BN m i) i (gE (qd m i) T))
def M7[wl]:w9:=two a6 λp v=>BL v λb=>(ig p 1000080).bind λi=>aj λk J m=>mS i (m.H nL) (m.H D4)/\bL (qd m i).ro (Wh/\∀T:Nat,NW=(if BN m i-a26<nw then BN m i-a26 else nw)->bL (NW==nw) (k (hD [a4 T,l1]) (BO i b T m)) (k (hD [a4 T,tt]) (BO i b T m))) (k (hD [l1,a4 2]) m)
def Gw(i T:Nat)[m5]:ac:=(v2 58 (f4 (cm (HH m i) (BN m i) (qd m i).rc T))).upd nL (aS (BN m i) i (e6 (qd m i) T))
def M8[wl]:w9:=two a6 λp v=>y5 v λc=>(ig p 1000080).bind λi=>aj λk J m=>mS i (m.H nL) (m.H D4)/\(0<=c/\c<=50)/\bL ((qd m i).wo&&(fl (0<c)&&a26==0)) (k (hD [ek [],tt]) m) (∀T:Nat,NW=(if a26<c then a26 else c)->k (hD [ek (cm (HH m i) (BN m i) (qd m i).rc T),l1]) (Gw i T m))
def BP[hB][m5]:ac:=(ac.mk1 ⟨WO (yT (λi o=>bw i (bif c0 i j then a1X else jw o)) 0 a0l) m.L⟩ 430 NL).mk1 430 VG
def Gx[wl]:w9:=two a6 λt p=>if ig t 1000726=t_/\ig p 1000460=t_ then aj λk e m=>BK m/\((∀j,c8 (fY m) a1P=aj j->k (hD [a4 (fY m j).pid,a4 (fY m j).status]) (BP j ((uQ p m).mk1 493 (bC a1P))))/\((c8 (fY m) a1P=ap->(cR (fY m) p a4r).isEmpty=am\/(fY m 0).killed=am->e (((uQ p m).mk1 493 (bC a1P)).mk1 565 ej))/\(c8 (fY m) a1P=ap->(cR (fY m) p a4r).isEmpty=av->(fY m 0).killed=av->k a1 ((((uQ p m).mk1 493 (bC a1P)).mk1 565 ej).upd (aq 0) (bw 0 (y0 (fY m 0) (hD [c1 Og,a4 (fY m 0).pid])))))))else ap
def BQ:ae->Id
 | .sd fs=>match dp (OC:Str) fs with|aj eF=>i|_=> bv 0 0
 |_=> bv 0 0
def BS(op o a:ez ae):a5:=∃k L S u n j sz N R A,op=aj (eA k L S u)/\o=aj (jU n j sz N R)/\a=aj (t0 A)/\ -1000<=S/\S<=1000
def L8:ae->b2| .sd fs=>(match dp ("is_open":Str) fs with|aj B_=>b|_=>av)|_=>av
def JO[wl]:w9:=match a6 with|[]=>ap|v::l=>two l λw u=>HF v λp=>HF w λr=>y5 u λJ=>aj λk J m=>BS (m.H p) (m.H r) (m.H (BQ (c9 m r)))/\(k NS m/\(L8 (c9 m p)=am->∀b:b2,k B_ m))
def HI:dk ((Str×Str)×(b5->w9)):=[((fI,Pz),Gr),((fI,QO),Gs),((fI,Xa),Gu),((r_,A_),M6),((hL,Oe),M7),((hL,RB),M8),(("",a2h),JO),((fI,Pd),Gx)]
def bl:jW:=λn c args=>match n with|_+6=>(match c with| Ul=>(HI.lookup (cl,f)).bind λg=>g a6|_=>ap)|_=>ap
section E
section
set_option backward.match.sparseCases false
open PySem
def af{u:cv}(f:Nat->u)[hB](a:u):Nat->u:=λi=>bL (c0 i j) a (f i)
def nd(c:a5) [Yy c](x:a5):a5:=bL (fl c) x gj
abbrev il(i:Int):a5:= -dF<i/\i<dF
def Nw:OO| B_=>b|_=>av
def rX[f0]:UU:=[(0,aj 1),(3000000,aj 5),(2000000,aj 6),(597,ap),(598,ap),(601,ap),(725,ap),(1000726,aj 1),(460,aj 1),(1000460,aj cp),(430,ap),(523,aj n),(1000727,aj 2),(77,aj 1),(727,aj 1),(266,aj 1),(310,ap),(1000728,aj 2),(109,aj 1),(1000729,aj 1),(1000404,aj n),(378,aj (hG+2)),(1000080,aj n),(31,aj n),(1000285,aj hG),(619,aj n),(634,aj 1),(636,aj 2),(732,aj 1),(733,aj 4),(734,aj 1),(639,ap),(740,ap),(741,ap)]
def kc[f0][m5]:ac:=⟨(rX n).map λp=>(c5,match p.2 with|v_=>(az c5 m.L).take k|ap=>az c5 m.L)⟩
abbrev kG[f0](R:ef):si:=λv m=>bL (Nw v) (R (kc n m)) gj
abbrev gn:V:= a1W
def gG[hB][ZI]:Pr:=⟨c_,qi,js,ih,a2 (j8 j),P1,a1,kl,0,pg⟩
def BT[hB](d:Nat->V):b5:=aF (λx=>bL S2 (a2 (bS (2*dn+1))) (d x)) 4
def i0(r:Rw)(e:x0):Rw:=⟨RA,r.done,r.bye,e,r.told,OD⟩
def qe[hB][k3][ZI](d:Nat->V)[a45](e:x0):St:={s with P:=a2Y,SL:=NV j (BT j d),R:=af (tc ⟨t,E,ap,ap,tl,kl⟩) dn (i0 (s.R dn) e),I:=OJ dn p,lend:=bL (rt 1) e SH}
def BU[A1][l9](t:d7)(E:Int):Int:=if f3-Wf+Oz (n-j)<(Tp:Int)-E then f3-Wf+Oz (n-j)else(Tp:Int)-E
abbrev y6[z1]:V:= hD [c1 N1,f6,l1]
abbrev um[z1]:V:= hD [c1 N1,f6,tt]
def fZ[f0](P:h8):a5:=BJ [o9 n] [nD n] (eu P cp)
def L9[z1](r:Int)(p:Pp)(y b:d7)(k0 m:PZ):a5:=mS i (aj (aS r i p)) (aj (f4 y))/\(Wh/\∀T:Nat,NW=(if r-z_<nw then r-z_ else nw)->bL (NW==nw) (k0 T) (m T))
def uo[Pf](k0 m:a5):a5:=match a9U with|un=>bL (! r) k0 m|ap=>gj
def Ma[A1][l9][UP](tl:Bool)(p:Pp)(F:Int)(o:d7)(T:Nat):St:={s with P:=a2P (gG j ih kl 0),R:=tc ⟨[],0,ap,ap,tl,kl⟩,I:=OJ dn (gE p T),RG:=a6P,came:=af zz (n-j) (Wf+F)}
def JP[A1][l9][ZI][a45](F:Int)(o:d7)(T:Nat):St:={s with P:=a2P ⟨c_,Ra,js,ih,a2 (j8 j),P1,um dn,kl,0,pg+T⟩,R:=tc ⟨t,E+F,ap,ap,tl,kl⟩,I:=OJ dn (gE p T),RG:=a6P,came:=af zz (n-j) (Wf+F)}
def JQ[A1][l9][UP][a45](F:Int)(o:d7)(T:Nat):St:={s with P:=a2P (gG j ih kl 0),R:=tc ⟨t,E+F,aj (100+RM),ap,tl,kl⟩,I:=OJ dn (gE p T),RG:=a6P,came:=af zz (n-j) (Wf+F)}
def JR[A1][k3][UP](t:d7)(E:Int)(tl:Bool):St:={s with P:=a2P (gG j ih kl 0),R:=tc ⟨t,E,aj (100+RM),ap,tl,kl⟩}
def Mb[A1][l9][ZI][a45](F:Int)(R:ef):a5:=nd YY (nd (il (Tp-E)) (nd (il (f3-Wf)) (nd (il (f3-Wf+Oz (n-j))) (nd (il (Wf+F)) (nd (il (E+F)) (nd YY (bL (E+F==Tp) (nd (Y2/\YY) (L9 dn f3 p (oD dn) a1m (λT=>Vi/\∀_:Int,nd (il (pg+T)) (nd YY (bL (fl (pg+T<Tp)) gj (nd YY (uo (a4 Tp) (a4 (E+F)) gj (R (dt (Ma n j c s ih kl tl p F a1m T)))))))) (λT=>Vi/\∀_:Int,nd (il (pg+T)) gj))) (nd (Y2/\YY) (L9 dn f3 p (oD dn) a1m (λT=>Vi/\∀_:Int,nd (il (pg+T)) (nd YY (bL (fl (pg+T<Tp)) (bif kl then R (dt (JQ n j c s ih kl t E tl p F a1m T))else gj) (nd YY gj)))) (λT=>Vi/\∀_:Int,nd (il (pg+T)) (bif kl then R (dt (JQ n j c s ih kl t E tl p F a1m T))else bL (pg+T==E+F) (R (dt (JP n j c s ih kl pg t E tl p F a1m T))) gj)))))))))))
def bb{u:cv}(f:b2->u):u×u:=(f am,f av)
def bc{u:cv}(f:b2->u):u×u:=(f am,f av)
theorem dY{u:cv}{f g:b2->u}(h:bb f=bc g)[Pu]:f b=g b:=b.casesOn (hh (·.2) h) (hh w1 h)
theorem rY{P:PZ}[v1](t:P bm)(r:∀j,j<=k->eK->m3)[hB](h:j<=bm)(H:eK):m3:=(Nat.le_or_eq_of_le_succ h).elim (λx=>r j x H) λe=>e▸t
theorem JS{P:PZ}[hB](h:j<=0)(H:eK):m3:=b6 (ei H h) (by decide)
theorem nj{P:Nat->PZ}(a:P 2 1)(b:P 2 2)(c:P 3 1)(d:P 3 2)(e:P 3 3)(f:P 4 1)(g:P 4 2)(h:P 4 3)(i:P 4 4)(k:P 5 1)(l:P 5 2)(m:P 5 3)(o:P 5 4)(p:P 5 5):∀n j,l4->kT->eK->gp->P n j:=λn j F S H B=>rY (P:=λn=>l4->∀j,gp->eK->P n j) (λ_=>rY p (rY o (rY m (rY l (rY k JS))))) (rY (λ_=>rY i (rY h (rY g (rY f JS)))) (rY (λ_=>rY e (rY d (rY c JS))) (rY (λ_=>rY b (rY a JS)) (rY (λz=>b6 z (by decide)) JS)))) n S (ei (by decide) F) F j B H
def wL[a4C][a1f]:a5:=a4x (dt (a09 ⟨r,g,am,w⟩ ap))
def wR[a4C][a1f]:a5:=a8z
theorem Mc:∀n j,l4->kT->eK->gp->bb (wL n j)=bc (wR n j):=by refine ZN<;>kernel_rfl
theorem JT:∀n j,l4->kT->eK->gp->∀[YE][a1f],a4x (dt (a09 ⟨r,g,am,w⟩ ap))=a8z:=λn j H F Q C f c s R X regs kl pg d b t E tl r g w=>hh (λz=>z f c s R X ih pg d b t E tl r g w) (dY (Mc n j H F Q C) kl)
def Nx[A1][YE][a1f](e:Int):a5:=a4x (dt (a09 ⟨r,g,av,w⟩ P4))
def Ny[A1][YE][a1f](e:Int):a5:=a7W
theorem JU:∀n j,l4->kT->eK->gp->Nx n j=Ny n j:=by refine ZN<;>kernel_rfl
theorem HJ:∀n j,l4->kT->eK->gp->∀[YE][a1f](e:Int),a4x (dt (a09 ⟨r,g,av,w⟩ P4))=a7W:=λn j H F Q C f c s R X regs kl pg d b t E tl r g w e=>hh (λz=>z f c s R X ih kl pg d b t E tl r g w e) (JU n j H F Q C)
section E
section
set_option backward.match.sparseCases false
open PySem
inductive Md where
  | rdy | rd | wr | ch | off
instance:E2 Md:=⟨ft⟩
theorem ah[a19][mv]{a:u}:Xe j=a:=by unfold af;ext Wv
theorem ag[a19]{i j:Nat}{a:u}(h:i≠j):Xe i=f i:=by unfold af;exact rwL (fR h);rfl
theorem ax[a19][mv]{a:u}(h:f j=a):Xe=f:=funext λi=>by
 ext Po;. exact ec q ah h;rfl
 . exact oe
def al(R:PA)[hB]:b2:=(R j).ended.isNone
def LD(R:PA)[hB]:a5:=∃i,1<=i/\i<j/\(R i).ended=aj (-1)
def EH(n L j:Nat)(o i:Nat)(T:Bool)(v:Int):a5:=v=o/\(j<n->T=av/\i=o)/\(j=n->o=L)
def Gy[f0](f:d7)[hB](r:Rw)(w g:Nat):a5:=∃d:Nat,r.done=d/\d<=w/\(RA=[]/\d=0\/d<X1)/\RA=(f.drop (w-d)).take X1/\(j<n->g+d=w+X1)
structure Pt (n R : Nat) (f : d7) [hB] (r : Rw) (m : Md) (w g : Nat) (s T : Bool) (i E : Nat) (S : a5) : a5 where
  off : Vq → (m = .off ↔ V9)
  m0 : j = 0 → m ≠ .off ∧ m ≠ .wr
  ch : m = .ch → j = 0
  pp : j < n → g ≤ i ∧ i ≤ g + R ∧ i ≤ Tq
  dat : Vq → Py → U5 → Gy n f j r w g
  rd : m = .rd → j < n ∧ i = g ∧ T = am ∧ Py ∧ (Vq → RA = [] ∧ OD = av ∧ U5)
  wr : m = .wr → w = E + R ∧ s = am ∧ RA ≠ [] ∧ OD = av ∧ U5
  up : Vq → Py → s = av → S
  bye : Vq → ∀ v, Py → r.bye = d0 → 0 ≤ v ∧ (OD = am ∨ S ∨ EH n Tq j w i T v)
  en : Vq → ∀ v, PL = d0 → v = -1 ∨ 0 ≤ v ∧ (S ∨ EH n Tq j w i T v)
  fs : j = 0 → V9 → j < n → T = av ∧ i = g
  tl : Yb → V9
structure mT (n a : Nat) (f : d7) (R : Nat → Rw) (md : Nat → Md) (w g : Nat → Nat) : a5 where
  pt : ∀ j, j ≤ n → Pt n a f j (R j) (md j) (w j) (g j) (al R dn) (al R c_) (w c_) (g dn) (LD R j)
  ch : Pj = .ch → a3E ∧ ∀ j, Vq → j ≤ n → Pq = ap ∨ a1T
  tl : ∀ j, Vq → j ≤ n → a1T → a3E
theorem qf{R:PA}[mv]:al R j=am↔Pq=ap:=Option.isNone_iff_eq_none
theorem qg{R:PA}[mv]:al R j=av↔Pq≠ap:=by unfold al;cases Pq<;>simp
theorem HK{R:PA}[mv]{r:Rw}{i:Nat}(h:i≠j):al Ue i=al R i:=by unfold al;exact rwL (ag h);rfl
theorem xu{R:PA}[mv]{r:Rw}:al Ue j=r.ended.isNone:=by unfold al;ext P3;rfl
theorem vN{R:PA}[mv]{r:Rw}(y:Pq=ap\/PL=Pq){i:Nat}(h:LD R i):LD Ue i:=by
 refine fk h λk H F Q=> ? _;clear h;refine⟨k,H,F,? _⟩;exact bcH q (k=j)
 .subst q;ext P3;rcases y with y|y;. replace Q:=y▸Q;exact bG Q
  . exact rwL y;exact Q
 . ext R_;exact Q
theorem EI{R:PA}{i:Nat}(h:LD R i):LD R fq:=by exact fk h λk H F Q=>⟨k,H,TS F,Q⟩
theorem Pt.near{n R:Nat}{f:d7}[mv]{r:Rw}{m:Md}{w g:Nat}{s T:Bool}{i E:Nat}{G:a5}(h:Pt n R f j r m w g s T i E G){m':Md}{p o:Bool}{k z:Nat}{I:a5}(u:m'=m\/m'= ft/\m≠.off)(l:G->I)(H:j<n->i<=k/\k<=g+R/\k<=Tq)(F:m'= .rd->j<n->k=i/\(T=am->o=am))(Q:m'= .wr->z=E/\(s=am->p=am))(C:eK->Py->p=av->I)(S:j<n->T=av->o=av/\k=i):Pt n R f j r m' w g p o k z I:=by
 have M:∀v,EH n Tq j w i T v->EH n Tq j w k o v:=λv A=>⟨A.1,λD=>by exact bx (A.2.1 D) λa b=>bx (S D a) λc d=>⟨c,d.trans b⟩,A.2.2⟩;have t:m'≠ft->m'=m:=λq=>u.elim id λe=>b6 e.1 q;refine⟨λD=> ? _,λD=> ? _,od,λD=>⟨ei (h.pp D).1 (H D).1,(H D).2⟩,h.dat,od,od,C,λD v a b=>⟨(h.bye D v a b).1,? _⟩,λD v a=> ? _,λD a B=> ? _,h.tl⟩
 .rcases u with e|⟨e,q⟩;. ext ea;exact h.off D
  . ext ea;exact⟨OA,λa=>b6 ((h.off D).mpr a) q⟩
 .rcases u with e|⟨e,q⟩;. ext ea;exact h.m0 D
  . ext ea;exact a0H
 . exact h.ch ((t (by ext ea;exactλq=>TN)).symm.trans e)
 . have a:=h.rd ((t (by ext ea;exactλq=>TN)).symm.trans e);exact bx (F e a.1) λc d=>⟨a.1,c.trans a.2.1,d a.2.2.1,a.2.2.2⟩
 . have a:=h.wr ((t (by ext ea;exactλq=>TN)).symm.trans e);exact bx (Q e) λc d=>⟨c▸a.1,d a.2.1,a.2.2⟩
 . exact(h.bye D v a b).2.imp id λx=>x.imp l (M v)
 . exact(h.en D v a).imp id λx=>⟨x.1,x.2.imp l (M v)⟩
 . exact bx (h.fs D a B) λc d=>bx (S B c) λy X=>⟨y,X.trans d⟩
theorem BV[mv]{n E:Nat}{f:d7}{R:PA}{md:lp}{w g:i3}(h:mT n E f R md w g)(D:gp)(r:Rw)(M:lp)(o k:Nat)(G:∀i,i<=n->i≠j->M i=md i\/M i= ft/\md i≠.off)(K:w j<=o)(y:Pq=ap\/PL=Pq/\o=w j)(V:Pt n E f j r (M j) o k (al R dn) (al R c_) (w c_) (g dn) (LD R j))(H:eK->o<=g dn+E/\o<=Tq)(F:eK->M dn= .rd->o=w j/\Py)(Q:j<n->M c_= .wr->k=g j/\Py)(C:j<n->al R c_=am->V9->LD Ue c_)(S:M 0= .ch->j=0/\(V9/\a6w)\/eK/\(Py\/Yb))(s:eK->Yb->a3E):mT n E f Ue M (af w j o) (af g j k):=by
 revert r M o k;exact dl8 j n E f R md w g;exact dl4 r M o k;have l:∀i,LD R i->LD Ue i:=λi=>vN (y.imp id And.left);have U:∀i,i≠j->al Ue i=al R i:=λi q=>HK q;refine⟨w8,od,λi A W I=> ? _⟩
 .exact bcH q (j=i)
  .subst q;refine rwl ah (rwl ah (rwl ah (rwl (ag (a31 j)) (rwl (U _ (a31 j)) ? _))));ext Zj;. subst z;exact V.near hA (l 0) (λa=>⟨nl,(V.pp a).2⟩) a3l (λa=>b6 a (V.m0 rfl).2) (λa=>b6 a (Qk 0)) a3p
   . have p:dn≠j:=J' (Nat.sub_one_lt z);exact a3 (ag p) (U _ p);exact V.near hA (l j) (λa=>⟨nl,(V.pp a).2⟩) a3l a5O (λa b c=>l j (V.up a b c)) a3p
  .have q:=LL q;exact ec oe oe oe;have O:=h.pt i W;have m:=G i W q;have t:M i≠ft->M i=md i:=λe=>m.elim id λz=>b6 z.1 e;exact bcH u (fq=j)
   .subst u;have p:i-1≠fq:=by refine pk (nat_lit 0x1c0b311004110001) a7 [] a0
    exact w3 ah xu (ag p) (U _ p);have F:=F (we i);have H:=H (we i)
    exact O.near m (l i) (λJ=>⟨K,H⟩) (λa J=>⟨(F a).1,λJ=>Option.isNone_iff_eq_none.mpr (F a).2⟩) a5O (λa b c=>l i (O.up a b c)) λJ a=>by
     rcases y with e|e;. exact b6 e (qg.mp a)
     . exact⟨by exact rwL (e.1);exact a,e.2⟩
   .exact a3 (ag u) (U _ u);exact bcH z (i=0);. subst z;exact a3 oe (U _ q);exact O.near m (l 0) a7F a3l a5O (λa=>b6 a (Qk 0)) a3p
    .exact bcH v (i-1=j)
     .subst v;have v:i-1+1=i:=by refine bn (nat_lit 0x10b0031141100c0b010001) a7 [] z a0
      exact a3 ah xu;rw [v]at Q C;have B:i-1<n:=by refine c6 (nat_lit 0x10a10411000910000b003114110002) cb [] W v a0
      exact O.near m (l i) a7F a3l (λa=>⟨(Q B a).1,λJ=>Option.isNone_iff_eq_none.mpr (Q B a).2⟩) (λa b c=>C B (qf.mpr b) λe=>by replace c:=e▸c;exact sK c) a3p
     . exact a3 (ag v) (U _ v);exact O.near m (l i) a7F a3l a5O (λa b c=>l i (O.up a b c)) a3p
 .rcases S e with⟨rfl,a,b⟩|⟨a,b⟩;. ext P3;exact⟨a,λi H W=>by exact rwL (ag (RR H));exact b i H W⟩
  .have z:0≠j:=J' a
   have L:Pj= .ch:=by
    rcases G 0 p1 z with x|x;. exact rwR x;exact e
    . replace e:=x.1▸e;exact a0A e rfl
   refine bx (h.ch L) λc d=> ? _;exact rwL PG;refine⟨c,λi H W=> ? _⟩;ext Po;. subst q;ext P3;exact b
   . ext R_;exact d i H W
 .ext Po;. subst q;replace I:=ah▸I;exact rwL (ag (J' A));exact s A I
  .replace I:=oe▸I;have c:=h.tl i A W I;exact bcH z (0=j)
   .subst z;ext P3;rcases y with e|e;. exact b6 e c
    . exact rwL (e.1);exact c
   . exact rwL PG;exact c
section E
section
set_option backward.match.sparseCases false
open PySem
def bI(f:i3):i3|0=>0|cp=>bI f n+f n
theorem rZ{f:i3}{j a:Nat}:∀[e3],j<n->bI Xe n+f j=bI f n+a:=λ{n}=>by
 induction n with
  |zero=>exactλh=>b6 h (Qk j)
  |succ n G=>
   intro h;show bI Xe n+Xe n+f j=bI f n+f n+a;exact bcH q (j=n)
   .subst q
    have e:bI Xe j=bI f j:=by
     clear G h;have:∀k,k<=j->bI Xe k=bI f k:=λk=>by induction k with|zero=>exact hS|succ k G=>intro N;show bI Xe k+Xe k=bI f k+f k;exact a3 (G (PI N)) (ag (J' N));rfl
     exact b_ j (oa j)
    exact a3 ah e;rewrite [XE];rfl
   . have:=G (QX (oc h) q);exact rwL (ag (LL q));rewrite [XE];ext Od;rewrite [XE];rfl
theorem vO{f g:i3}:∀[e3],(∀j,j<n->f j<=g j)->bI f n<=bI g n:=λ{n}=>by induction n with|zero=>exactλJ=>oa 0|succ n G=>exactλh=>Nat.add_le_add (G λj D=>h j (TS D)) (h n (F' n))
theorem fA{f g:i3}[e3](h:∀j,j<n->f j=g j):bI f n=bI g n:=Nat.le_antisymm (vO λj D=>O1 (h j D)) (vO λj D=>O1 (h j D).symm)
def uR:Md->Md->Md| .rd,.rd=> ft| .wr,.wr=> ft| .ch,.ch=> ft|_,m=>m
def wk(q:Md×Nat)(md:lp):lp:=af md q.2 a1L
def ix:Q4->lp->lp|[],md=>md|q::l,md=>ix l (wk q md)
def aw:Md->Nat| ft=>1|_=>0
theorem BW(q m:Md):uR q m=m\/uR q m= ft/\m≠.off:=by cases q<;>cases m<;>first|exact hA|exact ba ⟨rfl,λq=>TN⟩
theorem mU(m:Md):aw m<=1:=by cases m<;>decide
theorem ms:∀(l:Q4)(md:lp)[z1],K_ i=md i\/K_ i= ft/\md i≠.off:=λl=>by
 induction l with
  |nil=>exactλmd i=> hA
  |cons q l G=>
   intro md i
   have h:wk q md i=md i\/wk q md i= ft/\md i≠.off:=by
    unfold wk;exact bcH z (i=q.2);. subst z;ext P3;exact BW ..
    . exact rwL PG;exact hA
   rcases G (wk q md) i with a|a;. replace h:=G' a▸h;exact h
   .refine ba ⟨a.1,od⟩;rcases h with b|b;. replace a:=b▸a;exact a.2 e
    . exact b.2 e
theorem HL{q m:Md}(h:a5o):uR q m≠q:=by rcases h with rfl|rfl|rfl<;>cases m<;>exactλq=>TN
theorem r6:∀{l:Q4}{md:lp}{q:Md}{i:Nat},a5o->(md i≠q\/(q,i)∈l)->K_ i≠q:=λ{l}=>by
 induction l with
  |nil=>exactλJ h=>Ok id λh=>(by cases h)
  |cons p l G=>
   intro md q i B h;refine G B ? _;rcases h with h|h
   .left;unfold wk;exact bcH z (i=p.2)
    .subst z;ext P3;rcases BW c5 (md p.2)with a|a;. ext F1;exact h
     . exact rwL (a.1);rcases B with rfl|rfl|rfl<;>exactλq=>TN
    . exact rwL PG;exact h
   .rcases nr h with e|e;. left;subst e;unfold wk;ext P3;exact HL B
    . exact ba e
theorem HM:∀{l:Q4}{md:lp}{h:i3}[e3],bI (λi=>aw (K_ i)+h i) n<=bI a3u n+OE:=λ{l}=>by
 induction l with
  |nil=>exactλ{md h n}=>nl
  |cons q l G=>
   intro md h n;refine ei G (ei (a5L (m:=bI a3u n+1) ? _ OE) (O1 (by exact rwL XQ;rewrite [a0C];rewrite [Nat.add_comm 1];rfl)));show bI (λi=>aw (wk q md i)+h i) n<=_
   have e:(λi=>aw (wk q md i)+h i)=af a3u q.2 (aw a1L+h q.2):=funext λi=>by
    unfold wk;exact bcH z (i=q.2);. subst z;exact a3 ah ah;rfl
    . exact a3 PG PG;rfl
   ext ea;exact bcH z (q.2<n);. have A:=rZ (f:=a3u) (a:=aw a1L+h q.2) z;have b:=mU a1L;refine c6 (nat_lit 0x10931110000b333040103330200009114005) S_ [] A b a0
   . exact a0e (vO λj D=>O1 (ag (f:=a3u) λ(e:j=q.2)=>z (e▸D)))
def rp(r:Rw):Nat:=bif r.ended.isSome then(bif r.told then 0 else 1)else(9+bif r.bye.isNone then 3 else 0)
def jB(L:Nat)(R:PA)(w g:i3)[z1]:Nat:=rp (R i)+2*(L-w i)+2*(L-g i)
def y7(n L:Nat)(R:PA)(md:lp)(w g:i3):Nat:=bI (λi=>aw (md i)+jB L R w g i) cp
theorem fg{n L:Nat}{R:PA}{md:lp}{w g:i3}[mv](D:gp)(r:Rw)(l:Q4)(m':Md)(o k:Nat):y7 n L Ue (af K_ j m') (af w j o) (af g j k)+aw (md j)+jB L R w g j<=y7 n L R md w g+OE+aw m'+(rp r+2*(L-o)+2*(L-k)):=by
 revert r l m' o k;exact dl7 n L R md w g j;exact dl5 r l m' o k;unfold y7
 have e:(λi=>aw (af K_ j m' i)+jB L Ue (af w j o) (af g j k) i)=af (λi=>aw (K_ i)+jB L R w g i) j (aw m'+(rp r+2*(L-o)+2*(L-k))):=funext λi=>by
  unfold jB;exact bcH z (i=j);. subst z;refine rwl ah (rwl ah (rwl ah (rwl ah (rwl ah ? _))));rfl
  . refine rwl PG (rwl PG (rwl PG (rwl PG (rwl PG ? _))));rfl
 ext ea;have H:=rZ (f:=λi=>aw (K_ i)+jB L R w g i) (a:=aw m'+(rp r+2*(L-o)+2*(L-k))) (show j<cp from VL D);have F:=HM (l:=l) (md:=md) (h:=jB L R w g) (n:=cp)
 have Q:aw (md j)<=aw (K_ j):=by
  rcases ms l md j with a|a;. ext F1;exact nl
  . exact rwL (a.1);exact mU _
 have H:_+(aw (K_ j)+jB L R w g j)=_:=H;refine kq (nat_lit 0x109332549070325480706035034030320310000934030a009b0100b3332549070325480706050a03320b0000c) [_,_,_,_,_,_,_,_,_,_,_,_] [] F Q H a0
section E
section
set_option backward.match.sparseCases false
open PySem
section
variable{n rm:Nat}{txt:d7}{R:PA}{md:lp}{w g:i3}
theorem mT.step[mv][YX](D:gp)(r:Rw)(l:Q4)(m':Md)(o k:Nat)(d:w j<=o)(y:Pq=ap\/PL=Pq/\o=w j)(V:Pt n rm txt j r m' o k (al R dn) (al R c_) (w c_) (g dn) (LD R j))(H:eK->o<=g dn+rm/\o<=txt.length)(F:eK->(.rd,dn)∈l\/o=w j/\Py\/PL=Pq/\o=w j)(Q:j<n->(.wr,c_)∈l\/k=g j/\(Py\/PL=Pq))(C:j<n->al R c_=am->V9->Pq≠ap\/PL=aj (-1)/\eK\/LD R j)(S:m'= .ch/\V9/\a6w\/m'≠.ch/\(j=0\/Py\/Yb\/(.ch,0)∈l\/Pj≠.ch))(s:eK->Yb->a3E):a0U Ue (af K_ j m') (af w j o) (af g j k):=by
 revert r l m' o k;exact dl8 n rm txt R md w g j;exact dl5 r l m' o k;refine BV h D r (af K_ j m') o k (λi W q=>by ext R_;exact ms l md i) d y (by ext P3;exact V) H (λf e=> ? _) (λB e=> ? _) (λB a b=> ? _) od s
 .replace e:=ag (J' (Nat.sub_one_lt (RR f)))▸e;rcases F f with a|a|a;. exact b6 e (r6 hA (ba a))
  . exact a
  .refine⟨a.2,? _⟩;rcases ms l md dn with b|b;. replace e:=b▸e;have:=((h.pt dn (ei (Uf j 1) D)).rd e).2.2.1;replace this:=Pk f▸b_;exact a.1.trans (qf.mp b_)
   . replace e:=b.1▸e;exact a0A e rfl
 .replace e:=ag (a31 j)▸e;rcases Q B with a|a;. exact b6 e (r6 Wj (ba a))
  .refine⟨a.1,a.2.elim id zf⟩;rcases ms l md c_ with b|b;. replace e:=b▸e;exact a.trans (qf.mp ((h.pt c_ B).wr e).2.1)
   . replace e:=b.1▸e;exact a0A e rfl
 .rcases C B a b with c|c|c;. exact vN (y.imp id And.left) ((h.pt c_ B).up (we j) (qf.mp a) (qg.mpr c))
  . exact⟨j,c.2,F' j,by ext P3;exact c.1⟩
  . exact vN (y.imp id And.left) (EI c)
 .exact bcH z (0=j)
  .subst z;replace e:=ah▸e;rcases S with a|a;. exact b7 ⟨rfl,a.2⟩
   . exact b6 e a.1
  .replace e:=PG▸e;have f:eK:=Pl (LL z);rcases S with a|a;. exact b6 (V.ch a.1) (LL z)
   .rcases a.2 with b|b|b|b|b;. exact b6 b (LL z)
    . exact ba ⟨f,b7 b⟩
    . exact ba ⟨f,ba b⟩
    . exact b6 e (r6 (ba NT) (ba b))
    . exact b6 e (r6 (ba NT) (b7 b))
theorem mT.write{j F:Nat}{r:Rw}{m':Md}[YX][W5](Q:Pq=ap)(y:Py)(l:w j+F<=g dn+rm/\w j+F<=txt.length)(hd:U5->Gy n txt j r (w j+F) (g j))(M:∀v,r.bye=d0->0<=v/\(OD=am\/LD R j))(I:r.told=av)(u:m'= ft\/m'= .wr/\w j+F=g dn+rm/\al R dn=am/\RA≠[]/\OD=av/\U5):a0U Ue (af (ix [(.rd,dn)] md) j m') (af w j (w j+F)) g:=by
 revert m';exact gs n rm txt R md w g j F r;exact dl1 m';have O:=h.pt j D;have:=h.step D r [(.rd,dn)] m' (w j+F) (g j) (QY _ _) (b7 Q) ⟨O5,zf,zf,O.pp,λJ J=>hd,zf,zf,λa J=>O.up a Q,λJ v J a=>⟨(M v a).1,(M v a).2.imp id b7⟩,λJ v a=> ? _,zf,zf⟩ (λJ=>l) (λJ=> b7 TO) (λJ=> ba ⟨rfl,b7 y⟩) (λJ J a=>b6 y a) (ba ⟨? _,ba (b7 y)⟩) (λJ a=>by ext a1o);. ext a6Y
 . ext a9T
 . exact b6 H (by ext F1;decide)
 . ext a4M
 . ext a4M
 .rcases u with rfl|⟨rfl,b⟩;. exact Xz
  . exact b
 . replace a:=y▸a;exact bG a
 . exact b6 H (by ext F1;decide)
 . ext a1o
 . rcases u with rfl|⟨rfl,_⟩<;>exactλq=>TN
theorem mT.read[YX]{j T:Nat}{r:Rw}{m':Md}{l:Q4}(H:eK)(D:j<n)(Q:Pq=ap)(y:Py)(d:g j+T<=w c_)(c:T=0\/(.wr,c_)∈l)(hd:U5->Gy n txt j r (w j) (g j+T))(M:∀v,r.bye=d0->0<=v/\(OD=am\/a97))(I:r.told=av)(u:m'= ft\/m'= .rd/\w c_=g j+T/\al R c_=am/\RA=[]/\OD=av/\U5):a0U Ue (af K_ j m') w (af g j (g j+T)):=by
 have L:=OZ D;have O:=h.pt j L;have:=h.step L r l m' (w j) (g j+T) nl (b7 Q) ⟨O5,zf,zf,λJ=>⟨d,? _,(O.pp D).2.2⟩,λJ J=>hd,zf,zf,λa J=>O.up a Q,λJ v J a=>M v a,λJ v a=> ? _,zf,zf⟩ zf (λJ=> ba (b7 ⟨rfl,y⟩)) (λJ=>c.elim (λz=> ba ⟨by exact rwL z;rfl,b7 y⟩) b7) (λJ J a=>b6 y a) (ba ⟨? _,ba (b7 y)⟩) (λJ a=>by ext a1o);. ext a41;exact b_
 . ext a9T
 . exact b6 H (by ext F1;decide)
 . ext a4M
 . exact ei (O.pp D).2.1 (a5L (QY _ _) rm)
 .rcases u with rfl|⟨rfl,b⟩;. exact Xz
  . exact⟨D,b.1,b.2.1,y,λJ=>b.2.2⟩
 . ext a4M
 . replace a:=y▸a;exact bG a
 . exact b6 H (by ext F1;decide)
 . ext a1o
 . have:=(h.pt dn (ei (Uf j 1) L)).pp (Nat.lt_of_le_of_lt (Uf j 1) D);replace this:=Pk a▸b_;exact b_.2
 . rcases u with rfl|⟨rfl,_⟩<;>exactλq=>TN
theorem mT.end_[mv]{v:Int}{l:Q4}[YX][W5](Q:Pq=ap)(T:(.rd,dn)∈l/\(j<n->(.wr,c_)∈l)/\(.ch,0)∈l)(Z:v= -1\/0<=v/\a97)(I:(R j).told=av):a0U (af R j (i0 (R j) d0)) (af K_ j .off) w g:=by
 exact gs n rm txt R md w g j v l;have O:=h.pt j D;have:=h.step D (i0 (R j) d0) l .off (w j) (g j) nl (b7 Q) ⟨λJ=>⟨λJ q=>(iy q),hS⟩,λa=>b6 H (by ext F1;decide),λa=>Xz,O.pp,λJ a=>(iy a),λa=>Xz,λa=>Xz,λJ a=>(iy a),λJ v a=>(iy a),λJ v a=>by have b:=hR a;clear a;subst b;exact Z,λa=>b6 H (by ext F1;decide),λa=>by have a:a1T:=a;ext a1o⟩ zf (λJ=> b7 T.1) (λa=> b7 (T.2.1 a)) (λB a J=> ? _) (ba ⟨OA,ba (ba (ba (b7 T.2.2)))⟩) (λJ a=>by have a:a1T:=a;ext a1o);. ext a41;ext a6Y
 . ext a8u
 .rcases Z with rfl|⟨_,c|c⟩;. exact ba (b7 ⟨rfl,H⟩)
  . exact ba (ba c)
  . have:=(c.2.1 B).1;replace this:=a▸b_;exact sK b_
theorem mT.first{T:Nat}{r:Rw}{m':Md}{l:Q4}[YX](B:0<n)(y:(R 0).ended=ap\/PL=(R 0).ended)(d:g 0+T<=w 1)(c:(.wr,1)∈l\/T=0/\PL=(R 0).ended)(hd:V9->al R 1=av/\w 1=g 0+T)(I:Yb->V9)(u:m'= ft\/m'= .rd/\w 1=g 0+T/\al R 1=am/\Py\/m'= .ch/\V9/\a6w):a0U (af R 0 r) (af K_ 0 m') w (af g 0 (g 0+T)):=by
 revert l;exact gs n rm txt R md w g T r m';exact dl1 l;have O:=h.pt 0 p1;have f:∀{p:a5},1<=0->p:=λa=>b6 a (by decide);have:=h.step p1 r l m' (w 0) (g 0+T) nl (y.imp id λa=>⟨a,rfl⟩) ⟨f,O5,hS,λa=>⟨d,? _,(O.pp a).2.2⟩,f,zf,zf,f,f,f,λJ a J=>hd a,I⟩ f f (λJ=>c.elim b7 λz=> ba ⟨by exact rwL (z.1);rfl,ba z.2⟩) (λJ a b=>by replace a:=(hd b).1▸a;exact cT a) ? _ f;. ext a41;exact b_
 . rcases u with rfl|⟨rfl,_⟩|⟨rfl,_⟩<;>exact a0H
 . exact ei (O.pp a).2.1 (a5L (QY _ _) rm)
 .rcases u with rfl|⟨rfl,b⟩|⟨rfl,_⟩;. exact Xz
  . exact⟨B,b.1,b.2.1,b.2.2,f⟩
  . exact Xz
 . rcases u with rfl|⟨rfl,b⟩|⟨rfl,_⟩<;>exact Xz
 .rcases u with rfl|⟨rfl,_⟩|a;. exact ba ⟨OA,hA⟩
  . exact ba ⟨OA,hA⟩
  . exact b7 a
theorem mT.said[YX][mv]{r:Rw}{m':Md}[W5](y:PL=Pq)(M:r.bye=(R j).bye)(N:(R j).killed=am->OD=am)(hd:Py->U5->Gy n txt j r (w j) (g j))(u:b0k)(I:Yb->V9/\a3E)(L:a1T->Yb):a0U Ue (af md j m') w g:=by
 have O:=h.pt j D;have d:m'= .off\/m'= ft:=u.elim And.right λa=> ba a.1;have:=h.step D r [] m' (w j) (g j) nl (ba ⟨y,rfl⟩) ⟨zf,λa=>b6 H (by ext F1;decide),zf,O.pp,λJ=>hd,zf,zf,zf,λa v=> ? _,λa v=> ? _,λa=>b6 H (by ext F1;decide),λa=>(I a).1⟩ zf (λJ=> ba (ba ⟨y,rfl⟩)) (λJ=> ba ⟨rfl,ba y⟩) (λB a b=> b7 (y▸b)) ? _ (λJ a=>(I a).2);. ext a41;ext a6Y
 .exact rwL y;have:=O.off H;rcases u with⟨e,_⟩|⟨e,b⟩;. ext ea;exact b_
  . ext ea;exact⟨OA,λq=>b6 (this.mpr q) b⟩
 . ext a6R
 . ext a6R
 . ext a6R
 . exact rwL y;exact O.up a
 . exact a3 y M;exactλb c=>(O.bye a v b c).imp id λx=>x.imp N id
 . exact rwL y;exact O.en a v
 . ext a8u
 .have q:m'≠.ch:=λe=>by replace d:=e▸d;rcases d with q|q<;>exact TN
  refine cM Pq (λf=> ? _) λv f=> ? _;. exact ba ⟨q,ba (b7 (y.trans f))⟩
  .refine ba ⟨q,ba (ba ? _)⟩;rcases Classical.em (Pj= .ch)with e|e
   .rcases(h.ch e).2 j H D with c|c;. replace c:=f▸c;exact iy c
    . exact b7 (L c)
   . exact ba (ba e)
section E
section E
section
set_option backward.match.sparseCases false
open PySem
section
variable{n rm:Nat}{txt:d7}{R:PA}{md:lp}{w g:i3}
theorem mT.live[YX](m:1<=rm)(B:∀j,gp->md j≠ft):∀j,eK->gp->a1T:=by
 have i:∀d j,j+d=n->md j≠.rd:=λd=>by
  induction d with
   |zero=>exactλj D e=>b6 ((h.pt j (O1 D)).rd e).1 (by exact rwR D;exact VU _)
   |succ d G=>
    intro j D e;have f:c_<=n:=by exact rwR D;exact Nat.add_le_add_left (we d) j
    have a:=(h.pt j (PI f)).rd e;have p:=h.pt c_ f;have b:=G c_ (by exact rwR D;rewrite [a0C];rewrite [Nat.add_comm 1];rfl);refine K8 (md c_) λO q=> ? _;induction O using Ym with|rdy=>exact B _ f q|rd=>exact b q|wr=>have c:=(p.wr q).1;replace c:=a.2.1▸c;rewrite [XD]at c;refine c6 (nat_lit 0x1d0900110b300101002) cb [] m c a0|ch=>exact b6 (p.ch q) (XL j)|off=>exact((p.off (we j)).mp q) (qf.mp a.2.2.1)
 have k:Pj= .ch:=by have p:=(h.pt 0 p1).m0 rfl;refine K8 Pj λO q=> ? _;induction O using Ym with|rdy=>exact b6 q (B 0 p1)|rd=>exact b6 q (i n 0 (Ow n))|wr=>exact b6 q p.2|ch=>rfl|off=>exact b6 q c5
 have l:∀j,gp->al R j=av:=λj=>by induction j with|zero=>exactλJ=>qg.mpr (h.ch k).1|succ j G=>intro D;have p:=h.pt c_ D;have a:=G (PI D);refine K8 (md c_) λO q=> ? _;induction O using Ym with|rdy=>exact b6 q (B _ D)|rd=>exact b6 q (i (n-c_) c_ (Nat.add_sub_cancel' D))|wr=>have c:=(p.wr q).2.1;rewrite [XD]at c;replace c:=a▸c;exact cT c|ch=>exact b6 (p.ch q) (XL j)|off=>exact qg.mpr ((p.off (we j)).mp q)
 exactλj H D=>((h.ch k).2 j H D).elim (λe=>b6 e (qg.mp (l j D))) id
theorem mT.vals[YX](f:∀j,eK->gp->Pq≠ap){e:Nat}(y:e<=cp)(U:¬LD R e):∀i,1<=i->i<e->a9h:=by
 have S:∀i,1<=i->i<e->w i=w 1->a9h:=λi H W r=>by
  have A:i<=n:=oc (Os W y);refine cM (R i).ended b4 λv q=> ? _;. exact b6 q (f i H A)
  .rcases(h.pt i A).en H v q with a|⟨_,a|a⟩;. exact b6 ⟨i,H,W,a▸q⟩ U
   . refine fk a λk m P t=> ? _;clear a;exact b6 ⟨k,m,Nat.lt_trans P W,t⟩ U
   . replace a:=r▸a;exact⟨hh aj a.1,λz=>(a.2.1 z).2,a.2.2⟩
 intro i
 induction i with
  |zero=>exactλa=>b6 a (by decide)
  |succ i G=>
   intro H W;refine S fq H W ? _;exact bcH z (i=0);. exact rwL z;rfl
   . have c:=Nat.lt_of_succ_lt W;exact(G (Pl z) c).2.1 (a5w (Os W y))
section E
section E
section
set_option backward.match.sparseCases false
open PySem
def BX[hB](d:Nat->V):b5:=aF (λx=>bL XX a2b (d x)) 4
def qh[hB][k3][ZI](d:Nat->V)(E:Int)(tl:Bool)(p:Pp)(e:x0):St:={s with P:=a2Y,SL:=NV j (BX j d),R:=af (tc ⟨[],E,ap,ap,tl,kl⟩) c_ (i0 (s.R c_) e),I:=OJ j p}
def Gz[z1](r:Int)(p:Pp)(y:d7)(sz:Int)(k0:a5)(m:PZ):a5:=mS i (aj (aS r i p)) (aj (f4 y))/\(0<=sz/\sz<=50)/\bL (p.wo&&(fl (0<sz)&&z_==0)) k0 (∀T:Nat,NW=(if z_<sz then z_ else sz)->m T)
def hU(at_ sz came:Int)(c:Cf):d7:=bO N0 (aj at_) (aj (if at_+sz<came then at_+sz else came)) ap
def JV[Pf](k0 m:a5):a5:=match a9U with|un=>bL r k0 m|ap=>gj
def JW[A1][k3](E:Int)(tl kl:Bool)(p:Pp)(S:d7)(b:x0)(T:Nat):St:={s with P:=λi=>dq (um j) (s.P i),I:=OJ j (e6 p T),R:=tc ⟨S,E,b,ap,tl,kl⟩,gone:=af Oz (n-j-1) (a2l+QA)}
def Me[hB][k3][ZI]:St:={s with P:=Rv j ⟨c_,Ra,js,ih,a2 (j8 j),P1,y6 j,kl,0,pg⟩}
def JX[hB][k3][UP](pg E:Int)(tl:Bool)(at_:Int):St:={s with P:=a2Y,R:=tc ⟨[],E,aj at_,ap,tl,kl⟩}
def xx[A1][l9](E:Int)(tl kl:Bool)(p:Pp)[a51](T:Nat):a5:=Vi/\∀_:Int,uo (ek (cm (oD j) f3 p.rc T)) (ek S) gj (nd (QA<=16777216) (nd (il (at_+QA)) (JV (ek S) (ek []) (R (dt (JW n j s E tl kl p S (aj at_) T))) (R (dt (JW n j s E tl kl p S ap T))))))
def I7[A1][l9][UP](pg E:Int)(tl:Bool)(p:Pp)(al:Bool)[a51]:a5:=nd (il (at_+Vv)) (nd (Y2/\Zo) (bL (S==[]) (bL (fl (Vv<0)) (bif al&&kl then R (dt (JX j s ih kl pg E tl at_))else gj) (bif al then Gz j f3 p (oD j) Vv (bif kl then R (dt (JX j s ih kl 0 E tl at_))else R (dt (Me j s ih kl pg))) (λJ=>Vi/\∀_:Int,gj)else a9o)) (bL (fl (Vv<0)) gj a9o)))
theorem Mf{P:Nat->PZ}(a:P 2 1)(c:P 3 1)(d:P 3 2)(f:P 4 1)(g:P 4 2)(h:P 4 3)(k:P 5 1)(l:P 5 2)(m:P 5 3)(o:P 5 4):∀n j,l4->kT->eK->j<n->P n j:=λn j H F Q C=>nj (P:=λn j=>j<n->P n j) (λJ=>a) (λh=>b6 h (by decide)) (λJ=>c) (λJ=>d) (λh=>b6 h (by decide)) (λJ=>f) (λJ=>g) (λJ=>h) (λh=>b6 h (by decide)) (λJ=>k) (λJ=>l) (λJ=>m) (λJ=>o) (λh=>b6 h (by decide)) n j H F Q (OZ C) C
def rL[a4C][ZP](a:Bool):a5:=a4z (dt (a1i a0t ap))
def rR[a4C][ZP](a:Bool):a5:=a76
theorem Mg:∀n j,l4->kT->eK->j<n->bb (rL n j)=bc (rR n j):=by refine a7b<;>kernel_rfl
theorem JY:∀n j,l4->kT->eK->j<n->∀[YE][ZP](a:Bool),a4z (dt (a1i a0t ap))=a76:=λn j H F Q C f c s R X regs kl pg d E tl r g a=>hh (λz=>z f c s R X ih pg d E tl r g a) (dY (Mg n j H F Q C) kl)
def Nz[A1][YE][ZP](a:Bool)(e:Int):a5:=a4z (dt (a1i a0s P4))
def NA[A1][YE][ZP](a:Bool)(e:Int):a5:=a75
theorem JZ:∀n j,l4->kT->eK->j<n->Nz n j=NA n j:=by refine a7b<;>kernel_rfl
theorem HN:∀n j,l4->kT->eK->j<n->∀[YE][ZP](a:Bool)(e:Int),a4z (dt (a1i a0s P4))=a75:=λn j H F Q C f c s R X regs kl pg d E tl r g a e=>hh (λz=>z f c s R X ih kl pg d E tl r g a e) (JZ n j H F Q C)
section E
section
set_option backward.match.sparseCases false
open PySem
def aP[hB]:Nat:=2*dn+1
def J0[hB]:Nat->V|0=> a1|1=> a2b|_=> a2 (bS hF)
def hV[Yu]:b5:=aF (λx=>bL Ty (J0 j A) a9f) 4
def pz[Yu]:QI:=(bif c0 A 0 then []else [bif c0 A 1 then gw else hF])++(bif rt n then [hF]else bif rt 1 then [hF,gw]else [gw,hF])
def uq[Yu][k3][ZI](o:Id):St:={s with P:=a2Y,SL:=NV j (hV n j A),F:=af (O4 gw (bif c0 A 1 then 2 else bif rt n then s.F gw else 1)) hF (bif lj 2 A then 2 else 1),opn:=o}
def qk[Px]:ez ae:=match s.opn with| Uo=>bif c0 t 310 then s.ol[k]? else([bC (aF (λf=> Ui) hG)]:d_)[k]?
def Li(n i:Nat)(k:NY)[k3]:a5:=Vi/\∀_:Int,(fZ n (λj=>dq (y6 i) E_)/\∀_:Int,k a6I)
def Lj[f0](c:Cf)(x:Nat)(k:NY)[k3]:a5:=bL (s.F x==1) (a72/\Li n hI k a7Y) (aj (cX x (s.F x))=aj (cX x 2)/\Li n hI k {s with F:=O4 x 1})
def J1[f0](c:Cf):QI->NY->NY|[],k=>k|x::r,k=>Lj n c x (J1 n c r k)
def xy[hB][UP](N:Int):Pr:=⟨c_,"zombie",js,ih,a2 (j8 j),P1,a1,kl,N,0⟩
def Mh[A1](c:Cf)[UP](N:Int)(R:ef)[k3]:a5:=fZ n (Rv j (gG j ih kl 0))/\(fZ n (Rv j (xy j ih kl N))/\∀_:Int,R (dt {s with P:=λi=>dq (hD [c1 Og,a4 (s.P 0).pid]) (Rv j (xy j ih kl N) i),SL:=NV j WI,R:=tc (i0 (s.R j) (aj N))}))
def Lk[Yu][l9][UP](N:Int)(R:ef):a5:=J1 n c (pz n j A) (Mh n j c ih kl N R) s
def eL[Yu](o:Nat->Id)[YL][UP](pg N:Int)[q_]:a5:=a2x (dt (a1q (o k)))
def eR[Yu](o:Nat->Id)(_:Nat)[l9](R:ef)(_:ef)[UP](pg N:Int)[q_]:a5:=Lk n j A c (a1q (o k)) ih kl N R
def Ll[Yu][Pu]:=eL n j A (bif b thenλJ=> Xb else TJ)
def Lm[Yu][Pu]:=eR n j A (bif b thenλJ=> Xb else TJ)
abbrev J2[A1]:a5:=∀A,A=0\/A=2\/(j<n/\A=1)->bb (Ll n j A)=bc (Lm n j A)
theorem NB{n j:Nat}(a:bb (Ll n j 0)=bc (Lm n j 0))(b:bb (Ll n j 2)=bc (Lm n j 2))(c:j<n->bb (Ll n j 1)=bc (Lm n j 1)):J2 n j:=λA h=>Ok (λe=>e▸a) λh=>Ok (λe=>e▸b) λh=>h.2▸c h.1
theorem J3:∀n j,l4->kT->eK->gp->J2 n j:=by refine ZN<;>exact NB (by kernel_rfl) (by kernel_rfl) λh=>by first|exact b6 h (by decide)|kernel_rfl
theorem J4{j k l m n o p q r i:cv}{f g:j->k->l->m->n->o->p->q->r->i->a5}(h:f=g)(a b c d e x y z u v):f a b c d e x y z u v=g a b c d e x y z u v:=by ext Td
theorem J5[A1](g:l4)(B:kT)(q:eK)(I:gp)[YL][UP](pg N:Int)(A:Nat)(h:A=0\/A=2\/(j<n/\A=1)):(a2x (dt (a1q Xb))=Lk n j A c (a1q Xb) ih kl N R)/\∀k,a2x (dt (a1q (TJ k)))=Lk n j A c (a1q (TJ k)) ih kl N R:=⟨J4 (dY (J3 n j g B q I A h) am) f c s R X ih kl pg N 0,λk=>J4 (dY (J3 n j g B q I A h) av) f c s R X ih kl pg N k⟩
section E
section
set_option backward.match.sparseCases false
open PySem
def ql:Md->Str| ft=>qi| .off=>"zombie"|_=>Ra
def r7[hB]:Md->V| .rd=>y6 j| .wr=>um dn| .ch=> hD [c1 Og,tt]|_=> a1
def sI[hB](par regs:V)(m:Md)(kl:Bool)(pg:Int):Pr:=⟨c_,ql m,par,ih,a2 (j8 j),P1,r7 j m,kl,0,pg⟩
def HO[hB](m:Md):a5:=(m= .wr->eK)/\(m= .ch->j=0)
theorem lx{j i:Nat}{par regs:V}{m q:Md}{kl:Bool}{pg:Int}(H:HO j m)(F:HO i q)(B:a5o):a9W:=by
 exact dl8 j i par ih m q kl pg;have S:∀b:b2,jx (sI j par ih m kl pg) (r7 i q)=b->(bif b then Md.rdy else m)=a6x->a9W:=λb Z e=>by exact rwR e;induction b using u' with|true=>exact pd Z|false=>exact jM Z
 have c:∀a b:Nat,((a:Int)==(b:Int))=c0 a b:=λa b=>by
  refine cO (c0 a b) D_ D_;. exact rwL (TQ z);exact TV _
  . exact RL λe=>a3i z (WP e)
 have n:∀x y:b2,(x&&(y&&av))=av:=λx y=>by cases x<;>cases y<;>rfl
 rcases B with rfl|rfl|rfl;. induction m using Ym with|rd=>refine S (rt i) ? _ (by cases rt i<;>rfl);show(am&&(am&&(((j:Int)==Of)&&am)))=_;rewrite [c];ext a1K;rfl|wr=>exact S av (n _ _) (by cases rt i<;>rfl)|_=>exact S av rfl (by cases rt i<;>rfl)
 . induction m using Ym with|rd=>exact S av (n _ _) (by cases rt i<;>rfl)|wr=>obtain⟨a,rfl⟩:∃a,j=Oa:=⟨dn,(Pk (H.1 rfl)).symm⟩;obtain⟨b,rfl⟩:∃b,i=b+1:=⟨i-1,(Pk (F.1 rfl)).symm⟩;refine S (c0 a b) ? _ (by show(bif c0 a b then _ else _)=bif c0 a b then _ else _;cases c0 a b<;>rfl);show(am&&(am&&(((a:Int)==(b:Int))&&am)))=_;rewrite [c];ext a1K;rfl|_=>exact S av rfl (by cases rt i<;>rfl)
 . have z:=F.2 rfl;subst z;induction m using Ym with|ch=>have y:=H.2 rfl;subst y;exact S am rfl rfl|_=>exact S av rfl (by cases rt 0<;>rfl)
def gH[hB]:V:= a2 (bv 523 dn)
def pA(r:Rw):Int:=bif r.bye.isNone then r.done else 0
def r9(n L:Nat)(r:Rw)(m:Md)(p:Pr):PZ|0=>p=sI 0 a1 (a2 (bv 430 (hG+3))) m av 0|c_=>(Py->p=sI c_ js (gH c_) m OD (pA r))/\∀v,PL=d0->(r.told=av->p=xy c_ (gH c_) OD v)/\(Yb->∃x,x<L/\p=iO x)
def pK[Px](md:lp):a5:=∀j,gp->r9 n Q7 (s.R j) (md j) E_ j
abbrev y8[f0](md:lp):a5:=∀j,gp->HO j (md j)
theorem r9.wake{n L j i:Nat}{r:Rw}{m q:Md}{p:Pr}(h:r9 n L r m p j)(H:HO j m)(F:HO i q)(B:a5o):r9 n L r a6x (dq (r7 i q) p) j:=by
 induction j using Qn with
  |zero=>have h:p=_:=h;exact rwL h;exact lx H F B
  |succ j=>
   refine⟨λe=>by exact rwL (h.1 e);exact lx H F B,λv e=>⟨D3,D3⟩⟩;. exact rwL ((h.2 v e).1 t);exact jM rfl
   . refine aN ((h.2 v e).2 t) λx Y e=> ? _;ext ea;exact⟨x,Y,jM rfl⟩
theorem GA(q:Md×Nat)(md:lp)[hB]:wk q md j=bif rt q.2 then uR q.1 (md j)else md j:=by
 unfold wk;exact bcH z (j=q.2);. exact a3 z ah;ext Wv
 . exact a3 PG (fR z);rfl
theorem pK.wake[e3]{s:St}{md:lp}{q:Md×Nat}(h:pK n s md)(H:y8 n md)(F:HO q.2 q.1)(B:q.1= .rd\/q.1= .wr\/q.1= .ch):pK n {s with P:=λj=>dq (r7 q.2 q.1) E_} (wk q md):=λj D=>by rewrite [GA];exact(h j D).wake (H j D) F B
theorem sb[e3]{l:Q4}{md:lp}(h:y8 n md):y8 n K_:=λj D=>by
 rcases ms l md j with e|e;. ext ea;exact h j D
 . exact rwL (e.1);exact a0H
theorem BY[hB](m:Md):ie (r7 j m):=by induction m using Ym with|rd=>exact .pipe _ _|wr=>exact .pipe _ _|ch=>exact .child _|_=>exact a1
theorem r9.ok{n L j:Nat}{r:Rw}{m:Md}{p:Pr}(h:r9 n L r m p j):ie p.chan/\(p.par= a1\/p.par= js):=by
 induction j using Qn with
  |zero=>have h:p=_:=h;exact rwL h;exact⟨BY ..,hA⟩
  |succ j=>
   refine cM PL od S7;. exact rwL (h.1 e);exact⟨BY ..,NT⟩
   .refine cO r.told D3 D3;. refine aN ((h.2 v e).2 t) λx J e=> ? _;ext ea;exact⟨a1,hA⟩
    . exact rwL ((h.2 v e).1 t);exact⟨a1,NT⟩
theorem vP[e3]{P:h8}(B:n<=100)(h:∀j,gp->ie (P j).chan/\((P j).par= a1\/(P j).par= js)):fZ n P:=by
 have h':∀j,ie (bif lj j n then m3 else iO 0).chan/\((bif lj j n then m3 else iO 0).par= a1\/(bif lj j n then m3 else iO 0).par= js):=λj=>by
  refine cO (lj j n) b4 b4;. exact h j (SO q)
  . exact⟨a1,hA⟩
 refine⟨n,λj=>bif lj j n then m3 else iO 0,rfl,rfl,dz V4,λj=>(h' j).1,λj=>(h' j).2,B⟩;show t0 m3=t0 (bif lj j n then m3 else iO 0);exact rwL (a5y (oc D));rfl
theorem pK.tab[e3]{s:St}{md:lp}(h:pK n s md)(B:n<=100):Vi:=vP B λj D=>(h j D).ok
def M9(F:ki):OO| a2 (bv _ f)=>F f !=0|_=>av
def sJ[f0](F:ki):b5:=(YZ hG).filter (M9 F)
def qm[z1]:Int×V:=(Of,og nL)
def dL(F:ki):Nat->RO|0=>[]|fq=>dL F i++bif a23 then [qm i]else []
structure ly [Px] : a5 where
  on : s.opn = Xb ∨ ∃ k, s.opn = TJ k
  ol : qk n s = aj (bC (sJ n s.F))
  io : ∀ i, i < n → (s.I i).ro = (s.F (2 * i) != 0) ∧ (s.I i).wo = Z9
  D : s.D = dL s.F n
  al : ∀ o ∈ s.ol, ∃ F, o = bC (sJ n F)
theorem vQ{F:ki}{i:Nat}:∀[e3],dp Of (dL F n)=if i<n/\a23=am then aj wd else ap:=λ{n}=>by
 induction n with
  |zero=>exact(b9 λq=>b6 q.1 (Qk i)).symm
  |succ n G=>
   have a:∀(l x:RO),dp Of (l++x)=match dp Of l with|d0=>d0|ap=>dp Of x:=λl x=>by
    induction l with
     |nil=>rfl
     |cons p r G=>
      show(if c5=Of then aj p.2 else dp Of (r++x))=match(if c5=Of then aj p.2 else dp Of r)with|d0=>d0|ap=>_
      exact bcH z (c5=Of);. exact a3 vh vh;rfl
      . exact a3 K' K';exact G
   show dp Of (dL F n++_)=_;rewrite [a];exact rwL G;exact bcH z (i<n/\a23=am);. exact a3 vh (c4 ⟨TS z.1,z.2⟩);rfl
   .ext Vo;show dp Of (bif F hG !=0||F (hG+1)!=0 then [qm n]else [])=_;exact bcH y (i=n)
    .subst y;cases a23;. exact(b9 λq=>nomatch q.2).symm
     . exact rwL (c4 ⟨F' i,rfl⟩);exact s_
    .exact rwL (b9 λq=>z ⟨QX (oc q.1) y,q.2⟩);cases F hG !=0||F (hG+1)!=0;. rfl
     . exact b9 λq=>y (WP q).symm
section E
section
set_option backward.match.sparseCases false
open PySem
abbrev fO(F:ki)[z1]:b2:=a23
theorem pB{F t:ki}:∀[e3],(∀i,i<n->fO F i=fO t i)->dL F n=dL t n:=λ{n}=>by induction n with|zero=>exact hS|succ n G=>intro h;show dL F n++(bif fO F n then _ else _)=dL t n++(bif fO t n then _ else _);ext a6M
theorem HP{k:Int}:∀{l t:RO},dp k l=ap->fC k (l++t)=l++fC k t:=λ{l t}=>by
 induction l with
  |nil=>exact hS
  |cons p r G=>
   intro h;have h:(if c5=k then aj p.2 else dp k r)=ap:=h;show(if c5=k then r++t else p::fC k (r++t))=p::(r++fC k t);exact bcH z (c5=k);. replace h:=vh▸h;exact iy h
   . replace h:=K'▸h;exact a3 K' (G h);rfl
theorem EJ{k:Int}[g_]:∀{l t:RO},dp k l=d0->fC k (l++t)=fC k l++t:=λ{l t}=>by
 induction l with
  |nil=>exactλh=>bG h
  |cons p r G=>
   intro h;have h:(if c5=k then aj p.2 else dp k r)=d0:=h;show(if c5=k then r++t else p::fC k (r++t))=(if c5=k then r else p::fC k r)++t;exact bcH z (c5=k);. exact a3 vh vh;rfl
   . replace h:=K'▸h;exact ec K' K' (G h);rfl
theorem HQ{b t:ki}{i:Nat}(H:fO b i=am)(F:fO t i=av):∀[e3],(∀k,k<n->k≠i->fO b k=fO t k)->fC Of (dL b n)=dL t n:=λ{n}=>by
 induction n with
  |zero=>exact hS
  |succ n G=>
   intro h;have G:=G λk N=>h k (TS N);show fC Of (dL b n++(bif fO b n then [qm n]else []))=dL t n++(bif fO t n then [qm n]else []);exact bcH z (i<n);. exact ec (EJ (vQ.trans (c4 ⟨z,H⟩))) G (h n (F' n) (RR z));rfl
   .have q:dp Of (dL b n)=ap:=vQ.trans (b9 λa=>z a.1);have e:dL b n=dL t n:=pB λk N=>h k (TS N) λa=>z (a▸N);exact a3 (HP q) e;exact bcH y (i=n);. subst y;exact a3 H F;exact hh _ s_
    .exact rwL (h n (F' n) (LL y));cases fO t n;. rfl
     . exact hh _ (b9 λa=>y (WP a).symm)
theorem y9{n x:Nat}{F:ki}:(sJ n F).filter (qc x)=sJ n (af F x 0):=by
 unfold sJ;exact rwL List.filter_filter;refine List.filter_congr λv Z=> ? _
 obtain⟨f,_,rfl⟩:∃f,f<hG/\og (bS f)=v:=by
  obtain⟨i,W,e⟩:=a1D Z;have e:(YZ hG)[i]? =d0:=by rewrite [F4 W,e];try rfl
  replace W:=aM▸W;ext a0M;replace e:=c4 W▸e;exact⟨i,W,hR e⟩
 show(! fl (bS f=bS x)&&(F f !=0))=(af F x 0 f !=0);exact bcH z (f=x);. subst z;exact a3 ah (T0 rfl);rfl
 . exact a3 PG (S1 (λe:bS f=bS x=>z (Xi e).2));rfl
def Na(n x:Nat)[k3]:St:=a7Y
theorem ly.clo{n x:Nat}{s:St}(h:ly n s)(Y:x<hG)(l:s.F x=1):ly n (Na n x s):=by
 exact dl3 n x s;have g:(vM ((qk n s).getD sw)).filter (qc x)=sJ n TB:=by exact rwL h.ol;exact y9
 have W:hI<n:=Nat.div_lt_of_lt_mul Y
 have d:x=2*hI/\eY x=0\/x=2*hI+1/\eY x=1:=by
  unfold eY;rcases Nat.mod_two_eq_zero_or_one x with q|q;. ext OI;exact b7 ⟨by ext a5E;refine c6 (nat_lit 0x10b2510000b01200b00320251003) eb [] q e a0,rfl⟩
  . ext OI;exact ba ⟨by ext a5E;refine c6 (nat_lit 0x10b3112510000b11200b00320251003) eb [] q e a0,rfl⟩
 have j:=h.io hI W
 have i:(Vc (s.I hI)).ro=(TB (2*hI)!=0)/\(Vc (s.I hI)).wo=(TB (2*hI+1)!=0):=by
  rcases d with⟨a,b⟩|⟨a,b⟩
  .have u:TB (2*hI)=0:=by exact rwR a;exact ah
   exact ec b u (ag (show 2*hI+1≠x by refine bn (nat_lit 0x1c0b1031125000b25001002) cb [] a a0));exact⟨rfl,j.2⟩
  .have u:TB (2*hI+1)=0:=by exact rwR a;exact ah
   exact ec b u (ag (show 2*hI≠x by refine bn (nat_lit 0x1c0b1025000b31125001002) cb [] a a0));exact⟨j.1,rfl⟩
 have c:∀k,k≠hI->TB (2*k)=s.F (2*k)/\TB (2*k+1)=s.F (2*k+1):=λk q=>⟨ag (by refine c6 (nat_lit 0x1c0b102500fe1b11000b311252010e1b01000b252010c0b200013) eb a7 d q a0),ag (by refine c6 (nat_lit 0x1c0b103112500fe1b11000b311252010e1b01000b252010c0b200013) eb a7 d q a0)⟩;refine⟨ba U1,? _,λk N=> ? _,? _,Ug⟩;. show(s.ol++a7)[s.ol.length]? =_;rewrite [Vy nl,RT,g];rfl
 .show(OJ hI _ k).ro=_/\(OJ hI _ k).wo=_;exact bcH q (k=hI);. exact a3 q ah;exact i
  . exact w3 oe (show(Mine.Internal.Na n x s).F=TB from rfl) ((c k q).1) ((c k q).2);exact h.io k N
 .show(bif gS (Vc (s.I hI))then fC a1Z s.D else s.D)=dL TB n
  have op:fO s.F hI=am:=by
   unfold fO;rcases d with⟨a,_⟩|⟨a,_⟩;. exact rwRL a l;rfl
   . exact rwRL a l;cases s.F (2*hI)!=0<;>rfl
  have m:gS (Vc (s.I hI))= ! fO TB hI:=by unfold gS fO;exact a3 (i.1) (i.2);rewrite [Bool.not_or];rfl
  have f:∀k,k<n->k≠hI->fO s.F k=fO TB k:=λk J q=>by unfold fO;exact a3 ((c k q).1) ((c k q).2);rfl
  exact a3 m h.D;refine cO (fO TB hI) b4 b4
  .refine pB λk N=> ? _;exact bcH z (k=hI);. exact ec z q op;rfl
   . exact f k N z
  . exact HQ op q f
 .have P:o∈s.ol++a7:=P;rcases VJ P with a|a;. exact h.al o a
  . exact a3 (w6 a) g;exact U1
theorem ly.pre{n x:Nat}{s:St}{c:Cf}(h:ly n s)(B:n<=100)(Y:x<hG)(l:s.F x=1):a72:=by
 exact dl4 n x s c;refine⟨by exact rwL l;rfl,n,f3,(hG:Nat),s.opn,s.I hI,sJ n s.F,s.D,rfl,h.ol,? _,λv Z=> ? _,? _,rfl,rfl,rfl,? _,O5⟩;. rcases h.on with e|⟨k,e⟩<;>(ext PD)
 .obtain⟨i,W,e⟩:=a1D (SS Z).1;have e:(YZ hG)[i]? =d0:=by rewrite [F4 W,e];try rfl
  replace W:=aM▸W;ext a0M;replace e:=c4 W▸e;exact⟨_,XY⟩
 . refine ZU ? _;ext QF;refine bn (nat_lit 0x109000003e822500090000006420001) a7 [] B a0
 .exact rwL h.D;have:∀k,(dL s.F k).length<=k:=λk=>by induction k with|zero=>exact oa 0|succ k G=>show(dL s.F k++_).length<=bm;exact rwL Qi;refine Nat.add_le_add G ? _;cases s.F (2*k)!=0||s.F (2*k+1)!=0<;>first|exact Q8 1|exact oa 1
  exact ei (b_ n) (ei B (by decide))
 .exact rwL h.D;refine vQ.trans (c4 ⟨Nat.div_lt_of_lt_mul Y,? _⟩);rcases Nat.mod_two_eq_zero_or_one x with q|q;. exact a3 (show 2*hI=x by ext a5E;refine c6 (nat_lit 0x10b1025000b01200b10320250003) eb [] q e a0) l;rfl
  . exact a3 (show 2*hI+1=x by ext a5E;refine c6 (nat_lit 0x10b1031125000b11200b10320250003) eb [] q e a0) l;cases s.F (2*hI)!=0<;>rfl
structure J6 (s U : St) : a5 where
  eq : U = { s with F := U.F, ol := U.ol, opn := U.opn, I := U.I, D := U.D, P := U.P }
  I : ∀ i, (U.I i).rc = (s.I i).rc ∧ (U.I i).wc = (s.I i).wc
def vR:QI->Q4|[]=>[]|x::l=>(.rd,hI)::(.wr,hI+1)::vR l
theorem pK.put[e3]{s U:St}{md:lp}(h:pK n s md)(H:U.P=s.P)(F:U.R=s.R)(Q:U.rl=s.rl):pK n U md:=λj D=>by exact ec H F Q;exact h j D
theorem J7{n i:Nat}{s:St}{md:lp}{k:NY}(B:n<=100)(h:pK n s md)(H:y8 n md)(N:pK n a6I (ix [(.rd,i),(.wr,fq)] md)->k a6I):Li n i k s:=by exact dl5 n i s md k;have a:=h.wake (q:=(.rd,i)) H a0H hA;have b:=a.wake (q:=(.wr,fq)) (sb (l:=[(.rd,i)]) H) ⟨λJ=>we i,OA⟩ Wj;exact⟨h.tab B,λJ=>⟨a.tab B,λJ=>N b⟩⟩
theorem GB[e3]{c:Cf}{k:NY}(B:n<=100):∀(l:QI)[k3](md:lp),ly n s->pK n s md->y8 n md->(∀x∈l,x<hG/\((l.count x:Nat):Int)<=s.F x/\s.F x<=2)->(∀U,ly n U->pK n U (ix (vR l) md)->J6 s U->(∀x,U.F x=s.F x-(l.count x:Nat))->k U)->J1 n c l k s:=λl=>by
 induction l with
  |nil=>exactλs md H F J J N=>N s H F ⟨rfl,λJ=>s4⟩ λx=>(Zs _).symm
  |cons x l G=>
   intro s md H F Q C N;refine zF (C x UH) λY L h=> ? _;rewrite [List.count_cons_self]at L
   have I:∀(A:St),ly n A->J6 s A->A.P=s.P->(∀y,A.F y=s.F y-(if y=x then 1 else 0))->Li n hI (J1 n c l k) A:=λA g1 g2 g3 g4=>by
    have e:=g2.eq;refine J7 B (F.put g3 (by ext PD) (by ext PD)) Q λO=>G _ _ ⟨g1.on,g1.ol,g1.io,g1.D,g1.al⟩ O (sb Q) (λy hy=> ? _) λU m P t k4=>N U m P ⟨? _,λi=> ? _⟩ Xj
    .refine zF (C y (pn hy)) λa b d=> ? _;rewrite [List.count_cons]at b;refine⟨a,? _⟩;ext a92;. exact rwL vh;replace b:=z▸b;rewrite [TV]at b;replace b:=s_▸b;rw [z]at d⊢;refine c6 (nat_lit 0x1e1921411001941100700190073110019210011) a7 a7 L h a0
     . ext Vo;replace b:=(b9 λq=>z (f1 q).symm)▸b;refine c6 (nat_lit 0x1e1921401001940100700192100190073010011) a7 a7 d b a0
    . exact rwL t.eq;ext PD
    . exact⟨(t.I i).1.trans (g2.I i).1,(t.I i).2.trans (g2.I i).2⟩
    .exact a3 (k4 y) List.count_cons;ext a92;. exact a3 vh z;rewrite [TV];ext UA;refine pk (nat_lit 0x11b47311000047004110011) a7 a7 a0
     . exact a3 K' (b9 λq=>z (f1 q).symm);refine pk (nat_lit 0x11b47301000047004010011) a7 a7 a0
   show Lj n c x (J1 n c l k) s;unfold Lj;exact bcH q (s.F x=1)
   .exact rwL (show(s.F x==1)=am from WM q);refine⟨H.pre B Y q,I (Na n x s) (H.clo Y q) ⟨rfl,λi=> ? _⟩ rfl Xj⟩
    .show(OJ hI _ i).rc=_/\(OJ hI _ i).wc=_;exact bcH z (i=hI);. exact a3 z ah;exact s4
     . exact rwL PG;exact s4
    .show TB y=_;exact bcH z (y=x);. exact w3 z ah q s_;rfl
     . exact a3 PG K';rewrite [Zs];rfl
   .have T:s.F x=2:=by refine kq (nat_lit 0x11b21001900731100192100c1b110011) a7 a7 L h q a0
    exact rwL (show(s.F x==1)=av from RL q)
    have p:∀f,(O4 x 1 f !=0)=(s.F f !=0):=λf=>by
     exact bcH z (f=x);. exact ec z ah T;rfl
     . exact rwL PG;rfl
    refine⟨by exact rwL T;rfl,I {s with F:=O4 x 1} ⟨H.on,? _,w8,? _,H.al⟩ ⟨rfl,λJ=>s4⟩ rfl Xj⟩;. refine H.ol.trans (hh (λl=>aj (ae.list l)) (List.filter_congr λv J=> ? _));induction v using kb with|ref i=>exact(p i.2).symm|_=>rfl
    . show(s.I i).ro=(O4 x 1 (2*i)!=0)/\(s.I i).wo=(O4 x 1 (2*i+1)!=0);rewrite [p];rewrite [p];exact H.io i W
    . exact H.D.trans (pB λi J=>by unfold fO;rewrite [<-p];exact rwR (p (2*i+1));rfl)
    .show O4 x 1 y=_;exact bcH z (y=x);. exact w3 z ah T s_;rfl
     . exact a3 PG K';rewrite [Zs];rfl
section E
section
set_option backward.match.sparseCases false
open PySem
structure se (R : Nat) (f : d7) (w g : Nat) (p : Pp) (y : d7) : a5 where
  rc : p.rc = g
  wc : m4 = w
  ln : y.length = R
  rg : ∀ x, g ≤ x → x < w → y[x % R]? = f[x]?
theorem xA{a k r:Nat}:(xz ((a:Int)+(k:Int)) (r:Int)).toNat=(a+k)%r:=by exact rwL (Int.fmod_eq_emod_of_nonneg _ (TT r));exact hh Int.toNat (Int.natCast_emod (a+k) r).symm
theorem HR{x y r:Nat}(H:x<y)(F:y<x+r):x%r≠y%r:=λe=>by have h:r∣y-x:=Nat.dvd_of_mod_eq_zero (Nat.sub_mod_eq_zero_of_mod_eq e.symm);have:=Nat.le_of_dvd (Nat.sub_pos_of_lt H) h;refine kq (nat_lit 0x1d0a10000a320001009400102003) eb [] H F b_ a0
theorem se.write{R T:Nat}{f b:d7}{w g:Nat}{p:Pp}{y:d7}(h:se R f w g p y)(l:w+T<=g+R)(M:∀k,k<T->b[k]? =f[w+k]? /\(f[w+k]?).isSome=am):se R f (w+T) g (gE p T) (cY R m4 b y T):=by
 refine⟨h.rc,by show m4+NW=_;exact rwL h.wc;rfl,mr.trans h.ln,? _⟩;exact rwL h.wc
 have S:∀t,t<=T->∀x,g<=x->x<w+t->(cY (R:Int) (w:Int) b y t)[x%R]? =f[x]? :=λt=>by
  induction t with
   |zero=>exactλJ=>h.rg
   |succ t G=>
    intro I x Y c;show((cY (R:Int) (w:Int) b y t).set (xz ((w:Int)+(t:Int)) (R:Int)).toNat (b[t]?.getD 0))[x%R]? =_;rewrite [xA,List.getElem?_set,mr,h.ln];exact bcH z (x=w+t);. subst z;exact a3 s_ (c4 (Nat.mod_lt _ (by refine kq (nat_lit 0x10a000109300303201009203114009340103005) S_ [] l I Y a0)));refine bx (M t I) V_;exact rwL H;refine db (UM F) λa e=> ? _;ext PD
    . exact rwL (b9 (LL (HR (by refine a9q) (by refine kq (nat_lit 0x10a330203100009330503400009403111009205006) [_,_,_,_,_,_] [] l I Y a0))));exact G (PI I) x Y (by refine a9q)
 exact S T (oa T)
theorem se.read{R T:Nat}{f:d7}{w g:Nat}{p:Pp}{y:d7}(h:se R f w g p y)(l:g+T<=w)(r:w<=Tq):cm y R p.rc T=(f.drop g).take T/\se R f w (g+T) (e6 p T) y:=by
 refine⟨? _,by show p.rc+NW=_;exact rwL h.rc;rfl,h.wc,h.ln,λx Y=>h.rg x (ei (QY g T) Y)⟩;exact rwL h.rc;have S:∀t,g+t<=w->cm y R g t=(f.drop g).take t:=λt=>by induction t with|zero=>exactλJ=>a1C|succ t G=>intro I;show cm y R g t++[y[(xz ((g:Int)+(t:Int)) (R:Int)).toNat]?.getD 0]=_;rewrite [G (PI I),xA,h.rg (g+t) (QY g t) I,List.take_add_one,List.getElem?_drop,F4 (show g+t<Tq from Os I r)];rfl
 exact S T l
section E
section
set_option backward.match.sparseCases false
open PySem
theorem NC{P:PZ}(a:P 2)(b:P 3)(c:P 4)(d:P 5):∀n,l4->kT->P n|0,h,_|1,h,_=>b6 h (by decide)|_+6,_,h=>b6 h (a3Z (Nat.lt_add_left _ (by decide)))|2,_,_=>a|3,_,_=>b|4,_,_=>c|5,_,_=>d
def pC:ez Nat->d_->d_|v_,l=>l.take k|ap,l=>l
def jC(t:Nat):UU->ez (ez Nat)|[]=>ap|p::r=>bL S' (aj p.2) (jC t r)
theorem jN{t:Nat}[f_]:∀{cs:UU},hK (cs.map a7v)=match jC t cs with|v_=>pC k (hK m.L)|ap=>[]:=λ{cs}=>by
 induction cs with
  |nil=>rfl
  |cons p r G=>
   show bL S' (pC p.2 (az c5 m.L)) (hK (r.map _))=match bL S' (aj p.2) (jC t r)with|v_=>_|ap=>_
   refine cO S' b4 b4;. exact rwL (TQ q);rfl
   . exact G
theorem qS{k:ez Nat}{l:d_}[mv]{o:ae}(h:(pC k l)[j]? =ck):l[j]? =ck:=by
 induction k using u_ with
  |none=>exact h
  |some k=>
   have h:(l.take k)[j]? =ck:=h;replace h:=a3L▸h;exact bcH q (j<k);. ext a0w;exact h
   . ext a1A
theorem ur[f0][m5]:(kc n m).L=(rX n).map a7v:=List.map_congr_left λp J=>by obtain⟨s,k⟩:=p;cases k<;>rfl
theorem mt[e3][f_][R0](h:(kc n m).H i=ck):RC:=by
 ext X0;have h:(hK (kc n m).L)[j]? =ck:=h;rewrite [ur]at h;replace h:=jN▸h;refine cM (jC t (rX n)) b4 λk q=> ? _;. ext p2;ext rs
 . ext p2;exact qS h
def J8(l:d_):ez Nat->a5|ap=>True|v_=>OE<=k
def HS:M_->UU->a5|[],[]=>True|p::r,q::r'=>c5=q.1/\J8 p.2 q.2/\HS r r'|_,_=>gj
theorem BZ{t j:Nat}:∀{L:M_}{cs:UU},HS L cs->j<(hK L).length->∃k,jC t cs=v_/\∀l,(pC k l)[j]? =l[j]? :=λ{L}=>by
 induction L with
  |nil=>exactλJ h=>b6 h (Qk j)
  |cons p r G=>
   intro cs h D
   induction cs using li with
    |nil=>exact Ok
    |cons q a=>
     obtain⟨s,l⟩:=p;obtain⟨U,k⟩:=q;refine zF h λH F Q=> ? _;clear h;have H:s=U:=H;subst H;have D:j<(bL (c0 s t) l (hK r)).length:=D;show∃m,bL (c0 s t) v_ (jC t a)=aj m/\_;refine cO (c0 s t) D_ D_;. replace D:=z▸D;refine⟨k,rfl,λx=> ? _⟩;induction k using u_ with|none=>rfl|some k=>have F:OE<=k:=F;show(x.take k)[j]? =_;rewrite [a3L,c4 (Os D F)];try rfl
     . replace D:=z▸D;exact G Q D
theorem EK[LR]:HS (dt s).L (rX n):=by unfold MM Le rX;refine⟨rfl,? _,rfl,? _,rfl,? _,rfl,? _,rfl,? _,rfl,? _,rfl,? _,rfl,? _,rfl,? _,rfl,? _,rfl,? _,rfl,? _,rfl,? _,rfl,? _,rfl,? _,rfl,? _,rfl,? _,rfl,? _,rfl,? _,rfl,? _,rfl,? _,rfl,? _,rfl,? _,rfl,? _,rfl,? _,rfl,? _,rfl,? _,rfl,? _,rfl,? _,rfl,? _,rfl,? _,rfl,? _,rfl,? _,rfl,? _,ep⟩<;>first|exact ep|exact nl|exact O1 aM
theorem mu[SA][f_][eX](h:Xr i):(kc n m).H i=Fc:=by ext X0;refine db (UM h) λo e=> ? _;have e:a16[j]? =ck:=e;refine aN (BZ (EK n c s) (L_ e).1) λk H F=> ? _;show(hK (kc n m).L)[j]? =(hK m.L)[j]?;rewrite [ur];exact a3 jN H;exact F _
def Sc[m5]:a5:=∀i o,RC->kr (ao m) o
theorem J9[SA]{K:si}:l7 j0 (kG n λd=>Sc d/\K y2 d) K:=λv m' h=>by
 induction v using kb with
  |bool b=>induction b using u' with|true=>exact ba ⟨kc n m',⟨λi o e=>mt e,λi W=>mu W,λi o e=> ba (h.1 i o e),y2⟩,h.2⟩|false=>exact Ok
  |_=>exact Ok
abbrev B0[f0](R:Int->ef):si:=λv m=>match v with| f6=>R i (kc n m)|_=>gj
theorem HT[SA]{K:si}:l7 j0 (B0 n a5K) K:=λv m' h=>by induction v using kb with|int i=>exact ba ⟨kc n m',⟨λi o e=>mt e,λi W=>mu W,λi o e=> ba (h.1 i o e),f6⟩,h.2⟩|_=>exact Ok
theorem B7[w'][p3]:bA hN bj WF [Ru] K X m=(bE Ru "open">>=kP) K X m:=by kernel_rfl
theorem za{call:aD}[a8F]:bA hN bj WF [Ru] K X m:=by rewrite [B7];exact aC (v:= a2 o) h (by kernel_rfl) (by kernel_rfl) (aK (f:=lX) T (dT (x:=a_ (j1 PV)) B N))
def B8(a b:ez ae):a5:=∃most o L,a=aj (vJ most o)/\b=T7/\PV<=16777216/\∀M,a=aj M->HG "open" M=o
def B9:E V:=λK J m=>B8 (m.H dK) (m.H a1u)/\K (a4 (vM (c9 m a1u)).length) m
def EL[wl]:w9:=match a6 with|[]=>ap|v::r=>if a67 then aj B9 else ap
theorem lz[f_][R0](h:RC):c9 m i=o:=by unfold c9;ext Td
theorem HU{call:aD}{args:b5}{x:E V}(h:EL a6=eI)[N5](Y:Vs):bA hN bj WF a6 K X m:=by
 induction a6 using li with
  |nil=>ext rs
  |cons v r=>
   have h:(if a67 then aj B9 else ap)=eI:=h;exact bcH q a67;. ext a0w;ext xp;have R:=VI q.2;subst R;exact rwL (cD q.1);refine bx Y λG N=> ? _;clear Y;refine xM G λmost o L H F Q C=> ? _;clear G;have e:=C _ H;have k:=lz H;rw [k,e]at F N;replace N:=lz F▸N;exact za H F Q N
   . ext a1A
def bQ[k3](gl:b5):St:={s with at_:=x3+1,gl:=s.gl++[Ud],gi:=s.gl.length}
structure EM [l9] : a5 where
  g : a7a
  sm : j9 c.small
  so : a7o
  a : 0 ≤ x3 ∧ x3 ≤ 10000
theorem vS:∀n:Nat,l4->kT->∀[l9](many:Int)(gl:b5),kc n (pw eg TK (Ov (c.sk+1)) gl x3 j0)=dt Pv:=by refine NC ? _ ? _ ? _ ? _<;>(ext Q5)
def xB[wl]:w9:=two a6 λN v=>y5 v λmany=>if ig N 598=t_ then aj λK J m=>∃A c s,m=MM A c s/\(2<=A/\A<=5)/\EM c s/\Y4/\∀r gl,0<=r->r<eg->cZ gl->Sc (MM A c Pv)/\Xk (MM A c Pv)else ap
def Ca:pb:=[Zn,Zu,V2,UO,XF]
def cJ:jW:=λn c args=>match c with| Ul=>bif VK then(bif Ca.contains f then aj a8W else bif f==("_law_open":Str)then aj λK X m=>∃A y s,m=MM A y s/\Pg n c a6 (B0 A a5K) X m else bif a02 then xB a6 else bif f==("_law_met":Str)then aj (Pg n c a6)else ap)else a9n|_=>ap
theorem zb{s:Str}(h:s.cps.isEmpty=am):s="":=by obtain⟨a⟩:=s;have:a= #[]:=Array.isEmpty_iff.mp h;subst this;kernel_rfl
theorem mw{u:cv}{c:Bool}{a b:ez u}{x:u}{g:a5}(h:(bif c then a else b)=eI)(k:c=am->a=eI->g)(l:c=av->b=eI->g):g:=by cases c with|true=>exact k rfl h|false=>exact l rfl h
theorem vT[q_][wl](x:E V)(h':xB a6=eI)[p3](Y:Vs):∃P',l7 m P' K/\Pg bm Oq a6 P' X m:=by
 revert x;exact dl5 k a6 K X m;refine i5 (eB h') λN v d=> ? _;subst d;intro g;refine aN (ik g) λmany U=> ? _;subst U;intro g;replace g:(if ig N 598=t_ then aj _ else ap)=eI:=g;exact bcH q3 (ig N 598=t_)
 .replace g:=c4 q3▸g;ext a3c;exact rwL (cD q3);refine LC Y λA y s w=> ? _;subst w;intro M b u Y;obtain⟨⟨L,D,c⟩,p,h,a⟩:=b;refine⟨λv m'=>∃r gl,v= a4 r/\m'=pw eg TK (Ov (y.sk+1)) gl x3 (MM A y s)/\Sc (MM A y Pv)/\Xk (MM A y Pv),λv m' Z=> ? _,? _⟩;. refine I0 Z λr gl d=> ? _;clear Z;subst d;intro w;subst w;intro H F;rw [<-vS A M.1 M.2 y s eg gl]at H F;exact ba ⟨_,⟨λi o e=>mt e,λi W=>mu W,λi o e=> ba (H i o e),a4 r⟩,F⟩
  .have e:Pg bm Oq XS=bA hN (Pg k) Oq XS:=by
    have:bl bm Oq XS=ap:=by rcases k with _|_|_|_|_|k<;>kernel_rfl
    show(match bl bm Oq XS with|eI=>x|ap=>_)=_;ext Od;rfl
   ext ea;exact uk (s:= TK) (g:= bv 601 s.gi) (sm:= Ov (y.sk+1)) (a:=x3) (L:=L) (SM:=y.small) (by kernel_rfl) D h c p a u (by decide) λr gl H F Q=>⟨r,gl,rfl,rfl,Y r gl H F Q⟩
 . replace g:=b9 q3▸g;exact bG g
theorem zc[q_][wl](x:E V)(h:EL a6=eI)[p3](Y:Vs):∃P',l7 m P' K/\Pg bm WF a6 P' X m:=by
 have e:Pg bm WF a6=bA hN (Pg k) WF a6:=by
  have:bl bm WF a6=ap:=by rcases k with _|_|_|_|_|k<;>kernel_rfl
  show(match bl bm WF a6 with|eI=>x|ap=>_)=_;ext Od;rfl
 exact⟨K,λv m' h=> b7 h,by ext ea;exact HU h Y⟩
theorem Cb[Z5](h:cJ n c a6=eI)[p3](Y:Vs):∃P',l7 m P' K/\Pg n c a6 P' X m:=by
 revert c x;exact dl5 n a6 K X m
 cases c with
  |clos=>ext rs
  |fn cl f=>
   have h:(bif VK then(bif Ca.contains f then aj _ else bif f==("_law_open":Str)then aj _ else bif a02 then xB a6 else bif f==("_law_met":Str)then aj (Pg n Ul a6)else ap)else a9n)=eI:=h;refine mw h (λP h=>mw h (λq h=> ? _) λq h=>mw h (λR h=> ? _) λR h=>mw h (λT h=> ? _) λT h=>mw h (λD h=> ? _) λD h=>bG h) λP h=>mw h (λR h=> ? _) λR h=>bG h;. ext xp;refine qs Y λA y s w=> ? _;subst w;intro Y;exact⟨_,J9,Y⟩
   . ext xp;refine qs Y λA y s w=> ? _;subst w;intro Y;exact⟨_,HT,Y⟩
   . rewrite [py]at T;have g:=f1 T.1;have u:=zb P;subst g u;obtain⟨k,rfl⟩:∃k,n=bm:=⟨w5,(Pk (SO T.2)).symm⟩;exact vT k a6 x h K X m Y
   . ext xp;exact⟨K,λv m' h=> b7 h,Y⟩
   . rewrite [py]at R;rewrite [py]at R;have g:=f1 R.1;have u:=f1 R.2.1;subst g u;obtain⟨k,rfl⟩:∃k,n=bm:=⟨w5,(Pk (SO R.2.2)).symm⟩;exact zc k a6 x h K X m Y
section E
section
set_option backward.match.sparseCases false
open PySem
theorem sf{x n:Nat}(h:x<hG):hI<n:=(Nat.div_lt_iff_lt_mul (by decide)).mpr (Nat.lt_of_lt_of_eq h (Nat.mul_comm 2 n))
theorem xC{x n:Nat}(h:x<hG+2):hI<=n:=oc (sf (n:=cp) h)
def EN(p:Id->a5):dd->a5|[]=>True|q::r=>bZ p q.2/\EN p r
theorem Cc{p:Id->a5}:∀{F:dd},EN p F->∀q∈F,bZ p q.2:=λ{F}=>by induction F with|nil=>exactλJ q B=>(by cases B)|cons a r G=>exactλh q B=>(nr B).elim (λe=>e▸h.1) (G h.2 q)
theorem cq{p:Id->a5}{c:Str}{F:dd}(h:EN p F):kr p (sh F):=λx v e=>by
 induction F with
  |nil=>ext pf
  |cons a r G=>
   rewrite [s0]at e;refine cO (x==a.1) b4 b4;. ext Q6;ext RK;exact h.1
   . ext Q6;exact G h.2 e
theorem ke{p:Id->a5}{F:dd}(h:EN p F):kr p (.sd F):=Cc h
theorem nH{p:Id->a5}{o:x0}:bZ p (o7 o):=by induction o using u_ with|none=>exact a1|some i=>exact f6
def zd(Q:ae->a5):M_->a5|[]=>True|p::r=>(∀o∈p.2,Q o)/\zd Q r
theorem jO{Q:ae->a5}{t:Nat}:∀{L:M_},zd Q L->∀o∈hK L,Q o:=λ{L}=>by
 induction L with
  |nil=>exactλJ o P=>(by cases P)
  |cons p r G=>
   intro h o P;have P:o∈bL S' p.2 (hK r):=P;refine cO S' b4 b4;. replace P:=q▸P;exact h.1 o P
   . replace P:=q▸P;exact G h.2 o P
theorem mV{Q:ae->a5}{a:ae}(h:Q a):∀o∈[a],Q o:=λo P=>w6 P▸h
theorem Dv{Q:ae->a5}{a b:ae}(h:Q a)(h':Q b):∀o∈[a,b],Q o:=λo P=>(nr P).elim (λe=>e▸h) (mV h' o)
theorem aJ[a19][e3]{Q:u->a5}(h:∀j,j<n->Q (f j)):∀o∈aF f n,Q o:=λo P=>by
 obtain⟨i,W,e⟩:=a1D P;have:(aF f n)[i]? =ck:=by rewrite [F4 W,e];try rfl
 replace W:=aM▸W;ext a6H;exact hR b_▸h i W
structure Nb [LR] : a5 where
  n1 : 1 ≤ n
  scr : ∀ v ∈ c.scr, w4 v
  gr : ∀ o ∈ c.gr, Wl
  so : ∀ o ∈ c.so, Wl
  sk : c.sk < c.so.length
  tl : ∀ o ∈ c.tl, Wl
  gi : s.gi < s.gl.length
  P : ∀ j, j ≤ n → w4 (s.P j).par ∧ w4 (s.P j).regs ∧ w4 (s.P j).fil ∧ w4 (s.P j).chan
  SL : ∀ j, j ≤ n → ∀ v ∈ s.SL j, w4 v
  D : ∀ q ∈ s.D, w4 q.2
  opn : Xr s.opn
  ol : ∀ o ∈ s.ol, Wl
  rl : ∀ o ∈ s.rl, Wl
  gl : ∀ o ∈ s.gl, Wl
  pl : ∀ o ∈ s.pl, Wl
  rd : ∀ o ∈ s.rd, Wl
  re : ∀ o ∈ s.re, Wl
  pv : ∀ v ∈ s.pv, w4 v
theorem dQ[SA]{t k j:Nat}{f:Nat->ae}(e:a16=aF f k)(h:j<k):Xr (bv t j):=by show(a16[j]?).isSome=am;exact ec e aG Pa;rfl
theorem ut[SA](w:Nb n c s):Sc j0:=by
 exact dl3 n c s;have M:∀j,gp->w4 f5:=λj h=> rv (dQ (t:=1000460) rfl (VL h));have U:∀f,f<hG->w4 Ui:=λf h=> rv (dQ (t:=1000285) rfl h);have f9:∀i,i<n->w4 wd/\w4 (a2 D4):=λi h=>⟨rv (dQ (t:=1000080) rfl h),rv (dQ (t:=31) rfl h)⟩;have V:∀j,j<n->w4 (a2 (B1 j)):=λj h=> rv (dQ (t:=619) rfl h);have G:∀x,x<hG+2->w4 (a2 (bv 378 x)):=λx h=> rv (dQ (t:=378) rfl h);have a:∀i,(Tl i).isSome=am->w4 eF:=λi h=> eF h;have K:=a TK (by kernel_rfl);have E:w4 (a2 (Ov (c.sk+1))):= rv (by show((c.so)[c.sk]?).isSome=am;rewrite [F4 w.sk];rfl);have X:=a (bv 1000728 0) (by kernel_rfl);have r:=a Zb (by kernel_rfl);have m:=a (bv 636 1) (by kernel_rfl);have T:=a (bv 460 0) (by kernel_rfl);have y:=a NO (by kernel_rfl);have l:=a (Yi 0) (by kernel_rfl);have L:=a (Yi 1) (by kernel_rfl);have I:=a (bv 727 0) (by kernel_rfl);have O:=a OY (by kernel_rfl);have Y:=a (bv 109 0) (by kernel_rfl);have d:=a X_ (by kernel_rfl);have u:=a (bv 733 1) (by kernel_rfl);have z:=a (bv 733 3) (by kernel_rfl);have D:=a S6 (by kernel_rfl);have R:w4 (a2 (bv 601 s.gi)):= rv (by show((s.gl)[s.gi]?).isSome=am;rewrite [F4 w.gi];rfl);have d8:=w.n1;have W:=w.scr;have c9:=w.so;have c8:=w.gr;have b:=w.tl;have e8:=w.P;have i5:=w.SL;have i0:=w.D;have c7:w4 (a2 s.opn):= rv w.opn;have d9:=w.ol;have e7:=w.rl;have f7:=w.gl;have f8:=w.pl;have e9:=w.rd;have g:=w.pv;have e6:=w.re
 have S:zd (kr Xr) (dt s).L:=by
  clear w a;generalize Xr=p at*
  have A:∀j,bZ p (LZ n c_):=λj=>by
   show bZ p (if c_=n then a1 else di);exact bcH q (c_=n);. exact rwL PH;exact a1
   . exact rwL w2;exact di
  refine⟨mV (a:= F2 c.scr) W,Ug,Ug,c8,λo P=>(nr P).elim (λe=>e▸ke (by exact⟨R,E,di,ep⟩)) (c9 o),f7,b,mV (cq (by exact⟨T,di,di,M 0 p1,a1,ep⟩)),mV (aJ λj h=>M j (oc h)),aJ λj h=>cq ? _,e7,aJ λj h v Z=> ? _,Dv (cq (by exact⟨di,di,y,ep⟩)) (cq (by exact⟨di,l,a1,a1,I,di,c7,ep⟩)),mV (by exact i0),mV (by exactλq B=>(by cases B)),mV (aJ λf h=>U f h),d9,Dv (cq (by exact⟨O,L,a1,a1,a1,Y,di,ep⟩)) (cq (by exact⟨X,ep⟩)),mV (by exactλq B=>(by cases B)),mV (cq (by exact⟨di,G 1 (by refine pk (nat_lit 0x10a32125001101) a7 [] a0),ep⟩)),aJ λj h=>cq (by exact⟨di,G _ (by refine b0b),ep⟩),aJ λx h=> ? _,aJ λi h=>cq (by exact⟨di,di,(f9 i h).2,di,di,F3,F3,ep⟩),aJ λi h=>ep,aJ λf h=>cq (by exact⟨c1 _,F3,F3,di,di,(f9 (f/2) (sf h)).1,a1,di,ep⟩),aJ λj h=>ke (by exact⟨M c_ h,di,A j,di,di,ek _,di,nH,nH,F3,F3,F3,ep⟩),mV (ke (by exact⟨M 0 p1,di,di,di,nH,nH,ek _,F3,F3,ep⟩)),Dv (by exactλv Z=>w6 Z▸d) ? _,mV (ke (by exact⟨r,M 0 p1,m,ek _,di,di,ek _,u,z,D,ep⟩)),Ug,mV (by exact g),f8,e9,e6,ep⟩;. ext a4p
  .ext a9O;. exact K
   . exact di
   . exact ek _
   . exact r
   . exact M 0 p1
   . exact m
  . exact GS (e8 j (oc h)) λH F Q C=>⟨di,di,c1 _,H,a1,F,di,Q,a1,c1 _,C,F3,di,a1,di,a1,a1,a1,di,ep⟩
  . exact rwL a2T;exact di
  .show kr p a4D;exact bcH q (x%2=0);. exact rwL PH;exactλv Z=>w6 Z▸a1
   . exact rwL w2;exact i5 hI (xC h)
  .intro v Z;rcases VJ Z with h|h;. exact aJ (λk N=>V _ (by refine a4B N a0)) v h
   . exact w6 h▸d
  .simp only [Y6,a1p,or_false]at P;rcases P with rfl|rfl|rfl|rfl;. exactλv Z=>w6 Z▸di
   . exact aJ λk N=> di
   . exactλv Z=>w6 Z▸di
   . exact aJ λk N=> di
 intro i o e;ext X0;exact jO S o (SP (show a16[j]? =ck from e))
section E
section
set_option backward.match.sparseCases false
open PySem
def Cd[a15]:Pr:=⟨1,qi,a1,ih,a2 (j8 0),P1,a1,av,0,pg⟩
def ze[k3][a15](p:Pp)(e:x0)(o:Id):St:={s with P:=Rv 0 (Cd ih pg),SL:=NV 0 VD,F:=O4 0 1,R:=af s.R 1 (i0 (s.R 1) e),I:=OJ 0 p,lbye:=ap,lend:=ap,lrest:=[],opn:=o}
def Ce[Px](p:Pp)(S:d7)(T:Nat):St:={s with P:=a5u,I:=OJ 0 (e6 p T),gone:=af Oz w5 (Re+QA)}
def Mi[k3][a15]:St:={s with P:=Rv 0 ⟨1,Ra,a1,ih,a2 (j8 0),P1,y6 0,av,0,pg⟩}
def xD[LR](p:Pp)[a51](T:Nat):a5:=Vi/\∀_:Int,uo (ek (cm (oD 0) f3 p.rc T)) (ek S) gj (nd (QA<=16777216) (nd (il (at_+QA)) (JV (ek S) (ek []) (nd (s.out.length+QA<=16777216) (Lj n c 0 (λs=>R (dt {s with SL:=NV 0 WI,lbye:=aj at_,lend:=t_,lrest:=S,out:=s.out++S})) (Ce n s p S T))) (nd (s.out.length+QA<=16777216) (R (dt {Ce n s p S T with out:=s.out++S}))))))
def Lo[LR][a15](p:Pp)(al:Bool)[a51]:a5:=nd (il (at_+c.lsz)) (nd (Y2/\Zo) (bL (S==[]) (bL (fl (c.lsz<0)) gj (bif al then Gz 0 f3 p (oD 0) c.lsz (nd (s.out.length+([]:d7).length<=16777216) (R (dt {Mi s ih pg with out:=s.out++[]}))) (λJ=>Vi/\∀_:Int,gj)else Gz 0 f3 p (oD 0) c.lsz gj (xD n c s p at_ S R))) (bL (fl (c.lsz<0)) gj (Gz 0 f3 p (oD 0) c.lsz gj (xD n c s p at_ S R)))))
theorem n4{P:PZ}(a:P 2)(b:P 3)(c:P 4)(d:P 5):∀n,l4->kT->P n|0,h,_|1,h,_=>b6 h (by decide)|_+6,_,h=>b6 h (a3Z (Nat.lt_add_left _ (by decide)))|2,_,_=>a|3,_,_=>b|4,_,_=>c|5,_,_=>d
abbrev sg[f0](o:Id):a5:=∀[YL][a15](r g:Int)(a:Bool),(a2N (dt (ze s ih pg a0t ap o))=Lo n c (ze s ih pg a0t ap o) ih pg a0t am Re (hU Re c.lsz (zz w5) c) R)/\∀e:Int,a2N (dt (ze s ih pg a0s P4 o))=Lo n c (ze s ih pg a0s P4 o) ih pg a0s av Re (hU Re c.lsz (zz w5) c) R
theorem Ka:∀n,l4->kT->sg n Xb/\∀k,sg n (TJ k):=by refine VS<;>exact⟨λf c s R X regs pg r g a=>⟨by kernel_rfl,λe=>by kernel_rfl⟩,λk f c s R X regs pg r g a=>⟨by kernel_rfl,λe=>by kernel_rfl⟩⟩
section E
section
set_option backward.match.sparseCases false
open PySem
def Kb[A1](P:h8)(k0 m:a5):a5:=(fZ n P/\ew P a0r cp 0=a7E)/\bL (bu m3) k0 m
def GC(p:Pr):Pr:=⟨p.pid,p.state,p.par,p.regs,p.fil,p.nam,p.chan,am,p.status,p.prog⟩
def iW(r:Rw):Rw:=⟨RA,r.done,r.bye,PL,r.told,am⟩
def HV[A1](k:NY)[k3]:a5:=bL T3 (Kb n j s.P (Kb n j s.P (bL ((s.P j).state==(Ra:Str)) gj gj) gj) (k s)) (Kb n j s.P (Kb n j s.P (bL ((s.P j).state==(Ra:Str)) (k {s with P:=Rv j (gh (GC E_))}) (k {s with P:=Rv j (GC E_)})) gj) gj)
def xE[A1](c:Cf)(L S:Int)(op:Bool)(x:Nat)(k:NY)[k3]:a5:=BS (aj (eA RM L S op)) (aj (jU n j Vv (c.stays j) (s.R j))) (aj (t0 E_))/\(k s/\(op=am->∀b:b2,bL b (HV n j k {s with R:=tc VX,pl:=a1g}) (k s)))
abbrev Mj[k3](k L S:Int)(op:Bool)(l:ae):St:={s with pv:=[XV],pl:=[eA k L S op,l]}
abbrev Mk[k3](k L S:Int)(op:Bool)(l:ae)(m o O:Int)(y:Bool)(x:ae):St:={s with pv:=[XV,a4c],pl:=[eA k L S op,l,eA m o O y,x]}
theorem j2{P:PZ}(a:P 1)(b:P 2):∀j,eK->j<=2->m3|0,h,_=>b6 h (by decide)|1,_,_=>a|2,_,_=>b|_+3,_,h=>b6 h (a3Z (Nat.lt_add_left _ (by decide)))
theorem j3{P:PZ}(a:P 1)(b:P 2)(c:P 3):∀j,eK->j<=3->m3:=λj H F=>(a3N F).elim (λh=>j2 a b j H (oc h)) λh=>h▸c
theorem j4{P:PZ}(a:P 1)(b:P 2)(c:P 3)(d:P 4):∀j,eK->j<=4->m3:=λj H F=>(a3N F).elim (λh=>j3 a b c j H (oc h)) λh=>h▸d
theorem j5{P:PZ}(a:P 1)(b:P 2)(c:P 3)(d:P 4)(e:P 5):∀j,eK->j<=5->m3:=λj H F=>(a3N F).elim (λh=>j4 a b c d j H (oc h)) λh=>h▸e
theorem Kc:∀n j,l4->kT->eK->gp->∀[YL](t L S:Int)(op:Bool)(l:ae),Wt (hQ XF) [gn,Ph] Up X (dt (Mj s RM L S op l))=xE n j c L S op 0 (λs=>R j0) (Mj s RM L S op l):=by refine ZN<;>(ext Q5)
abbrev jD(n j i:Nat):a5:=∀[YL](t L S:Int)(op:Bool)(l:ae)(o O:Int)(y:Bool)(x:ae),Wt (hQ XF) [gn,Ph] Up X (dt (Mk s RM L S op l (n-i:Nat) o O y x))=xE n j c L S op 0 (xE n i c o O y 2 (λs=>R j0)) (Mk s RM L S op l (n-i:Nat) o O y x)
theorem Kd:(∀i,1<=i->i<=2->jD 2 1 i)/\∀i,1<=i->i<=2->jD 2 2 i:=by refine⟨? _,? _⟩<;>refine j2 ? _ ? _<;>(ext a2C)
theorem HW:(∀i,1<=i->i<=3->jD 3 1 i)/\(∀i,1<=i->i<=3->jD 3 2 i)/\∀i,1<=i->i<=3->jD 3 3 i:=by refine⟨? _,? _,? _⟩<;>refine j3 ? _ ? _ ? _<;>(ext a2C)
theorem EO:∀j,eK->j<=4->∀i,1<=i->i<=4->jD 4 j i:=by refine j4 ? _ ? _ ? _ ? _<;>refine j4 ? _ ? _ ? _ ? _<;>(ext a2C)
theorem GD:∀j,eK->j<=2->∀i,1<=i->i<=5->jD 5 j i:=by refine j2 ? _ ? _<;>refine j5 ? _ ? _ ? _ ? _ ? _<;>(ext a2C)
theorem Cg:(∀i,1<=i->i<=5->jD 5 3 i)/\(∀i,1<=i->i<=5->jD 5 4 i)/\∀i,1<=i->i<=5->jD 5 5 i:=by refine⟨? _,? _,? _⟩<;>refine j5 ? _ ? _ ? _ ? _ ? _<;>(ext a2C)
theorem HX:∀n j,l4->kT->eK->gp->∀i,1<=i->i<=n->jD n j i:=nj Kd.1 Kd.2 HW.1 HW.2.1 HW.2.2 (EO 1 (by decide) (by decide)) (EO 2 (by decide) (by decide)) (EO 3 (by decide) (by decide)) (EO 4 (by decide) (by decide)) (GD 1 (by decide) (by decide)) (GD 2 (by decide) (by decide)) Cg.1 Cg.2.1 Cg.2.2
section E
section
set_option backward.match.sparseCases false
open PySem
def aH(o:ae):a5:=∃l,o= RD/\∀v∈l,UX
structure gt (n R : Nat) (c : Cf) : a5 where
  n2 : 2 ≤ n
  n5 : n ≤ 5
  ro : f3 = R
  r1 : 1 ≤ R
  r4 : R ≤ 4
  tx : px ≤ 10
  sz : ∀ j, Vq → j ≤ n → 1 ≤ Vv ∧ Vv ≤ 4
  ls : 1 ≤ c.lsz ∧ c.lsz ≤ 4
  scr : a1B
  sm : j9 c.small
  so : a7o ∧ a1x ∧ a1w ∧ a1y
def Dw(n d:Nat)(e:x0)(W:b5)(S f:Int)[hB]:a5:=match e with|ap=>(j=0->W=VD/\S=1)/\(eK->W=hV n j d/\(d=0\/d=2\/(j<n/\d=1))/\(j<n->S=a5a)/\f=a22)|aj _=>W=WI/\(j<n->S=0)/\(eK->f=0)
def cS(R:PA)[z1]:Nat:=bif(R fq).told then 0 else 1
structure Jk [Px] : a5 where
  rl : hG + 4 ≤ Q7 ∧ ∀ o ∈ s.rl, aH o
  gl : ∀ o ∈ s.gl, aH o
  gi : a7a
  rd : ∀ o ∈ s.rd, aH o
  re : ∀ o ∈ s.re, aH o
def GE[Px]:a5:=∃j L S op l,eK/\gp/\ -1000<=S/\S<=1000/\aH l/\(s.pv=[XV]/\s.pl=[eA RM L S op,l]\/∃I o O y x,1<=I/\I<=n/\ -1000<=O/\O<=1000/\aH x/\s.pv=[XV,a4c]/\s.pl=[eA RM L S op,l,eA (n-I:Nat) o O y,x])
structure da (n R : Nat) (c : Cf) (A : Nat → Nat) [k3] (md : Nat → Md) (w g : Nat → Nat) : a5 where
  ab : mT n R N0 s.R md w g
  pr : pK n s md
  sl : ∀ j, j ≤ n → Dw n (A j) Qo (s.SL j) (s.F gw) (s.F hF) j
  fi : ly n s
  pi : ∀ i, i < n → se R N0 (w fq) (g i) (s.I i) (oD i)
  ca : ∀ j, Vq → j ≤ n → Wf = w j
  go : ∀ j, j < n → a2l = g j
  ln : SH = (s.R 0).ended ∧ (SH = ap → s.lbye = ap ∧ s.lrest = []) ∧ ∀ v, SH = d0 → v = 0
  ot : s.out = c.text.take (g 0)
  lf : I_ = bI (cS s.R) n
  jk : Jk n s
  pl : GE n s
def Ml(o:ae):Nat:=match o with| .sd fs=>(match dp ("is_open":Str) fs with|aj y2=>2|_=>0)|_=>0
def lA:d_->Nat|[]=>0|o::l=>Ml o+lA l
abbrev uu[LR](md:lp)(w g:i3):Nat:=a54+lA s.pl
theorem f7[RN]{x:a5}(h:c)(Y:x):nd c x:=by unfold nd;exact rwL (T0 h);exact Y
theorem lB{p:Id->a5}{o:ae}(h:aH o):kr p o:=by refine aN h λl U=> ? _;ext W0;exactλv Z=>by refine db (h v Z) Yn;subst U;exact f6
theorem Ch{p:Id->a5}[mv]{m:Md}:bZ p (r7 j m):=by
 have T:∀[Vw],vs.all (λv=>match v with| c1 _| di=>am|_=>av)=am->bZ p w_:=λvs h=> w_ λv Z=>by have:=Qg h v Z;induction v using kb with|str s=>exact c1 s|int s=>exact a4 s|_=>exact cT b_
 induction m using Ym with|rd=>exact T _ rfl|wr=>exact T _ rfl|ch=>exact T _ rfl|_=>exact a1
theorem da.wf{n R:Nat}{c:Cf}{A:i3}{s:St}{md:lp}{w g:i3}(h:da n R c A s md w g)(C:gt n R c):Nb n c s:=by
 exact dl8 n R c A s md w g;have e8:1<=n:=PI C.n2;have r:∀{t k:Nat}{l:d_},a16=l->k<OE->Xr Uo:=λ{t k l}e N=>by show(a16[k]?).isSome=am;rewrite [e,F4 N];rfl
 have c8:∀j,gp->w4 f5:=λj h=> rv (dQ (t:=1000460) rfl (VL h));have K:∀f,f<hG->w4 Ui:=λf h=> rv (dQ (t:=1000285) rfl h);have W:∀x,x<Q7->w4 (a2 (bv 430 x)):=λx Y=> rv (r (t:=430) rfl Y);have E:∀j,gp->w4 (a2 (j8 j)):=λj D=>by induction j using Qn with|zero=>exact rv (r (t:=1000729) (k:=0) (l:=a7) rfl Nat.zero_lt_one)|succ j=>exact rv (dQ (t:=1000404) rfl D)
 have H:∀j,j<n->w4 (a2 (bv 523 j)):=λj D=> rv (dQ (t:=523) rfl D);have m:∀{l:d_},(∀o∈l,aH o)->∀o∈l,Wl:=λh o e7=>lB (h o e7);have M:∀F,∀v∈sJ n F,w4 v:=λF v Z=>aJ (Q:=λv=>w4 v) (λf d=>K f d) v (SS Z).1
 have X:(∀o∈s.pl,Wl)/\∀v∈s.pv,w4 v:=by
  have P:∀k d8 S op,kr Xr (eA k d8 S op):=λk d8 S op=>ke (by exact⟨di,di,di,F3,ep⟩);obtain⟨j,d8,S,op,l,_,_,_,_,T,⟨d9,u⟩|⟨I,c7,O,y,e6,_,_,_,_,Q,d9,u⟩⟩:=h.pl;. exact rwL d9;refine⟨? _,λv Z=>w6 Z▸rv (r (t:=639) (k:=0) (l:=s.pl) rfl (by ext PE;exact Nat.zero_lt_succ _))⟩;ext PE;exact Dv (P _ _ _ _) (lB T)
  .exact rwL d9;refine⟨? _,λv Z=> ? _⟩;. ext PE;exactλo e7=>(nr e7).elim (λe=>e▸P _ _ _ _) λe7=>(nr e7).elim (λe=>e▸lB T) (Dv (P _ _ _ _) (lB Q) o)
   .rcases nr Z with rfl|Z;. exact rv (r (t:=639) (k:=0) (l:=s.pl) rfl (by ext PE;exact Nat.zero_lt_succ _))
    . exact w6 Z▸rv (r (t:=639) (k:=2) (l:=s.pl) rfl (by ext PE;exact Nat.succ_lt_succ (Nat.succ_lt_succ (Nat.zero_lt_succ _))))
 refine⟨e8,λv Z=> ? _,m C.so.2.2.1,m C.so.2.1,(L_ C.so.1).1,m C.so.2.2.2,? _,V4,V4,λq B=> ? _,? _,λo e7=> ? _,m h.jk.rl.2,m h.jk.gl,X.1,m h.jk.rd,m h.jk.re,X.2⟩;. refine db (C.scr v Z) Yn;subst U;exact f6
 . exact aN h.jk.gi λL e J=>(L_ e).1
 .have p:=h.pr j D
  induction j using Qn with
   |zero=>ext a5t;exact⟨a1,W _ (Os (by refine pk (nat_lit 0x10a3412500331250001) a7 [] a0) h.jk.rl.1),E 0 D,Ch⟩
   |succ j=>
    ext a48;. exact rwL (c5 e);exact⟨c8 0 p1,H j D,E _ D,Ch⟩
    .ext a5d;. refine a3J λx Y e=> ? _;ext ea;exact⟨a1,W x Y,a1,a1⟩
     . exact rwL ((p.2 v e).1 t);exact⟨c8 0 p1,H j D,E _ D,a1⟩
 .have p:=h.sl j D;have c9:∀[g_],v∈[V.none,a1,a1,a1]->w4 v:=λZ=>by ext a4u;subst Z;exact a1
  refine cM Qo od S7
  .replace p:=e▸p;ext Zj;. exact rwL ((c5 z).1);exactλv Z=>(nr Z).elim (λe=>e▸K 0 (by refine bn (nat_lit 0x10a25000109001101) a7 [] e8 a0)) λZ=>c9 (pn Z)
   .refine GS (p.2 (Pl z)) λa b J J=> ? _;ext F1;have o:w4 (a2 (bS hF)):=K _ (by unfold aP;refine c6 (nat_lit 0x10a2510311254110009101109100002) cb [] e8 D a0);have i:j<n->w4 a2b:=λq=>K _ (by refine a06 q a0);refine aJ (Q:=λv=>w4 v) λx J=> ? _
    cases Ty with
     |true=>
      rcases b with b|b|b;. exact rwL b;exact a1
      . exact rwL b;exact o
      . exact rwL (b.2);exact i b.1
     |false=>
      cases S2 with
       |true=>exact o
       |false=>
        refine cO (Nat.blt j n&&XX) b4 b4;. exact i (SO (UK q).1)
        . exact a1
  . replace p:=e▸p;exact rwL c5;exactλv Z=>c9 Z
 .replace B:=h.fi.D▸B
  have:∀k,k<=n->∀q∈dL s.F k,w4 q.2:=λk=>by
   induction k with
    |zero=>exactλJ q B=>(by cases B)
    |succ k G=>
     intro N q B;rcases VJ B with a|a;. exact G (PI N) q a
     .refine cO (s.F (2*k)!=0||s.F (2*k+1)!=0) D_ D_;. replace a:=z▸a;exact rwL (w6 a);exact rv (dQ (t:=1000080) rfl N)
      . replace a:=z▸a;exact(by cases a)
  exact b_ n (oa n) q B
 .have e7:=h.fi.ol;rcases h.fi.on with e|⟨k,e⟩;. ext ea;exact r (t:=266) (k:=0) (l:=a7) rfl Nat.zero_lt_one
  . ext ea;unfold qk at e7;replace e7:=e▸e7;exact r (t:=310) rfl (L_ e7).1
 . refine db (h.fi.al o e7) λF U=> ? _;subst U;exact M F
section E
section
set_option backward.match.sparseCases false
open PySem
section
variable{n rm:Nat}{c:Cf}{du:i3}{s:St}{md:lp}{w g:i3}
abbrev zg(n rm:Nat)(c:Cf)(du:i3)[k3](md:lp)(w g:i3)(R:ef):a5:=∀U M Q Y,PN U M Q Y->uu n c U M Q Y<XU->U.at_=x3->R (dt U)
def vU[k3](P:h8)[hB](r:Rw)(I:Nat->Pp)(RG:Nat->d7)(came gone:ki):St:={s with P:=P,R:=tc r,I:=I,RG:=RG,came:=came,gone:=gone}
theorem da.row[QU][mv](H:eK){r:Rw}{P:h8}{I:Nat->Pp}{RG:Nat->d7}{came gone:ki}{M:lp}{Q Y:i3}(y:PL=Qo)(e:r.told=T3)(x:mT n rm N0 (tc r) M Q Y)(A:pK n (vU s P j r I RG came gone) M)(d:∀i,i<n->se rm N0 (Q fq) (Y i) (I i) (RG i)/\(I i).ro=(s.I i).ro/\(I i).wo=(s.I i).wo)(k:∀j,eK->gp->came (n-j)=Q j)(a:∀j,j<n->gone (n-j-1)=Y j)(b:Y 0=g 0):PN (vU s P j r I RG came gone) M Q Y:=by
 have u:(0:Nat)≠j:=J' H
 have eR:∀i,(tc r i).ended=(s.R i).ended/\(tc r i).told=(s.R i).told:=λi=>by
  ext Po;. exact a3 q ah;exact⟨y,e⟩
  . ext R_;exact s4
 refine⟨x,A,w8,⟨h.fi.on,h.fi.ol,w8,h.fi.D,h.fi.al⟩,λi W=>(d i W).1,k,a,? _,? _,? _,a2H,h.pl⟩;. show Dw n (du i) (tc r i).ended _ _ _ i;exact rwL ((eR i).1);exact h.sl i W
 . show(I i).ro=_/\(I i).wo=_;exact a3 ((d i W).2.1) ((d i W).2.2);exact h.fi.io i W
 . show SH=(tc r 0).ended/\_;exact rwL ((eR 0).1);exact h.ln
 . exact rwL b;exact h.ot
 . show I_=(bI (cS (tc r)) n:Nat);exact rwL h.lf;congr 1;exact fA λi J=>by unfold cS;exact rwL ((eR fq).2);rfl
theorem pK.row[mv]{P:h8}{d:lp}(a:pK n {s with P:=P} d)(H:eK){r:Rw}{I:Nat->Pp}{RG:Nat->d7}{came gone:ki}{m':Md}(y:Py):pK n (vU s (af P j (sI j js (gH j) m' OD (pA r))) j r I RG came gone) (af d j m'):=λi W=>by
 show r9 n Q7 (tc r i) (af d j m' i) (af P j _ i) i;ext Po;. subst q;exact ec ah ah ah;ext a6E;exact⟨hS,λv e=>by replace e:=y▸e;ext pf⟩
 . exact ec oe oe oe;exact a i W
theorem da.proc[QU][mv][W5](y:Qo=ap):E_=sI j js (gH j) (md j) (s.R j).killed (pA (s.R j)):=by ext a04;exact(h.pr bm D).1 y
theorem da.okMs[QU]:y8 n md:=λj D=>⟨λe=>Pl λz=>((B3 j D).m0 z).2 e,(B3 j D).ch⟩
theorem da.F0[QU][mv](D:gp):(j<n->(s.F gw !=0)=lm j)/\(eK->(s.F hF !=0)=lm j):=by
 have p:=h.sl j D;unfold al;refine cM Qo od S7
 .replace p:=e▸p;refine⟨λB=> ? _,λH=> ? _⟩
  .ext Zj;. exact rwL ((c5 z).2);rfl
   . exact rwL ((p.2 (Pl z)).2.2.1 B);cases c0 SG 1<;>rfl
  . exact rwL ((p.2 H).2.2.2);cases lj 2 SG<;>rfl
 . replace p:=e▸p;exact⟨λB=>by exact rwL (p.2.1 B);rfl,λH=>by exact rwL (p.2.2 H);rfl⟩
theorem da.pipe[QU]{i:Nat}(W:i<n):s.I i=⟨g i,w fq,lm i,lm fq⟩:=by have p:=h.pi i W;have q:=h.fi.io i W;have a:=(h.F0 (OZ W)).1 W;have u:Z9=lm fq:=(h.F0 (j:=fq) W).2 (we i);refine rwr p.rc (rwr m4 (rwr a (rwr u (rwr (q.1) (rwr (q.2) ? _)))));rfl
theorem da.bnd[PK]{i:Nat}(W:i<n):g i<=w fq/\w fq<=g i+rm/\w fq<=10:=by have p:=(B3 i (OZ W)).pp W;exact⟨c5,p.2.1,ei p.2.2 C.tx⟩
theorem HY{l:Q4}{md:lp}(h:∀q∈l,a1L=md q.2):K_=md:=by induction l with|nil=>rfl|cons q l G=>show ix l (af md q.2 a1L)=md;exact rwL (ax (h q UH).symm);exact G λp O=>h p (pn O)
theorem HZ{m:Md}(h:m≠.rd):uR .rd m=m:=by cases m<;>first|rfl|exact O9 h
theorem da.wrote{j T:Nat}{TI:Int}[OP][PK](d:TI=T)[W5](Q:Qo=ap)(o:md j= ft)(b0:(s.R j).bye=ap)(l:w j+T<=g dn+rm)(M:∀k,k<T->b[k]? =N0[w j+k]? /\(N0[w j+k]?).isSome=am)(r:Rw)(m':Md)(y:Py)(hd:U5->Gy n N0 j r (w j+T) (g j))(E:∀v,r.bye=d0->0<=v/\(OD=am\/LD s.R j))(I:r.told=av)(G:T3=av)(u:m'= ft\/m'= .wr/\w j+T=g dn+rm/\lm dn=am/\RA≠[]/\OD=av/\U5)(O:0<T\/r.bye≠ap\/m'= .wr){R:ef}(F:Ww R):R (dt (vU s (a2P (sI j js (gH j) m' OD (pA r))) j r (OJ dn (gE (s.I dn) T)) (af oD dn (cY f3 (s.I dn).wc b (oD dn) T)) (af zz (n-j) (Wf+TI)) Oz)):=by
 revert TI b r m' R;exact gs n rm c du s md w g j T;revert r m' R;exact dl2 TI b;revert R;exact dl2 r m';exact dl1 R;subst d;ext a04;have N:k<n:=D;rw [XD]at l u⊢;have f:oj+T<=px:=by have p:=((B3 k (OZ N)).pp N).2.2;induction T using Qn with|zero=>exact p|succ t=>have:=(M t (F' t)).2;have:=(L_ (UM b_).choose_spec).1;refine bn (nat_lit 0x10920331110000a203100003) eb [] b_ a0
 have x:=h.ab.write (r:=r) (m':=m') H D Q y ⟨l,f⟩ hd E I u;have A:pK n (vU s (af (λi=>dq (y6 k) (s.P i)) bm (sI bm js (gH bm) m' OD (pA r))) bm r (OJ k (gE UI T)) (af oD k (cY f3 (s.I k).wc b (oD k) T)) (af zz (n-bm) (zz (n-bm)+T)) Oz) (af (ix [(.rd,k)] md) bm m'):=pK.row (h.pr.wake (q:=(.rd,k)) h.okMs a0H hA) H y;have m:=a9V (λi H W=> ? _) h.go rfl
 .refine F _ _ _ _ m ? _ rfl;show y7 n px (af s.R bm r) (af (ix [(.rd,k)] md) bm m') (af w bm (oj+T)) g+lA s.pl<a54+lA s.pl;have K:rp U_=12:=by unfold rp;exact a3 Q b0;rfl
  have a:rp r<=12/\(r.bye≠ap->rp r=9):=by unfold rp;exact rwL y;induction r.bye using u_ with|none=>exact⟨nl,λq=>O9 q⟩|some v=>exact⟨show 9<=12 by decide,hS⟩
  have U:jB px s.R w g bm=12+2*(px-oj)+2*(px-g bm):=by unfold jB;exact rwL K;rfl
  have P:=mU m';have L:aw ft=1:=rfl;exact bcH z (T=0/\m'= .wr)
  .have S:md k≠.rd:=λe=>by
    have p:=(B3 k (OZ N)).rd e;have Y:=C.r1;rcases u with q|q;. replace q:=z.2▸q;exact TN
    . have:=q.2.1;replace this:=z.1▸b_;refine lin4 (nat_lit 0x1d0b01000b20100930110b330203001004) Rb [] z.1 p.2.1 Y q.2.1 a0
   have p:=YH D r [] m' (oj+T) (g bm);ext b0n;replace p:=z.2▸p;replace p:=(show ix [] md=md from rfl)▸p;replace p:=a4f▸p;replace p:=(show aw .wr=0 from rfl)▸p;replace p:=L▸p;exact a3 (HY (l:=[(.rd,k)]) (md:=md) (λq B=>by exact rwL (w6 B);exact HZ S)) (z.2);refine c6 (nat_lit 0x10a310203100009c1300933254604032543705040303013012033254604032545040c13110008) [_,_,_,_,_,_,_,_] [] a.1 p a0
  .have p:=YH D r [(.rd,k)] m' (oj+T) (g bm);ext b0n;replace p:=List.length_singleton▸p;replace p:=L▸p
   have:0<T\/r.bye≠ap:=by
    rcases O with q|q|q;. exact b7 q
    . exact ba q
    . exact b7 (Pl λe=>z ⟨e,q⟩)
   rcases b_ with q|q;. refine lin5 (nat_lit 0x10a310203100009503403009c1600911700933254805032543403050603703112033254805032543050c1311000a400109) [_,_,_,_,_,_,_,_,_] [] f a.1 P p q a0
   . replace p:=a.2 q▸p;refine c6 (nat_lit 0x10a31020310000911300933254604032543705040913303112033254604032545040c13110008) [_,_,_,_,_,_,_,_] [] P p a0
 .exact bcH q (i=k);. subst q;exact w3 ah ah ah C.ro;exact⟨(h.pi i W).write l M,rfl,rfl⟩
  . exact ec oe oe (ag λe=>q (a2n e));exact⟨h.pi i W,rfl,rfl⟩
 .exact bcH q (i=bm);. exact w3 q ah ah (h.ca _ (we k) D);rfl
  . exact a3 oe (ag λe=>q (by refine kq (nat_lit 0x10b31110000920311100920000b431110204002003) eb [] D W e a0));exact h.ca i H W
theorem H0{i:Int}(h: -1000<=i/\i<=1000):il i:=aQ ⟨G3 (by decide) h.1,G3 h.2 (by decide)⟩
theorem kH{i:Int}{x:a5}(h: -1000<=i/\i<=1000)(Y:x):nd (il i) x:=f7 (H0 h) Y
theorem zh{a b:Int}{k0 m:a5}(h:a=b)(N:m):uo Pi (a4 b) k0 m:=by ext a9D
def Ci(n j d x:Nat):V:=bL Ty (J0 j d) a9f
theorem zi{n j d:Nat}:BT j (Ci n j d)=hV n j d:=by
 refine dz λx J=> ? _;show bL S2 _ (bL Ty _ (bL S2 _ _))=bL Ty _ (bL S2 _ _);refine cO S2 b4 b4
 .have e:=TQ q
  have:Ty=av:=fR (by
   ext ea;unfold fb;exact bcH z (j=1);. exact rwL vh;decide
   .ext Vo;exact bcH y (j%2=0);. exact rwL (c4 y);decide
    . exact rwL (b9 y);decide);ext Od;rfl
 . rfl
theorem da.told[QU][mv](D:gp)(Q:Qo=ap):T3=av:=by
 refine cO T3 D3 D3;. exact b6 Q ((B3 j D).tl t)
 . rfl
theorem Gy.wr[mv]{r:Rw}{w g:Nat}{f:d7}(h:Gy n f j r w g)(z:RA≠[]):∃d:Nat,r.done=d/\d<=w/\d<X1/\w+X1<=Tq+d/\(∀x,d+x<X1->RA[d+x]? =f[w+x]? /\(f[w+x]?).isSome=am)/\RA=(f.drop (w-d)).take X1/\(j<n->g+d=w+X1):=by
 refine qW h λd B K p i b=> ? _;clear h;have p:=p.elim (λq=>b6 q.1 z) id;have a:=a0u i;replace a:=SY▸a;replace a:=XO▸a;have k:=Nat.min_le_right X1 (Tq-(w-d));refine⟨d,B,K,p,by refine kq (nat_lit 0x10933020310000a10300b401009443000204005) S_ [] p a k a0,W3,i,b⟩;have e:RA[d+x]? =f[w+x]? :=by rewrite [i,a3L,c4 Y,List.getElem?_drop];congr 1;refine bn (nat_lit 0x10b320003320104100009001003) eb [] K a0
 refine⟨e,? _⟩;rewrite [<-e,F4 Y];rfl
theorem da.writes[v1]{b:UInt8}{t:d7}{E:Int}{kl:Bool}{R:ef}[PK](N:k<n)(j:U_=⟨OT,E,ap,ap,av,kl⟩)(o:md bm= ft)(j9:Ww R)[jm](X:ef):Wt (hQ Zn) [gn,a4 (n-bm:Nat)] Up X j0:=by
 revert t E kl R f X;exact gs n rm c du s md w g k b;revert f X;exact dl4 t E kl R;exact dl2 f X;have H:1<=bm:=we k;have D:bm<=n:=N;have S:=(B3 bm D).dat H (by ext OB) (by ext OB);have L:=h.proc H D (by ext OB);have M:=h.sl bm D;rw [j]at S L M;refine Nk (S.wr (by exact Yl)) λd B i6 p c8 k5 c7 k8=> ? _;have B:E=d:=B;have p:d<C':=p;have c8:oj+C'<=px+d:=c8;have M:s.SL bm=_:=(M.2 H).1;replace L:=o▸L;have L:s.P bm=gG bm (gH bm) kl E:=L;have f8:=h.pipe N;refine zF (h.bnd C N) λb1 P Q=> ? _;have j7:=h.pr.tab (ei C.n5 (by decide))
 have G:qe bm s (gH bm) kl E (Ci n bm (du bm)) OT E av ⟨g k,oj,lm k,Uw⟩ (s.R k).ended=s:=by
  unfold qe;exact a3 zi (S9 j);rewrite [XD];exact w3 (S9 (show s.R k=i0 (s.R k) (s.R k).ended by cases s.R k;rfl)) a4b (ax (f:=s.SL) M) (ax (f:=s.I) f8);have:bL (c0 bm 1) (s.R k).ended SH=SH:=by induction k using Qn with|zero=>exact h.ln.1.symm|succ k=>rfl
  ext Od;rfl
 have j6:a4A ap=(b::t).drop d:=by exact rwL B;exact vK (OZ p)
 have d9:a4a=C'-d:=by exact a3 j6 XO;rfl
 have u:mS k (aj (aS f3 k UI)) (aj (f4 (oD k))):=⟨f3,_,oD k,rfl,rfl,by have e7:=C.r1;have A:=C.r4;exact rwL C.ro;refine a9K e7 A a0,by exact a3 ((h.pi k N).ln) C.ro;rfl,by exact ec ((h.pi k N).rc) ((h.pi k N).wc) C.ro;refine a8t⟩;have I:=λ(T:Nat)(l:oj+T<=g k+rm)(c9:d+T<=C')(TI:Int)(i7:TI=T)=>h.wrote C i7 (b:=a4A ap) H D (by ext OB) o (by ext OB) l λx Y=>by rewrite [j6,List.getElem?_drop,(k5 x (Os (Nat.add_lt_add_left Y d) c9)).1];exact⟨rfl,(k5 x (Os (Nat.add_lt_add_left Y d) c9)).2⟩
 have i8:=C.tx;have i9:=C.r4;have e9:C'<=20:=by refine kq (nat_lit 0x1090000001420009201009310303002009a13004) Rb [] i6 c8 i8 a0
 have j8:C'<=16777216:=ei e9 (by decide);replace u:=f8▸u;refine cO (lm k) (λU=> ? _) λU=> ? _
 .have V:=JT n bm C.n2 C.n5 H D f c s R X (gH bm) kl E (Ci n bm (du bm)) b t E av (g k) oj Uw;rw [U]at u f8;replace G:=U▸G;replace G:=qf.mp U▸G;replace V:=G▸V;exact rwL V;have K:=h.ca _ H D;have Z:Oz (n-bm)=g k:=h.go k N;have d8:=C.ro
  have f9:∃F:Nat,BU n bm c s OT E=F/\oj+F<=g k+rm/\d+F<=C'/\(d+F=C'\/oj+F=g k+rm):=by
   unfold BU;exact bcH q (f3-zz (n-bm)+Oz (n-bm)<(C':Int)-E);. exact rwL PH;exact⟨g k+rm-oj,by refine lin4 (nat_lit 0x11b742031000320410000931000201b720101b700201b7100033) eb eb P K Z d8 a0,by refine bn (nat_lit 0x109320103400320100009320100003) eb [] P a0,by refine lin6 (nat_lit 0x10940343032010001b700000a40001b730101b710201b720301a4007403204103045) S_ Rb B p K Z d8 q a0,ba (by refine bn (nat_lit 0x10b320103400320100009320100003) eb [] P a0)⟩
   . exact rwL w2;exact⟨C'-d,by refine c6 (nat_lit 0x11b7410004007001b710000a001012) cb a7 B p a0,by refine lin6 (nat_lit 0x10934030342010001b720000a10201b700101b730201b74030c1a4007103204103045) S_ Rb B p K Z d8 q a0,by refine bn (nat_lit 0x10910340010000a100002) cb [] p a0,b7 (by refine bn (nat_lit 0x10b10340010000a100002) cb [] p a0)⟩
  refine GT f9 λF e6 k7 r W=> ? _;clear f9;have I:=I F k7 r _ e6;rewrite [XD]at I;replace I:=U▸I;replace I:=f8▸I;generalize BU n bm c s OT E=k9 at*
  have k6:∀T:Nat,NW=(if f3-((oj:Int)-g k)<a4a then f3-((oj:Int)-g k)else a4a)->T=F:=λT e=>by
   replace e:=d9▸e;exact bcH q (f3-((oj:Int)-g k)<((C'-d:Nat):Int));. replace e:=PH▸e;refine lin5 (nat_lit 0x10b10001b72000093204031030f0b32040310300b60310501a74506044740730001b447407300070017) a4d a7 d8 k7 W q e a0
   . replace e:=w2▸e;refine lin5 (nat_lit 0x10b10001b72000094031030f0b32060310500b4031030c1a74304044760750001b74304070017) a4d a7 d8 r W q e a0
  unfold Mb;refine f7 j8 (kH (by refine kq (nat_lit 0x1e19000003e82400700194007008000003e821b710000a0010090000001420012) cb a7 B p e9 a0) (kH (by refine lin4 (nat_lit 0x1e19000003e824100019410008000003e8209a1000941101b700101b7100022) cb cb Q i9 K d8 a0) (kH (by refine lin6 (nat_lit 0x1e19000003e823204100019320410008000003e8209100009a1100941201b710101b700201b7200033) eb eb b1 Q i9 K Z d8 a0) (kH (by refine lin6 (nat_lit 0x1e19000003e823100019310008000003e8209100009a1100941201b710000932000330101b7301024) Rb cb b1 Q i9 K k7 e6 a0) (kH (by refine lin7 (nat_lit 0x1e19000003e823100019310008000003e821b7000009100009102009a1100941300933020340101b7401025) S_ cb B i6 b1 Q i9 k7 e6 a0) (f7 j8 ? _))))))
  have i:∀k0 m:PZ,(d+F=C'->k0 F)->(d+F≠C'->m F)->nd (Y2/\C'<=16777216) (L9 k f3 a5Q (oD k) (a4A ap) k0 m):=λk0 m e8 H=>by
   refine f7 ⟨rfl,j8⟩ ⟨u,by exact rwL d9;refine bn (nat_lit 0x109000003e8241000090000001420002) cb [] e9 a0,λT e=> ? _⟩;exact rwL (k6 T e);exact bcH q (d+F=C');. exact rwL (show((F:Int)==(a4a:Int))=am from WM (by exact rwL d9;refine bn (nat_lit 0x11b7420107000b103002003) eb [] q a0));exact e8 q
   . exact rwL (show((F:Int)==(a4a:Int))=av from RL (by exact rwL d9;refine c6 (nat_lit 0x1c1b742010700091030020c0b103002003) eb [] r q a0));exact H q
  exact bcH q (d+F=C')
  .exact rwL (show(E+k9==(C':Int))=am from WM (by refine kq (nat_lit 0x11b700310001b710001b720100b003201023) eb cb B e6 q a0));refine i _ _ (λJ=>⟨j7,λJ=>kH (by refine kq (nat_lit 0x1e19000003e82370000193700008000003e821b7100009000000142200b203001013) eb a7 B e9 q a0) (f7 j8 ? _)⟩) λz=>b6 q z;exact rwL (S1 (by refine c6 (nat_lit 0x1c1a7103700001b720000b103002013) eb a7 B q a0));refine f7 j8 (zh (by refine kq (nat_lit 0x11b310007001b710001b720100b003201023) eb cb B e6 q a0) ? _);have I:=I ⟨[],0,ap,ap,av,kl⟩ ft rfl (λJ=>⟨0,rfl,Q8 _,b7 s4,a1C,zf⟩) (λv a=>bG a) rfl (by ext OB) hA (b7 (by refine c6 (nat_lit 0x10a00010a20100b203001003) eb [] p q a0)) j9;. exact I
   . have:=k8 a;show g bm+0=oj+F+0;have:g bm+d=oj+C':=b_;refine c6 (nat_lit 0x10b30132010301000b40320300b340103300005) S_ [] q b_ a0
  .exact rwL (show(E+k9==(C':Int))=av from RL (by refine kq (nat_lit 0x1c1b700310001b710001b72010c0b003201023) eb cb B e6 q a0));refine i _ _ (λz=>b6 z q) λJ=>⟨j7,λJ=>kH (by refine kq (nat_lit 0x1e19000003e82370000193700008000003e821b71000090000001422009203001013) eb a7 B e9 r a0) ? _⟩
   induction kl using u' with
    |true=>have I:=I ⟨OT,E+k9,aj (100+(n-bm:Nat)),ap,av,am⟩ ft rfl (λa=>iy a) (λv a=>by ext a5r;exact⟨by refine b0g,hA⟩) rfl (by ext OB) hA (ba (b7 λa=>iy a)) j9;exact I
    |false=>
     exact rwL (show(E+(F:Int)==E+k9)=am from WM (by refine bn (nat_lit 0x11b310003700001b7001021) a7 cb e6 a0));have i5:oj+F=g k+rm:=W.elim (λz=>b6 z q) id;have I:=I ⟨OT,E+k9,ap,ap,av,av⟩ .wr rfl (λJ=>⟨d+F,(show E+k9=((d+F:Nat):Int)by refine c6 (nat_lit 0x11b731000310001b710101b7000022) cb cb e6 B a0),by refine bn (nat_lit 0x109310203100009200003) eb [] i6 a0,ba (QX r q),? _,zf⟩) (λv a=>bG a) rfl (by ext OB) (ba ⟨rfl,i5,rfl,(λa=>Dt a),rfl,rfl⟩) (ba NT) j9;. replace I:=(show pA ⟨OT,E+k9,ap,ap,av,av⟩=E+(F:Int)from(show E+k9=E+(F:Int)by exact rwL e6;rfl))▸I;exact I
     . have:OT=(S8 (oj-d)).take C':=c7;show OT=(S8 (oj+F-(d+F))).take C';rewrite [Nat.add_sub_add_right];exact b_
     . have:g bm+d=oj+C':=k8 a;show g bm+(d+F)=oj+F+C';refine bn (nat_lit 0x10b34032030332010000b340303100005) S_ [] b_ a0
 .refine cM (s.R k).ended Xj λe y=> ? _;. exact b6 y (qg.mp U)
  . have V:=HJ n bm C.n2 C.n5 H D f c s R X (gH bm) kl E (Ci n bm (du bm)) b t E av (g k) oj Uw e;replace u:=U▸u;replace G:=U▸G;replace G:=y▸G;replace V:=G▸V;replace V:=a4b▸V;exact rwL V;refine f7 ⟨rfl,j8⟩ ⟨u,j7,O5⟩;have I:=I 0 P (OZ p) 0 rfl ⟨OT,E,aj (100+(n-bm:Nat)),ap,av,kl⟩ ft rfl (λa=>iy a) (λv a=>by ext a5r;exact⟨by refine b0g,ba ((B3 bm D).up H (by ext OB) U)⟩) rfl (by ext OB) hA (ba (b7 λa=>iy a)) j9;rewrite [XD]at I;rewrite [T6]at I;replace I:=ax (f:=zz) rfl▸I;replace I:=ax (f:=oD) (a:=cY _ _ _ _ 0) rfl▸I;replace I:=ax (f:=s.I) (show UI=gE UI (0:Nat)by exact rwL f8;exact hh (λx=>Pp.mk _ x _ _) (T6 _).symm)▸I;exact I
section E
section E
section
set_option backward.match.sparseCases false
open PySem
section
variable{n rm:Nat}{c:Cf}{du:i3}{s:St}{md:lp}{w g:i3}
theorem EP(q:Md):uR q ft= ft:=by cases q<;>rfl
theorem Cj[e3]{md:lp}{s:St}[mv]{q:Md×Nat}[QU][W5](Q:Qo=ap)(u:md j= ft)(F:HO q.2 q.1)(B:q.1= .rd\/q.1= .wr\/q.1= .ch):dq (r7 q.2 q.1) E_=E_:=by exact ec (h.proc H D Q) u (lx (m:= ft) a0H F B);rewrite [EP];cases rt q.2<;>rfl
theorem GG{n i k:Nat}(W:i<n)(N:k<n)(e:n-i-1=n-k-1):i=k:=by refine kq (nat_lit 0x10b10000a20000a20100b411410204114002003) eb [] W N e a0
theorem Ke{W p L x y g T a r k:Nat}(O:W+1+(12+2*x+2*(L-g))<=p+k+a+(r+2*x+2*(L-(g+T))))(l:g+T<=y)(hy:y<=L)(h:k=1/\a<=1/\(0<T/\r<=12\/r=9)\/k=0/\(a=0/\r<=12\/a<=1/\r=9)):W<p:=by refine lin4 (nat_lit 0x10a10000933254380403032520703603501033254403032520c131100099038040093090fefe0b9170091160e09c1700b01600b0150eef0b9170e09c1700a80010911600b11500a) [_,_,_,_,_,_,_,_,_,_] [] O l hy h a0
theorem da.got{k T:Nat}{TI:Int}{l:Q4}{P:h8}[QU](d:TI=T)(H:1<=k)(N:k<n)(Q:(s.R k).ended=ap)(o:md k= ft)(b0:(s.R k).bye=ap)(L:g k+T<=oj)(B:l=[]/\P=s.P\/l=[(.wr,bm)]/\P=a3d)(r:Rw)(m':Md)(y:Py)(hd:U5->Gy n N0 k r (w k) (g k+T))(E:∀v,r.bye=d0->0<=v/\(OD=am\/LD s.R k\/EH n px k (w k) oj Uw v))(I:r.told=av)(G:(s.R k).told=av)(u:m'= ft\/m'= .rd/\oj=g k+T/\Uw=am/\RA=[]/\OD=av/\U5)(O:l≠[]/\(0<T\/r.bye≠ap)\/l=[]/\T=0/\(m'= .rd\/r.bye≠ap)){R:ef}(F:Ww R):R (dt (vU s (af P k (sI k js (gH k) m' OD (pA r))) k r (OJ k (e6 UI T)) oD zz (af Oz (n-k-1) (X6+TI)))):=by
 revert TI l P r m' R;exact gs n rm c du s md w g k T;revert r m' R;exact dl3 TI l P;revert R;exact dl2 r m';exact dl1 R;subst d;have t:=OZ N
 have b:T=0\/(.wr,bm)∈l:=by
  rcases O with q|q
  .rcases B with z|z;. exact b6 z.1 q.1
   . exact rwL (z.1);exact ba TO
  . exact b7 q.2.1
 have x:=h.ab.read (r:=r) (m':=m') H N Q y L b hd E I u
 have j:pK n {s with P:=P} K_:=by
  rcases B with⟨rfl,rfl⟩|⟨rfl,rfl⟩;. exact h.pr
  . exact h.pr.wake (q:=(.wr,bm)) h.okMs ⟨λJ=>we k,OA⟩ Wj
 have A:=pK.row (r:=r) (I:=OJ k (e6 UI T)) (RG:=oD) (came:=zz) (gone:=af Oz (n-k-1) (X6+T)) (m':=m') j H y;have f:=(B3 k t).pp N;have m:=a9V h.ca w8 (ag (J' H))
 .refine F _ _ _ _ m (Z1 ? _ _) rfl;have K:rp (s.R k)=12:=by unfold rp;exact a3 Q b0;rfl
  have a:rp r<=12/\(r.bye≠ap->rp r=9):=by unfold rp;exact rwL y;induction r.bye using u_ with|none=>exact⟨nl,λq=>O9 q⟩|some v=>exact⟨show 9<=12 by decide,hS⟩
  have p:=YH t r l m' (w k) (g k+T);ext a60;replace p:=K▸p;replace p:=o▸p;refine Ke p L f.2.2 ? _;rcases O with⟨C,M⟩|⟨C,M,D⟩
  .refine b7 ⟨? _,mU m',M.imp (λq=>⟨q,a.1⟩) a.2⟩;rcases B with z|z;. exact b6 z.1 C
   . exact rwL (z.1);rfl
  . refine ba ⟨by exact rwL C;rfl,D.imp (λq=>⟨by ext OI;rfl,a.1⟩) λq=>⟨mU m',a.2 q⟩⟩
 .exact bcH q (i=k);. subst q;exact a3 ah ah;exact⟨((h.pi i W).read L f.2.2).2,rfl,rfl⟩
  . exact a3 oe oe;exact⟨h.pi i W,rfl,rfl⟩
 .show af Oz (n-k-1) _ (n-i-1)=_;exact bcH q (i=k);. exact w3 q ah ah (h.go k N);rfl
  . exact a3 oe (ag λe=>q (GG W N e));exact h.go i W
theorem uv{a b:d7}{k0 m:a5}(h:a=b)(N:m):uo (ek a) hj k0 m:=by ext a9D
theorem Ck{a:d7}{k0 m:a5}(V:a=[]->k0)(H:a≠[]->m):JV (ek a) (ek []) k0 m:=by induction a using li with|nil=>exact V rfl|cons=>exact H Yl
theorem zj{n j d:Nat}(D:j<n):BX j (Ci n j d)=hV n j d:=by
 refine dz λx J=> ? _;show bL XX _ (Ci n j d x)=Ci n j d x;refine cO XX b4 b4
 .have e:=TQ q;unfold Ci
  have:Ty=av/\S2=av:=by
   ext ea;unfold fb sF;exact bcH z (j=1);. exact a3 vh vh;exact s4
   .exact a3 K' K';exact bcH y (j%2=0);. exact rwL (c4 y);exact s4
    . exact rwL (b9 y);exact s4
  exact w3 (b_.1) (b_.2) q (show Nat.blt j n=am from a5y D);rfl
 . rfl
theorem H1{a b:Int}(h:a<=b):(if a<b then a else b)=a:=by
 exact bcH y (a<b);. exact c4 y
 . exact rwL (b9 y);exact Int.le_antisymm (Int.not_lt.mp y) h
theorem Cm{f:d7}{g w:Nat}{at_ sz came:Int}{c:Cf}(e:N0=f)(H:at_=g)(F:came=w)(Z:1<=sz/\sz<=4)(D:g<=w)(r:w<=Tq):∃T:Nat,NW=(if(w:Int)-g<sz then(w:Int)-g else sz)/\g+T<=w/\(T=0->g=w)/\hU at_ sz came c=(f.drop g).take T/\((f.drop g).take T).length=T/\NW<=4:=by
 exact dl7 f g w at_ sz came c;subst e H F;unfold hU;have S:∀T:Nat,g+T<=w->(if(g:Int)+sz<w then(g:Int)+sz else w)=((g+T:Nat):Int)->bO N0 (aj (g:Int)) (aj (if(g:Int)+sz<w then(g:Int)+sz else w)) ap=(S8 g).take T/\((S8 g).take T).length=T:=λT l e=>by exact a3 e (ui (ei D r));rewrite [a3a];exact a3 SY XO;exact⟨rfl,SZ (Nat.le_sub_of_add_le' (ei l r))⟩
 exact bcH q ((w:Int)-g<sz);. exact rwL PH;have:=S (w-g) (by refine bn (nat_lit 0x109103400100009100002) cb [] D a0) (by exact rwL (b9 (by refine bn (nat_lit 0x1c1a7103007001a00470071012) cb a7 q a0));refine bn (nat_lit 0x11b73410001070009001002) cb [] D a0);exact⟨w-g,by refine bn (nat_lit 0x11b471070074100009001002) cb [] D a0,by refine bn (nat_lit 0x109103400100009100002) cb [] D a0,λP=>by refine c6 (nat_lit 0x10b10000910000b014001002) cb [] D P a0,b_.1,b_.2,by refine c6 (nat_lit 0x119417410001941001a00471070012) cb a7 Z.2 q a0⟩
 . exact rwL w2;refine db (VB (G3 (by decide) Z.1)) λz U=> ? _;subst U;have:=S z (by refine b0a) (by exact rwL (H1 (by refine bn (nat_lit 0x1197203710700c1a710470072003) eb [] q a0));refine pk (nat_lit 0x11b731000371070002) cb [] a0);exact⟨z,rfl,by refine b0a,λP=>by refine c6 (nat_lit 0x10b100019720110b012003) eb [] Z.1 P a0,b_.1,b_.2,Z.2⟩
theorem da.preP[PK][v1](N:k<n):mS k (aj (aS f3 k UI)) (aj (f4 (oD k))):=by
 refine zF (h.bnd C N) λb1 P Q=> ? _;have Y:=C.r1;have A:=C.r4;have p:=h.pi k N;refine⟨f3,_,oD k,rfl,rfl,? _,by exact a3 p.ln C.ro;rfl,? _⟩;. exact rwL C.ro;clear p b1 P Q;refine a9K Y A a0
 . exact ec p.rc m4 C.ro;clear p Y;refine a8t
theorem Nc{a:Int}{g T w:Nat}(h:a=g)(l:NW<=4)(D:g<=w)(r:w<=10): -1000<=a+T/\a+T<=1000:=by refine lin4 (nat_lit 0x1e19000003e82370000193700008000003e821b71000194170009201009a12013) eb a7 h l D r a0
theorem Mm{a z:Int}{g w:Nat}(h:a=g)(u:1<=z/\z<=4)(D:g<=w)(r:w<=10): -1000<=a+z/\a+z<=1000:=by refine lin5 (nat_lit 0x1e19000003e823100019310008000003e821b7000019101119411009100009a11022) cb cb h u.1 u.2 D r a0
theorem Cn{w g T:Nat}(h:0<T)(l:g+T<=w):(w:Int)-g≠0:=by refine c6 (nat_lit 0x1c1b0147107000a200109003201003) eb [] h l a0
theorem da.reads[v1]{kl:Bool}{R:ef}[PK](H:1<=k)(N:k<n)(j:s.R k=⟨[],0,ap,ap,av,kl⟩)(o:md k= ft)(F:Ww R)[jm](X:ef):Wt (hQ Zu) [gn,a4 (n-k:Nat)] Up X j0:=by
 revert R f X;exact gs n rm c du s md w g k kl;revert f X;exact dl1 R;exact dl2 f X;have t:=OZ N;have c9:=(B3 k t).dat H (by ext OB) (by ext OB);have L:=h.proc H t (by ext OB);have M:=h.sl k t;rw [j]at c9 L M;refine qW c9 λd B J J J Y=> ? _;clear c9;have B:H_=d:=B;have d8:d=0:=by refine bn (nat_lit 0x10b01001b7000101) a7 [] B a0
 subst d8;have e8:g k=w k:=Y N;have M:s.SL k=_:=(M.2 H).1;replace L:=o▸L;have L:s.P k=gG k (gH k) kl 0:=L;have D:=h.pipe N;refine zF (h.bnd C N) λb1 j9 Q=> ? _;have A:=h.pr.tab (ei C.n5 (by decide));have U:lm k=am:=qf.mpr (by ext OB);replace D:=U▸D;have G:qh k s (gH k) kl 0 (Ci n k (du k)) 0 av a5Q a0q=s:=by unfold qh;refine rwl (zj N) (rwl (S9 j) (rwl (S9 (show U_=i0 U_ a0q by cases U_;rfl)) (rwl a4b (rwl (ax (f:=s.SL) M) (rwl (ax (f:=s.I) D) ? _)))));rfl
 have u:=h.preP C N;replace u:=D▸u;have i5:=((B3 k t).pp N).2.2;have Z:=h.go k N;have K:zz (n-k-1)=oj:=h.ca bm (we k) N;have hsz:=C.sz k H t;refine LA (Cm (at_:=X6) (sz:=c.sz k) (came:=zz (n-k-1)) (c:=c) rfl Z K hsz b1 i5) λT f8 c7 j6 i7 f9 i6=> ? _;have j8:Zo:=ei C.tx (by decide);have I:=λ(T:Nat)(d9:g k+T<=oj)(TI:Int)(e9:TI=T)(l:Q4)(P:h8)(c8:l=[]/\P=s.P\/l=[(.wr,bm)]/\P=a3d)=>h.got e9 H N (by ext OB) o (by ext OB) d9 c8;have i8:dq (um k) (s.P k)=gG k (gH k) kl 0:=(Cj (q:=(.wr,bm)) h H t (by ext OB) o ⟨λJ=>we k,OA⟩ Wj).trans L
 have W:∀(p:Pp)(S:d7),p=UI->S=(S8 (g k)).take T->(T=0->Uw=av)->xx n k c s 0 av kl p X6 S R T:=λp S e7 j7 z=>by
  subst e7;have eL:QA=T:=by exact a3 j7 f9;rfl
  have I:=I T c7 (QA:Nat) (by exact rwL eL;rfl) [(.wr,bm)] a3d (ba s4);refine⟨A,λJ=>uv ? _ (f7 (by exact rwL eL;exact ei (Int.ofNat_le.mp i6) (by decide)) (kH (by exact rwL eL;exact Nc Z i6 b1 Q) (Ck b4 b4)))⟩;. exact a3 C.ro j7;exact((h.pi k N).read c7 i5).1
  .have E:T=0:=by exact rwRL eL q;rfl
   have I:=I ⟨S,0,aj X6,ap,av,kl⟩ ft rfl (λa=>iy a) (λv a=>by ext a5r;exact rwL Z;exact⟨TT _,ba (ba ⟨by exact rwL e8;rfl,λJ=>⟨z E,by exact rwRL (j6 E) e8;rfl⟩,λe=>b6 N (by ext ea;exact VU n)⟩)⟩) rfl (by ext OB) hA (b7 ⟨Yl,ba ZH⟩) F;rewrite [ax (f:=a3d) (a:=sI _ _ _ _ _ _) i8]at I;exact I
  . have E:0<T:=Pl λe=>q (a4V (eL.trans e));have I:=I ⟨S,0,ap,ap,av,kl⟩ ft rfl (λJ=>⟨0,rfl,Q8 _,ba (by exact rwL eL;exact E),by exact rwLR eL e8;exact j7,λJ=>by exact a3 eL e8;rfl⟩) (λv a=>bG a) rfl (by ext OB) hA (b7 ⟨Yl,b7 E⟩) F;rewrite [ax (f:=a3d) (a:=sI _ _ _ _ _ _) i8]at I;exact I
 have V:Wt (hQ Zu) [gn,a4 (n-k:Nat)] Up X j0=I7 n k c s (gH k) kl 0 0 av UI Uw X6 (hU X6 (c.sz k) (zz (n-k-1)) c) R:=by
  refine cO Uw Xf Xf;. have V:=JY n k C.n2 C.n5 H N f c s R X (gH k) kl 0 (Ci n k (du k)) 0 av (g k) oj am;replace G:=m▸G;replace G:=qf.mp m▸G;exact a3 D m;replace V:=G▸V;exact V
  .refine cM a0q Xj λe y=> ? _;. exact b6 y (qg.mp m)
   . have V:=HN n k C.n2 C.n5 H N f c s R X (gH k) kl 0 (Ci n k (du k)) 0 av (g k) oj am e;replace G:=m▸G;replace G:=y▸G;exact a3 D m;replace V:=G▸V;exact V
 exact rwL V;unfold I7;exact rwL i7;refine kH (Mm Z hsz b1 Q) (f7 ⟨rfl,j8⟩ ? _);exact rwL (S1 (Int.not_lt.mpr (G3 (by decide) hsz.1)))
 have b:∀{k0:a5},(0<T\/Uw=av)->Gz k f3 UI (oD k) (c.sz k) k0 (xx n k c s 0 av kl UI X6 ((S8 (g k)).take T) R):=λ{k0}z=>by
  exact rwL D;refine⟨u,⟨G3 (by decide) hsz.1,G3 hsz.2 (by decide)⟩,? _⟩
  have:(Uw&&(fl (0<c.sz k)&&((oj:Int)-(g k:Int)==0)))=av:=by
   rcases z with z|z;. exact rwL (show((oj:Int)-(g k:Int)==0)=av from RL (Cn z c7));ext Wx;ext Wx;rfl
   . exact rwL z;rfl
  exact rwL (show(Uw&&(fl (0<c.sz k)&&((a5Q:Pp).wc-(a5Q:Pp).rc==0)))=av from b_);exactλi9 e=>by have e:i9=T:=WP (e.trans f8.symm);ext ea;exact W _ _ D.symm rfl λq=>z.elim (λz=>b6 q (RR z)) id
 exact bcH E (T=0)
 .exact a3 E List.take_zero;refine cO Uw Xf Xf;. refine⟨by exact rwL D;exact u,⟨G3 (by decide) hsz.1,G3 hsz.2 (by decide)⟩,? _⟩;exact ec D m (T0 (a1H (by decide) hsz.1));have r:=j6 E;show bL ((oj:Int)-(g k:Int)==0) _ _;exact a3 r (show((oj:Int)-(oj:Int)==0)=am from WM (Int.sub_self _));have I:=I 0 b1 0 rfl [] s.P (b7 s4);replace I:=ax (f:=s.I) (show UI=e6 UI (0:Nat)by exact rwL D;exact hh (λx=>Pp.mk x _ _ _) (T6 _).symm)▸I;rewrite [T6]at I;replace I:=ax (f:=Oz) rfl▸I;induction kl using u' with|true=>exact I ⟨[],0,aj X6,ap,av,am⟩ ft rfl (λa=>iy a) (λv a=>by ext a5r;exact rwL Z;exact⟨TT _,hA⟩) rfl (by ext OB) hA (ba ⟨rfl,rfl,ba ZH⟩) F|false=>have I:=I a5e .rd rfl (λJ=>⟨0,rfl,Q8 _,b7 s4,a1C,λJ=>Y N⟩) (λv a=>bG a) rfl (by ext OB) (ba ⟨rfl,r.symm,m,rfl,rfl,rfl⟩) (ba ⟨rfl,rfl,hA⟩) F;unfold vU at I;replace I:=S9 j▸I;exact I
  . have:=b (k0:=gj) (ba m);ext a9S
 . have E:=Pl E;exact rwL (show((S8 (g k)).take T==[])=av from RL λq=>by replace f9:=q▸f9;exact b6 f9 (J' E));exact b (b7 E)
section E
section E
section
set_option backward.match.sparseCases false
open PySem
section
variable{n rm:Nat}{c:Cf}{du:i3}{s:St}{md:lp}{w g:i3}
theorem dR{i j:Nat}:2*i≠hF:=by unfold aP;lia
theorem sj{i j:Nat}(W:1<=i)(D:eK)(h:i≠j):aP i≠hF:=by unfold aP;refine kq (nat_lit 0x1c0b31125411103112541100090011091011c0b100002) cb [] W D h a0
theorem lC{x y:Nat}:[y].count x=if x=y then 1 else 0:=by
 exact bcH z (x=y);. exact a3 z s_;exact List.count_cons_self
 . exact a3 K' (List.count_cons_of_ne (LL z));rfl
theorem vV{n j d:Nat}(hd:d=0\/d=2\/(j<n/\d=1))(x:Nat):(pz n j d).count x=(if x=gw then(bif rt n then 0 else a5a)else 0)+(if x=hF then a22 else 0):=by
 revert x;exact dl3 n j d;exact dl1 x;unfold pz;have two:∀a b:Nat,[a,b].count x=(if x=a then 1 else 0)+(if x=b then 1 else 0):=λa b=>by exact w3 (show [a,b]=[a]++[b]from rfl) List.count_append lC lC;rfl
 have l:(bif rt n then [hF]else bif rt 1 then [hF,gw]else [gw,hF]).count x=(if x=gw then(bif rt n then 0 else 1)else 0)+(if x=hF then 1 else 0):=by
  cases rt n with
   |true=>
    refine lC.trans ? _;exact bcH z (x=gw);. exact rwL vh;exact(Ow _).symm
    . ext Vo;exact(Ow _).symm
   |false=>cases rt 1 with|true=>exact(two _ _).trans (Nat.add_comm _ _)|false=>exact two _ _
 exact a3 List.count_append l;rcases hd with rfl|rfl|⟨D,rfl⟩;. exact Ow _
 .show [hF].count x+_=_;exact rwL lC;exact bcH z (x=hF);. rewrite [vh,b9 λe=>dR (a0I z),b9 λe=>dR (a0I z),vh];rfl
  . exact a3 K' K';exact Ow _
 .show [gw].count x+_=_;exact a3 lC (fR (J' D));exact bcH z (x=gw);. rewrite [vh,vh,b9 λe=>dR (z.symm.trans e),vh,b9 λe=>dR (z.symm.trans e)];rfl
  . rewrite [K',K',K',Ow];rfl
theorem sn{x:Nat}{l:QI}(h:x∈l):(Md.rd,hI)∈vR l/\(Md.wr,hI+1)∈vR l:=by
 induction l with
  |nil=>exact(by cases h)
  |cons y l G=>
   rcases nr h with rfl|h;. exact⟨UH,pn UH⟩
   . exact⟨pn (pn (G h).1),pn (pn (G h).2)⟩
theorem EQ{l:QI}:(vR l).length=2*OE:=by induction l with|nil=>rfl|cons x l G=>show(vR l).length+2=2*(OE+1);exact rwL G;rfl
theorem Co{l:Q4}{q:Md×Nat}:∀{md:lp},ix (l++[q]) md=wk q K_:=by induction l with|nil=>exactλ{md}=>rfl|cons p l G=>exactλ{md}=>G
theorem Cr{n j d:Nat}:hF∈pz n j d/\(j<n->gw∈pz n j d)/\(pz n j d).length<=3:=by
 unfold pz;refine⟨a3b ? _,λh=>a3b ? _,? _⟩;. cases rt n with|true=>exact TO|false=>cases rt 1 with|true=>exact UH |false=>exact pn TO
 . exact rwL (fR (J' h));cases rt 1 with|true=>exact pn TO|false=>exact UH
 .exact rwL Qi;refine Nat.add_le_add (a:=_) (b:=1) (c:=_) (d:=2) ? _ ? _;. cases c0 d 0 with|true=>exact Q8 1|false=>cases c0 d 1<;>exact oa 1
  . cases rt n with|true=>exact W1 1|false=>cases rt 1<;>exact oa 2
theorem Kf{W p r a x y k:Nat}(h:W+1+(r+x+y)<=p+k+0+(a+x+y))(N:k<=7)(z:9<=r)(b:a=1):W<p:=by refine lin4 (nat_lit 0x10a10000933403306030135010334033020311000971500920910b116007) a4d [] h N z b a0
theorem H2{j n:Nat}[W5]:2*dn+1<hG:=by refine a6n D a0
theorem Mn[mv]:(2*dn+1)/2=dn:=by lia
theorem Dw.put{n d j:Nat}{e:x0}{W:b5}{S f O b:Int}(h:Dw n d e W S f j)(H:O=S)(F:eK->b=f):Dw n d e W O b j:=by subst H;induction e using u_ with|none=>exact⟨h.1,λa=>by exact rwL (F a);exact h.2 a⟩|some v=>exact⟨h.1,h.2.1,λa=>by exact rwL (F a);exact h.2.2 a⟩
theorem da.ends[mv]{N:Int}{R:ef}[PK][W5](Q:Qo=ap)(o:md j= ft)(Z:a9x)(F:Ww R)[jm](X:ef):a2x j0:=by
 revert R f X;exact gs n rm c du s md w g j N;revert f X;exact dl1 R;exact dl2 f X;have d:=ei C.n5 (show 5<=100 by decide);have l:=h.told D Q;have L:=h.proc H D Q;have M:=h.sl j D;replace M:=Q▸M;refine GS (M.2 H) λA d8 S f9=> ? _;replace L:=o▸L;have L:E_=gG j (gH j) (s.R j).killed (pA (s.R j)):=L
 have G:uq n j SG s (gH j) (s.R j).killed (pA (s.R j)) s.opn=s:=by
  unfold uq
  have u:s.F gw=bif c0 SG 1 then 2 else bif rt n then s.F gw else 1:=by
   rcases a3N D with q|q;. exact rwL (fR (J' q));exact S q
   .have:c0 SG 1=av:=by rcases d8 with a|a|a<;>first|(ext F1;rfl)|exact b6 a.1 (Nat.not_lt.mpr (O1 q.symm))
    exact a3 b_ q;ext Wv
  exact w3 (ax (f:=s.F) u) (ax (f:=s.F) f9) (ax (f:=s.SL) A) a4b;rfl
 have E:=J5 n j C.n2 C.n5 H D f c s R X (gH j) (s.R j).killed (pA (s.R j)) N
 have V:a2x j0=Lk n j SG c s (gH j) (s.R j).killed N R:=by
  have E:=E SG (d8.imp id (Or.imp id id));rcases h.fi.on with e|⟨k,e⟩;. have E:=E.1;replace E:=G' e▸E;replace E:=G▸E;exact E
  . have E:=E.2 k;replace E:=G' e▸E;replace E:=G▸E;exact E
 exact rwL V;have c7:=h.okMs;have f7:=Cr (n:=n) (j:=j) (d:=SG);have i6:=vV (n:=n) d8;have K:∀x,x=gw->x≠hF:=λx e q=>dR (a0I q);refine GB d _ s md h.fi h.pr c7 W3 λU m P i8 k4=> ? _
 .have c9:=List.count_pos_iff.mpr Y;rw [i6 x]at c9⊢;exact bcH z (x=hF)
  .exact w3 (b9 λe=>K x e z) vh z f9;refine⟨by unfold aP;exact H2 H D,? _,? _⟩;. cases lj 2 SG<;>exact a0T _
   . cases lj 2 SG<;>decide
  .rw [K']at c9⊢;exact bcH y (x=gw)
   .rw [c4 y]at c9⊢;refine cO (rt n) b4 b4;. replace c9:=q▸c9;exact b6 c9 (VU 0)
    .have d9:=QX D (a3i q);exact a3 y (S d9);refine⟨Nat.mul_lt_mul_of_pos_left d9 (by decide),? _,? _⟩;. cases c0 SG 1<;>exact a0T _
     . cases c0 SG 1<;>decide
   . replace c9:=b9 y▸c9;exact b6 c9 (VU 0)
 .have T:∀q∈[(Md.rd,dn),(Md.ch,0)],q∈a4S:=λq B=>by
   rcases nr B with rfl|B;. have:=(sn f7.1).1;replace this:=(show hF/2=dn by unfold aP;exact Mn)▸b_;exact a5x b_
   . exact a3b B
  have i7:=h.ab.end_ (v:=N) (l:=a4S) H D Q ⟨T _ UH,λa=>a5x (by have:=(sn (f7.2.1 a)).2;rewrite [Nat.mul_div_cancel_left j (by decide)]at this;exact b_),T _ (pn TO)⟩ Z l;obtain⟨e,i9⟩:=i8;generalize U.F=e9 at e k4;generalize U.ol=e6 at e;generalize U.opn=e7 at e;generalize U.I=f8 at e i9;generalize U.D=I at e;generalize U.P=P' at e;subst e;have i5:=λi(W:i<=n)=>(P i W).ok
  have e8:∀p:Pr,ie p.chan->(p.par= a1\/p.par= js)->fZ n (af P' j p):=λp a b=>vP d λi W=>by
   ext Po;. exact a3 q ah;exact⟨a,b⟩
   . ext R_;exact i5 i W
  refine⟨e8 _ a1 NT,e8 _ a1 NT,O5⟩;have c8:Mine.Internal.V.tup [c1 Og,a4 (P' 0).pid]=r7 0 .ch:=by exact rwL (show P' 0=_ from P 0 p1);rfl
  have r:∀x,x≠gw->x≠hF->e9 x=s.F x:=λx a b=>by exact w3 (k4 x) (i6 x) (b9 a) (b9 b);exact Zs _
  refine F _ (af (ix a4S md) j .off) w g ⟨i7,w8,w8,⟨m.on,m.ol,m.io,m.D,m.al⟩,w8,h.ca,h.go,? _,h.ot,? _,a2H,h.pl⟩ (Z1 ? _ _) rfl
  .show r9 n Q7 (tc _ i) (af _ j .off i) (dq (hD [c1 Og,a4 (P' 0).pid]) (af P' j _ i)) i;exact rwL c8;ext Po
   .subst q;exact ec ah ah ah;ext a6E;refine⟨λe=>(iy e),λv e=>⟨O5,D3⟩⟩;. ext RK;exact jM rfl
    . have t:(s.R bm).told=am:=t;replace t:=l▸t;exact cT t
   . exact w3 oe oe oe Co;rewrite [GA];exact(P i W).wake (sb c7 i W) ⟨OA,hS⟩ (ba NT)
  .show Dw n (du i) (tc _ i).ended (NV j _ i) (e9 (2*i)) (e9 (aP i)) i;ext Po
   .exact ec q ah ah;refine⟨rfl,zf,O5⟩;. rewrite [k4];rewrite [i6];exact w3 s_ (b9 dR) (S a) (fR (J' a));cases c0 SG 1<;>rfl
    . rewrite [k4];rewrite [i6];exact ec (b9 (LL dR)) s_ f9;cases lj 2 SG<;>rfl
   . exact a3 oe oe;exact(h.sl i W).put (r _ (λe=>q (Nat.eq_of_mul_eq_mul_left (by decide) e)) dR) λa=>r _ (LL dR) (sj a H q)
  . have p:=h.pi i W;exact⟨(i9 i).1.trans p.rc,(i9 i).2.trans m4,p.ln,p.rg⟩
  . show SH=(tc _ 0).ended/\_;exact rwL (ag (J' H));exact h.ln
  .show I_=(bI (cS (tc _)) n:Nat);ext a9C;. exact a3 q ah;rfl
   . ext R_;rfl
  .have p:=YH D (i0 (s.R j) (aj N)) a4S .off (w j) (g j);ext a2w;replace p:=o▸p;refine Kf p ? _ ? _ ? _;. exact a3 Qi EQ;exact Nat.succ_le_succ (Nat.mul_le_mul_left 2 f7.2.2)
   . unfold rp;exact rwL Q;exact QY 9 _
   . unfold rp;show(bif T3 then 0 else 1)=1;exact rwL l;rfl
section E
section E
section
set_option backward.match.sparseCases false
open PySem
abbrev I8[hB]:V:= a2 (B1 dn)
def lE[hB][k3](r:d7)(E:Int)(b:x0)(tl kl:Bool):St:={s with R:=tc ⟨r,E,b,ap,tl,kl⟩}
abbrev lG[jm](g:Str)[wl][p3]:a5:=L1 f (hQ g) a6 K X m
def H3(f n j:Nat)[l9](r:d7)[V5]:a5:=bL (!(r==[])) (lG f Zn Zx K X j0) (lG f Zu Zx K X j0)
def Lp(f n j:Nat)[l9](r:d7)(E:Int)(tl kl:Bool)[V5]:a5:=bif rt n then bL (r==[]) (nd (il (zz 0+Vv)) (nd (Y2/\Zo) (bL (a2A==[]) (lG f V2 [gn,I8 j,a4 (zz 0)] K X (dt (lE j s a2A E ap tl kl))) (H3 f n j c (lE j s a2A E ap tl kl) a2A K X)))) (H3 f n j c s r K X)else H3 f n j c s r K X
theorem Kg:∀n j,l4->kT->eK->gp->∀[jm][l9][V5](r:d7)(E:Int)(tl kl:Bool),(L1 OQ (hQ a0f) Zx K X (dt a5q)=bL kl (bL (!(c.stays j)) (lG f V2 [gn,I8 j,a4 (-1)] K X (dt a5q)) (Lp f n j c a5q r E tl kl K X)) (Lp f n j c a5q r E tl kl K X))/\∀v:Int,L1 OQ (hQ a0f) Zx K X a7B=bL kl (lG f V2 [gn,I8 j,a4 (-1)] K X a7B) (lG f V2 [gn,I8 j,a4 v] K X a7B):=by refine ZN<;>exactλf c s K X r E tl kl=>⟨by kernel_rfl,λv=>by kernel_rfl⟩
section E
section
set_option backward.match.sparseCases false
open PySem
section
variable{n rm:Nat}{c:Cf}{du:i3}{s:St}{md:lp}{w g:i3}
def ND[f0](c:eN)[wl]:E V:=a8W
theorem lH{f:Nat}{args:b5}{K:si}[l2][SA]{g:Str}(D:g=Zn\/g=Zu\/g=V2\/g=UO\/g=XF)(h:Pg OQ (hQ g) a6 (kG n a3D) X j0):L1 OQ (hQ g) a6 K X j0:=by
 exact dl8 f a6 K X n c s g
 have e:cJ OQ (hQ g) a6=aj (ND OQ (hQ g) a6):=by
  rcases D with rfl|rfl|rfl|rfl|rfl;. kernel_rfl
  . kernel_rfl
  . kernel_rfl
  . kernel_rfl
  . kernel_rfl
 show(match cJ OQ (hQ g) a6 with|eI=>x|ap=>_) K X j0;ext ea;exact⟨n,c,s,rfl,h⟩
theorem ct{a b:a5}:bL am a b=a:=rfl
theorem cf{a b:a5}:bL av a b=b:=rfl
theorem ER{z w L:Nat}(h:0=min z (L-w))(u:1<=z)(r:w<=L):w=L:=by
 rcases Nat.le_total z (L-w)with q|q;. replace h:=SZ q▸h;refine c6 (nat_lit 0x10b10000920110b200103) eb [] u h a0
 . replace h:=Nat.min_eq_right q▸h;refine c6 (nat_lit 0x10b10000910000b400100102) cb [] r h a0
theorem da.turn[mv]{K:si}[PK][W5](o:md j= ft)(P:Ww λm=>K y2 m)[jm](X:ef):L1 G_ (hQ a0f) Zx K X j0:=by
 revert f X;exact gs n rm c du s md w g j K;exact dl2 f X;have O:=B3 j D;have Q:Qo=ap:=a25 λq=>by have:=(O.off H).mpr q;replace this:=o▸b_;exact a0A b_ rfl
 have l:=h.told D Q;have R:∀{A:St}{j9:lp}{f9 g1:i3},zg n rm c du A j9 f9 g1 (λm=>K y2 m)->zg n rm c du A j9 f9 g1 a3D:=λP U M i9 Y i p a=>⟨ut (i.wf C),P U M i9 Y i p a⟩;have y:∀{N:Int},a9x->lG (f+14) V2 [gn,I8 j,a4 N] K X j0:=λZ=>lH (ba Wj) (h.ends C H D Q o Z (R P) f X);have i7:∀{A:St},PN A md w g->uu n c A md w g=XU->A.at_=x3->∀{r:d7}{E:Int}{kl:Bool},A.R j=⟨r,E,ap,ap,av,kl⟩->r≠[]->lG (f+14) Zn Zx K X (dt A):=λ{A}i5 d8 G r E kl d9 c8=>by induction r using li with|nil=>exact O9 c8|cons b t=>ext a04;exact lH hA (i5.writes C D d9 o (R λU M i9 Y i p a=>P U M i9 Y i (d8▸p) (a.trans G)) f X)
 have T:=Kg n j C.n2 C.n5 H D (f+14) c s K X
 cases F:s.R j with
  |mk r E j7 c9 tl kl=>
   have i6:c9=ap:=by replace Q:=F▸Q;exact Q
   have i0:tl=av:=by replace l:=F▸l;exact l
   subst i6 i0;have T:=T r E av kl;unfold lE at T
   induction j7 using u_ with
    |some v=>have T:=T.2 v;replace T:=S9 F▸T;exact rwL T;induction kl using u' with|true=>exact rwL ct;exact y hA|false=>exact rwL cf;have b:=O.bye H v Q (by exact rwL F;rfl);replace b:=F▸b;exact y (ba ⟨b.1,b.2.elim (λq=>cT q) id⟩)
    |none=>
     have T:=T.1;replace T:=S9 F▸T;exact rwL T
     have V:Lp (f+14) n j c s r E av kl K X:=by
      have e6:(r=[]->j<n)->H3 (f+14) n j c s r K X:=λz=>by unfold H3;induction r using li with|cons b t=>exact ec a7h (show(! av)=am from rfl) ct;exact i7 h rfl rfl F Yl|nil=>exact ec a66 (show(! am)=av from rfl) cf;have L:=z rfl;have e7:=O.dat H Q (by exact rwL F;rfl);ext a8a;exact lH Wj (h.reads C H L F o (R P) f X)
      unfold Lp;refine cO (rt n) b4 b4
      .have I:=TQ q
       induction r using li with
        |cons b t=>have c7:=e6 Yl;exact ec ct a7h cf;exact c7
        |nil=>
         exact ec ct a66 ct;have hsz:=C.sz j H D;have e8:zz 0=w j:=by have:=h.ca j H D;replace this:=I▸b_;rewrite [RT]at this;exact rwL I;exact b_
         have i8:w j<=px:=by ext a04;exact((B3 k (PI D)).pp D).2.2
         have e7:=O.dat H Q (by exact rwL F;rfl);ext a8a;refine db (VB (G3 (by decide) hsz.1)) λz u=> ? _;have j6:a2A=(S8 (w j)).take z:=by exact w3 e8 u (show(w j:Int)+(z:Int)=((w j+z:Nat):Int)from rfl) (ui i8);rewrite [a3a];rfl
         refine kH (Mm e8 hsz nl (ei i8 C.tx)) (f7 ⟨rfl,ei C.tx (by decide)⟩ ? _);exact rwL j6
         have k5:∀S:d7,S=(S8 (w j)).take z->bL (S==[]) (lG (f+14) V2 [gn,I8 j,a4 (zz 0)] K X (dt (lE j s S 0 ap av kl))) (H3 (f+14) n j c (lE j s S 0 ap av kl) S K X):=λS f8=>by
          induction S using li with
           |nil=>exact a3 a66 ct;unfold lE;exact rwL (S9 F);refine y (ba ⟨by exact rwL e8;exact TT _,ba ⟨e8,λa=>b6 a (by exact rwL I;exact VU n),O5⟩⟩);have:=a0u f8;replace this:=SY▸b_;replace this:=XO▸b_;exact ER b_ (by refine c6 (nat_lit 0x10900111900111b7000011) a7 a7 hsz.1 u a0) i8
           |cons b t=>
            unfold H3;exact w3 a7h cf (show(! av)=am from rfl) ct;have j8:C'<=z:=by exact rwL f8;exact List.length_take_le _ _
            have i5:PN (lE j s OT 0 ap av kl) md w g:=by
             have x:=h.ab.said (r:=⟨OT,0,ap,ap,av,kl⟩) (m':= ft) H D Q.symm (by exact rwL F;rfl) (by exact rwL F;exact id) (λJ J=>⟨0,rfl,Q8 _,ba (we _),? _,λa=>b6 a (by exact rwL I;exact VU n)⟩) (b7 ⟨o.symm,NT⟩) (λa=>cT a) (by exact rwL F;exact id)
             .replace x:=ax (f:=md) o▸x;refine h.row H (r:=⟨OT,0,ap,ap,av,kl⟩) (P:=s.P) (I:=s.I) (RG:=oD) Q.symm l.symm x w8 (λi W=>⟨h.pi i W,rfl,rfl⟩) h.ca h.go rfl;show r9 n Q7 (tc _ i) (md i) (s.P i) i;ext Po;. have p:=h.pr i W;subst q;ext P3;replace p:=F▸p;ext a6E;exact⟨λJ=>c5 rfl,λv e=>bG e⟩
              . ext R_;exact h.pr i W
             . show OT=(S8 (w j-0)).take C';rewrite [Nat.sub_zero];exact a3 f8 SY;rewrite [List.take_eq_take_iff];rewrite [Nat.min_assoc];rewrite [Nat.min_self];rfl
            refine i7 i5 ? _ rfl (show tc _ j=_ from ah) Yl;refine hh (·+lA s.pl) (fA λi J=> ? _);show aw (md i)+(rp (tc ⟨OT,0,ap,ap,av,kl⟩ i)+_+_)=aw (md i)+(rp (s.R i)+_+_);ext Po;. exact ec q ah F;rfl
            . ext R_;rfl
         exact k5 _ rfl
      . exact rwL cf;exact e6 λJ=>QX D (a3i q)
     induction kl using u' with|false=>exact rwL cf;exact V|true=>exact rwL ct;cases c.stays j with|false=>exact a3 (show(! av)=am from rfl) ct;exact y hA|true=>exact a3 (show(! am)=av from rfl) cf;exact V
section E
section E
section
set_option backward.match.sparseCases false
open PySem
section
variable{n rm:Nat}{c:Cf}{du:i3}{s:St}{md:lp}{w g:i3}
abbrev jE[f0]:V:= a2 (bv 430 (hG+3))
def H4[Px](P:h8)(T TI:Int)(S:d7):St:={s with P:=P,I:=OJ 0 (e6 (s.I 0) T),gone:=af Oz w5 (Re+TI),out:=s.out++S}
theorem H5{W p r x L g T a k:Nat}(h:W+1+(r+x+2*(L-g))<=p+k+a+(r+x+2*(L-(g+T))))(m:a<=1):W<=p+k:=by refine c6 (nat_lit 0x1093201000093325438060503403037032010332546050340303110009117009) [_,_,_,_,_,_,_,_,_] [] h m a0
theorem H6{p a U r x:Nat}(H:a<=p+1)(F:U+1+(r+x)<=a+2+1+(1+x))(z:9<=r):U<p:=by refine kq (nat_lit 0x10a100009311102009334011311321203340303110009309105) S_ [] H F z a0
theorem Kh{W p r x y L g T a k:Nat}(h:W+1+(r+x+2*(L-g))<=p+k+a+(r+x+2*(L-(g+T))))(l:g+T<=y)(hy:y<=L)(O:k=1/\a<=1/\0<T\/k=0/\a=0):W<p:=by refine lin4 (nat_lit 0x10a10000933254380504033020370360103325450403302031100099038050094090fe0b01700b0160ee0a80010911700b11600a) [_,_,_,_,_,_,_,_,_,_] [] h l hy O a0
theorem da.fgot{T:Nat}{TI:Int}{S:d7}{l:Q4}{P:h8}[PK](d:TI=T)(r:S=(S8 (g 0)).take T)(o:Pj= ft)(Q:(s.R 0).ended=ap)(m:g 0+T<=w 1)(k:l=[]/\P=s.P\/l=[(.wr,1)]/\P=a5u)(m':Md)(u:m'= ft\/m'= .rd/\w 1=g 0+T/\lm 1=am)(O:l≠[]/\(0<T\/m'= ft)\/l=[]/\T=0):PN (H4 n s (af P 0 (sI 0 a1 (jE n) m' av 0)) T TI S) (af K_ 0 m') w (af g 0 (g 0+T))/\(l≠[]/\0<T\/l=[]/\m'= .rd->y7 n px s.R (af K_ 0 m') w (af g 0 (g 0+T))<a54)/\y7 n px s.R (af K_ 0 m') w (af g 0 (g 0+T))<=a54+OE:=by
 revert S l P m';exact gs n rm c du s md w g T TI;revert m';exact dl3 S l P;exact dl1 m';subst d;have B:0<n:=Os (by decide) C.n2;have f:=(B3 0 p1).pp B
 have x:=h.ab.first (r:=s.R 0) (T:=T) (l:=l) (m':=m') B (b7 Q) m (by
  rcases O with q|q
  .rcases k with z|z;. exact b6 z.1 q.1
   . exact rwL (z.1);exact b7 TO
  . exact ba ⟨q.2,rfl⟩) (λq=>b6 Q q) ((B3 0 p1).tl) (u.imp id λq=> b7 ⟨q.1,q.2.1,q.2.2,Q⟩);replace x:=S9 rfl▸x
 have j:pK n {s with P:=P} K_:=by
  rcases k with⟨rfl,rfl⟩|⟨rfl,rfl⟩;. exact h.pr
  . exact h.pr.wake (q:=(.wr,1)) h.okMs ⟨λJ=>oa 1,OA⟩ Wj
 refine⟨⟨x,w8,h.sl,⟨h.fi.on,h.fi.ol,w8,h.fi.D,h.fi.al⟩,w8,h.ca,w8,h.ln,? _,h.lf,a2H,h.pl⟩,? _⟩
 .show r9 n Q7 (s.R i) (af K_ 0 m' i) (af P 0 _ i) i;ext a0R;. subst q;exact a3 ah ah;exact rfl
  . exact a3 oe oe;exact j i W
 .show(OJ 0 _ i).ro=_/\(OJ 0 _ i).wo=_;ext a0R;. subst q;ext P3;exact h.fi.io 0 W
  . ext R_;exact h.fi.io i W
 .show se rm N0 (w fq) (af g 0 _ i) (OJ 0 _ i) (oD i);ext a0R;. subst q;exact a3 ah ah;exact((h.pi 0 W).read m f.2.2).2
  . exact a3 oe oe;exact h.pi i W
 .show af Oz w5 _ (n-i-1)=(af g 0 _ i:Nat);ext a0R;. subst q;rewrite [ah,Nat.sub_zero,ah,show Re=g 0 from h.go 0 W];rfl
  . exact a3 oe (ag (show n-i-1≠w5 fromλe=>q (GG W B e)));exact h.go i W
 . show s.out++S=c.text.take (af g 0 _ 0);exact ec ah h.ot r;exact List.take_add.symm
 .have p:=YH p1 (s.R 0) l m' (w 0) (g 0+T);ext a60;replace p:=S9 rfl▸p;replace p:=o▸p;refine⟨λz=>Kh p m f.2.2 ? _,H5 p (mU m')⟩;rcases z with⟨a,b⟩|⟨a,b⟩
  .refine b7 ⟨? _,mU m',b⟩;rcases k with z|z;. exact b6 z.1 a
   . exact rwL (z.1);rfl
  . exact ba ⟨by ext F1;rfl,by exact rwL b;rfl⟩
theorem H7{g L x:Nat}(Y:x<=10)(U:L<=10):min g L+x<=16777216:=ei (Nat.add_le_add (ei (Nat.min_le_right _ _) U) Y) (by decide)
theorem da.freads{R:ef}[PK](o:Pj= ft)(n3:(s.R 0).ended=ap)(e7:Ww R)[jm](X:ef):a2N j0:=by
 revert f X;exact dl9 n rm c du s md w g R;exact dl2 f X;have B:0<n:=Os (by decide) C.n2;have n6:=ei C.n5 (show 5<=100 by decide);have L:s.P 0=_:=h.pr 0 p1;replace L:=o▸L;have L:s.P 0=Cd (jE n) 0:=L;have M:=h.sl 0 p1;replace M:=n3▸M;have M:=M.1 rfl;have l6:SH=ap:=h.ln.1.trans n3;have k5:=h.ln.2.1 l6;have D:=h.pipe B;replace D:=(show lm 0=am from qf.mpr n3)▸D;refine zF (h.bnd C B) λb1 l7 i8=> ? _;have A:=h.pr.tab n6
 have G:ze s (jE n) 0 ⟨g 0,w 1,am,lm 1⟩ (s.R 1).ended s.opn=s:=by
  unfold ze;refine rwl (S9 (show s.R 1=i0 (s.R 1) (s.R 1).ended by cases s.R 1;rfl)) (rwl a4b (rwl (ax (f:=s.SL) M.1) (rwl (ax (f:=s.F) M.2) (rwl (ax (f:=s.I) D) ? _))));have:∀(a b:x0)(l:d7),a=s.lbye->b=SH->l=s.lrest->{s with lbye:=a,lend:=b,lrest:=l}=s:=λa b l H F Q=>by exact ec H F Q;rfl
  exact b_ _ _ _ k5.1.symm l6.symm k5.2.symm
 have m7:=h.preP C B;have k9:=((B3 0 p1).pp B).2.2;have Z:Re=g 0:=h.go 0 B;have K:zz w5=w 1:=h.ca 1 (oa 1) B;refine LA (Cm (at_:=Re) (sz:=c.lsz) (came:=zz w5) (c:=c) rfl Z K C.ls b1 k9) λT k6 j9 e8 l3 k7 k8=> ? _
 have V:a2N j0=Lo n c s (jE n) 0 (s.I 0) (lm 1) Re (hU Re c.lsz (zz w5) c) R:=by
  have e9:=Ka n C.n2 C.n5
  have e9:sg n s.opn:=by
   rcases h.fi.on with e|⟨k,e⟩;. ext ea;exact e9.1
   . ext ea;exact e9.2 k
  have e9:=e9 f c s R X (jE n) 0 (g 0) (w 1) am;refine cO (lm 1) Xf Xf;. have e9:=e9.1;replace G:=m▸G;replace G:=qf.mp m▸G;exact a3 D m;replace e9:=G▸e9;exact e9
  .refine cM (s.R 1).ended Xj λe y=> ? _;. exact b6 y (qg.mp m)
   . have e9:=e9.2 e;replace G:=m▸G;replace G:=y▸G;exact a3 D m;replace e9:=G▸e9;exact e9
 exact rwL V;have d9:dq (um 0) (s.P 0)=sI 0 a1 (jE n) ft av 0:=by exact rwL L;exact(lx (j:=0) (i:=1) (q:= .wr) (m:= ft) (par:= a1) (regs:=jE n) (kl:=av) (pg:=0) a0H ⟨λJ=>oa 1,OA⟩ Wj)
 have N:∀x,x<=10->s.out.length+x<=16777216:=λx Y=>by exact a3 h.ot SY;exact H7 Y C.tx
 have i6:∀(p:Pp)(S:d7),p=s.I 0->S=(S8 (g 0)).take T->(T=0->lm 1=av)->xD n c s p Re S R T:=λp S j n7 z=>by
  subst j;have eL:QA=T:=by exact a3 n7 k7;rfl
  have i5:QA<=10:=by exact rwL eL;exact ei (Int.ofNat_le.mp k8) (by decide)
  have I:=h.fgot C (T:=T) (TI:=(QA:Nat)) (by exact rwL eL;rfl) n7 o n3 j9 (l:=[(.wr,1)]) (P:=a5u) (ba s4) ft hA (b7 ⟨Yl,NT⟩);replace I:=ax (f:=a5u) d9▸I;refine⟨A,λJ=>uv ? _ (f7 (ei i5 (by decide)) (kH (by exact rwL eL;exact Nc Z k8 b1 i8) (Ck (λq=>f7 (N _ i5) ? _) λq=>f7 (N _ i5) ? _)))⟩;. exact a3 C.ro n7;exact((h.pi 0 B).read j9 k9).1
  .subst q;have E:T=0:=eL.symm;subst E;have O:=I.1;unfold H4 at O;rewrite [TX]at O;have O:PN (Ce n s (s.I 0) [] 0) (af (ix [(.wr,1)] md) 0 ft) w (af g 0 (g 0+0)):=O;have u:=I.2.2;generalize c7:af (ix [(.wr,1)] md) 0 Md.rdy=d at O u;have m1:d 0= ft:=by exact rwRL c7 ah;rfl
   rw [a62]at O u;have m6:=O.ab.first (r:=i0 (s.R 0) t_) (T:=0) (l:=vR [0]) (m':= ft) B (b7 n3) b1 (b7 (sn TO).2) (λJ=>⟨z rfl,(e8 rfl).symm⟩) (λJ q=>iy q) hA;replace m6:=a62▸m6;refine GB (k:=λU=>R (dt {U with SL:=af U.SL 0 WI,lbye:=aj Re,lend:=t_,lrest:=[],out:=U.out++[]})) n6 [0] (Ce n s (s.I 0) [] 0) d O.fi O.pr O.okMs W3 λU j7 P i9 k4=> ? _;. exact rwL (w6 Y);exact⟨Nat.mul_pos (by decide) B,a2t M.2.symm,G3 (a2t M.2) (by decide)⟩
   .obtain⟨e,j6⟩:=i9;generalize U.F=t at e k4;generalize U.ol=c8 at e;generalize U.opn=f9 at e;generalize U.I=d8 at e j6;generalize U.D=j8 at e;generalize U.P=P' at e;subst e;have c9:ix (vR [0]) d 0= ft:=(ms (vR [0]) d 0).elim (λq=>q.trans m1) And.left;have nx:∀x:Nat,x≠0->t x=s.F x:=λx q=>by exact a3 (k4 x) (List.count_cons_of_ne (LL q));exact Zs _
    have f8:PN {s with P:=P',F:=t,SL:=NV 0 WI,D:=j8,I:=d8,R:=af s.R 0 (i0 (s.R 0) t_),lbye:=aj Re,lend:=t_,lrest:=[],gone:=af Oz w5 (Re+(([]:d7).length:Nat)),out:=s.out++[],opn:=f9,ol:=c8} (af (ix (vR [0]) d) 0 ft) w g:=by
     refine⟨m6,w8,w8,⟨j7.on,j7.ol,j7.io,j7.D,j7.al⟩,w8,O.ca,O.go,⟨? _,ZH,λv q=>(hR q).symm⟩,? _,? _,⟨O.jk.rl,O.jk.gl,O.jk.gi,O.jk.rd,O.jk.re⟩,O.pl⟩
     .show r9 n Q7 (af s.R 0 _ i) (af _ 0 ft i) (P' i) i;ext a0R;. subst q;have p:=P 0 W;replace p:=c9▸p;ext P3;exact p
      . exact a3 oe oe;exact P i W
     .show Dw n (du i) (af s.R 0 _ i).ended (NV 0 _ i) (t (2*i)) (t (aP i)) i;ext a0R;. subst q;exact a3 ah ah;exact⟨rfl,λJ=>(k4 0).trans (by exact rwL (show(Ce n s (s.I 0) [] 0).F 0=1 from M.2);rfl),λa=>b6 a (by decide)⟩
      . exact a3 oe oe;exact(h.sl i W).put (nx _ (Nat.mul_ne_zero (by decide) q)) λJ=>nx _ (XL _)
     . have p:=O.pi i W;exact⟨(j6 i).1.trans p.rc,(j6 i).2.trans m4,p.ln,p.rg⟩
     . show t_=(af s.R 0 _ 0).ended;ext P3;rfl
     . rewrite [TX];exact h.ot
     . exact h.lf.trans (hh Nat.cast (fA λi J=>(hh (λr:Rw=>bif r.told then 0 else 1) (ag (f:=s.R) (a:=i0 (s.R 0) t_) (XL i))).symm))
    have I:=e7 _ _ _ _ f8 (Z1 ? _ _) rfl;. exact I
    have p:=fg (n:=n) (L:=px) (R:=s.R) (md:=d) (w:=w) (g:=g) p1 (i0 (s.R 0) t_) (vR [0]) ft (w 0) (g 0);ext a2w;replace p:=m1▸p;rewrite [a0C (rp (s.R 0))]at p;rewrite [a0C (rp (i0 _ _))]at p;refine H6 (r:=rp (s.R 0)) u (ei p (Nat.add_le_add_left (a5L ? _ _) _)) (by unfold rp;exact rwL n3;exact QY 9 _);unfold rp;show(bif(s.R 0).told then 0 else 1)<=1;cases(s.R 0).told<;>decide
  . have E:0<T:=Pl λe=>q (a4V (eL.trans e));exact e7 _ _ _ _ I.1 (Z1 (I.2.1 (b7 ⟨Yl,E⟩)) _) rfl
 unfold Lo;exact rwL l3;refine kH (Mm Z C.ls b1 i8) (f7 ⟨rfl,ei C.tx (by decide)⟩ ? _);exact rwL (S1 (Int.not_lt.mpr (G3 (by decide) C.ls.1)))
 have m8:∀{k0:a5},(0<T\/lm 1=av)->Gz 0 f3 (s.I 0) (oD 0) c.lsz k0 (xD n c s (s.I 0) Re ((S8 (g 0)).take T) R):=λ{k0}z=>by
  refine⟨m7,⟨G3 (by decide) C.ls.1,G3 C.ls.2 (by decide)⟩,? _⟩;exact rwL D
  have:(lm 1&&(fl (0<c.lsz)&&((w 1:Int)-(g 0:Int)==0)))=av:=by
   rcases z with z|z;. exact rwL (show((w 1:Int)-(g 0:Int)==0)=av from RL (Cn z j9));ext Wx;ext Wx;rfl
   . exact rwL z;rfl
  exact rwL (show(lm 1&&(fl (0<c.lsz)&&((⟨g 0,w 1,am,lm 1⟩:Pp).wc-(⟨g 0,w 1,am,lm 1⟩:Pp).rc==0)))=av from b_);exactλi7 e=>by have e:i7=T:=WP (e.trans k6.symm);ext ea;exact i6 _ _ D.symm rfl λq=>z.elim (λz=>b6 q (RR z)) id
 exact bcH E (T=0)
 .exact a3 E List.take_zero;refine cO (lm 1) Xf Xf;. refine⟨m7,⟨G3 (by decide) C.ls.1,G3 C.ls.2 (by decide)⟩,? _⟩;exact ec D m (T0 (a1H (by decide) C.ls.1));have l8:=e8 E;show bL ((w 1:Int)-(g 0:Int)==0) _ _;exact a3 l8 (show((w 1:Int)-(w 1:Int)==0)=am from WM (Int.sub_self _));have I:=h.fgot C (T:=0) (TI:=0) rfl (S:=[]) a1C o n3 b1 (l:=[]) (P:=s.P) (b7 s4) .rd (ba ⟨rfl,l8.symm,m⟩) (ba s4);have I:=e7 _ _ _ _ I.1 (Z1 (I.2.1 (ba s4)) _) rfl;unfold H4 at I;replace I:=ax (f:=s.I) (show s.I 0=e6 (s.I 0) (0:Nat)by exact rwL D;exact hh (λx=>Pp.mk x _ _ _) (T6 _).symm)▸I;rewrite [T6]at I;replace I:=ax (f:=Oz) rfl▸I;exact f7 (N 0 (by decide)) I
  . have:=m8 (k0:=gj) (ba m);ext a9S
 . have E:=Pl E;exact rwL (show((S8 (g 0)).take T==[])=av from RL λq=>by replace k7:=q▸k7;exact b6 k7 (J' E));exact m8 (b7 E)
section E
section E
section
set_option backward.match.sparseCases false
open PySem
def uS:Lc:=Du (uf (bq "" UO) 2)
def MQ[LR](l:b5):ac:=(((YO 2000000 (f2 (aj (a2 Zb)))).mk1 2000000 (f2 (aj js))).mk1 713 (bC (aF (λx=> a2 (B1 x)) n))).mk1 713 RD
theorem cE{R:gN}{b:e_}{K:lR}[l2]:∀{a:e_}{fm:Fm}[f_],aB R (a++b) fm K X m=aB R a fm a9R X m:=λ{a}=>by induction a with|nil=>exactλ{fm m}=>rfl|cons s a G=>intro fm m;show R.stmt s fm (λr m'=>(match r with|kE=>aB R (a++b) mc|f=>a_ f) K X m') X m=R.stmt s fm (λr m'=>(match r with|kE=>aB R a mc|f=>a_ f) a9R X m') X m;congr 1;funext r m';obtain⟨f,loc⟩:=r;induction f using Fl.casesOn with|next=>exact G|_=>rfl
abbrev Ki:e_:=bq "" UO
abbrev Lq:Scope:=cu "" UO
abbrev Lr:OX:=[("calls",nn 6),(P1,nn 7)]
def hW[V5]:lR:=a5R
theorem ES(f n:Nat)[l9][V5]:Wt (hQ UO) [gn,t5] K X j0=aB (wb (Pg (f+13)) 40) (Ki.take 3++Ki.drop 3) ⟨Lq,[("world",gn),(Rz,t5)],Lr⟩ (hW K X) X ((YO 2000000 PB).mk1 2000000 PB):=by kernel_rfl
theorem ET:∀n:Nat,l4->kT->∀[w'][l9](G:lR)(X:ef),U4 (Ki.take 3) ⟨Lq,[("world",gn),(Rz,t5)],Lr⟩ G X (((dt {s with lend:=t_}).mk1 2000000 PB).mk1 2000000 PB)=a8L (λJ m'=>G (hH,a9e) m') wj (MQ n c {s with lend:=t_} []):=by refine VS<;>(ext Q5)
def iX[f0](P:h8)[hB]:Pr:=jw ((eu P cp)[j]?.getD sw)
def GH[k3][hB]:St:={s with P:=λi=>bif c0 i j then iO (Q7+1)else s.P i,rl:=(s.rl++[NL])++[VG]}
def lJ(r:Rw):Rw:=⟨RA,r.done,r.bye,PL,am,OD⟩
def GI[f0](P:h8)(k:PZ)(l:a5):a5:=fZ n P/\((∀j,a1b=aj j->k j)/\((a1b=ap->a43=am\/(P 0).killed=am->gj)/\(a1b=ap->a43=av->(P 0).killed=av->l)))
def Mo(f n:Nat)[p3]:a5:=aB (wb (Pg (f+13)) 40) (Ki.drop 3) ⟨Lq,a9e,Lr⟩ (hW K X) X m
theorem H8:∀n:Nat,l4->kT->∀[YL],Mo f n Up X (MQ n c {s with lend:=t_} [])=GI n s.P wj (R (dt {s with lend:=t_,P:=Rv 0 (y0 (s.P 0) (hD [c1 Og,a4 (s.P 0).pid]))})):=by refine VS<;>(ext Q5)
def zk[k3][hB](r:d7)(E:Int)(b:x0)(e:Int)(kl:Bool):St:={s with lend:=t_,R:=tc ⟨r,E,b,P4,av,kl⟩}
theorem H9:∀n j:Nat,l4->kT->eK->gp->∀[jm][l9](l:b5)(R:ef)(X:ef)(r:d7)(E:Int)(b:x0)(e:Int)(kl:Bool),Mo f n Up X (MQ n c (zk s j r E b e kl) (a2 (B1 dn)::l))=nd (il (I_-1)) (GI n s.P (λi=>JV (hD [a4 (Ti i).pid,a4 (Ti i).status]) (hD [a4 (c_:Nat),a4 e]) (R (dt {GH (zk s j r E b e kl) i with R:=af (zk s j r E b e kl).R j (lJ ((zk s j r E b e kl).R j)),left:=I_-1})) gj) gj):=by refine ZN<;>(ext Q5)
section E
section
set_option backward.match.sparseCases false
open PySem
abbrev Kj:hC:=yR (bq "" "law") 12
abbrev I9:e_:=yS (bq "" "law") 12
def kK:Lc:=Du (uf I9 2)
abbrev iY:Scope:=cu "" "law"
abbrev aU:OX:=[("store",SE),(Rz,Rs),("text",nn 2),("calls",nn 3),(P1,nn 4),("rows",nn 5)]
abbrev kf[Pu](r:Int)(w:dd):dd:=UY::(ZC,B_)::("room",a4 r)::("table",jy)::("files",Ru)::("world",a1W)::w
def Ia(o:a2i):dd:=match o with|ap=>[]|aj (a,b,c)=>[("turn",a),(qi,b),("k",c)]
def Mp(o:a2i)(t:V):dd:=match o with|ap=>[("turn",t)]|aj (_,b,c)=>[("turn",t),(qi,b),("k",c)]
def NE(o:a2i)(t r:V):dd:=match o with|ap=>[("turn",t),(qi,r)]|aj (_,_,c)=>[("turn",t),(qi,r),("k",c)]
abbrev WD:V:= a1W
theorem EU[tz][w'](t:Int)(b0:Bool)(R:Int)(o:a2i)(G:m_->E Y)[WX]:(cV Kj Ph ⟨iY,B' R (Ia o),aU⟩>>=λloc=>aB (O2 39) I9 ⟨iY,loc,aU⟩>>=G) K X m=(be WD (c1 "left")>>=λl=>gM l l1>>=λb=>kp (a_ (Fl.brk,B' R (Mp o Ph))) ((bj (hQ XF) [WD,Ph]>>=cG>>=W4)>>=λb=>kp TA (vI bj dK "count" []>>=λa=>bP Rs>>=λH=>bj XJ [WD,H]>>=λo=>(if pO a o=am then gM a o>>=W4 else a8)>>=λb=>SK)>>=λb=>kp (a_ (Fl.ret NS,B' R (Mp o Ph))) (bP Rs>>=λH=>jR 740 H tt>>=λp=>ja [p]>>=λsrc=>TM>>=λn=>(if(bg kK.tgt src&&bJ kK.sc)=am then ci 740 ej>>=λi=>cF (a7g src i cp 0 ⟨kK.sc,[],WH⟩)>>=Y9 else a8)>>=λd=>ci 741 ej>>=λe=>gM d QJ>>=λb=>kp (a_ (Fl.ret NS,B' R (NE o Ph d))) (bP SE>>=λN=>kP d>>=λf=>bj Oq [N,f]>>=λr=>be d r>>=λk=>(bP Rs>>=λH=>gM k H>>=λb=>kp (bP Rs>>=λH=>bj (hQ UO) [WD,H]>>=cG) (bj (hQ a0f) [WD,k]>>=cG)>>=W4)>>=λb=>kp (a_ (Fl.ret NS,B' R [("turn",Ph),(qi,d),("k",k)])) (a_ (Pw,B' R [("turn",Ph),(qi,d),("k",k)])))))>>=G) K X m:=by rcases o with _|⟨a,b,c⟩<;>kernel_rfl
section E
section
set_option backward.match.sparseCases false
open PySem
theorem EV[w'](w:ii)(k:Int)[UL]:(cV kK.tgt v0 ⟨kK.sc,hJ "k" w,WH⟩>>=λloc=>bK (O2 37) .And kK.ifs ⟨kK.sc,loc,WH⟩>>=T4) K X m=(bP (nn 5)>>=λf=>be f v0>>=λr=>be r (c1 OC)>>=λp=>bE p UF>>=λN=>gM N (c1 qi)>>=λb=>SK>>=λb=>a0F b) K X m:=by ext UV
theorem iP[tz]{c:Id}[g_]{f:Rq}[C_](h:m.H c=aj Uz)(N:f v K X m):(bP c>>=f) K X m:=aK (f:=λo=>a1a>>=f) h N
theorem pD[tz][eX][q']{k:Int}[g_]{f:Rq}[C_](h:Fc=aj Oj)(M: -1000<=k/\k<=1000)(e:eJ vs k=d0)(N:f v K X m):(be eF v0>>=f) K X m:=aK (f:=λa=>eD a v0>>=f) h (aV M (gF e N))
theorem im[tz][eX]{F:dd}[N2][g_]{f:Rq}[C_](h:Fc=aj (.sd F))(e:dp x F=d0)(N:f v K X m):(be eF I'>>=f) K X m:=aK (f:=λM=>eD M I'>>=f) h (gF e N)
def mW[f0]:b5:=(aF (λk=>og a2k) n)++[a2 X_]
def zl[Px][q_]:b2:=(s.P (n-k)).state==Yz
def Kk[Px]:OO| f6=>zl n s i.toNat|_=>av
def fh[Px]:b5:=(ST cp).filter (Kk n s)
theorem Kl[LR](o:ae):YO 740 o=dt {s with rd:=s.rd++[o]}:=by kernel_rfl
theorem Ib{call:aD}[SA][tz]{d:Rq}{K:Y->ef}[l2](B:n<=100)(N:d (a2 (bv 740 s.rd.length)) K X (dt {s with rd:=s.rd++[bC (fh n s)]})):(a70>>=d) K X j0:=by
 refine dE ? _ ? _
 .have e:(bg kK.tgt (o_ cp 1)&&bJ kK.sc)=(bg kK.tgt (o_ 0 1)&&bJ kK.sc):=by kernel_rfl
  ext Zp
 have W:(YO 740 ej).H a49=Rx:=by ext SW
 have g:((t3+1)-0).toNat+1=(ST cp).length+1:=by ext QF;lia
 ext NZ;show a7g (o_ cp 1) a49 ((ST cp).length+1) 0 ⟨kK.sc,[],WH⟩ (λJ m'=>d (a2 a49) K X m') wj (YO 740 ej);exact rwR (fX W)
 have a:∀[v1][g_],(ST cp)[k]? =d0->k<=n/\v= v0:=λ{k v}e=>by
  ext a0M;exact bcH N (k<cp);. replace e:=c4 N▸e;exact⟨oc N,XY⟩
  . ext a3m
 refine fK (x:="k") (p:=Kk n s) (f:=id) (o:= ej) ? _ ? _ ? _ ? _ ? _ ? _;. exact W
 .intro acc k G A;replace A:=aG▸A;show(λo=>G o) (if H_+k<cp then aj (j1 (0+k))else ap) _ _ _;exact bcH q (k<cp);. replace A:=PH▸A;exact rwL (c4 (by refine bn (nat_lit 0x11a3117103700010a311100002) cb [] q a0));rewrite [WU];exact A
  . replace A:=w2▸A;exact rwL (b9 (by refine bn (nat_lit 0x1c1a311710370001c0a311100002) cb [] q a0));exact A
 .ext a37;ext a40;refine(EV bj w k G _ _ _).mpr ? _;rw [dI]at A⊢;have f:∀{j:Id}{o:ae},Tl j=ck->(YO 740 (bC acc)).H j=ck:=λh=>aT h;have L:Tl (nn 5)=aj (f2 (aj XR)):=by kernel_rfl
  have z:Tl (bv 636 1)=aj (bC (mW n)):=by kernel_rfl
  have u:∀j,j<cp->Tl x1=aj (t0 E_):=λj D=>by show a5l[j]? =_;exact a3 aG (c4 D);rfl
  refine iP (f L) ? _
  have I:∀[xi](o:ae)[hB],(mW n)[k]? =aj eF->Tl i=ck->(∀[tz](d:Rq)[WX],RC->d f5 K X m->(be eF (c1 OC)>>=d) K X m)->j=n-k->(be XR v0>>=λr=>be r (c1 OC)>>=λp=>bE p UF>>=λx=>gM x (c1 qi)>>=λb=>SK>>=λb=>a0F b) (λJ m'=>d (a2 a49) K X m') wj (YO 740 (bC acc)):=λi o j H F Q C=>by
   refine pD (v:= eF) (f z) (by refine c6 (nat_lit 0x1e19000003e82700197008000003e82090000006421009100002) cb [] B t a0) ? _ (Q _ _ _ _ (f F) ? _);. unfold eJ;exact rwL (c4 (TT k));rewrite [a1M];exact H
   subst C;refine aC (v:= c1 (s.P (n-k)).state) (f (u _ (by refine pk (nat_lit 0x10a311004100002) cb [] a0))) (by kernel_rfl) (by kernel_rfl) (bY (r:=zl n s k) rfl ? _);have A:a0F (zl n s k) _ _ _:=A;refine dy b4 b4;. ext a1G
   . ext a1G
  exact bcH q (k<n)
  .refine I a2k (jU n Vb (c.sz Vb) (c.stays Vb) (s.R Vb)) Vb ? _ ? _ ? _ (by refine bn (nat_lit 0x10b41000311410411000a001002) cb [] q a0);. unfold mW;rewrite [a24 (by ext QF;exact q),aG,PH];try rfl
   . show a01[w5-k]? =_;exact a3 aG (c4 (by refine a4B q a0));rfl
   . exactλd K X m h l=>im (v:= a2 (aq Vb)) h (by kernel_rfl) l
  .have t:k=n:=by refine c6 (nat_lit 0x10b1000091000c0a100002) cb [] t q a0
   subst t;refine I X_ _ 0 ? _ (show(MM k c s).H X_=aj a74 by kernel_rfl) ? _ (RT k).symm;. unfold mW;rewrite [Vy (by ext QF;exact oa k),aM,RT];rfl
   . exactλd K X m h l=>im (v:= js) h (by kernel_rfl) l
 . intro acc k v Z O G A;ext a40;exact A
 . ext QF;refine bn (nat_lit 0x109000003e8231100090000006420001) a7 [] B a0
 . exact rwL dI;ext a0k;rewrite [Kl];exact N
section E
section
set_option backward.match.sparseCases false
open PySem
theorem EW[w'](w:ii)(x:Nat)[UL]:(cV uS.tgt (a2 (B1 x)) ⟨uS.sc,hJ Vr w,[]⟩>>=λloc=>bK Vh .And uS.ifs ⟨uS.sc,loc,[]⟩>>=T4) K X m=(be (a2 (B1 x)) (c1 "ended")>>=λe=>uO e a1>>=λb=>gm (! b) (be (a2 (B1 x)) (c1 "is_told")>>=cG>>=λb=>gm (! b) TA A') A'>>=λb=>SK>>=λb=>G [(Vr,a2 (B1 x))] b) K X m:=by exact dl7 bj w x G K X m;ext UV
def Ct(R:PA)[hB]:b2:=(R j).ended.isSome&& !(R j).told
def Ls(R:PA):OO| a2 (bv _ x)=>Ct R (x+1)|_=>av
def ip[f0]:b5:=aF (λx=>og (B1 x)) n
theorem Ic{call:aD}[SA]{K:Vt}(B:n<=100)(N:K () (MQ n c s ((ip n).filter (Ls s.R)))):a8L K wj (MQ n c s []):=by
 exact dl5 bj n c s K;have o:∀l,(MQ n c s []).upd (bv 713 1) RD=MQ n c s l:=λl=>by kernel_rfl
 have W:(MQ n c s []).H (bv 713 1)=Rx:=by kernel_rfl
 have f:(ip n).length=n:=aM
 have a:∀[v1][g_],(ip n)[k]? =d0->k<n/\v= a2 (B1 k):=λ{k v}e=>by
  unfold ip at e;ext a0M;exact bcH N (k<n);. ext a7z
  . ext a3m
 have:=fK (R:=Vh) (elt:=uS.elt) (tgt:=uS.tgt) (ifs:=uS.ifs) (sc:=uS.sc) (cells:=[]) (x:=Vr) (vs:=ip n) (p:=Ls s.R) (f:=id) (o:= ej) (i:= bv 713 1) (src:= a2 (bv 713 0)) (m:=MQ n c s []) (K:=K) (X:=wj) W (λacc k G A=>by rw [o]at A⊢;exact ff (vs:=ip n) (show(MQ n c s acc).H (bv 713 0)=_ by kernel_rfl) A) (λacc k v Z w G A=>by
  ext a4Z;rw [o]at A⊢;refine(EW bj w k G _ _ _).mpr ? _;have b:(MQ n c s acc).H (B1 k)=aj (jU n bm (c.sz bm) (c.stays bm) U_):=by show a01[k]? =_;exact a3 aG (c4 N);rfl
  refine im (v:=o7 a0q) b (by kernel_rfl) ? _;have A:G [(Vr,a2 (B1 k))] (Ct s.R bm) _ _ _:=A;unfold Ct at A;refine cM a0q od λz e=> ? _;. replace A:=e▸A;exact A
  .replace A:=e▸A;refine im (v:= hP (s.R bm).told) b (by kernel_rfl) ? _;refine cO (s.R bm).told D3 D3;. replace A:=t▸A;exact A
   . replace A:=t▸A;exact A) (λacc k v Z O G A=>by ext a4Z;exact A) (by exact rwL f;exact ei B (by decide)) (by rewrite [o];ext a0k;exact N);rewrite [o]at this;replace this:=f▸b_;exact b_
theorem Cu{P:h8}{b:b5}:∀{a:b5},(∀v∈a,∃j,v= f5)->c8 P (a++b)=match c8 P a with|aj j=>aj j|ap=>c8 P b:=λ{a}=>by
 induction a with
  |nil=>exact hS
  |cons v a G=>
   intro h;refine db (h v UH) λj U=> ? _;subst U;have G:=G λv Z=>h v (pn Z);show(bif Yd==Ot then aj j else c8 P (a++b))=match(bif Yd==Ot then aj j else c8 P a)with|aj j=>aj j|ap=>c8 P b
   cases Yd==Ot with|true=>rfl|false=>exact G
theorem kI{P:h8}{p:OO}:∀{m:Nat},(∀a,a<m->p (a2 (aq a))=am->((P a).state==Ot)=am->(∀i,i<a->((P i).state==Ot)=av)->c8 P ((XM m).filter p)=C1)/\((∀i,i<m->((P i).state==Ot)=av)->c8 P ((XM m).filter p)=ap):=λ{m}=>by
 induction m with
  |zero=>exact⟨λa h=>b6 h (Qk a),hS⟩
  |succ m G=>
   have e:c8 P ((XM (m+1)).filter p)=match c8 P ((XM m).filter p)with|aj j=>aj j|ap=>c8 P ([og (aq m)].filter p):=by show c8 P ((XM m++[og (aq m)]).filter p)=_;rewrite [List.filter_append];exact Cu λv Z=>aJ (Q:=λv=>∃j,v=og x1) (λj J=>⟨j,rfl⟩) v (SS Z).1
   refine⟨λa D O u B=> ? _,λB=> ? _⟩
   .ext ea;exact bcH q (a=m);. subst q;exact a3 (G.2 B) (XA O);show(bif(P a).state==Ot then C1 else _)=_;ext PE;rfl
    . exact rwL (G.1 a (QX (oc D) q) O u B);rfl
   .exact a3 e (G.2 λi W=>B i (TS W));refine cO (p (a2 (aq m))) D_ D_;. exact rwL (XA z);show(bif(P m).state==Ot then aj m else ap)=ap;exact rwL (B m (F' m));rfl
    . exact rwL (YR (by exact rwL z;exact WC));rfl
theorem pE[e3]{P:h8}[mv](h:gp):iX n P j=m3:=by unfold iX eu;exact a3 aG (c4 (VL h));exact gg j _
theorem r9.up{n L M:Nat}{r:Rw}{m:Md}{p:Pr}[mv](h:r9 n L r m p j)(U:L<=M):r9 n M r m p j:=by induction j using Qn with|zero=>exact h|succ j=>exact⟨h.1,λv e=>⟨(h.2 v e).1,λt=>by exact aN ((h.2 v e).2 t) λx Y e=>⟨x,Os Y U,e⟩⟩⟩
section
variable{n rm:Nat}{c:Cf}{du:i3}{s:St}{md:lp}{w g:i3}
theorem da.zst[QU][mv](D:gp):((Ti j).state==Ot)=(lj 1 j&&Ct s.R j):=by
 exact rwL (pE D);have p:=h.pr j D;have q:=B3 j D;have N:∀m:Md,m≠.off->((ql m==Ot)=av):=λm u=>by cases m<;>first|exact O9 u|rfl
 induction j using Qn with
  |zero=>ext a5t;exact N _ (q.m0 rfl).1
  |succ j=>
   unfold Ct;ext a48;. exact rwL (c5 e);exact N _ λz=>(q.off (we j)).mp z e
   .ext a5d;. refine a3J λx J e=> ? _;ext PD
    . exact rwL ((p.2 v e).1 t);rfl
section E
section E
section
set_option backward.match.sparseCases false
open PySem
section
variable{n rm:Nat}{c:Cf}{du:i3}{s:St}{md:lp}{w g:i3}
theorem Km{W p x y:Nat}(h:W+0+(1+x+y)<=p+0+0+(0+x+y)):W<p:=by refine bn (nat_lit 0x10a100009333032001301301103330320113010004) Rb [] h a0
theorem Ie{W p x:Nat}(h:W+1+x<=p+0+0+x):W<p:=by refine bn (nat_lit 0x10a100009320301301103203110003) eb [] h a0
theorem Ig{a n:Nat}{l:Int}(h:l=a)(m:a<=n)(B:kT): -1000<=l-1/\l-1<=1000:=by refine kq (nat_lit 0x1e19000003e824110019411008000003e821b7000009100009511012) cb a7 h m B a0
theorem Kn{a b:Nat}{l:Int}(h:Oa=b+0)(T:l=b):l-1=a:=by refine c6 (nat_lit 0x11b700411000b30110311001b7100012) cb a7 h T a0
theorem EX{a b c d:Int}{k0 m:a5}(h:a=c)(h':b=d)(N:k0):JV (hD [Pi,a4 b]) (hD [a4 c,a4 d]) k0 m:=by subst h h';show bL ((am&&(((a==a)&&((b==b)&&am))&&am&&am))&&am) k0 m;rewrite [TV];rewrite [TV];exact N
theorem da.fwaits{R:ef}[PK](k5:Pj= ft)(k6:(s.R 0).ended≠ap)(f8:∃j,eK/\gp/\T3=av)(F:Ww R)[jm](X:ef):a2N j0:=by
 revert f X;exact dl9 n rm c du s md w g R;exact dl2 f X;have d:=ei C.n5 (show 5<=100 by decide);have B:0<n:=Os (by decide) C.n2;have A:=h.pr.tab d
 have S:SH=t_:=by
  refine cM SH od S7;. exact b6 (h.ln.1.symm.trans e) k6
  . exact rwL (h.ln.2.2 v e);rfl
 have j6:{s with lend:=t_}=s:=by exact rwR S;rfl
 have i9:s.P 0=_:=h.pr 0 p1;replace i9:=k5▸i9;rewrite [ES];exact rwL cE;have K:=ET n C.n2 C.n5 (Pg (f+13)) c s (λr m'=>(match r with|kE=>aB (wb (Pg (f+13)) 40) (Ki.drop 3) {scope:=Lq,loc:=loc,cells:=Lr}|f=>a_ f) (hW Up X) X m') X;replace K:=j6▸K;refine K.mpr (Ic d ? _);show Mo f n Up X (MQ n c s ((ip n).filter (Ls s.R)))
 have f7:∀j,eK->gp->T3=av->jz Ti js f5=am:=λj H D I=>by
  show(bu (Ti j)&&gx (Ti j).par js)=am;exact rwL (pE D);have p:=h.pr j D;ext a04;refine cM a0q od S7;. exact rwL (c5 e);show((!(ql (md bm)==Ze))&&am)=am;cases md bm<;>rfl
  . exact rwL ((p.2 v e).1 I);rfl
 refine LG ((ip n).filter (Ls s.R)) (λk9=> ? _) λv l k9=> ? _
 .have j7:∀j,eK->gp->Ct s.R j=av:=λj H D=>by ext a04;have:=(List.filter_eq_nil_iff.mp k9) (a2 (B1 k)) (SP (i:=k) (by unfold ip;exact a3 aG (c4 (show k<n from D));rfl));exact Bool.eq_false_iff.mpr b_
  have j8:∀i,i<cp->((Ti i).state==Ot)=av:=λi W=>by
   exact rwL (h.zst (oc W));refine cO (lj 1 i) b4 b4;. exact j7 i (SO q) (oc W)
   . rfl
  have Q:=H8 n C.n2 C.n5 f c s R X;replace Q:=j6▸Q;exact rwL Q;have j9:=(kI (P:=Ti) (p:=jz Ti js) (m:=cp)).2 j8;refine⟨A,λj e=> ? _,λJ z=> ? _,λJ J J=> ? _⟩;. have e:=(show c8 _ _=ap from j9).symm.trans e;ext pf
  .rcases z with z|z;. refine fk f8 λj H D I=> ? _;clear f8;have:og x1∈cR Ti js n:=List.mem_filter.mpr ⟨SP (i:=j) (by exact a3 aG (c4 (VL D));rfl),f7 j H D I⟩;replace this:=VI z▸b_;cases b_
   . replace z:=i9▸z;exact cT z
  .have x:=h.ab.first (r:=s.R 0) (T:=0) (l:=[]) (m':= .ch) B NT ((B3 0 p1).pp B).1 (ba s4) (λq=>by have:=(B3 0 p1).fs rfl q B;exact⟨b_.1,b_.2⟩) (B3 0 p1).tl (ba (ba ⟨rfl,k6,λi H W=>by
    have:=j7 i H W;unfold Ct at this;refine cM (s.R i).ended od S7;. exact hA
    .ext a0g;right;refine cO (s.R i).told D3 D3;. rfl
     . replace this:=t▸b_;exact sK b_⟩));replace x:=S9 rfl▸x;replace x:=a62▸x;have c9:∀p:Pr,p=sI 0 a1 (jE n) .ch av 0->{s with lend:=t_,P:=Rv 0 p}={s with P:=Rv 0 p}:=λp J=>by exact rwR S;rfl
   exact rwL (c9 _ (by exact rwL i9;rfl));refine F {s with P:=Rv 0 _} (af (ix [] md) 0 .ch) w g ⟨x,w8,h.sl,a4y,h.pi,h.ca,h.go,h.ln,h.ot,h.lf,a2H,h.pl⟩ (Z1 ? _ _) rfl
   .show r9 n Q7 (s.R i) (af md 0 .ch i) (Rv 0 _ i) i;ext a0R;. subst q;exact ec ah ah i9;exact rfl
    . exact a3 oe oe;exact h.pr i W
   . have p:=YH p1 (s.R 0) [] .ch (w 0) (g 0);ext a2w;replace p:=S9 rfl▸p;replace p:=k5▸p;exact Ie p
 .refine I0 (List.filter_eq_cons_iff.mp k9) λM f9 e7 u i6 T=> ? _;have Y:(ip n)[M.length]? =d0:=by rewrite [e7,Vy nl,RT];rfl
  unfold ip at Y;replace Y:=aG▸Y;exact bcH hxn (M.length<n)
  .replace Y:=c4 hxn▸Y;have Y:=hR Y;generalize N:M.length=k at*;subst Y;have D:bm<=n:=hxn;have d8:Ct s.R bm=am:=i6
   have j7:∀i,1<=i->i<bm->Ct s.R i=av:=λi H W=>by
    obtain⟨y,rfl⟩:∃y,i=y+1:=⟨i-1,(Pk H).symm⟩;have hy:y<M.length:=by exact rwL N;exact a5w W
    have g1:(ip n)[y]? =M[y]? :=by rewrite [e7,a24 hy];try rfl
    unfold ip at g1;replace g1:=aG▸g1;replace g1:=c4 (Nat.lt_trans (a5w W) hxn)▸g1;exact Bool.eq_false_iff.mpr (u _ (SP g1.symm))
   cases a:U_ with
    |mk r E b c7 tl kl=>
     unfold Ct at d8;replace d8:=a▸d8;rewrite [py]at d8;refine db (UM d8.1) λv U=> ? _;subst U;have I:tl=av:=by induction tl using u' with|false=>rfl|true=>exact b6 d8.2 WC
     subst I;have Q:=H9 n bm C.n2 C.n5 (we k) D f c s l R X r E b v kl;have L:zk s bm r E b v kl=s:=by unfold zk;exact rwLR (S9 a) S;rfl
     replace Q:=L▸Q;refine Q.mpr ? _;have i5:I_=bI (cS s.R) n:=h.lf;have e8:cS s.R k=1:=by unfold cS;ext F1;rfl
     have i0:∀m,bI (cS s.R) m<=m:=λm=>by induction m with|zero=>exact oa 0|succ m G=>refine Nat.add_le_add G ? _;unfold cS;cases(s.R (m+1)).told<;>decide
     have k7:=(kI (P:=Ti) (p:=jz Ti js) (m:=cp)).1 bm (VL D) (f7 _ (we k) D (by ext F1;rfl)) (by exact rwL (h.zst D);unfold Ct;ext F1;rfl) λi W=>by
      exact rwL (h.zst (ei (OZ W) D));refine cO (lj 1 i) b4 b4;. exact j7 i (SO q) W
      . rfl
     have k8:∀{p:a5},c8 Ti (cR Ti js n)=ap->p:=λz=>by have e:=(show c8 _ _=aj bm from k7).symm.trans z;exact iy e
     refine kH (Ig i5 (i0 n) C.n5) ⟨A,λj e=> ? _,λz=>k8 z,λz=>k8 z⟩;have e:=(show c8 _ _=aj bm from k7).symm.trans e;ext RK;have i7:=((h.pr bm D).2 v (by ext F1;rfl)).1 (by ext F1;rfl);replace i7:=a▸i7;have i8:=(pE D).trans i7;refine EX (by exact rwL i8;rfl) (by exact rwL i8;rfl) ? _;have d9:md bm= .off:=((B3 bm D).off (we k)).mpr (by ext F1;exact ZH);have x:=h.ab.said (j:=bm) (r:=lJ U_) (m':=md bm) (we k) D rfl rfl id (λe=>by replace e:=a▸e;exact iy e) (b7 ⟨rfl,b7 d9⟩) (λJ=>⟨by ext F1;exact ZH,k6⟩) hS;replace x:=ax (f:=md) rfl▸x;refine F {GH s bm with R:=a5T,left:=I_-1} md w g ⟨x,w8,w8,a4y,h.pi,h.ca,h.go,? _,h.ot,? _,⟨⟨? _,Ug⟩,h.jk.gl,h.jk.gi,h.jk.rd,h.jk.re⟩,h.pl⟩ (Z1 ? _ _) rfl
     .have e9:Q7+2=a9A:=by exact a3 Qi Qi;rfl
      show r9 n a9A (af s.R bm _ i) (md i) (bif c0 i bm then iO (Q7+1)else s.P i) i;exact rwR e9;exact bcH q (i=bm);. subst q;ext P3;rewrite [Nat.beq_refl];exact⟨(λe=>by have e:a0q=ap:=e;replace e:=a▸e;exact iy e),λv e=>⟨λt=>(sK t),λJ=>⟨_,F' _,rfl⟩⟩⟩
      . exact a3 oe (fR q);exact(h.pr i W).up (QY _ 2)
     .show Dw n (du i) (af s.R bm _ i).ended _ _ _ i;exact bcH q (i=bm);. exact a3 q ah;exact h.sl bm D
      . ext R_;exact h.sl i W
     . show SH=(a5T 0).ended/\_;exact rwL (ag (XL k).symm);exact h.ln
     .show I_-1=(bI (cS a5T) n:Nat)
      have e:cS a5T=af (cS s.R) k 0:=funext λi=>by
       unfold cS;exact bcH q (i=k);. exact ec q ah ah;rfl
       . exact a3 oe (ag λz=>q (a2n z));rfl
      ext ea;have e6:=rZ (f:=cS s.R) (a:=0) hxn;replace e6:=e8▸e6;exact Kn e6 i5
     . refine ei h.jk.rl.1 ? _;show Q7<=((s.rl++_)++_).length;exact a3 Qi Qi;rewrite [a0C];exact QY _ _
     .rcases VJ P with P|P
      .rcases VJ P with P|P;. exact h.jk.rl.2 o P
       . exact rwL (w6 P);exact a7f
      . exact rwL (w6 P);exact⟨_,rfl,λv Z=>⟨0,a2T⟩⟩
     . have p:=YH D (lJ U_) [] (md bm) oj (g bm);ext a2w;replace p:=(show ix [] md=md from rfl)▸p;replace p:=ax (f:=md) rfl▸p;replace p:=d9▸p;replace p:=(show rp U_=1 by unfold rp;ext F1;rfl)▸p;replace p:=(show rp (lJ U_)=0 by unfold rp lJ;ext F1;rfl)▸p;exact Km p
  . replace Y:=b9 hxn▸Y;exact bG Y
section E
section E
section
set_option backward.match.sparseCases false
open PySem
theorem sq{P:h8}[mv]:∀{d i:Nat},i<=j->j<i+d->(∀x,i<=x->x<i+d->bu (P x)=am->(P x).pid=(x+1:Nat))->ew P a0r d i=a7E:=λ{d}=>by
 induction d with
  |zero=>exactλ{i}H F=>b6 (Os F H) (VU j)
  |succ d G=>
   intro i H F h;show(bif bu (P i)&&(P i).pid==a0r then aj i else ew P a0r d fq)=_;ext Po
   .subst q;refine cO (bu (P i)) D3 D3;. exact rwL (h i (oa i) YK t);rewrite [TV];rfl
    .have f:∀d k,i<k->(∀x,k<=x->x<k+d->bu (P x)=am->(P x).pid=(x+1:Nat))->ew P a4i d k=ap:=λd=>by
      induction d with
       |zero=>exactλJ J J=>rfl
       |succ d G=>
        intro k N h;show(bif bu (P k)&&(P k).pid==a4i then v_ else ew P a4i d bm)=ap;have e:=G bm (TS N) λx a b=>h x (PI a) (by rewrite [XE]at b;exact b);refine cO (bu (P k)) D3 D3;. exact a3 (h k (oa k) YK t) (show(a10==a4i)=av from RL λz=>RR N (a2n (WP z)));exact e
        . exact e
     exact f d fq (F' i) λx a b=>h x (PI a) (by rewrite [XE]at b;exact b)
   .have e:=G (i:=fq) (QX H q) (by rewrite [XE];exact F) λx a b=>h x (PI a) (by rewrite [XE]at b;exact b);refine cO (bu (P i)) D3 D3;. exact a3 (h i (oa i) YK t) (show(a4i==a0r)=av from RL λz=>q (a2n (WP z)));exact e
    . exact e
section
variable{n rm:Nat}{c:Cf}{du:i3}{s:St}{md:lp}{w g:i3}
theorem da.there[QU][mv](D:gp):(eK->bu E_= ! T3)/\(bu E_=am->(s.P j).pid=(c_:Nat)):=by
 have p:=h.pr j D
 induction j using Qn with
  |zero=>ext a5t;exact⟨λq=>b6 q (by decide),hS⟩
  |succ j=>
   ext a48;. exact a3 (c5 e) (h.told D e);refine⟨O5,hS⟩;show(!(ql (md c_)==Ze))=am;cases md c_<;>rfl
   .ext a5d;. refine a3J λx J e=> ? _;ext ea;exact⟨hS,λq=>by exact cT q⟩
    . exact rwL ((p.2 v e).1 t);exact⟨hS,hS⟩
theorem Ko{W p a b m k x:Nat}(h:W+m+x<=p+0+k+x)(N:k<=1)(M:b+2=a):W+b<=p+a:=by refine kq (nat_lit 0x10933020310000935036030120350340000911600b303211007) a4d [] h N M a0
theorem Cv{k0 m:a5}{P:h8}[mv](I:fZ n P)(d:ew P a0r cp 0=a7E)[Pu](M:bu m3=b)(h:bL b k0 m):Kb n j P k0 m:=⟨⟨I,d⟩,by exact rwL M;exact h⟩
theorem da.plan{j x:Nat}{L S:Int}{op:Bool}{k:NY}[PK][W5](E: -1000<=S/\S<=1000)(G:GE n {s with pl:=a1g})(r:op=am->lA a1g+2=lA s.pl)(N:∀U M,PN U M w g->uu n c U M w g<=XU->U.at_=x3->U.left=I_->U.pv=s.pv->(U.pl=s.pl\/U.pl=a1g)->k U):xE n j c L S op x k s:=by
 revert L S op k;exact gs n rm c du s md w g j x;exact dl4 L S op k;refine⟨⟨_,_,_,_,_,_,_,_,_,_,rfl,rfl,rfl,E⟩,N s md h nl rfl rfl rfl hA,λP b=> ? _⟩
 induction b using u' with
  |false=>exact N s md h nl rfl rfl rfl hA
  |true=>
   have A:=h.pr.tab (ei C.n5 (by decide));have fd:ew s.P a0r cp 0=bif bu E_ then aj j else ap:=sq (Q8 j) (by rewrite [Ow];exact VL D) λy J hy=>(h.there (oc (by rewrite [Ow]at hy;exact hy))).2;have O:=B3 j D
   have I:∀(p:Pr)(m':Md),b0k->r9 n Q7 VX m' p j->k {s with P:=Rv j p,R:=tc VX,pl:=a1g}:=λp m' u V=>by
    have K:=h.ab.said (j:=j) (r:=VX) (m':=m') H D rfl rfl hS (λa b=>O.dat H a b) u (λt=>⟨O.tl t,h.ab.tl j H D t⟩) id;refine N _ (af md j m') ⟨K,w8,w8,a4y,h.pi,h.ca,h.go,? _,h.ot,? _,a2H,G⟩ ? _ rfl rfl rfl NT
    .show r9 n Q7 (tc VX i) (af md j m' i) (Rv j p i) i;ext Po;. exact w3 q ah ah ah;exact V
     . exact ec oe oe oe;exact h.pr i W
    .show Dw n (du i) (tc VX i).ended _ _ _ i;ext Po;. exact a3 q ah;exact h.sl j D
     . ext R_;exact h.sl i W
    . show SH=(tc VX 0).ended/\_;exact rwL (ag (J' H));exact h.ln
    .show I_=(bI (cS (tc VX)) n:Nat);ext a9C;. exact a3 q ah;rfl
     . ext R_;rfl
    . have p:=YH D VX [] m' (w j) (g j);ext a2w;exact Ko p (mU m') (r P)
   have l:∀U:St,U={s with R:=tc VX,pl:=a1g}->HV n j k U:=λU e=>by
    subst e;unfold HV;show bL (tc VX j).told _ _;ext P3;show bL T3 _ _;have d:=(h.there D).1 H;have o:=h.pr j D;ext a6F;refine cO (s.R fq).told D3 D3;. replace d:=t▸d;refine Cv (n:=n) A fd av d ? _;have:=I (s.P fq) (md fq) (b7 ⟨rfl,b7 ((O.off H).mpr (O.tl t))⟩) ⟨λe=>b6 e (O.tl t),λv e=>⟨(λY=>by have Y:(s.R fq).told=av:=Y;replace Y:=t▸Y;exact sK Y),λJ=>(o.2 v e).2 t⟩⟩;replace this:=ax (f:=s.P) rfl▸b_;exact b_
    .replace d:=t▸d;refine Cv (n:=n) A fd am d (Cv (n:=n) A fd am d ? _);refine cM (s.R fq).ended od S7;. have f:=o.1 e;have m:md fq≠.off:=λz=>(O.off H).mp z e;have g1:∀p:Pr,p=sI fq js (gH fq) ft am (pA (s.R fq))->r9 n Q7 (iW (s.R fq)) ft p fq:=λp O=>⟨λJ=>O,(λv z=>by have z:(s.R fq).ended=d0:=z;replace z:=e▸z;exact bG z)⟩;show bL ((s.P fq).state==(Ra:Str)) _ _;exact rwL f;refine K8 (md fq) λB u=> ? _;induction B using Ym with|rdy=>exact a61|rd=>exact a61|wr=>exact a61|ch=>exact b6 (O.ch u) (XL i)|off=>exact b6 u m
     . have f:=(o.2 v e).1 t;show bL ((s.P fq).state==(Ra:Str)) _ _;exact a3 f (show((xy fq (gH fq) (s.R fq).killed v).state==(Ra:Str))=av from rfl);exact I _ (md fq) (b7 ⟨rfl,b7 ((O.off H).mpr (by ext ea;exact ZH))⟩) ⟨(λz=>by have z:(s.R fq).ended=ap:=z;replace z:=e▸z;exact iy z),λF z=>⟨(λJ=>by have z:(s.R fq).ended=aj F:=z;replace z:=e▸z;have B:=hR z;clear z;subst B;rfl),(λz=>by have z:(s.R fq).told=am:=z;replace z:=t▸z;exact cT z)⟩⟩
   exact l _ rfl
theorem Cw{k L S:Int}:Ml (eA k L S av)=0:=by kernel_rfl
theorem Cy{k L S:Int}:Ml (eA k L S am)=2:=by kernel_rfl
theorem GJ{a b c:Nat}(h:a=0)(h':b=2):a+c+2=b+c:=by refine c6 (nat_lit 0x10b31020321310000b01000b212003) eb [] h h' a0
theorem Ih{a b c x y:Nat}(h:a=0)(h':b=2):x+(y+(a+c))+2=x+(y+(b+c)):=by refine c6 (nat_lit 0x10b33330401000321333302010000b01200b214005) S_ [] h h' a0
theorem da.kills{K:si}[PK](c7:∀U M,PN U M w g->uu n c U M w g<=XU->U.at_=x3->U.left=I_->K y2 (dt U))(t:Int)[jm](X:ef):L1 (f+14) (hQ XF) [gn,Ph] K X j0:=by
 revert t f X;exact dl9 n rm c du s md w g K;exact dl3 t f X;refine lH (ba (ba (ba NT))) ? _;have b:∀U M,PN U M w g->uu n c U M w g<=XU->U.at_=x3->U.left=I_->Sc (dt U)/\K y2 (dt U):=λU M i p a l=>⟨ut (i.wf C),c7 U M i p a l⟩;obtain⟨j,L,S,op,l,H,D,k,r,T,⟨N,u⟩|⟨I,o,O,y,x,A,B,q,d,Q,N,u⟩⟩:=h.pl
 .have E:=Kc n j C.n2 C.n5 H D f c s a3D X t L S op l;unfold Mj at E;replace E:=G' N▸E;replace E:=G' u▸E;refine E.mpr (h.plan C H D ⟨k,r⟩ ? _ (λP=> ? _) λU M i p a l J J=>b U M i p a l);. exact⟨j,L,S,av,l,H,D,k,r,T,b7 ⟨N,by ext PE;rfl⟩⟩
  . exact a3 u P;exact GJ Cw Cy
 .have E:=HX n j C.n2 C.n5 H D I A B f c s a3D X t L S op l o O y x;unfold Mk at E;replace E:=G' N▸E;replace E:=G' u▸E;refine E.mpr (h.plan C H D ⟨k,r⟩ ? _ (λP=> ? _) λU M i p a c8 v z=> ? _);. exact⟨j,L,S,av,l,H,D,k,r,T,ba ⟨I,o,O,y,x,A,B,q,d,Q,N,by ext PE;rfl⟩⟩
  . exact a3 u P;exact GJ Cw Cy
  .obtain⟨e,z⟩:∃e,U.pl=[eA RM L S e,l,eA (n-I:Nat) o O y,x]:=by
    rcases z with z|z;. exact⟨op,z.trans u⟩
    . exact⟨av,by exact a3 z u;rfl⟩
   refine i.plan C A B ⟨q,d⟩ ? _ (λP=> ? _) λR F Y W Z G J J=>b R F Y (ei W p) (Z.trans a) (G.trans c8);. exact⟨j,L,S,e,l,H,D,k,r,T,ba ⟨I,o,O,av,x,A,B,q,d,Q,v.trans N,by exact rwL z;rfl⟩⟩
   . exact a3 z P;exact Ih Cw Cy
section E
section E
section
set_option backward.match.sparseCases false
open PySem
def vW(a b c d e f:Bool):Vm|0=>a|1=>b|2=>c|3=>d|4=>e|_=>f
def zm[k3](e:ki)(k:Vm):St:={s with R:=λj=>i0 (s.R j) (bif k j then ap else aj (e j)),lend:=bif k 0 then ap else aj (e 0)}
def uw[f0](k:Vm):ki|0=>0|c_=>uw n k j+(bif k j then(bif rt 0||rt n then 1 else 2)else 0)
def oL[f0](k:Vm)[jm][l9](R:Int->ef)(X:ef)(e:ki):a5:=Pg (f+8) XJ [gn,t5] (B0 n R) X (dt (zm s e k))
def oR[f0](k:Vm)(_:Nat)[l9](R:Int->ef)(_:ef)(e:ki):a5:=R (uw n k cp) (dt (zm s e k))
theorem Mq:∀n:Nat,l4->kT->∀a b y d r j:b2,(n<=2->d=am)->(n<=3->r=am)->(n<=4->j=am)->oL n a3T=oR n a3T:=by
 refine VS<;>intro a b y d r j H F Q;. exact ec (H (by decide)) (F (by decide)) (Q (by decide));exact dY (dY (dY (f:=λa=>bb λb=>bb λc=>oL 2 (vW a b c am am am)) (g:=λa=>bc λb=>bc λc=>oR 2 (vW a b c am am am)) (by kernel_rfl) a) b) y
 . exact a3 (F (by decide)) (Q (by decide));exact dY (dY (dY (dY (f:=λa=>bb λb=>bb λc=>bb λd=>oL 3 (vW a b c d am am)) (g:=λa=>bc λb=>bc λc=>bc λd=>oR 3 (vW a b c d am am)) (by kernel_rfl) a) b) y) d
 . exact rwL (Q (by decide));exact dY (dY (dY (dY (dY (f:=λa=>bb λb=>bb λc=>bb λd=>bb λe=>oL 4 (vW a b c d e am)) (g:=λa=>bc λb=>bc λc=>bc λd=>bc λe=>oR 4 (vW a b c d e am)) (by kernel_rfl) a) b) y) d) r
 . exact dY (dY (dY (dY (dY (dY (f:=λa=>bb λb=>bb λc=>bb λd=>bb λe=>bb λf=>oL 5 (vW a b c d e f)) (g:=λa=>bc λb=>bc λc=>bc λd=>bc λe=>bc λf=>oR 5 (vW a b c d e f)) (by kernel_rfl) a) b) y) d) r) j
theorem Kp[f0](g:l4)(B:kT)(a b y d r j:Bool)[jm][l9](R:Int->ef)(X:ef)(e:ki)(H:n<=2->d=am)(F:n<=3->r=am)(Q:n<=4->j=am):Pg (f+8) XJ [gn,t5] (B0 n R) X (dt (zm s e a3T))=R (uw n a3T cp) (dt (zm s e a3T)):=congrFun (congrFun (congrFun (congrFun (congrFun (congrFun (Mq n g B a b y d r j H F Q) f) c) s) R) X) e
section E
section
set_option backward.match.sparseCases false
open PySem
def b1[Pu]:Nat:=bif b then 1 else 0
theorem Cz[a19]{p:u->b2}:∀{m:Nat},((aF f m).filter p).length=bI (λi=>b1 (p (f i))) m:=λ{m}=>by
 induction m with
  |zero=>rfl
  |succ m G=>
   show((aF f m++[f m]).filter p).length=bI _ m+b1 (p (f m));rewrite [List.filter_append];exact a3 Qi G;congr 1;refine cO (p (f m)) b4 b4;. exact rwL (XA q);rfl
   . exact rwL (YR (by ext OI;exact WC));rfl
theorem EY{f:i3}:∀[e3],bI f hG=bI (λi=>f (2*i)+f (2*i+1)) n:=λ{n}=>by induction n with|zero=>rfl|succ n G=>show bI f hG+f hG+f (hG+1)=bI _ n+(f hG+f (hG+1));exact rwL G;rewrite [a0C];rfl
theorem CA{n m:Nat}{A:Vm}(V:m≠0)(B:m≠n):uw n A (m+1)=uw n A m+2*(b1 (A m):Int):=by show uw n A m+(bif A m then(bif c0 m 0||c0 m n then 1 else 2)else 0)=_;exact a3 (fR V) (fR B);cases A m<;>rfl
theorem Ii[e3]{A:Vm}:∀{m:Nat},1<=m->m<=n->((bI (λi=>b1 (A i)+b1 (A fq)) m:Nat):Int)=uw n A m+(b1 (A m):Int):=λ{m}=>by
 induction m with
  |zero=>exactλh=>b6 h (by decide)
  |succ m G=>
   intro _ B;exact bcH z (m=0);. subst z;show((0+(b1 (A 0)+b1 (A 1)):Nat):Int)=0+(bif A 0 then 1 else 0)+(b1 (A 1):Int);cases A 0<;>cases A 1<;>rfl
   . have e:=G (Pl z) (PI B);exact rwL (CA z (J' B));show((bI _ m+(b1 (A m)+b1 (A (m+1))):Nat):Int)=_;generalize uw n A m=o at*;generalize bI _ m=S at*;refine bn (nat_lit 0x11b3720325710007332010001b37100070013) eb a7 e a0
theorem EZ[e3]{A:Vm}(B:1<=n):uw n A cp=((bI (λi=>b1 (A i)+b1 (A fq)) n:Nat):Int):=by exact rwL (Ii B (oa n));show uw n A n+(bif A n then(bif c0 n 0||c0 n n then 1 else 2)else 0)=_;rewrite [Nat.beq_refl];rewrite [Bool.or_true];cases A n<;>rfl
theorem zo[e3]{A B:Vm}:∀{m:Nat},(∀j,j<m->A j=B j)->uw n A m=uw n B m:=λ{m}=>by induction m with|zero=>exact hS|succ m G=>intro h;show uw n A m+(bif A m then _ else _)=uw n B m+(bif B m then _ else _);exact a3 (G λj D=>h j (TS D)) (h m (F' m));rfl
theorem Kq[SA]{R:PA}(h:∀j,j<n->R c_=s.R c_):dt {s with R:=R}=j0:=by
 exact dl4 n c s R;have e:aF (λj=>a4Q (R c_)) n=a01:=dz λj D=>by exact rwL (h j D);rfl
 exact hh (Le n c s a5l) e
section
variable{n rm:Nat}{c:Cf}{du:i3}{s:St}{md:lp}{w g:i3}
theorem da.opens[QU]:((sJ n s.F).length:Int)=uw n lm cp\/n=0:=by
 exact bcH z (n=0);. exact ba z
 . left;exact rwL (EZ (Pl z));congr 1;unfold sJ;exact a3 Cz EY;refine fA w8;show b1 (s.F (2*i)!=0)+b1 Z9=_;exact a3 ((h.F0 (OZ W)).1 W) (show Z9=lm fq from(h.F0 (j:=fq) W).2 (we i));rfl
theorem da.lopen{K:si}[PK](P:K (a4 (sJ n s.F).length) j0)[jm](X:ef):L1 (f+8) XJ [gn,t5] K X j0:=by
 revert f X;exact dl9 n rm c du s md w g K;exact dl2 f X;have e:cJ (f+8) XJ [gn,t5]=aj λK X m=>∃A y s,m=MM A y s/\Pg (f+8) XJ [gn,t5] (B0 A a5K) X m:=by kernel_rfl
 show(match cJ (f+8) XJ [gn,t5]with|eI=>x|ap=>bA hN (L1 (f+7)) XJ [gn,t5]) K X j0;ext ea;refine⟨n,c,s,rfl,? _⟩
 have q:∀j,¬gp->(! lj j n||lm j)=am:=λj D=>by
  refine cO (lj j n) D_ D_;. exact b6 (SO z) D
  . rfl
 have l:=Kp n C.n2 C.n5 (! lj 0 n||lm 0) (! lj 1 n||lm 1) (! lj 2 n||lm 2) (! lj 3 n||lm 3) (! lj 4 n||lm 4) (! lj 5 n||lm 5) f c s a5K X a08 (λa=>q 3 λb=>b6 (ei b a) (by decide)) (λa=>q 4 λb=>b6 (ei b a) (by decide)) (λa=>q 5 λb=>b6 (ei b a) (by decide))
 have k:∀j,gp->vW (! lj 0 n||lm 0) (! lj 1 n||lm 1) (! lj 2 n||lm 2) (! lj 3 n||lm 3) (! lj 4 n||lm 4) (! lj 5 n||lm 5) j=lm j:=λj D=>by
  have e:(! lj j n||lm j)=lm j:=by exact rwL (a5y D);rfl
  rcases j with _|_|_|_|_|_|j;. exact e
  . exact e
  . exact e
  . exact e
  . exact e
  . exact e
  . exact b6 (ei D C.n5) (by refine pk (nat_lit 0x1c09513113113113113113110001) a7 [] a0)
 replace l:=(zo λj D=>k j (oc D))▸l;generalize vW _ _ _ _ _ _=F at l k;have R:∀j,gp->(bif F j then ap else aj ((s.R j).ended.getD 0))=Qo:=λj D=>by exact rwL (k j D);unfold al;cases Qo<;>rfl
 have o:dt (zm s a08 F)=j0:=by unfold zm;exact rwLR (R 0 p1) (h.ln.1);refine Kq V4;exact rwL (R c_ D);cases s.R c_;rfl
 replace l:=o▸l;refine l.mpr ⟨ut (h.wf C),? _⟩;rcases h.opens with e|e;. exact rwR e;exact P
 . exact b6 C.n2 (by ext ea;decide)
section E
section E
section
set_option backward.match.sparseCases false
open PySem
section
variable{n rm:Nat}{c:Cf}{du:i3}{s:St}{md:lp}{w g:i3}
def Kr[k3](d r gl:d_)(Q:Nat)(a:Int):St:={s with rd:=d,re:=r,gl:=gl,gi:=Q,at_:=a}
theorem da.junk[QU]{d r gl:d_}{b:Nat}{a:Int}(H:∀o∈d,aH o)(F:∀o∈r,aH o)(Q:∀o∈gl,aH o)(C:∃L,gl[b]? =T7/\cZ L):PN (Kr s d r gl b a) md w g:=⟨h.ab,h.pr,h.sl,a4y,h.pi,h.ca,h.go,h.ln,h.ot,h.lf,⟨h.jk.rl,Q,C,H,F⟩,h.pl⟩
theorem lK{l:d_}{o:ae}(h:∀o∈l,aH o)(P:aH o):∀x∈l++[o],aH x:=λx Y=>(VJ Y).elim (h x) λY=>w6 Y▸P
theorem da.rdy[QU][mv](D:gp):((s.P j).state==Yz)=am↔md j= ft:=by
 have p:=h.pr j D;have q:=B3 j D;have N:∀m:Md,(ql m==Yz)=am↔m= ft:=λm=>by cases m<;>exact⟨λq=>by first|rfl|exact b6 q (by decide),λq=>by first|rfl|exact TN⟩
 induction j using Qn with
  |zero=>ext a5t;exact N _
  |succ j=>
   ext a48;. exact rwL (c5 e);exact N _
   .have o:=(q.off (we j)).mpr (by ext ea;exact ZH);refine⟨D_,λz=>by replace z:=o▸z;exact a0A z rfl⟩;ext a5d;. refine a3J λx J e=> ? _;replace z:=e▸z;exact b6 z (by show¬(Ze==Yz)=am;decide)
    . replace z:=(p.2 v e).1 t▸z;exact b6 z (by show¬(Ot==Yz)=am;decide)
theorem ux{i:Nat}[g_](h:(fh n s)[i]? =d0):∃k,k<=n/\v= v0/\zl n s k=am:=by have u:=SS (SP h);obtain⟨k,N,e⟩:∃k,k<cp/\v= a4 (k:Nat):=aJ (Q:=λv=>∃k,k<cp/\v=j1 (k:Nat)) (λk N=>⟨k,N,rfl⟩) v u.1;subst e;exact⟨k,oc N,rfl,u.2⟩
theorem E0[v1](N:k<=n)(h:zl n s k=am):fh n s≠[]:=λe=>by have:j1 k∈fh n s:=List.mem_filter.mpr ⟨SP (i:=k) (by exact a3 aG (c4 (VL N));rfl),h⟩;ext a0g;cases b_
theorem CB:(fh n s).length<=cp:=ZU (O1 aM)
theorem zp:aH (bC (fh n s)):=⟨_,rfl,λv Z=>by obtain⟨i,W,e⟩:=a1D Z;refine fk (ux (s:=s) (n:=n) (i:=i) (by rewrite [F4 W,e];try rfl)) λk J e J=> ? _;exact⟨k,e⟩⟩
theorem vX{u Y:cv}{b:Bool}{x y:E u}{F:u->E Y}[C_](M:b=av)(N:(y>>=F) K X m):(kp x y>>=F) K X m:=by exact rwL M;exact N
theorem gU{u Y:cv}{x:E u}{f:u->E Y}[C_](h:x (λa m'=>f a K X m') X m):(x>>=f) K X m:=h
theorem dc{u Y:cv}{a:u}{f:u->E Y}[C_](h:f a K X m):(a_ a>>=f) K X m:=h
theorem pF[tz]{b:Bool}{f:b2->E Y}[C_](h:f b K X m):(cG B_>>=f) K X m:=h
abbrev CC[w'][jm]:a5:=∀(cl g:Str)[wl][p3],(([QZ,Qu,Qt,qi]:pb).contains g)=av->L1 G_ ZA a6 K X m->bj ZA a6 K X m
theorem CD{f:S5}{v:Wb}{a b:Int}:pN f v Pi (a4 b)=aj (a==b):=rfl
theorem Ij{f:S5}{v:Wb}{a:Int}:pN f v Pi Pi=aj am:=CD.trans (hh aj (TV a))
theorem CE{f:Nat}:L1 G_ WF [Ru]=B9:=by kernel_rfl
theorem Ik[a8F]:B9 K X m:=by
 have e:a1u=o:=by exact rwL (lz h);kernel_rfl
 unfold B9;exact a3 e (lz T);refine⟨⟨most,o,L,h,T,B,λM q=> ? _⟩,N⟩;replace q:=h▸q;exact rwR (hR q);kernel_rfl
theorem E1{F:ki}:(sJ n F).length<=hG:=ZU (O1 aM)
theorem da.opn_at[QU]:Tl s.opn=aj (bC (sJ n s.F)):=by
 have e:=h.fi.ol;unfold qk at e;rcases h.fi.on with q|⟨k,q⟩;. rw [q]at e⊢;exact e
 . rw [q]at e⊢;exact e
theorem da.fturn[PK](o:Pj= ft)(y:∃j,eK/\gp/\T3=av){K:si}(P:Ww λm=>K y2 m)[jm](X:ef):L1 G_ (hQ UO) [gn,t5] K X j0:=by
 have R:Ww a3D:=λU M Q Y i p a=>⟨ut (i.wf C),P U M Q Y i p a⟩;refine lH (ba (ba Wj)) ? _;refine cM (s.R 0).ended od S7;. exact h.freads C o e R OQ X
 . exact h.fwaits C o (by ext ea;exact ZH) y R OQ X
theorem da.ldraw[PK](m:0<=x3/\x3<=10000){many:Int}(u:Y4){K:si}{f:Nat}[l2](P:∀r gl,0<=r->r<eg->PN Pv md w g->Xk (dt Pv)):L1 G_ Oq XS K X j0:=by
 have e:cJ G_ Oq XS=xB XS:=by kernel_rfl
 show(match cJ G_ Oq XS with|eI=>x|ap=>bA hN (L1 (f+14)) Oq XS) K X j0;ext ea;refine⟨n,c,s,rfl,⟨C.n2,C.n5⟩,⟨h.jk.gi,C.sm,C.so.1,m⟩,u,λr gl H F Q=> ? _⟩;have i:PN Pv md w g:=h.junk h.jk.rd h.jk.re (lK h.jk.gl ⟨gl,rfl,λv Z=>by exact aN (Q.2 v Z) a3I⟩) ⟨gl,by rewrite [Vy nl,RT];rfl,Q⟩;exact⟨ut (i.wf C),P r gl H F i⟩
theorem sr{u:cv}{x y:E u}{K:u->ef}[l2][f_](h:y K X m):gm av x y K X m:=h
theorem E3[tz][eX][q']{f:Rq}[C_](h:Fc=aj Oj)(T:ka<=16777216)(N:f (a4 ka) K X m):(kP eF>>=f) K X m:=aK (f:=λo=>lX o>>=f) h (aV (x:=a_ (j1 ka)) T N)
theorem CF{f:S5}{v:Wb}{i j:Id}{I:b5}(H:v i=aj (bC I))(F:v j=Rx)(Y:I≠[]):pN f v eF (a2 j)=aj av:=by show(iS (v i)).bind (λI=>(iS (v j)).bind λp=>zG f I p)=_;exact a3 H F;show(if kN=0 then _ else aj av)=_;exact rwL (b9 λq=>Y (a4V q));rfl
theorem E4{R:PA}:∀[e3],(∀i,i<n->(R fq).told=am)->bI (cS R) n=0:=λ{n}=>by induction n with|zero=>exact hS|succ n G=>intro h;show bI (cS R) n+cS R n=0;exact rwL (G λi W=>h i (TS W));unfold cS;exact rwL (h n (F' n));rfl
theorem da.iter[PK](hat:0<=x3/\x3<=10000){call:aD}{f:Nat}(L:CC bj f){t:Int}[Wn]{r0':Int}{o:a2i}{n8:cv}{G:m_->E n8}{K:n8->ef}[l2](e8:I_=0->G (.brk,B' r0' (Mp o Ph)) K X j0)(H:∀U k9 Q p4(o':V×V×V),PN U k9 Q p4->uu n c U k9 Q p4<XU->U.at_=x3+1->G (hH,B' r0' (Ia (aj o'))) K X (dt U)):(cV Kj Ph ⟨iY,B' r0' (Ia o),aU⟩>>=λloc=>aB (O2 39) I9 ⟨iY,loc,aU⟩>>=G) K X j0:=by
 refine(EU bj t b0 r0' o G K X j0).mpr ? _;have n7:∀s:St,Tl Rs=aj (f2 Xl):=λs=>by kernel_rfl
 have B:=C.n5;have i8:Tl (bv 732 0)=aj a7X:=by kernel_rfl
 have j6:∀b:si,(∀U k9,PN U k9 w g->uu n c U k9 w g<=XU->U.at_=x3->U.left=I_->b y2 (dt U))->bj (hQ XF) [WD,Ph] b X j0:=λb P=>by exact a2a (by kernel_rfl) (h.kills C P t OQ X)
 generalize j0=m0 at i8 j6 e8⊢;refine im (v:= a4 I_) i8 (by kernel_rfl) (bY (r:=I_==0) rfl (dy b4 b4));. exact e8 (f1 q)
 refine aI (aI (aI (aI (gU (j6 _ λA d O i6 d9 o3=> ? _)))));have T:A.left≠0:=by exact rwL o3;exact ne_of_beq_false q
 clear i8 j6 e8 q;have j9:∀b:si,b (a4 (sJ n A.F).length) (dt A)->bj WF [Ru] b X (dt A):=λb P=>by refine a2a (by kernel_rfl) ? _;exact rwL CE;exact Ik (most:=(hG:Nat)) (by kernel_rfl) O.opn_at (ei E1 (ei (Nat.mul_le_mul_left 2 B) (by decide))) P
 have c7:∀b:si,b (a4 (sJ n A.F).length) (dt A)->bj XJ [WD,t5] b X (dt A):=λb P=>by exact a2a (by kernel_rfl) (O.lopen C P (f+7) X)
 have i9:(dt A).H dK=aj (vJ (hG:Nat) A.opn):=by kernel_rfl
 have e7:=n7 A;have e9:∀(F:V->E m_)(K:lR),F (a2 (bv 740 A.rd.length)) K X a4F->(a70>>=F) K X (dt A):=λF K l=>Ib (ei B (by decide)) l;have o5: Uv<=t3+1/\t3+1<=1000000:=by refine bn (nat_lit 0x1e19000f42402311700193117008000f4240209510001) a7 [] B a0
 generalize dt A=m1 at j9 c7 i9 e7 e9⊢;generalize t3=z at c7 e7 e9 o5⊢;refine dc (a:=OK am) (pF (b:=am) (dc (a:=av) (aI (vX rfl (aI (cz i9 (by kernel_rfl) (gU (j9 _ ? _))))))));refine aI (iP e7 (aI (gU (c7 _ ? _))));refine aI (dE (by rfl) (aI (bY (r:=am) Ij (dc (a:=av) (vX rfl (dc (a:=av) (vX rfl ? _)))))));refine gU ? _;refine iP e7 (bX (i:=z+1) (aQ o5) (dc (a:=V.rng 0 (z+1) 1) (aV ? _ (dc (e9 _ _ ? _)))));. exact⟨by decide,by decide,o5⟩
 clear j9 c7 i9 e7 e9
 have y:∃j,eK/\gp/\(A.R j).told=av:=a25 λq=>T (O.lf.trans (hh Nat.cast (E4 λi W=>by
  refine cO (A.R fq).told od od;. rfl
  . exact b6 ⟨fq,we i,W,e⟩ q)));have n9:fh n A≠[]:=λq=>by refine fk y λj H D e=> ? _;clear y;have:=O.ab.live C.r1 (λi W e=>E0 (n:=n) (s:=A) (k:=n-i) (Uf n i) (by unfold zl;exact rwL (a3Y W);exact(O.rdy W).mpr e) q) j H D;ext a0g;exact cT b_
 have c9:PN Xs d w g:=O.junk (lK O.jk.rd zp) (lK O.jk.re ⟨[],rfl,λv Z=>(by cases Z)⟩) O.jk.gl O.jk.gi;have f8:a39<=cp:=CB;have l3:0<a39:=List.length_pos_iff.mpr n9;have n3:=λi v=>ux (n:=n) (s:=A) (i:=i) (v:=v);have m6:uu n c Xs d w g<=XU:=i6;have I:(Xs:St).at_=x3:=d9;have n6:=λk=>O.rdy (j:=n-k) (Uf n k)
 have f9:∀(F:Id->E m_)(b:lR),F (bv 741 A.re.length) b X (dt Xs)->(ci 741 ej>>=F) b X a4F:=λF b l=>by
  have e:(ci 741 ej>>=F) b X a4F=F (bv 741 A.re.length) b X (dt Xs):=by kernel_rfl
  exact e.mpr l
 generalize a4F=R at f9⊢;refine f9 _ _ ? _;have l8:(dt Xs).H (bv 740 A.rd.length)=aj (bC (fh n A)):=(Vy nl).trans (by rewrite [RT];rfl);have k7:(dt Xs).H (bv 741 A.re.length)=Rx:=(Vy nl).trans (by rewrite [RT];rfl);have o4:∀s:St,Tl SE=aj (f2 (aj (a2 TK))):=λs=>by kernel_rfl
 have o4:=o4 Xs;generalize o8:(Xs:St)=S at c9 m6 I l8 k7 o4⊢;have i5:S.P=A.P/\S.R=A.R/\S.rd=A.rd++[bC (fh n A)]:=by exact rwR o8;exact⟨rfl,rfl,rfl⟩
 have o6:∀b:si,(∀r gl,0<=r->r<(a39:Int)->PN ZM d w g->b (a4 r) (dt ZM))->bj Oq [a2 TK,a4 a39] b X (dt S):=λb P=>by exact a2a (by kernel_rfl) (c9.ldraw C (by exact rwL I;exact hat) (by refine kq (nat_lit 0x1e19000003e8270019700110951100931110000a000102) cb [] B f8 l3 a0) P)
 generalize dt S=l7 at l8 k7 o4 o6⊢;refine bY (r:=av) (CF l8 k7 n9) (sr (iP o4 (E3 l8 (ei f8 (ei (Nat.succ_le_succ B) (by decide))) (gU (o6 _ λr gl r0 e6 j8=> ? _)))));clear l8 k7 o4 o6;refine db (VB r0) λx m8=> ? _;subst m8;have Y:x<a39:=Int.ofNat_lt.mp e6;refine fk (n3 x _ (F4 Y)) λk N m7 M=> ? _;have k8:eJ (fh n A) (x:Int)=aj v0:=by unfold eJ;rewrite [c4 r0,a1M,F4 Y,m7];try rfl
 have k5:(dt ZM).H (bv 740 A.rd.length)=aj (bC (fh n A)):=by show S.rd[A.rd.length]? =_;rewrite [i5.2.2,Vy nl,RT];rfl
 have d8:=n7 ZM;have i7:d (n-k)= ft:=(n6 k).mp M;have p5:∃j,eK/\gp/\((bQ S gl).R j).told=av:=by show∃j,eK/\gp/\(S.R j).told=av;exact rwL (i5.2.1);exact y
 have f7:∀{b:si},a6e->zg n rm c du ZM d w g λm=>b y2 m:=λP U k9 Q p4 i p a=>P _ λo'=>H U k9 Q p4 o' i (Os p m6) (by ext F1;show S.at_+1=_;exact rwL I;rfl);have j7:k=n->∀b:si,a6e->bj (hQ UO) [WD,t5] b X (dt ZM):=λe b P=>by refine a2a (by kernel_rfl) ? _;replace i7:=e▸i7;rewrite [RT]at i7;exact j8.fturn C i7 p5 (f7 P) f X
 have k6:k≠n->∀b:si,a6e->bj (hQ a0f) [WD,v0] b X (dt ZM):=λe b P=>by refine a2a (by kernel_rfl) ? _;have:=j8.turn C (j:=n-k) (Nat.sub_pos_of_lt (QX N e)) (Uf n k) i7 (f7 P) f X;replace this:=a3Y N▸b_;exact b_
 generalize dt ZM=o0 at k5 d8 j7 k6⊢;have o9:((k:Int)==t3)=am->k=n:=λq=>WP (f1 q);have o7:((k:Int)==t3)=av->k≠n:=λq e=>by replace q:=e▸q;rewrite [TV]at q;exact sK q
 have i0: -1000<=(x:Int)/\(x:Int)<=1000:=by refine kq (nat_lit 0x1e19000003e82700197008000003e820951100931110201a72070003) eb [] B f8 e6 a0
 generalize(k:Int)=l6 at k6 k8 o9 o7;generalize t3=z at d8 j7 o9 o7;generalize(x:Int)=c8 at k8 i0⊢;refine pD k5 i0 k8 (aI (iP d8 (aI (bY (r:=l6==z) CD (aI (dy b4 b4))))));. refine aI (iP d8 (aI (gU (j7 (o9 q) _ λm' u=> ? _))));exact pF (b:=am) (dc (a:=av) (sr (u (_,_,_))))
 . refine aI (gU (k6 (o7 q) _ λm' u=> ? _));exact pF (b:=am) (dc (a:=av) (sr (u (_,_,_))))
section E
section E
section
set_option backward.match.sparseCases false
open PySem
theorem Il[tz]{t:Nat}(h:t<300){f:ii->E Y}[C_](N:f (aj (a4 (0+t))) K X m):(fu (o_ 300 1) t>>=f) K X m:=by show f (if H_+t<300 then aj (a4 (0+t))else ap) K X m;exact rwL (c4 (by refine bn (nat_lit 0x11a0000012c23700010a0000012c20001) a7 [] h a0));exact N
theorem CG{n R:Nat}{c:Cf}{A:i3}(C:gt n R c){call:aD}{f:Nat}(L:CC bj f)[Wn]{r0:Int}{K:lR}[l2](N:∀s md w g u v x,da n R c A s md w g->I_=0->K (hH,B' r0 [ZB,(qi,v),("k",x)]) j0):∀(d t:Nat)[k3](md:lp)(w g:i3)(o:a2i),(o=ap->I_≠0)->d+t=300->da n R c A s md w g->XU<d->0<=x3->x3+d<=10000->a7A (d+1) t ⟨iY,B' r0 (Ia o),aU⟩ K X j0:=λd=>by induction d with|zero=>exactλt s md w g o J J J h=>b6 h (Qk _)|succ d G=>intro t s md w g o P hd i O m a;exact rwL fe;have I:=i.iter C (hat:=⟨m,by refine bn (nat_lit 0x119000027102001900002710237311000011) a7 a7 a a0⟩) L (t:=0+(t:Int)) (b0:=b0) (r0':=r0) (o:=o) (G:=λr=>match r with|kE|Yg=>a7A (d+1) (t+1) ⟨iY,loc,aU⟩|Yq=>a_ kE|f=>a_ f) (K:=K) (X:=X) (λT=>by induction o using u_ with|none=>exact b6 T (P rfl)|some q=>exact N s md w g _ _ _ i T) λU M Q Y o' H W Z=>G (t+1) U M Q Y (aj o') (λq=>by exact iy q) (by refine bn (nat_lit 0x10b0000012c2331110000b0000012c23103110002) cb [] hd a0) H (by refine c6 (nat_lit 0x10a10000a31110200a200003) eb [] O W a0) (by refine c6 (nat_lit 0x11900011910011b311100020) [] cb m Z a0) (by refine c6 (nat_lit 0x119000027102370000190000271023731100101b311100021) a7 cb a Z a0);exact Il (by refine bn (nat_lit 0x10a0000012c2000b0000012c23003111002) cb [] hd a0) I
section E
section
set_option backward.match.sparseCases false
open PySem
abbrev bR:e_:=bq "" "law"
def lU:Lc:=Du (uf bR 13)
theorem Im[w'][LR][a5i](G:lR)(X:ef):U4 ((kj 13).take 1) ⟨iY,B' r0 [ZB,(qi,v),("k",w)],aU⟩ G X j0=(cj (o_ n 1)>>=a73) (λx m=>G (hH,B' r0 [ZB,(qi,v),("k",w),(Xq,x)]) m) X j0:=by kernel_rfl
theorem E5[w'][a5i](l:V)(G:lR)[Qe]:U4 ((kj 14).take 1) ⟨iY,B' r0 [ZB,(qi,v),("k",w),(Xq,l)],aU⟩ G X m=((ci 747 ej>>=λe=>(if pO l QJ=am then gM l QJ>>=W4 else a8))>>=λb=>kp (bV (-1)>>=λi=>be l i) (bV (-1))) (λx m=>G (hH,B' r0 [ZB,(qi,v),("k",w),(Xq,l),("edge",x)]) m) X m:=by kernel_rfl
theorem E6[w'](w:ii)(k:Int)[UL]:(cV lU.tgt v0 ⟨lU.sc,hJ "k" w,WH⟩>>=λloc=>bK Vh .And lU.ifs ⟨lU.sc,loc,WH⟩>>=T4) K X m=(bP (nn 5)>>=λf=>be f v0>>=λr=>be r (c1 "ended")>>=λv=>bV (-1)>>=λe=>gM v e>>=λb=>SK>>=λb=>a0F b) K X m:=by ext UV
def Ja[Px][q_]:b2:=match(s.R (n-k)).ended with|d0=>v== -1|ap=>av
def Mr[Px]:OO| f6=>Ja n s i.toNat|_=>av
def GK[Px]:b5:=(ST n).filter (Mr n s)
theorem Io{K:si}[l2]{call:aD}[SA](f:∀j,eK->gp->Qo≠ap)(B:n<=100)(N:K Vl (UJ (bC (GK n s)))):(cj (o_ n 1)>>=a73) K X j0:=by
 exact dl6 K X bj n c s;refine aV (c:= Uv<=H_/\H_<=1000000/\ Uv<=t3/\t3<=1000000) (x:=a_ (t3-0).toNat) (by refine bn (nat_lit 0x1eee19000f42402700197008000f4240219000f424020119018000f42402090000006420001) a7 [] B a0) (dc (Bx ? _ ? _))
 .have e:(bg lU.tgt (o_ n 1)&&bJ lU.sc)=(bg lU.tgt (o_ 0 1)&&bJ lU.sc):=by kernel_rfl
  ext Zp
 have a:∀[v1][g_],(ST n)[k]? =d0->k<n/\v= v0:=λ{k v}e=>by
  ext a0M;exact bcH N (k<n);. ext a7z
  . ext a3m
 have b:∀l,(UJ ej).upd XB RD=UJ RD:=λl=>by kernel_rfl
 have W:(UJ ej).H XB=Rx:=by kernel_rfl
 have:=fK (R:=Vh) (elt:=lU.elt) (tgt:=lU.tgt) (ifs:=lU.ifs) (sc:=lU.sc) (cells:=WH) (x:="k") (vs:=ST n) (p:=Mr n s) (f:=id) (o:= ej) (i:= XB) (src:= o_ n 1) (m:=UJ ej) (K:=λJ m'=>K Vl m') (X:=wj) W (λacc k G A=>by
  replace A:=aG▸A;show(λo=>G o) (if H_+k<n then aj (j1 (0+k))else ap) _ _ _;exact bcH q (k<n);. replace A:=PH▸A;exact rwL (c4 (by refine bn (nat_lit 0x11a7103700010a100002) cb [] q a0));rewrite [WU];exact A
  . replace A:=w2▸A;exact rwL (b9 (by refine bn (nat_lit 0x1c1a710370001c0a100002) cb [] q a0));exact A) (λacc k v Z w G A=>by
  ext a4Z;rw [b]at A⊢;refine(E6 bj w k G _ _ _).mpr ? _;have r:∀{j:Id}{o:ae},Tl j=ck->(UJ (bC acc)).H j=ck:=λh=>aT h;have L:Tl (nn 5)=aj (f2 (aj XR)):=by kernel_rfl
  have d:Tl (bv 636 1)=aj (bC (mW n)):=by kernel_rfl
  have D:Vb=n-k:=by refine bn (nat_lit 0x10b41000311410411000a001002) cb [] N a0
  have g:Tl a2k=aj (jU n Vb (c.sz Vb) (c.stays Vb) (s.R Vb)):=by show a01[w5-k]? =_;exact a3 aG (c4 (by refine a4B N a0));rfl
  have T:eJ (mW n) (k:Int)=aj (a2 a2k):=by unfold eJ mW;rewrite [c4 (TT k),a1M,a24 (by ext QF;exact N),aG,c4 N];try rfl
  refine iP (r L) (pD (v:= a2 a2k) (r d) (by refine c6 (nat_lit 0x1e19000003e82700197008000003e8209000000642100a100002) cb [] B N a0) T (im (v:=o7 (s.R Vb).ended) (r g) (by kernel_rfl) ? _));have A:a0F (Ja n s k) _ _ _:=A;unfold Ja at A;exact rwL D;refine cM (s.R (n-k)).ended od λz e=> ? _;. exact b6 e (f _ (by refine bn (nat_lit 0x10941000110b410003114104110002) cb [] D a0) (Uf n k))
  .replace A:=e▸A;refine bX (i:= -1) (aQ (by decide)) (bY (r:=z== -1) rfl ? _);have A:a0F (z== -1) _ _ _:=A;refine cO (z== -1) D3 D3;. replace A:=t▸A;exact A
   . replace A:=t▸A;exact A) (λacc k v Z O G A=>by ext a4Z;exact A) (by ext QF;refine bn (nat_lit 0x109000003e8200090000006420001) a7 [] B a0) (by rewrite [b];ext a0k;exact N);rewrite [b]at this;replace this:=aM▸b_;show dx Vh lU.elt lU.tgt lU.ifs (o_ n 1) XB ((t3-0).toNat+1) 0 ⟨lU.sc,[],WH⟩ (λJ m'=>K Vl m') wj (UJ ej);exact rwL (show(t3-0).toNat=n by rewrite [Zs];rfl);exact b_
section E
section
set_option backward.match.sparseCases false
open PySem
def uy:pb:=[QZ,Qu,T9,Qt,qi]
def jF(L:Str->Str->Nat->b5->w9):jW:=λn c args=>match c with| Ul=>bif uy.contains f then L cl f n a6 else aj (L1 n Ul a6)| .clos b s cs=>aj (L1 n (.clos b s cs) a6)
def CH(N:Str)(A y:V):Pr:=⟨1,N,a1,y,a2 (j8 0),P1,A,av,0,0⟩
def uz[k3](N:Str)(A y:V)(x:i3)(e:ki)[q_]:St:={s with P:=λj=>bif rt 0 then CH N A y else iO (x j),R:=λj=>i0 (s.R j) (aj (e j)),D:=[],opn:= TJ k}
def MF[LR](L:b5):ac:=(UJ (bC L)).mk1 747 ej
abbrev zq:a5:=OK av=OK am
def CI[f0](P:h8)(k:a5):a5:=fZ n P/\((∀j,a1b=aj j->zq)/\((a1b=ap->a43=am\/(P 0).killed=am->k)/\(a1b=ap->a43=av->(P 0).killed=av->zq)))
def CJ[Px](N:Str)[q_]:a5:=bL (I_==0) (bL (!(N==Ze)) (B8 (aj (vJ (hG:Nat) (TJ k))) (s.ol[k]?)/\bL (((vM ((s.ol[k]?).getD sw)).length:Int)==0) (OK am=OK am) (OK (((vM ((s.ol[k]?).getD sw)).length:Int)==0)=OK am)) zq) (OK (I_==0)=OK am)
def Ks[Px](N:Str)[q_]:a5:=(Vi/\ew s.P (1:Int) cp 0=bif bu (s.P 0)then t_ else ap)/\bL (bu (s.P 0)) a81 a81
def E7[Px](N:Str)[q_](e:ki)[z1](d:d7):a5:=bL (!(s.out==d)) zq (nd (d.length<=16777216) (match hZ (q6 U6 5) (aF (λx=> a4 (e (n-(i+x)))) (n-i)) (F_ (n-i) (a4 d.length))with|un=>bL (! r) zq (Ks n s N k)|ap=>gj))
abbrev K0:si:=λv J=>v= y2
abbrev E8[a5i](e:Int):dd:=B' r0 [ZB,(qi,v),("k",w),(Xq,Vl),("edge",a4 e)]
theorem Ip:∀n:Nat,l4->kT->∀[a8v],a4K ⟨iY,E8 b0 r0 u v w (-1),aU⟩ Xd X (MF n c a52 l)=E7 n a52 N k e 0 N0:=by refine VS<;>(ext Q5)
theorem Iq:∀n j:Nat,l4->kT->eK->gp->∀[a8v],a4K ⟨iY,E8 b0 r0 u v w RM,aU⟩ Xd X (MF n c a52 l)=nd (Y2/\Zo) (E7 n a52 N k e (n-j+1) (bO N0 ap (aj Wf) ap)):=by refine ZN<;>(ext Q5)
section E
section
set_option backward.match.sparseCases false
open PySem
theorem Ms[SA]{P:h8}(h:∀j,gp->m3=E_):dt {s with P:=P}=j0:=by
 have e:aF (λj=>t0 m3) cp=a5l:=dz λj D=>by exact rwL (h j (oc D));rfl
 exact hh (λu=>Le n c s u a01) e
theorem vY{u:cv}{v:u}:∀{m:Nat},aF (λJ=>v) m=F_ m v:=λ{m}=>by induction m with|zero=>rfl|succ m G=>show aF (λJ=>v) m++[v]=_;exact a3 G List.replicate_succ';rfl
theorem zr{v:Wb}{a:Int}:∀{m:Nat},hZ (q6 v 5) (F_ m Pi) (F_ m Pi)=aj am:=λ{m}=>by induction m with|zero=>rfl|succ m G=>exact rwL List.replicate_succ;show(aj (a==a)).bind (λx=>(hZ (q6 v 5) (F_ m Pi) (F_ m Pi)).map λb=>x&&b)=_;exact rwL G;rewrite [TV];rfl
theorem CK[e3]{A:Vm}:∀{m:Nat},(∀j,j<m->A j=av)->uw n A m=0:=λ{m}=>by induction m with|zero=>exact hS|succ m G=>intro h;show uw n A m+(bif A m then _ else 0)=0;exact a3 (G λj D=>h j (TS D)) (h m (F' m));rfl
theorem E9{F:ki}:∀[e3],(∀i,i<n->fO F i=av)->dL F n=[]:=λ{n}=>by induction n with|zero=>exact hS|succ n G=>intro h;show dL F n++(bif fO F n then _ else [])=[];ext a6M
theorem Fa{p:Vm}{q:OO}(B:∀k:Nat,q v0=p k):∀{m:Nat},((ST m).filter q=[]/\∀k,k<m->p k=av)\/∃l k,(ST m).filter q=l++[j1 (k:Nat)]/\k<m/\p k=am/\∀i,k<i->i<m->p i=av:=λ{m}=>by
 induction m with
  |zero=>exact b7 ⟨rfl,λk h=>b6 h (Qk k)⟩
  |succ m G=>
   have e:(ST (m+1)).filter q=(ST m).filter q++[j1 m].filter q:=List.filter_append ..;refine cO (p m) V' V';. right;refine⟨_,m,e.trans (by exact rwL (XA (by rewrite [B];exact h));rfl),F' m,h,λi a b=>b6 (Os a (oc b)) (VU m)⟩
   .rewrite [YR (by rewrite [B];exact rwL h;exact WC)]at e;replace e:=List.filter_nil▸e;rewrite [TX]at e;rcases G with⟨a,b⟩|⟨l,k,a,b,c,d⟩
    .refine b7 ⟨e.trans a,λk N=> ? _⟩;exact bcH z (k=m);. exact rwL z;exact h
     . exact b k (QX (oc N) z)
    .refine ba ⟨l,k,e.trans a,TS b,c,λi x y=> ? _⟩;exact bcH z (i=m);. exact rwL z;exact h
     . exact d i x (QX (oc y) z)
theorem CL{f:i3}:∀[e3],bI f n=0->∀i,i<n->f i=0:=λ{n}=>by
 induction n with
  |zero=>exactλJ i h=>b6 h (Qk i)
  |succ n G=>
   intro h i W;have h:bI f n+f n=0:=h;exact bcH z (i=n);. exact rwL z;exact(Nat.add_eq_zero_iff.mp h).2
   . exact G (Nat.add_eq_zero_iff.mp h).1 i (QX (oc W) z)
def uA(p:Pr):Nat:=match p.regs with| a2 (bv _ i)=>i|_=>0
section
variable{n rm:Nat}{c:Cf}{du:i3}{s:St}{md:lp}{w g:i3}
structure Ir [LR] (w : Nat → Nat) (m0 : Md) [q_] : a5 where
  tl : ∀ j, Vq → j ≤ n → T3 = am ∧ Qo ≠ ap
  P0 : s.P 0 = CH (ql m0) (r7 0 m0) (jE n)
  m0 : m0 ≠ .off
  P : ∀ j, Vq → j ≤ n → E_ = iO (uA E_)
  D : s.D = []
  on : s.opn = TJ k
  ol : s.ol[k]? = Rx
  out : s.out = c.text.take (w 1)
theorem da.done[PK](T:I_=0):∃k,Ir n c s w Pj k:=by
 have B:0<n:=Os (by decide) C.n2;have sz:=CL (WP (h.lf.symm.trans T))
 have tl:∀j,eK->gp->T3=am/\Qo≠ap:=λj H D=>by
  ext a6F;have:=sz i D;unfold cS at this;refine cO (s.R fq).told D3 D3;. exact⟨rfl,(B3 fq D).tl t⟩
  . replace this:=t▸b_;exact xN b_ rfl
 have Q:=h.ab.tl 1 (oa 1) B (tl 1 (oa 1) B).1
 have a:∀j,gp->lm j=av:=λj D=>by
  ext Zj;. exact rwL z;exact qg.mpr Q
  . exact qg.mpr (tl j (Pl z) D).2
 have u:∀i,i<n->fO s.F i=av:=λi W=>by unfold fO;exact w3 ((h.F0 (OZ W)).1 W) (show Z9=lm fq from(h.F0 (j:=fq) W).2 (we i)) (a i (OZ W)) (a fq W);rfl
 have b:sJ n s.F=[]:=by
  refine a4V (WP ? _);rcases h.opens with e|e;. exact e.trans (CK λj D=>a j (oc D))
  . exact b6 B (by ext ea;decide)
 obtain⟨k,N⟩:∃k,s.opn= TJ k:=h.fi.on.elim (λe=>by
  have:=h.fi.ol;unfold qk at this;ext a0g;replace this:=b▸b_;have this:(aj (ae.list (YZ hG)):ez ae)=Rx:=b_;have this:YZ hG=[]:=by injection b_ with b_;injection b_
  have:=a0u b_;replace this:=aM▸b_;exact b6 b_ (RR (Nat.mul_pos (by decide) B))) id;refine⟨k,tl,h.pr 0 p1,((B3 0 p1).m0 rfl).1,λj H D=> ? _,h.fi.D.trans (E9 u),N,? _,? _⟩;. have p:=h.pr j D;refine bx (tl j H D) λt e=> ? _;ext a6F;refine db (Option.ne_none_iff_exists'.mp e) S7;refine a3J λx J q=> ? _;ext OI;rfl
 . have:=h.fi.ol;unfold qk at this;replace this:=N▸b_;replace this:=b▸b_;exact b_
 . exact a3 h.ot (((B3 0 p1).fs rfl Q B).2);rfl
theorem Ir.ask{U:St}{m0:Md}[v1](S:Ir n c s w m0 k)(C:gt n rm c)[QU](T:I_=0)(L:∀j,gp->U.P j=E_)(H:U.left=I_)(F:U.ol=s.ol):Ks n U (ql m0) k:=by
 revert k;exact gs n rm c du s md w g U m0;exact dl1 k;have B:0<n:=Os (by decide) C.n2;have A:fZ n U.P:=vP (ei C.n5 (by decide)) λj D=>by exact rwL (L j D);exact(h.pr j D).ok
 have f:∀x,0<=x->x<0+cp->bu (U.P x)=am->(U.P x).pid=(x+1:Nat):=λx J Y=>by have Y:x<=n:=oc (by rewrite [Ow]at Y;exact Y);exact rwL (L x Y);exact(h.there Y).2
 have E:ew U.P (1:Int) cp 0=bif bu (U.P 0)then t_ else ap:=sq (j:=0) (oa 0) (by rewrite [Ow];exact we n) f;have d:∀j,eK->gp->bu (U.P j)=av:=λj H D=>by exact a3 (L j D) (S.P j H D);rfl
 have r:ew U.P ((cp:Nat):Int) cp 0=ap:=by exact a3 (sq (j:=n) p1 (by rewrite [Ow];exact F' n) f) (d n B (oa n));rfl
 have y:U.P 0=CH (ql m0) (r7 0 m0) (jE n):=(L 0 p1).trans S.P0;have b:∀m:Md,m≠.off->((ql m==Ot)=av)/\((ql m==Ze)=av):=λm u=>by cases m<;>first|exact O9 u|exact s4
 have p:∀i,i<cp->((iX n U.P i).state==Ot)=av:=λi W=>by
  exact rwL (pE (oc W));exact bcH z (i=0);. exact a3 z y;exact(b m0 S.m0).1
  . exact a3 (L i (oc W)) (S.P i (Pl z) (oc W));rfl
 have o:=(kI (P:=iX n U.P) (p:=jz (iX n U.P) js) (m:=cp)).2 p
 have a:cR (iX n U.P) js n=[]:=List.filter_eq_nil_iff.mpr λv Z=>by
  obtain⟨j,D,e⟩:∃j,j<cp/\v= f5:=aJ (Q:=λv=>∃j,j<cp/\v=og x1) (λj D=>⟨j,D,rfl⟩) v Z;subst e;show¬(bu (iX n U.P j)&&gx (iX n U.P j).par js)=am;exact rwL (pE (oc D));ext Zj;. exact a3 z y;show¬(_&&av)=am;ext Wx;exact WC
  . exact rwL (d j (Pl z) (oc D));exact WC
 have I:CJ n U (ql m0) k:=by unfold CJ;exact w3 H T F S.ol;show bL (!(ql m0==Ze)) _ zq;exact rwL ((b m0 S.m0).2);refine⟨⟨_,_,[],rfl,rfl,Q8 _,λM q=> ? _⟩,rfl⟩;exact rwR (hR q);kernel_rfl
 have l:CI n U.P (CJ n U (ql m0) k):=⟨A,(λj e=>by have e:=(show c8 _ _=ap from o).symm.trans e;ext pf),λJ J=>I,λJ e=>by replace e:=a▸e;exact sK e⟩;refine⟨⟨A,E⟩,? _⟩;cases bu (U.P 0)with|true=>exact⟨⟨A,r⟩,l⟩|false=>exact⟨⟨A,r⟩,l⟩
theorem uB[f_]{L:b5}[g_]{K:si}[l2](d:m.c 747=0)(U:(v2 747 ej).H XB=T7)(f:(v2 747 ej).H (bv 747 0)=Rx)(Z:L=[]/\v= a4 (-1)\/∃l,L=l++[v])(M:PV<=1000)(N:K v (v2 747 ej)):((ci 747 ej>>=λe=>(if pO Vl QJ=am then gM Vl QJ>>=W4 else a8))>>=λb=>kp (bV (-1)>>=λi=>be Vl i) (bV (-1))) K X m:=by
 refine aI (gU ? _);show((if pO Vl (a2 (bv 747 (m.c 747)))=am then gM Vl (a2 (bv 747 (m.c 747)))>>=W4 else a8)>>=λb=>kp (bV (-1)>>=λi=>be Vl i) (bV (-1))) K X (v2 747 ej);exact rwL d;generalize v2 747 ej=m1 at*;refine dE (by rfl) (aI ? _);rcases Z with⟨rfl,rfl⟩|⟨l,rfl⟩
 .refine bY (r:=am) ? _ (dc (a:=av) (sr ? _));. show(iS (m1.H XB)).bind (λI=>(iS (m1.H (bv 747 0))).bind λp=>zG _ I p)=_;exact a3 U f;rfl
  . exact dT (x:=a_ (j1 (-1))) (aQ (by decide)) N
 .refine bY (r:=av) (CF U f (by simp)) (dc (a:=am) ? _);show(bV (-1)>>=λi=>be Vl i) K X m1;refine bX (i:= -1) (aQ (by decide)) ? _;show(aX XB>>=λa=>eD a (a4 (-1))) K X m1;refine aK (f:=λa=>eD a (a4 (-1))) U ? _;show i4 (-1000<=(-1:Int)/\(-1:Int)<=1000) (QC (eJ (l++[v]) (-1))) K X m1;refine dT (by decide) ? _;have e:eJ (l++[v]) (-1)=d0:=by unfold eJ;rewrite [b9 (by decide),c4 (by exact a3 Qi List.length_singleton;refine pk (nat_lit 0x119811873110001) a7 [] a0),show((-1:Int)+((l++[v]).length:Int)).toNat=OE by exact a3 Qi List.length_singleton;lia,Vy nl,RT];rfl
  ext ea;exact N
theorem da.fin{L:Str->Str->Nat->b5->w9}{f:Nat}[Wn]{r0:Int}{u v t:V}[l2][PK](T:I_=0):aB (wb (r3 (jF L) G_) 40) (kj 13) ⟨iY,B' r0 [ZB,(qi,v),("k",t)],aU⟩ Xd X j0:=by
 revert b0 r0 u v t X;exact gs n rm c du s md w g L f;exact dl6 b0 r0 u v t X;refine db (h.done C T) λk S=> ? _;have B:1<=n:=PI C.n2;have d8:kj 13=(kj 13).take 1++kj 14:=by kernel_rfl
 have K:kj 14=(kj 14).take 1++kj 15:=by kernel_rfl
 exact a3 d8 cE;refine(Im ..).mpr (Io (λj H D=>(S.tl j H D).2) (ei C.n5 (by decide)) ? _);show aB _ (kj 14) ⟨iY,B' r0 [ZB,(qi,v),("k",t),(Xq,Vl)],aU⟩ _ X _;exact a3 K cE;refine(E5 ..).mpr ? _;have c8:∀l,(UJ RD).c 747=0:=λl=>by kernel_rfl
 have U:∀l,((UJ RD).mk1 747 ej).H XB=aj RD:=λl=>by kernel_rfl
 have d9:∀l,((UJ RD).mk1 747 ej).H (bv 747 0)=Rx:=λl=>by kernel_rfl
 have r:∀j,eK->gp->Qo=aj ((s.R j).ended.getD 0):=λj H D=>by
  refine cM Qo od S7;. exact b6 e (S.tl j H D).2
  . rfl
 have c9:dt (a6p k)=j0:=by
  unfold uz;exact rwRR S.D S.on;refine(Kq (s:={s with P:=λj=>a89}) V4).trans (Ms V4);. show i0 (s.R c_) (aj ((s.R c_).ended.getD 0))=s.R c_;exact rwR (r c_ (we j) D);cases s.R c_;rfl
  .ext Zj;. exact a3 z S.P0;rfl
   . exact rwL (fR z);exact(S.P j (Pl z) D).symm
 have c7:∀j,gp->(a6p k).P j=E_:=λj D=>by
  show a89=E_;ext Zj;. exact a3 z S.P0;rfl
  . exact rwL (fR z);exact(S.P j (Pl z) D).symm
 have A:=S.ask C h T c7 rfl rfl;have kl:(GK n s).length<=1000:=ZU (ei (O1 aM) (ei C.n5 (by decide)));have p:=λe y U=>h.ab.vals (λj H D=>(S.tl j H D).2) (e:=e) y U;have W:w 1<=px:=((B3 0 p1).pp B).2.2;have R:Zo:=ei C.tx (by decide);have e8:∀[z1](d:d7),s.out=d->d.length=w 1->(∀x,x<n-i->(s.R (n-(i+x))).ended=aj (w 1:Nat))->E7 n (a6p k) (ql Pj) k a08 i d:=λi d H F e6=>by unfold E7;show bL (!(s.out==d)) _ _;exact rwL H;rewrite [TV];show nd _ _;refine f7 (by exact rwL F;exact ei W R) ? _;exact w3 (dz (g:=λJ=>j1 (w 1:Nat)) λx Y=>(by show j1 ((s.R (n-(i+x))).ended.getD 0)=j1 (w 1:Nat);exact rwL (e6 x Y);rfl)) vY F zr;exact A
 rcases Fa (p:=Ja n s) (q:=Mr n s) hS (m:=n)with⟨a,b⟩|⟨l,m,a,b,b1,e7⟩
 .have N:¬LD s.R cp:=λ⟨i,O,G,M⟩=>by have:=b (n-i) (Nat.sub_lt B O);unfold Ja at this;replace this:=a3Y (oc G)▸b_;replace this:=M▸b_;exact sK b_
  have Z:=p cp nl N;refine uB (L:=GK n s) (v:= a4 (-1)) (c8 _) (U _) (d9 _) (b7 ⟨a,rfl⟩) kl ? _;have Q:=Ip n C.n2 C.n5 L f c s b0 r0 u v t (GK n s) X (ql Pj) (r7 0 Pj) (jE n) (λj=>uA E_) a08 k;unfold MF at Q;replace Q:=c9▸Q;show a4K ⟨iY,E8 b0 r0 u v t (-1),aU⟩ Xd X ((UJ (bC (GK n s))).mk1 747 ej);exact rwL Q;refine e8 0 N0 ? _ ? _ W3;. exact ec S.out ((Z n B (F' n)).2.2 rfl) List.take_length;rfl
  . exact((Z n B (F' n)).2.2 rfl).symm
  . rewrite [Ow];exact(Z (n-x) (Nat.sub_pos_of_lt Y) (VL (Uf n x))).1
 .obtain⟨j,q,I,rfl⟩:∃j,eK/\gp/\m=n-j:=⟨n-m,Nat.sub_pos_of_lt b,Uf n m,(a3Y (OZ b)).symm⟩;have N:¬LD s.R j:=λ⟨i,O,G,M⟩=>by have:=e7 (n-i) (Nat.sub_lt_sub_left (Os G I) G) (Nat.sub_lt B O);unfold Ja at this;replace this:=a3Y (ei (OZ G) I)▸b_;replace this:=M▸b_;exact sK b_
  have P:=p j (a0e I) N
  have o:w j=w 1:=by
   exact bcH z (j=1);. exact rwL z;rfl
   . have:=(P dn (by refine c6 (nat_lit 0x1094110011090011c0b110001) a7 [] q z a0) (Nat.sub_lt q (by decide))).2.1 (by refine c6 (nat_lit 0x10a104110009001109100002) cb [] q I a0);replace this:=Pk q▸b_;exact b_
  refine uB (L:=GK n s) (v:= a4 RM) (c8 _) (U _) (d9 _) (ba ⟨l,a⟩) kl ? _;have Q:=Iq n j C.n2 C.n5 q I L f c s b0 r0 u v t (GK n s) X (ql Pj) (r7 0 Pj) (jE n) (λj=>uA E_) a08 k;unfold MF at Q;replace Q:=c9▸Q;show a4K ⟨iY,E8 b0 r0 u v t RM,aU⟩ Xd X ((UJ (bC (GK n s))).mk1 747 ej);exact rwL Q;refine f7 ⟨rfl,R⟩ (e8 (n-j+1) _ ? _ ? _ W3);. exact ec (h.ca j q I) kF o;exact S.out
  . refine rwl (h.ca j q I) (rwl kF (rwl o (rwl SY (rwl (SZ W) ? _))));rfl
  .have e:n-(n-j+1+x)=dn-x:=by refine bn (nat_lit 0x10b420411104320311410000009001003) eb [] I a0
   ext ea;exact(P (dn-x) (by refine bn (nat_lit 0x10941041100110a431140020201003) eb [] Y a0) (by refine bn (nat_lit 0x10a004104110009001102) cb [] q a0)).1
section E
section E
section
set_option backward.match.sparseCases false
open PySem
def vZ[xd]:ae->Id| .sd fs=>(match dp x fs with|aj eF=>i|_=> bv 0 0)|_=> bv 0 0
def Kt:ae->Int| .sd fs=>(match dp ("at":Str) fs with|aj f6=>i|_=>0)|_=>0
abbrev bd:Id:= TK
def qT(os b o:ez ae):a5:=∃g sm a L SM,os=a4j/\b=T7/\cZ L/\o=aj (bC SM)/\j9 SM/\0<=a/\a<=10000
def lM(gl:b5)[m5]:ac:=a5W (bD YM (vZ UB (c9 m bd)) (Kt (c9 m bd)+1))
def Fb(many:Int)(P:Int->a5):a5:=bif eg==1 then P 0 else bif eg==2 then P 0/\P 1 else∀r,0<=r->r<eg->P r
theorem Iu{many:Int}{P:Int->a5}(h:Fb eg P){r:Int}(V:0<=r)(H:r<eg):P r:=by
 unfold Fb at h;exact bcH q (eg=1)
 .subst q;have:r=0:=by refine c6 (nat_lit 0x11b01001900011a110010) [] a7 V H a0
  ext Od;exact h
 .replace h:=(show(eg==1)=av from RL q)▸h;exact bcH q2 (eg=2)
  .subst q2;have h:P 0/\P 1:=h;have:r=0\/r=1:=by refine c6 (nat_lit 0x1f1b11001b01001900011a210010) [] a7 V H a0
   rcases b_ with e|e;. ext ea;exact h.1
   . ext ea;exact h.2
  . replace h:=(show(eg==2)=av from RL q2)▸h;exact h r V H
def uC[wl]:w9:=two a6 λN v=>y5 v λmany=>if ig N 598=t_ then aj λK J m=>a8b else ap
theorem Iv{call:aD}{args:b5}{x:E V}(h:uC a6=eI)[N5](Y:Vs):∃P',l7 m P' K/\bA hN bj Oq a6 P' X m:=by
 refine i5 (eB h) λt v d=> ? _;subst d;intro h;refine aN (ik h) λmany U=> ? _;ext W0;have h:(if ig t 598=t_ then aj _ else ap)=eI:=h;exact bcH q (ig t 598=t_)
 .ext a0w;ext xp;exact rwL (cD q);refine zF Y λB u N=> ? _;clear Y;obtain⟨g,sm,a,L,SM,H,F,Q,C,S,s⟩:=B;have k:=lz H;have b:vZ RX (c9 m bd)=g:=by exact rwL k;kernel_rfl
  have w:vZ UB (c9 m bd)=sm:=by exact rwL k;kernel_rfl
  have M:Kt (c9 m bd)=a:=by exact rwL k;kernel_rfl
  replace F:=b▸F;replace C:=w▸C;refine⟨λv m'=>∃r gl,v= a4 r/\0<=r/\r<eg/\cZ gl/\m'=pw eg bd sm gl a m,λv m' Z=> ? _,uk H F C Q S s u (by decide) λr gl G T I=>⟨r,gl,rfl,G,T,I,rfl⟩⟩;refine GU Z λr gl d=> ? _;clear Z;subst d;intro G T I c;subst c;refine ba ⟨lM gl m,? _,Iu (N gl I) G T⟩;have n:lM gl m=a5W a4k:=by unfold lM;exact a3 w M;rfl
  exact rwL n;have R:(v2 601 Ud).H bd=a4j:=aT H;have P:((BI z' Ps m).mk1 601 Ud).H bd=a4j:=aT (fL H);have c7:(BI z' Ps m).c 601=m.c 601:=EC (by decide);have p:m.H YM=ap:=i8 (j:=0);have A:∀i,(a5W a4k).H i=a9k:=λi=>by exact rwL (kM R);show(if i=bd then _ else(v2 601 Ud).H i)=_;exact rwL dA;rfl
  have f:∀i o,a9k=ck->(pw eg bd sm gl a m).H i=ck:=λi o e=>by
   unfold pw;refine aT ? _;exact rwL (kM P);show(if i=bd then _ else((BI z' Ps m).mk1 601 Ud).H i)=_;exact bcH z (i=bd);. rw [vh]at e⊢;exact e
   .rw [K']at e⊢;exact bcH y (i= YM);. replace e:=c4 y▸e;exact a3 dA c7;exact(c4 y).trans e
    . replace e:=b9 y▸e;exact aT (fL e)
  refine⟨λi o e=>f i o ((A i).symm.trans e),w8,λi o e=> ? _,a4 r⟩
  .refine db (UM W) λo e=> ? _;have y:i≠YM:=λy=>by replace e:=y▸e;replace e:=p▸e;ext pf
   exact bcH z (i=bd);. have:=(A i).trans vh;exact a3 b_ (f i _ vh);rfl
   . have:=(A i).trans ((b9 z).trans ((b9 y).trans e));exact a3 b_ (f i _ ((b9 z).trans ((b9 y).trans e)));rfl
  .have l:∀j,(m.H j).isSome=am->ao (a5W a4k) j:=λj D=>by
    show(ac.H _ j).isSome=am;exact rwL (A j);exact bcH z (j=bd);. exact rwL vh;rfl
    .ext Vo;exact bcH y (j= YM);. exact rwL (c4 y);rfl
     . exact rwL (b9 y);exact D
   replace e:=A i▸e;exact bcH z (i=bd);. replace e:=vh▸e;exact rwR (hR e);right;refine ke ⟨rv ? _,rv (l sm (by exact rwL C;rfl)),di,ep⟩;show(ac.H _ _).isSome=am;rewrite [A];exact a3 (b9 (λz=>by cases z)) s_;rfl
   .replace e:=K'▸e;exact bcH y (i= YM);. replace e:=c4 y▸e;exact rwR (hR e);exact ba λv Z=>by refine aN (I.2 v Z) λi e J=> ? _;ext ea;exact f6
    . replace e:=b9 y▸e;exact b7 e
 . ext a1A
section E
section
set_option backward.match.sparseCases false
open PySem
def f8(cs:UU)[m5]:ac:=⟨cs.map a7v⟩
def CM(cs:UU)[m5]:b2:=m.L.all λp=>match jC c5 cs with|v_=>(match k with|v_=>lj p.2.length k|ap=>am)|ap=>p.2.isEmpty
def Dx(cs:UU)(x:E V):E V:=λK X m=>CM cs m=am/\x (λv m'=>Sc (f8 cs m')/\bZ (ao (f8 cs m')) v/\K v (f8 cs m')) X m
theorem zs{t:Nat}:∀{L:M_},hK L≠[]->(t,hK L)∈L:=λ{L}=>by
 induction L with
  |nil=>exactλh=>O9 h
  |cons p r G=>
   intro h;have h:bL S' p.2 (hK r)≠[]:=h;show(t,bL S' p.2 (hK r))∈p::r;refine cO S' b4 b4;. exact rwR (TQ q);exact UH
   . ext p2;exact pn (G h)
theorem v3{cs:UU}{x:E V}[N5](h:Dx cs x K X m):∃P',l7 m P' K/\x P' X m:=by
 refine⟨_,λv m' Z=> ba ⟨f8 cs m',⟨λi o e=> ? _,w8,λi o e=> ba (Z.1 i o e),Z.2.1⟩,Z.2.2⟩,h.2⟩
 .ext X0;have e:(hK (f8 cs m').L)[j]? =ck:=e;unfold f8 at e;replace e:=jN▸e;refine cM (jC t cs) b4 λk q=> ? _;. ext Q6;ext pf
  . ext Q6;exact qS e
 .ext X0;refine db (UM W) λo e=> ? _;have e:(hK m.L)[j]? =ck:=e;have D:=(L_ e).1;have u:=zs (t:=t) (L:=m.L) λq=>by replace D:=q▸D;exact Qk j D
  have f:=Qg h.1 _ u;show(hK (f8 cs m').L)[j]? =(hK m'.L)[j]?;unfold f8;exact rwL jN;refine cM (jC t cs) b4 λk q=> ? _;. ext a8j;replace D:=VI f▸D;exact b6 D (Qk j)
  . ext a8j;induction k using u_ with|none=>rfl|some k=>have f:lj (hK m.L).length k=am:=f;show((hK m'.L).take k)[j]? =_;rewrite [a3L,c4 (Os D (SO f))];try rfl
def dZ:jW:=λn c args=>match c with| Ul=>a7j|_=>ap
def uD:UU:=[(0,ap),(3000000,ap),(2000000,aj 6),(597,ap),(598,ap),(601,ap),(725,ap),(1000726,ap),(460,ap),(1000460,ap),(430,ap),(523,ap),(1000727,ap),(77,ap),(727,ap),(266,ap),(310,ap),(1000728,ap),(109,ap),(1000729,ap),(1000404,ap),(378,ap),(1000080,ap),(31,ap),(1000285,ap),(619,ap),(625,ap),(628,ap),(632,ap),(634,ap)]
def Lu(m:Nat):d_:=aF (λx=>if x%2=0 then NL else VG) m
def Nd[f0]:Pr:=⟨1,qi,a1,a2 (bv 430 (hG+3)),a2 (j8 0),P1,a1,av,0,0⟩
def PS(n i j:Nat):Pr:=bif rt 0 then Nd n else bif lj j i then gG j (a2 (bv 523 dn)) av 0 else iO (gw+1)
def ML(n i p:Nat)[l9](u g W:d_):ac:=⟨[(0,[F2 c.scr]),Xw,(2000000,[f2 (aj (a2 TK)),f2 Xl,f2 (aj (ek N0)),f2 (aj (a2 Zb)),f2 (aj js),PB]),(597,c.gr),a6c,(601,s.gl),(725,c.tl),(1000726,[Om fI [("places",SX),("next_pid",a4 (i+2:Nat)),("last",t5),(P1,js),("running",a1)]]),(460,[bC (aF (λj=> f5) cp)]),(1000460,aF (λj=>t0 (PS n i j)) cp),(430,Lu (hG+4+2*i)),(523,aF (λJ=> VG) i),(1000727,[Om Qr [(SJ,a4 f3),("made",a4 p),("pipes",a2 NO)],Om r_ [("most",a4 (hG:Nat)),("pipes",a2 (Yi 0)),("nodes",a1),("journal",a1),("devices",a2 (bv 727 0)),("block",a4 16),("open",a2 Xb)]]),(77,[lI (aF (λi=>qm i) p)]),(727,[lI []]),(266,[bC (aF (λf=> Ui) (2*p))]),(310,[]),a71,(109,[lI []]),a9s,(1000404,a9b i),(378,aF (λx=>a4D) (2*i+2)),(1000080,aF (λi=>aS f3 i a30) p),(31,aF (λi=> f4 (oD i)) p),(1000285,aF (λf=>cX f (s.F f)) (2*p)),(619,aF (λj=>a4Q a5e) i),(625,u),(628,g),(632,W),(634,[])]⟩
abbrev Jb:V:= a2 Zb
abbrev Jc:V:= js
abbrev NJ(R:si):si:=λv m=>R v (f8 uD m)
def pG[hB]:b5:=aF (λx=>bL Ty (a2 (bS 0)) (bL S2 (a2 (bS hF)) a1)) 4
def v4[hB]:b5:=aF (λx=>bL Ty (a2 (bS 0)) (bL S2 (a2 (bS hF)) (bL XX a2b (a2 (bS (gw+1)))))) 4
def f9[k3](W:b5):St:={s with SL:=NV 0 W}
def Fd(c:Cf)(X:a5):a5:=bL (fl (f3<1)) gj (nd (0<=f3/\f3<=1000) X)
def gV(c:Cf)[hB][k3](W:b5):St:={s with F:=af (O4 gw 1) (gw+1) 1,RG:=af oD j a3C,SL:=NV 0 W}
def uE[hB]:b5:=aF (λx=>bL Ty (a2 (bS 0)) (bL S2 a1 (bL XX a2b (a2 (bS (gw+1)))))) 4
def Nf[k3](W:b5)(x:Nat)(h:Int):St:={s with SL:=NV 0 W,F:=O4 x h}
section E
section
set_option backward.match.sparseCases false
open PySem
def zt(c:Cf)(many:Int)(k:Int->NY)[k3]:a5:=qT (aj (bD (bv 601 s.gi) (Ov (c.sk+1)) x3)) (s.gl[s.gi]?) (c.so[c.sk]?)/\Y4/\∀gl,cZ gl->Fb eg λr=>k r Pv
def CN(c:Cf)[hB](r:Int)(t:Int):Cf:={c with sz:=af c.sz j (1+r),stays:=af c.stays j (t==1)}
def Lv[Yu][k3]:St:={s with SL:=NV j (hV n j A),F:=af (O4 hF (bif c0 A 2 then 3 else 2)) gw (bif c0 A 1 then 3 else 2)}
def NK[hB][k3]:St:={s with SL:=NV 0 (v4 j),F:=af (af (af (O4 0 1) hF 1) gw 1) (gw+1) 1}
def Ku(c:Cf)[hB](k:Cf->NY)[k3]:a5:=zt c 4 (λr s=>nd (il (1+r)) (zt c 2 (λt s=>k (CN c j r t) s) s)) s
def Ng[A1](c:Cf)(k:Cf->NY)[k3]:a5:=zt c 3 (λr s=>bL (r==0) (zt c 2 (λr s=>Ku c j (λc s=>k c (Lv n j (bif r==0 then 1 else 2) s)) s) s) (Ku c j (λc s=>k c (Lv n j 0 s)) s)) s
def Mt(g:Nat->ae)[hB]:d_:=aF g (2*dn)++[bC [a4 (sF j),a4 (fb j)],bC [l1,a4 (fb c_)]]
def Iw[Px]:St:={s with SL:=NV 0 (pG n),F:=af (O4 0 1) Pe 1}
def Lw(n A:Nat)[k3]:St:={s with SL:=NV n (hV n n A),F:=O4 Pe (bif c0 A 2 then 3 else 2)}
def Nh[f0](c:Cf)(k:Cf->NY)[k3]:a5:=zt c 3 (λr s=>bL (r==0) (zt c 1 (λJ s=>Ku c n (λc s=>k c (Lw n 2 s)) s) s) (Ku c n (λc s=>k c (Lw n 0 s)) s)) s
abbrev Kv[f0]:d_:=[bC [a1,a4 (fb n)],NL]
section E
section
set_option backward.match.sparseCases false
open PySem
structure GL (n i p : Nat) [l9] (u g W : d_) : a5 where
  le : i ≤ n
  scr : a1B
  gr : a1w
  so : a1x
  sk : c.sk < c.so.length
  tl : a1y
  gl : ∀ o ∈ s.gl, aH o
  gi : s.gi < s.gl.length
  SL : ∀ j, j ≤ i → ∀ v ∈ s.SL j, v = a1 ∨ ∃ f, f < 2 * p ∧ v = Ui
  r5 : ∀ o ∈ u, ∃ l, o = RD ∧ ∀ v ∈ l, ∃ j, j < i ∧ v = a2 (B1 j)
  r8 : ∀ o ∈ g, aH o
  r2 : ∀ o ∈ W, ∃ l, o = RD ∧ ∀ v ∈ l, v = a1 ∨ UX
theorem CO{n i p:Nat}[z2]{u g W:d_}(w:GL n i p c s u g W):Sc (XK W):=by
 exact dl8 n i p c s u g W;have b:∀{t k j:Nat}{f:Nat->ae},hK (XK W).L=aF f k->j<k->bZ RJ (a2 (bv t j)):=λ{t k j f}e h=> rv (by show((hK (XK W).L)[j]?).isSome=am;exact ec e aG Pa;rfl);have a:∀H,((XK W).H H).isSome=am->bZ RJ (a2 H):=λi h=> eF h;have M:∀j,gp->bZ RJ f5:=λj h=>b (t:=1000460) rfl (VL h);have e7:∀x,x<hG+4+2*i->bZ RJ (a2 (bv 430 x)):=λx h=>b (t:=430) rfl h;have d8:∀x,x<i->bZ RJ (a2 (bv 523 x)):=λx h=>b (t:=523) rfl h;have e6:∀x,x<i->bZ RJ (a2 (bv 1000404 x)):=λx h=>b (t:=1000404) rfl h;have c9:∀x,x<2*p->bZ RJ RS:=λx h=>b (t:=1000285) rfl h;have Q:∀x,x<p->bZ RJ (a2 (aE x))/\bZ RJ (a2 (bv 31 x)):=λx h=>⟨b (t:=1000080) rfl h,b (t:=31) rfl h⟩;have c7:∀x,x<2*i+2->bZ RJ (a2 (bv 378 x)):=λx h=>b (t:=378) rfl h;have c8:∀x,x<i->bZ RJ (a2 (B1 x)):=λx h=>b (t:=619) rfl h;have K:=a TK (by kernel_rfl);have X:=a (bv 1000728 0) (by kernel_rfl);have r:=a Zb (by kernel_rfl);have T:=a (bv 460 0) (by kernel_rfl);have e8:=a NO (by kernel_rfl);have d9:=a (Yi 0) (by kernel_rfl);have L:=a (Yi 1) (by kernel_rfl);have I:=a (bv 727 0) (by kernel_rfl);have O:=a OY (by kernel_rfl);have Y:=a (bv 109 0) (by kernel_rfl);have f7:=a Xb (by kernel_rfl);have N:=a (bv 1000729 0) (by kernel_rfl);have R:=a (bv 601 s.gi) (by show((s.gl)[s.gi]?).isSome=am;rewrite [F4 w.gi];rfl);have E:=a (Ov (c.sk+1)) (by show((c.so)[c.sk]?).isSome=am;rewrite [F4 w.sk];rfl)
 have S:zd (kr RJ) (XK W).L:=by
  clear a b;generalize RJ=q at*
  have A:∀j,bZ q (LZ n c_):=λj=>by
   show bZ q (if c_=n then a1 else di);exact bcH z (c_=n);. exact rwL vh;exact a1
   . ext Vo;exact di
  have m:∀{l:d_},(∀o∈l,aH o)->∀o∈l,kr q o:=λh o P=>lB (h o P);have F:∀C∈aF (λi=>qm i) p,bZ q C.2:=λC B=>aJ (Q:=λC:Int×V=>bZ q C.2) (λj h=>(Q j h).1) C B;have e9:∀v∈YZ (2*p),bZ q v:=λv Z=>aJ (Q:=λv=>bZ q v) (λf h=>c9 f h) v Z;have G:∀v∈XM cp,bZ q v:=λv Z=>aJ (Q:=λv=>bZ q v) (λj h=>M j (oc h)) v Z;refine⟨mV (a:= F2 c.scr) (λv Z=>by refine db (w.scr v Z) λi e=> ? _;ext ea;exact f6),Ug,Ug,m w.gr,λo P=>(nr P).elim (λe=>e▸ke (by exact⟨R,E,di,ep⟩)) (m w.so o),m w.gl,m w.tl,mV (cq (by exact⟨T,di,di,M 0 p1,a1,ep⟩)),mV (by exact G),aJ λj h=>cq ? _,aJ λx h=> ? _,aJ λj h v Z=> ? _,Dv (cq (by exact⟨di,di,e8,ep⟩)) (cq (by exact⟨di,d9,a1,a1,I,di,f7,ep⟩)),mV (a:= lI _) (by exact F),mV (by exact(λq B=>(by cases B))),mV (by exact e9),(λo P=>((by cases P))),Dv (cq (by exact⟨O,L,a1,a1,a1,Y,di,ep⟩)) (cq (by exact⟨X,ep⟩)),mV (by exact(λq B=>(by cases B))),mV (cq (by exact⟨di,c7 1 (by refine pk (nat_lit 0x10a32125001101) a7 [] a0),ep⟩)),aJ λj h=>cq (by exact⟨di,c7 _ (by refine b0b),ep⟩),aJ λx h=> ? _,aJ λi h=>cq (by exact⟨di,di,(Q i h).2,di,di,F3,F3,ep⟩),aJ λi h=>ep,aJ λf h=>cq (by exact⟨c1 _,F3,F3,di,di,(Q (f/2) (sf h)).1,a1,di,ep⟩),aJ λj h=>ke (by exact⟨M c_ (Os h w.le),di,A j,di,di,ek _,di,a1,a1,F3,F3,F3,ep⟩),Ug,m w.r8,Ug,(λo P=>((by cases P))),ep⟩;. ext a4p
  .ext a9O;. exact K
   . exact di
   . exact ek _
   . exact r
   . exact M 0 p1
   . exact ep
  .have:bZ q (PS n i j).par/\bZ q (PS n i j).regs/\bZ q (PS n i j).fil/\bZ q (PS n i j).chan:=by
    unfold PS;refine cO (rt 0) D_ D_;. exact⟨a1,e7 _ (by refine pk (nat_lit 0x10a325103412500331250002) cb [] a0),N,a1⟩
    .have z:=a3i z;refine cO (lj j i) Xj Xj;. have y:=SO y;obtain⟨k,rfl⟩:∃k,j=bm:=⟨dn,(Pk (Pl z)).symm⟩;exact⟨M 0 p1,d8 _ y,e6 _ y,a1⟩
     . exact⟨a1,e7 _ (by refine bn (nat_lit 0x10a32520341251031125000a311100003) eb [] h a0),a1,a1⟩
   exact⟨di,di,c1 _,b_.1,a1,b_.2.1,di,b_.2.2.1,a1,c1 _,b_.2.2.2,F3,di,a1,di,a1,a1,a1,di,ep⟩
  .show kr q (if x%2=0 then NL else VG);exact bcH z (x%2=0);. exact rwL vh;exactλv Z=>w6 Z▸di
   . ext Vo;exactλv Z=>by exact rwL a2T;exact di
  . exact rwL a2T;exact di
  .show kr q a4D;exact bcH z (x%2=0);. exact rwL vh;exactλv Z=>w6 Z▸a1
   .ext Vo;intro v Z;rcases w.SL hI (xC h) v Z with e|⟨f,d,e⟩;. ext ea;exact a1
    . ext ea;exact c9 f d
  . refine aN (w.r5 o P) λl U=> ? _;ext W0;exactλv Z=>by refine aN (h v Z) λj D e=> ? _;ext ea;exact c8 j D
  .refine aN (w.r2 o P) λl U=> ? _;ext W0
   exactλv Z=>by
    rcases h v Z with e|⟨i,e⟩;. ext ea;exact a1
    . ext ea;exact f6
 intro H o e;obtain⟨t,j⟩:=H;exact jO S o (SP (show(hK (XK W).L)[j]? =ck from e))
section E
section
set_option backward.match.sparseCases false
open PySem
def CP:dk (Str×Str):=[(s3,N1),(s3,A_),("","_law_child")]
def gI:jW:=λn c args=>match c with| Ul=>a8x|_=>ap
abbrev xF:Scope:=cu "" QZ
abbrev kJ:e_:=bq "" QZ
abbrev CQ:hC:=yR kJ 2
abbrev Jd:e_:=yS kJ 2
def NF[hB]:dd:=bif rt 1 then []else [("k",a4 (j-2:Nat)),("inner",a4 (sF dn)),("fresh",a4 (fb j))]
abbrev zK[A1]:dd:=("store",z')::("calls",Jb)::(P1,Jc)::(Rz,t5)::("keep",l1)::("out",a4 (fb j))::("rows",a2 (bv 625 0))::NF j
def gq[m5](X:a5):a5:=CM uD m=am/\X
def lq[ss][m5](X:a5):a5:=Sc m/\bZ (ao m) v/\X
def Fe[hB][k3]:St:={s with SL:=NV 0 (pG j),F:=af (O4 0 1) hF 1}
def dD[k3](W:b5)(x:Nat):St:={s with SL:=NV 0 W,F:=O4 x (s.F x-1)}
def uT[hB]:d_:=[bC (aF (λx=> a2 (B1 (dn-x))) j)]
def Mu[A1](u:Nat->d_)(g B:d_)(k:Cf->NY)[l9]:a5:=gq (ML n dn j c s (u dn) g []) (Fd c (lq (hD [a4 (sF j),a4 (fb c_)]) (ML n dn c_ c a3Q (u dn) g []) (gq (ML n dn c_ c a3Q (u dn) B []) (Ng n j c (λc s=>lq (a2 (B1 dn)) (ML n j c_ c s (u dn) B []) (gq (ML n j c_ c s (u j) B []) (lq l1 (ML n j c_ c (dD s (uE j) hF) (u j) B []) (gq (ML n j c_ c (dD s (uE j) hF) (u j) B []) (lq l1 (ML n j c_ c (dD (dD s (uE j) hF) (pG c_) gw) (u j) B []) (k c (dD (dD s (uE j) hF) (pG c_) gw))))))) a3Q))))
theorem Ff[tz]:∀n j:Nat,l4->kT->eK->j<n->∀[jm][l9](g:Nat->ae)(G:m_->E Y)(K:Y->ef)(X:ef),(cV CQ (a4 (dn:Nat)) ⟨xF,zK n j,[]⟩>>=λloc=>aB (Z8 39) Jd ⟨xF,loc,[]⟩>>=G) K X (ML n dn j c (Fe j s) (uT dn) (aF g (2*dn)) [])=Mu n j uT (aF g (2*dn)) (Mt g j) (λc s=>G (hH,zK n c_) K X (ML n j c_ c s (uT j) (Mt g j) [])) c (Fe j s):=by refine a7b<;>(ext Q5)
section E
section
set_option backward.match.sparseCases false
open PySem
theorem Ix:∀n:Nat,l4->kT->∀[jm][l9](G:lR)(X:ef),aB (Z8 40) (kJ.take 2) a9z G X Vp=gq Vp (Fd c (lq (hD [l1,tt]) (ML n 0 1 c a2z [] [] []) (G (hH,zK n 1) a7x))):=by refine VS<;>(ext Q5)
theorem Iy[w'][f0](G:lR)[Qe]:U4 ((kJ.drop 2).take 1) a3H G X m=(bV (t3-1)>>=a8n) a9Q X m:=by kernel_rfl
def CR:Rw:=a5e
def iq[Px]:St:={s with P:=PS n n,rl:=Lu (4*n+4),opn:= Xb,ol:=[],D:=aF (λi=>qm i) n,I:=λJ=>a30,R:=λJ=>CR,lbye:=ap,lend:=ap,lrest:=[]}
def MS[LR]:ac:=⟨(dt s).L.map λp=>bif c0 c5 2000000 then(c5,p.2.take 5++[PB])else bif([732,733,734,639,740,741].any λt=>S')then(c5,[])else p⟩
def Mv(c:Cf)(r:Int):Cf:={c with lsz:=1+r}
abbrev Lx[f0](R:si):si:=λv m=>R v (f8 (rX n) m)
def Mw[f0](g:d_)(R:Cf->NY)[l9]:a5:=gq (ML n w5 n c (Iw n s) (uT w5) g (Kv n)) (Nh n c (λc s=>lq (a2 (B1 w5)) (ML n n n c s (uT w5) g (Kv n)) (gq (ML n n n c s (uT n) g (Kv n)) (lq l1 (ML n n n c (dD s VD Pe) (uT n) g (Kv n)) (zt c 4 (λr s=>nd (il (1+r)) (R (Mv c r) s)) (dD s VD Pe))))) (Iw n s))
theorem Iz:∀n:Nat,l4->kT->∀[jm][l9](g:d_)(R:si)(X:ef),aB (Z8 40) (kJ.drop 3) ⟨xF,zK n n,[]⟩ (hW (Lx n R) X) X (ML n w5 n c (Iw n s) (uT w5) g [])=Mw n g (λc s=>R XR Y3) c s:=by refine VS<;>(ext Q5)
section E
section
set_option backward.match.sparseCases false
open PySem
structure fP [l9] (b : Nat) : a5 where
  gi : a7a
  gl : ∀ o ∈ s.gl, aH o
  at0 : 0 ≤ x3
  at1 : x3 ≤ b
  sm : j9 c.small
  so : a7o
theorem fP.next[z2]{b:Nat}(h:fP c s b){gl:b5}(D:cZ gl):fP c Pv (b+1):=⟨⟨gl,by show(s.gl++a7)[s.gl.length]? =_;rewrite [Vy nl,RT];rfl,D⟩,lK h.gl ⟨gl,rfl,λv Z=>by exact aN (D.2 v Z) a3I⟩,G3 h.at0 (Int.le_add_one (a0T _)),Int.add_le_add_right h.at1 1,h.sm,h.so⟩
theorem iZ[z2]{b:Nat}(h:fP c s b)(M:b<=10000){many:Int}(u:Y4){k:Int->NY}(N:∀r gl,0<=r->r<eg->cZ gl->fP c Pv (b+1)->k r Pv):zt c eg k s:=by
 refine aN h.gi λL H F=> ? _;refine⟨⟨_,_,_,L,c.small,rfl,H,F,h.so,h.sm,h.at0,G3 h.at1 (a0j M)⟩,u,λgl D=> ? _⟩;have N:=λr V H=>N r gl V H D (h.next D);unfold Fb;exact bcH q (eg=1);. subst q;exact N 0 (a0T 0) (by decide)
 .exact rwL (show(eg==1)=av from RL q);exact bcH q2 (eg=2);. subst q2;exact⟨N 0 (a0T 0) (by decide),N 1 (by decide) (by decide)⟩
  . exact rwL (show(eg==2)=av from RL q2);exact N
structure IA [LR] (d a : Nat) : a5 where
  sl : s.SL a = hV n a d
  du : d = 0 ∨ d = 2 ∨ (a < n ∧ d = 1)
  fr : a < n → s.F (2 * a) = a5a
  fw : s.F (aP a) = a22
  sz : 1 ≤ c.sz a ∧ c.sz a ≤ 4
structure fQ (c y : Cf) : a5 where
  scr : y.scr = c.scr
  room : y.room = f3
  text : y.text = N0
  small : y.small = c.small
  gr : y.gr = c.gr
  so : y.so = c.so
  sk : y.sk = c.sk
  tl : y.tl = c.tl
structure LI [A1] [l9] (b : Nat) : a5 where
  dr : fP c s b
  scr : a1B
  gr : a1w
  so : a1x
  tl : a1y
  room : 1 ≤ f3 ∧ f3 ≤ 4
  row : ∀ a, 1 ≤ a → a < j → ∃ d, IA n c s d a
  rg : ∀ a, a < j → oD a = a3C
  F0 : s.F 0 = 1
  Fo : s.F hF = 1
  sl0 : s.SL 0 = pG j
theorem ir{n a d p:Nat}(hd:d=0\/d=2\/(a<n/\d=1))(H:1<=a)(O:a<=p)(L:a<n->a<p):∀v∈hV n a d,v= a1\/a1c:=by
 have o:∃f,f<2*p/\og (bS (aP a))= Ui:=⟨_,by unfold aP;refine a6n O a0,rfl⟩;have i:a<n->∃f,f<2*p/\og (bS (2*a))= Ui:=λh=>⟨_,by have:=L h;refine a06 b_ a0,rfl⟩;refine aJ (Q:=λv=>v=V.none\/a1c) λx J=> ? _
 cases Ty with
  |true=>
   rcases hd with e|e|e;. ext ea;exact hA
   . ext ea;exact ba o
   . exact rwL (e.2);exact ba (i e.1)
  |false=>
   cases c0 x (fb a)with
    |true=>exact ba o
    |false=>
     refine cO (Nat.blt a n&&c0 x (sF a)) b4 b4;. exact ba (i (SO (UK q).1))
     . exact hA
theorem sv{p:Nat}{f:Nat->V}(h:∀x,f x= a1\/∃y,y<2*p/\f x= a2 (bS y)):∀v∈aF f 4,a4O:=aJ (Q:=λv=>v=V.none\/a1c) λx J=>h x
theorem sx{j p:Nat}(H:eK)(O:j<=p):∀v∈pG j,a4O:=sv λx=>by cases Ty with|true=>exact ba ⟨0,by refine c6 (nat_lit 0x10a25000109101109001002) cb [] H O a0,rfl⟩|false=>cases S2 with|true=>exact ba ⟨hF,by unfold aP;refine a6n O a0,rfl⟩|false=>exact hA
theorem xG{j p:Nat}(H:eK)(O:j<p):∀v∈v4 j,a4O:=sv λx=>by cases Ty with|true=>exact ba ⟨0,by refine bn (nat_lit 0x10a2500010a001002) cb [] O a0,rfl⟩|false=>cases S2 with|true=>exact ba ⟨hF,by unfold aP;refine bn (nat_lit 0x10a251031125411000a100002) cb [] O a0,rfl⟩|false=>cases XX with|true=>exact ba ⟨gw,by refine a06 O a0,rfl⟩|false=>exact ba ⟨gw+1,by refine a6B O a0,rfl⟩
theorem Fg{j p:Nat}(O:j<p):∀v∈uE j,a4O:=sv λx=>by cases Ty with|true=>exact ba ⟨0,by refine bn (nat_lit 0x10a2500010a001002) cb [] O a0,rfl⟩|false=>cases S2 with|true=>exact hA|false=>cases XX with|true=>exact ba ⟨gw,by refine a06 O a0,rfl⟩|false=>exact ba ⟨gw+1,by refine a6B O a0,rfl⟩
theorem v5{n i p:Nat}[z2]{u g W:d_}{X:a5}(h:X):gq (XK W) X:=⟨by kernel_rfl,h⟩
theorem mx{j i:Nat}(h:j<=i):∀o∈uT j,∃l,o=ae.list l/\∀v∈l,∃k,k<i/\v= a2 (B1 k):=λo P=>by exact rwL (w6 P);exact⟨_,rfl,aJ (Q:=λv=>∃k,k<i/\v=og (B1 k)) λx Y=>⟨dn-x,by refine c6 (nat_lit 0x10a20410411000920000a001003) eb [] h Y a0,rfl⟩⟩
def Drawn(s U:St):a5:=∃gl Q a,U={s with gl:=gl,gi:=Q,at_:=a}
theorem Drawn.step{s U:St}(h:Drawn s U)(gl:b5):Drawn s (bQ U gl):=by refine GV h λa b c e=> ? _;clear h;subst e;exact⟨_,_,_,rfl⟩
theorem xH{c:Cf}{s a:St}{b j:Nat}(h:fP c s b)(hd:Drawn a s)(M:b+2<=10000){k:Cf->NY}(N:∀r t U,Drawn a U->fP c U (b+2)->0<=r->r<4->k (CN c j r t) U):Ku c j k s:=iZ h (ei (QY b 2) M) (by decide) λr gl V H D B=>kH (by refine a6f V H a0) (iZ B (ei (W1 _) M) (by decide) λt i J J J K=>N r t _ ((hd.step gl).step i) K V H)
theorem fP.le[z2]{b b':Nat}(h:fP c s b)(M:b<=b'):fP c s b':=⟨h.gi,h.gl,h.at0,G3 h.at1 (a0j M),h.sm,h.so⟩
theorem Kw{n j:Nat}[z2]{b:Nat}(h:fP c s b)(M:b+4<=10000){k:Cf->NY}(N:∀d r t U,Drawn s U->fP c U (b+4)->(d=0\/d=1\/d=2)->0<=r->r<4->k (CN c j r t) (Lv n j d U)):Ng n j c k s:=by
 refine iZ h (by refine a9H) (by decide) λr gl V H D B=> ? _;have e:Drawn s Pv:=⟨_,_,_,rfl⟩;refine cO (r==0) b4 b4
 .exact rwL ct;refine iZ B (by refine a9r) (by decide) λW a J J g K=> ? _;refine xH K (e.step a) (by refine a85) λx t U I X T f=>N _ x t U I X ? _ T f;cases W==0;. exact ba NT
  . exact Wj
 . exact rwL cf;exact xH B e (by refine a9d) λx t U I X T f=>N 0 x t U I (X.le (by refine pk (nat_lit 0x109341003213110001) a7 [] a0)) hA T f
theorem v6{n i p:Nat}[z2]{u g W:d_}[g_]{X:a5}(w:GL n i p c s u g W)(Z:bZ RJ v)(h:X):lq v (XK W) X:=⟨CO w,Z,h⟩
theorem GM{n i p j:Nat}[z2]{u g W:d_}(h:j<i):bZ RJ (a2 (B1 j)):= rv (by show((aF (λj=>a4Q a5e) i)[j]?).isSome=am;exact a3 aG Pa;rfl)
theorem CS{p:Id->a5}{a b:Int}:bZ p (hD [Pi,a4 b]):= hD _ λv Z=>by
 rcases nr Z with e|e;. ext ea;exact di
 . exact rwL (w6 e);exact di
theorem LI.lap{g B:d_}{k:Cf->NY}{n j b:Nat}[z2](h:LI n j c s b)(H:eK)(D:j<n)(M:b+4<=10000)(k8:∀o∈g,aH o)(j7:∀o∈B,aH o)(N:∀y U,LI n c_ y U (b+4)->fQ c y->k y U):Mu n j uT g B k c s:=by
 exact dl8 g B k n j b c s;have R:=h.room;have k7:∀{y:Cf}{U:St}{i p:Nat}{u g:d_},fP y U (b+4)->fQ c y->i<=n->(∀v∈U.SL 0,v= a1\/a1c)->(∀a,1<=a->a<=i->∀v∈U.SL a,v= a1\/a1c)->(∀o∈u,∃l,o= RD/\∀v∈l,∃j,j<i/\v= a2 (B1 j))->(∀o∈g,aH o)->GL n i p y U u g []:=λ{y U i p u g}d e W Z G S k8=>by exact aN d.gi λL g1 J=>⟨W,by exact rwL e.scr;exact h.scr,by exact rwL e.gr;exact h.gr,by exact rwL e.so;exact h.so,(L_ d.so).1,by exact rwL e.tl;exact h.tl,d.gl,(L_ g1).1,λa m=>(Nat.eq_zero_or_pos a).elim (λz=>z▸Z) λz=>G a z m,S,k8,λo P=>(by cases P)⟩
 have e7:∀{p:Nat},j<=p->∀a,1<=a->a<j->∀v∈s.SL a,v= a1\/a1c:=λO a G F=>by refine db (h.row a G F) λd r=> ? _;exact rwL r.sl;exact ir r.du G (by refine c6 (nat_lit 0x10910000910200a200003) eb [] O F a0) λJ=>by refine c6 (nat_lit 0x10a10000910200a200003) eb [] O F a0
 have l7:fQ c c:=a2K;have i5:=h.dr.le (QY b 4);have c7:dn+1=j:=Pk H;unfold Mu Fd;refine v5 ? _;exact a3 (S1 (Int.not_lt.mpr R.1)) cf;refine f7 (by refine a9P R.1 R.2 a0) ? _;have Q:(gV c j s (v4 j)).SL 0=v4 j:=by show NV 0 (v4 j) 0=_;exact ah
 have e8:∀a,1<=a->(gV c j s (v4 j)).SL a=s.SL a:=λa G=>by show NV 0 (v4 j) a=_;exact ag (RR G)
 have i7:fP c a3Q b:=⟨h.dr.gi,h.dr.gl,h.dr.at0,h.dr.at1,h.dr.sm,h.dr.so⟩;refine v6 (k7 (i7.le (QY b 4)) l7 (by refine bn (nat_lit 0x10910411000a100002) cb [] D a0) ? _ (λa G m=> ? _) (mx nl) k8) CS ? _;. exact rwL Q;exact xG H (F' j)
 . exact rwL (e8 a G);exact e7 (W1 j) a G (by refine c6 (nat_lit 0x10a10000b103114111009411100002) cb [] c7 m a0)
 refine v5 ? _;refine Kw i7 M λd r t U I X hd r0 Y=> ? _;have hd:d=0\/d=2\/(j<n/\d=1):=by rcases hd with e|e|e<;>simp [e,D]
 refine GV I λj9 l8 K w=> ? _;clear I;subst w;generalize E:Lv n j d {a3Q with gl:=j9,gi:=l8,at_:=K}=A;have sc:fQ c (CN c j r t):=a2K;have b0:A.SL 0=v4 j:=by ext SD;show af (NV 0 (v4 j)) j _ 0=_;exact a3 (ag (J' H)) ah;rfl
 have c9:A.SL j=hV n j d:=by ext SD;exact ah
 have c8:∀a,1<=a->a≠j->A.SL a=s.SL a:=λa G F=>by ext SD;show af (NV 0 (v4 j)) j _ a=_;exact a3 (ag F) (ag (RR G));rfl
 have C:fP (CN c j r t) A (b+4):=by ext SD;exact⟨X.gi,X.gl,X.at0,X.at1,X.sm,X.so⟩
 have l3:∀a,1<=a->a<=j->∀v∈A.SL a,v= a1\/∃f,f<2*c_/\v= Ui:=λa G m=>by
  exact bcH q (a=j);. exact a3 q c9;exact ir hd H (W1 j) λJ=>F' j
  . exact rwL (c8 a G q);exact e7 (W1 j) a G (QX m q)
 have i8:=OZ D;have u:∀o∈uT dn,∃l,o=ae.list l/\∀v∈l,∃k,k<j/\v= a2 (B1 k):=mx (Uf j 1);have f8:∀x,x≠hF->x≠gw->x≠gw+1->A.F x=s.F x:=λx i0 k9 j8=>by ext SD;show a6D x=_;exact w3 (ag k9) (ag i0) (ag j8) (ag k9);rfl
 have e6:A.F hF=bif c0 d 2 then 3 else 2:=by ext SD;show a6D hF=_;exact a3 (ag (LL dR)) ah;rfl
 have d8:A.F gw=bif c0 d 1 then 3 else 2:=by ext SD;exact ah
 have e9:A.F (gw+1)=1:=by ext SD;show a6D (gw+1)=_;exact ec (ag (by refine pk (nat_lit 0x1c0b2500311250001) a7 [] a0)) (ag (by ext a82)) ah;rfl
 have f9:∀a,a<c_->A.RG a=a3C:=λa m=>by
  ext SD;show af oD j _ a=_;exact bcH q (a=j);. exact a3 q ah;rfl
  . ext R_;exact h.rg a (QX (oc m) q)
 clear E i7 Q e8;refine v6 (k7 C sc i8 (by exact rwL b0;exact xG H (F' j)) l3 u j7) (GM (Nat.sub_lt H (by decide))) (v5 ? _);have m7:(dD A (uE j) hF).SL 0=uE j:=by show af A.SL 0 (uE j) 0=_;exact ah
 have j6:∀a,1<=a->(dD A (uE j) hF).SL a=A.SL a:=λa G=>by show af A.SL 0 (uE j) a=_;exact ag (RR G)
 refine v6 (k7 a2J sc i8 (by exact rwL m7;exact Fg (F' j)) (λa G m=>by exact rwL (j6 a G);exact l3 a G m) (mx (oa j)) j7) di (v5 ? _);have d9:(a2W gw).SL 0=pG c_:=by show af (af A.SL 0 (uE j)) 0 (pG c_) 0=_;exact ah
 have V:∀a,1<=a->(a2W gw).SL a=A.SL a:=λa G=>by show af (af A.SL 0 (uE j)) 0 (pG c_) a=_;exact a3 (ag (RR G)) (ag (RR G));rfl
 refine v6 (k7 a2J sc i8 (by exact rwL d9;exact sx (we j) nl) (λa G m=>by exact rwL (V a G);exact l3 a G m) (mx (oa j)) j7) di ? _;have m8:∀x,x≠hF->x≠gw->(a2W gw).F x=A.F x:=λx i0 k9=>by show af (af A.F hF _) gw _ x=_;exact a3 (ag k9) (ag i0);rfl
 have k5:(a2W gw).F hF=a22:=by
  show af (af A.F hF (A.F hF-1)) gw _ hF=_;exact ec (ag (LL dR)) ah e6;rcases hd with e|e|e;. ext PD
  . ext PD
  . exact rwL (e.2);rfl
 have i9:(a2W gw).F gw=a5a:=by show af (af A.F hF _) gw (af A.F hF _ gw-1) gw=_;exact ec ah (ag dR) d8;cases c0 d 1<;>rfl
 refine N _ _ ⟨a2J,h.scr,h.gr,h.so,h.tl,h.room,λa G F=> ? _,f9,? _,? _,d9⟩ sc
 .exact bcH q (a=j);. ext OI;refine⟨d,by exact a3 (V j H) c9;rfl,hd,λJ=>i9,k5,? _⟩;show 1<=af c.sz j (1+r) j/\af c.sz j (1+r) j<=4;ext P3;refine a6m r0 Y a0
  .have k6:a<j:=QX (oc F) q;refine db (h.row a G k6) λm6 r=> ? _;have i6:2*a≠hF:=dR;have l6:aP a≠hF:=sj G H q;refine⟨m6,by exact a3 (V a G) (c8 a G q);exact r.sl,r.du,RY,? _,? _⟩;. exact a3 (m8 _ i6 (by refine bn (nat_lit 0x1c0b25102500c0b100002) cb [] q a0)) (f8 _ i6 (by refine bn (nat_lit 0x1c0b25102500c0b100002) cb [] q a0) (by refine bn (nat_lit 0x1c0b311251025000a100002) cb [] k6 a0));exact r.fr T
   . exact a3 (m8 _ l6 (LL dR)) (f8 _ l6 (LL dR) (by unfold aP;refine c6 (nat_lit 0x1c0b311251031125411000a3111000c0b100002) cb [] F q a0));exact r.fw
   . show 1<=af c.sz j _ a/\af c.sz j _ a<=4;ext R_;exact r.sz
 . exact a3 (m8 0 (XL _).symm (by refine bn (nat_lit 0x1c0b25000109001101) a7 [] H a0)) (f8 0 (XL _).symm (by refine bn (nat_lit 0x1c0b25000109001101) a7 [] H a0) (by refine pk (nat_lit 0x1c0b31125000101) a7 [] a0));exact h.F0
 . have e:aP c_=gw+1:=rfl;exact a3 e (m8 _ (by ext a82) (by refine pk (nat_lit 0x1c0b2500311250001) a7 [] a0));exact e9
section E
section
set_option backward.match.sparseCases false
open PySem
structure dJ [LR] (b : Nat) : a5 where
  dr : fP c s b
  row : ∀ a, 1 ≤ a → a ≤ n → ∃ d, IA n c s d a
  rg : ∀ a, a < n → oD a = a3C
  F0 : s.F 0 = 1
  sl0 : s.SL 0 = VD
  ls : 1 ≤ c.lsz ∧ c.lsz ≤ 4
theorem Kx[SA]{b:Nat}(h:fP c s b)(M:b+4<=10000){k:Cf->NY}(N:∀d r t U,Drawn s U->fP c U (b+4)->(d=0\/d=2)->0<=r->r<4->k a2j (Lw n d U)):Nh n c k s:=by
 refine iZ h (by refine a9H) (by decide) λr gl V H D B=> ? _;have e:Drawn s Pv:=⟨_,_,_,rfl⟩;refine cO (r==0) b4 b4;. exact rwL ct;exact iZ B (by refine a9r) (by decide) λW a J J g K=>xH K (e.step a) (by refine a85) λx t U I X T f=>N 2 x t U I X NT T f
 . exact rwL cf;exact xH B e (by refine a9d) λx t U I X T f=>N 0 x t U I (X.le (by refine pk (nat_lit 0x109341003213110001) a7 [] a0)) hA T f
theorem LI.last{g:d_}{k:Cf->NY}{n b:Nat}[z2](h:LI n n c s b)(B:l4)(M:b+5<=10000)(e7:∀o∈g,aH o)(N:∀y U,dJ n y U (b+5)->fQ c y->k y U):Mw n g k c s:=by
 exact dl6 g k n b c s;have i7:Iw n s=s:=by unfold Iw;exact ec (ax h.sl0) (ax h.F0) (ax h.Fo);rfl
 unfold Mw;exact rwL i7;have p:1<=n:=PI B;have i5:∀a,1<=a->a<n->∀v∈s.SL a,v= a1\/∃f,f<hG/\v= Ui:=λa G F=>by refine db (h.row a G F) λd r=> ? _;exact rwL r.sl;exact ir r.du G (OZ F) λh=>h
 refine v5 (Kx h.dr (ei (W1 _) M) λd r t U I X hd r0 Y=> ? _);refine GV I λi c7 K w=> ? _;clear I;subst w;generalize E:Lw n d {s with gl:=i,gi:=c7,at_:=K}=A;have sc:fQ c a2j:=a2K;have C:fP a2j A (b+4):=by ext SD;exact⟨X.gi,X.gl,X.at0,X.at1,X.sm,X.so⟩
 have i0:A.SL n=hV n n d:=by ext SD;exact ah
 have d9:∀a,a≠n->A.SL a=s.SL a:=λa F=>by ext SD;exact ag F
 have i9:∀x,x≠Pe->A.F x=s.F x:=λx j6=>by ext SD;exact ag j6
 have f8:A.F Pe=bif c0 d 2 then 3 else 2:=by ext SD;exact ah
 have i8:A.RG=oD:=by ext SD;rfl
 have O:d=0\/d=2\/(n<n/\d=1):=hd.imp id b7
 have W:∀a,1<=a->a<=n->∀v∈A.SL a,v= a1\/∃f,f<hG/\v= Ui:=λa G m=>by
  exact bcH q (a=n);. exact a3 q i0;exact ir O p (oa n) λh=>h
  . exact rwL (d9 a q);exact i5 a G (QX m q)
 clear E
 have d8:∀{U:St}{u:d_},fP a2j U (b+4)->(∀v∈U.SL 0,v= a1\/∃f,f<hG/\v= Ui)->(∀a,1<=a->U.SL a=A.SL a)->(∀o∈u,∃l,o= RD/\∀v∈l,∃j,j<n/\v= a2 (B1 j))->GL n n n a2j U u g (Kv n):=λ{U u}d f9 G S=>by
  exact aN d.gi λL g1 J=>⟨oa n,h.scr,h.gr,h.so,(L_ d.so).1,h.tl,d.gl,(L_ g1).1,λa m=>(Nat.eq_zero_or_pos a).elim (λz=>z▸f9) λz=>by exact rwL (G a z);exact W a z m,S,e7,λo P=>by
   rcases nr P with e|e
   .ext ea
    exact⟨_,rfl,λv Z=>by
     rcases nr Z with e|e;. exact b7 e
     . exact ba ⟨_,w6 e⟩⟩
   . exact rwL (w6 e);exact⟨_,rfl,λv Z=> ba ⟨_,w6 Z⟩⟩⟩
 refine v6 (d8 C (by exact a3 (d9 0 (J' p)) h.sl0;exact sx p (oa n)) Q9 (mx (Uf n 1))) (GM (Nat.sub_lt p (by decide))) (v5 ? _);have e9:(dD A VD Pe).SL 0=VD:=by show af A.SL 0 _ 0=_;exact ah
 have Q:∀a,1<=a->(dD A VD Pe).SL a=A.SL a:=λa G=>by show af A.SL 0 _ a=_;exact ag (RR G)
 refine v6 (d8 a2J (by exact rwL e9;exactλv Z=>(nr Z).elim (λe=> ba ⟨0,Nat.mul_pos (by decide) p,e⟩) λZ=> b7 (by ext a4u;exact Z)) Q (mx (oa n))) di ? _;have e6:fP a2j (dD A VD Pe) (b+4):=a2J;refine iZ e6 (ei (W1 _) M) (many:=4) (by decide) λe8 gl V H D f7=>kH (by refine a6f V H a0) (N _ _ ⟨⟨f7.gi,f7.gl,f7.at0,f7.at1,f7.sm,f7.so⟩,λa G T=> ? _,λa T=> ? _,? _,e9,? _⟩ a2K)
 .have i6:∀x,x≠Pe->(bQ (dD A VD Pe) gl).F x=A.F x:=λx j6=>by show af A.F Pe _ x=_;exact ag j6
  have c8:(bQ (dD A VD Pe) gl).F Pe=a22:=by show af A.F Pe (A.F Pe-1) Pe=_;exact a3 ah f8;rcases hd with e|e<;>(ext PD)
  exact bcH q (a=n);. subst q;refine⟨d,(Q a G).trans i0,O,λz=>b6 z (VU a),c8,? _⟩;show 1<=af c.sz a (1+r) a/\af c.sz a (1+r) a<=4;ext P3;refine a6m r0 Y a0
  .refine db (h.row a G (QX T q)) λc9 R=> ? _;refine⟨c9,(Q a G).trans ((d9 a q).trans R.sl),R.du,D_,? _,? _⟩;. exact a3 (i6 _ dR) (i9 _ dR);exact R.fr z
   . exact a3 (i6 _ (sj G p q)) (i9 _ (sj G p q));exact R.fw
   . show 1<=af c.sz n (1+r) a/\af c.sz n (1+r) a<=4;ext R_;exact R.sz
 . show A.RG a=_;exact rwL i8;exact h.rg a T
 . show af A.F Pe (A.F Pe-1) 0=1;have z:0≠Pe:=(XL _).symm;exact a3 PG (i9 0 z);exact h.F0
 . show 1<=1+e8/\1+e8<=4;refine a6m V H a0
section E
section
set_option backward.match.sparseCases false
open PySem
def iu(g:Nat->ae)(j x:Nat):ae:=bif c0 x (2*dn)then bC [a4 (sF j),a4 (fb j)]else bif c0 x (2*dn+1)then bC [l1,a4 (fb c_)]else g x
theorem xI{g:Nat->ae}[mv](h:eK):Mt g j=aF (iu g j) gw:=by
 obtain⟨k,rfl⟩:∃k,j=bm:=⟨dn,(Pk h).symm⟩;show aF g (2*k)++cb=(aF (iu g bm) (2*k)++[iu g bm (2*k)])++[iu g bm (2*k+1)];have Q:aF g (2*k)=aF (iu g bm) (2*k):=dz λx Y=>by unfold iu;exact a3 (fR (show x≠2*(bm-1)from J' Y)) (fR (show x≠2*(bm-1)+1 from J' (TS Y)));rfl
 have a:iu g bm (2*k)= bC [a4 (sF bm),a4 (fb bm)]:=by unfold iu;rewrite [XD];ext Wv
 have u:iu g bm (2*k+1)= bC [l1,a4 (fb (bm+1))]:=by unfold iu;rewrite [XD];exact rwL (fR (a31 _));ext Wv
 exact ec Q a u;rewrite [List.append_assoc];rfl
theorem pH{g:Nat->ae}[mv](h:∀x,aH (g x))(x:Nat):aH (iu g j x):=by
 have two:∀a b:Int,aH (bC [Pi,a4 b]):=λa b=>⟨_,rfl,λv Z=>by
  rcases nr Z with e|e;. exact⟨_,e⟩
  . exact⟨_,w6 e⟩⟩;unfold iu;cases c0 x (2*dn)with|true=>exact two _ _|false=>cases c0 x (2*dn+1)with|true=>exact two _ _|false=>exact h x
theorem my{g:Nat->ae}{m:Nat}(h:∀x,aH (g x)):∀o∈aF g m,aH o:=aJ λx J=>h x
theorem fQ.trans{a b c:Cf}(h:fQ a b)(h':fQ b c):fQ a c:=⟨h'.scr.trans h.scr,h'.room.trans h.room,h'.text.trans h.text,h'.small.trans h.small,h'.gr.trans h.gr,h'.so.trans h.so,h'.sk.trans h.sk,h'.tl.trans h.tl⟩
theorem LI.pre{n j:Nat}[z2]{b:Nat}(h:LI n j c s b):Fe j s=s:=by unfold Fe;exact ec (ax h.sl0) (ax h.F0) (ax h.Fo);rfl
theorem CT[tz]{G W a:Int}[v1](h:¬G+k<W){f:ii->E Y}[C_](N:f ap K X m):(fu (Uu a) k>>=f) K X m:=by show a6q;exact rwL Rt;exact N
theorem Fh[tz]{G W a:Int}[v1](h:G+k<W){v:Int}(e:G+k=v){f:ii->E Y}[C_](N:f (aj (a4 v)) K X m):(fu (Uu a) k>>=f) K X m:=by show a6q;exact a3 Pa e;exact N
theorem zu[e3](F:l4)(S:kT){f:Nat}[l2]:∀(d j:Nat)[l9](g:Nat->ae)(b:Nat)(K:lR),eK->d+j=n->LI n j c s b->b+4*d<=9000->(∀x,aH (g x))->(∀y U Y,LI n n y U (b+4*d)->fQ c y->(∀x,aH (Y x))->K (hH,zK n n) (ML n w5 n y U (uT w5) (aF Y (2*w5)) []))->a7e (d+1) dn ⟨xF,zK n j,[]⟩ K X (ML n dn j c s (uT dn) (aF g (2*dn)) []):=λd=>by
 induction d with
  |zero=>intro j c s g b K H hd h M D N;have hd:j=n:=(Ow j).symm.trans hd;subst hd;exact rwL fe;exact CT (by refine pk (nat_lit 0x1c1a41170037411000101) a7 [] a0) (N c s g h a2K D)
  |succ d G=>
   intro j c s g b K H hd h M D N;have L:j<n:=by refine bn (nat_lit 0x10a10000b103003112003) eb [] hd a0
   exact rwL fe;refine Fh (by refine c6 (nat_lit 0x11a4117103741100010900110b103003112003) eb [] H hd a0) (WU _) ? _;have B:=Ff n j F S H L f c s g (λr=>match r with|kE|Yg=>a7e (d+1) (dn+1) ⟨xF,loc,[]⟩|Yq=>a_ kE|f=>a_ f) K X;replace B:=h.pre▸B;refine B.mpr (h.lap H L (by refine bn (nat_lit 0x1090000271023410009000023282345311100002) cb [] M a0) (my D) (by exact rwL (xI H);exact my (pH D)) λy U h' sc=> ? _);have e:=G c_ y U (iu g j) (b+4) K (we j) (by refine bn (nat_lit 0x10b20331110000b203103110003) eb [] hd a0) h' (by refine bn (nat_lit 0x109000023282345103410009000023282345311100002) cb [] M a0) (pH D) λu t Y k q p=>N u t Y (by exact rwL (show b+4*(d+1)=b+4+4*d by refine pk (nat_lit 0x10b3451034100345311100002) cb [] a0);exact k) (sc.trans q) p;rewrite [XD]at e;replace e:=G' (xI H)▸e;exact rwL (Pk H);exact e
theorem Fi(f n:Nat)[l9](u g W:d_)[V5]:r3 gI (f+16) (hQ QZ) [z',Jb,Jc,t5] K X (ML n 0 0 c s u g W)=aB (Z8 40) kJ a9z (hW K X) X (ML n 0 0 c s u g W):=by kernel_rfl
theorem Fj[w'][f0](G:lR)[Qe]:U4 ((kJ.drop 2).take 1) a3H G X m=(bV (t3-1)>>=a8n) G X m:=by
 have S:∀(x:E m_)(a:lR),a=G->x a X m=x G X m:=λx a e=>by ext PD
 rewrite [Iy];refine S _ _ (funext λr=>funext Xf);obtain⟨f,loc⟩:=r;cases f<;>rfl
theorem CU[z2]{f:Nat}{R:si}[l2]{n b:Nat}(F:l4)(S:kT)(hd:fP c s b)(M:b<=100)(C:a1B)(D:a1w)(P:a1x)(I:a1y)(A:1<=f3/\f3<=4)(N:∀y U,dJ n y U (b+30)->fQ c y->R XR (MS n y (iq n U))):r3 gI (f+16) (hQ QZ) [z',Jb,Jc,t5] (Lx n R) X Vp:=by
 exact dl7 c s f R X n b;rewrite [Fi];have B:kJ=kJ.take 2++kJ.drop 2:=by kernel_rfl
 have K:kJ.drop 2=(kJ.drop 2).take 1++kJ.drop 3:=by kernel_rfl
 exact a3 B cE;have H:1<=n:=PI F;have k:fP c a2z b:=⟨hd.gi,hd.gl,hd.at0,hd.at1,hd.sm,hd.so⟩;have j:LI n 1 c a2z b:=⟨k,C,D,P,I,A,λa G T=>b6 G (a3Z T),λa m=>by have:a=0:=Nat.lt_one_iff.mp m;subst this;show af oD 0 a3C 0=_;exact ah,by show af (O4 0 1) 1 1 0=1;exact a3 (ag (by decide)) ah;rfl,by show af (O4 0 1) 1 1 1=1;exact ah,by show af (NV 0 WI) 0 (pG 1) 0=pG 1;exact ah⟩;refine(Ix n F S f c s _ X).mpr (v5 ? _);unfold Fd;exact a3 (S1 (Int.not_lt.mpr A.1)) cf;refine f7 (by refine a9P A.1 A.2 a0) ? _;have W:GL n 0 1 c a2z [] [] []:=by exact aN hd.gi λL g1 J=>⟨p1,C,D,P,(L_ hd.so).1,I,hd.gl,(L_ g1).1,λa m=>by have:a=0:=Nat.le_zero.mp m;subst this;exact rwL j.sl0;exact sx (oa 1) (oa 1),λo P=>((by cases P)),λo P=>((by cases P)),λo P=>((by cases P))⟩
 refine v6 W CS ? _;show aB (Z8 40) (kJ.drop 2) a3H (hW (Lx n R) X) X _;exact a3 K cE;rewrite [Fj]
 have g:=zu F S (f:=f) (X:=wj) w5 1 c _ (λJ=> ej) b (λr m'=>(λ(r:m_)m'=>(match r with|kE=>aB (Z8 40) (kJ.drop 3) ⟨xF,loc,[]⟩|f=>a_ f:E m_) (hW (Lx n R) X) X m') r m') (oa 1) (by refine bn (nat_lit 0x10b003114110009002101) a7 [] F a0) j (by refine c6 (nat_lit 0x1090000232823454111000095110090000006420002) cb [] S M a0) (λJ=>⟨[],rfl,λv Z=>(by cases Z)⟩) λy U Y h' sc p=>by
  have x:=Iz n F S f y U (aF Y (2*w5)) R X;have h:Iw n U=U:=by unfold Iw;exact ec (ax h'.sl0) (ax h'.F0) (ax h'.Fo);rfl
  replace x:=h▸x;refine x.mpr (h'.last F (by refine c6 (nat_lit 0x1090000271023513454111000095110090000006420002) cb [] S M a0) (my p) λu t l q=>N u t ⟨l.dr.le (by refine bn (nat_lit 0x10930000001e200351345411100009511002) cb [] S a0),l.row,l.rg,l.F0,l.sl0,l.ls⟩ (sc.trans q))
 have g:a7e (w5+1) 0 a3H _ wj a7x:=g;have d:(t3-1-0).toNat=w5:=by rewrite [Zs];exact Int.toNat_sub n 1
 have O: Uv<=t3-1/\t3-1<=1000000:=by refine bn (nat_lit 0x1e19000f42402411700194117008000f4240209510001) a7 [] S a0
 have w:bg CQ (o_ (t3-1) 1)=am:=by
  have e:bg CQ (o_ (t3-1) 1)=bg CQ (o_ 0 1):=by kernel_rfl
  ext Zp
 generalize a7x=m0 at g⊢;generalize t3-1=z at*;refine bX (i:=z) (aQ O) (dc (a:=V.rng 0 z 1) (aV ⟨by decide,by decide,O⟩ (dc (Bx w ? _))));exact rwL d;exact g
section E
section
set_option backward.match.sparseCases false
open PySem
def mA[Px](j:b5)(T gl:d_)(Q:Nat)(a:Int):St:={iq n s with came:=Oi,gone:=Oi,left:=n,out:=[],pv:=j,pl:=T,rd:=[],re:=[],gl:=gl,gi:=Q,at_:=a}
theorem qU[v1]:∀[e3],bI (λJ=>k) n=n*k:=λ{n}=>by induction n with|zero=>exact(Nat.zero_mul k).symm|succ n G=>show bI _ n+k=_;exact rwL G;rewrite [Nat.succ_mul];rfl
theorem IB{F:ki}:∀[e3],(∀i,i<n->fO F i=am)->aF (λi=>qm i) n=dL F n:=λ{n}=>by induction n with|zero=>exact hS|succ n G=>intro h;show aF _ n++[qm n]=dL F n++(bif fO F n then [qm n]else []);ext a6M
theorem v7{u:cv}{p:u->b2}{l:dk u}(h:∀v∈l,p v=am):l.filter p=l:=List.filter_eq_self.mpr h
theorem dJ.start{u:b5}{T gl:d_}{Q:Nat}{a:Int}{n b R:Nat}[z2](h:SF s b)(C:gt n R c)(k:∀o∈gl,aH o)(g:∃L,gl[Q]? =T7/\cZ L)(G:GE n (mA n s u T gl Q a)):∃A,da n R c A (mA n s u T gl Q a) (λJ=> ft) Oi Oi:=by
 exact gs u T gl Q a n b R c s
 have E:∀a,∃d,1<=a->a<=n->IA n c s d a:=λa=>by
  exact bcH q (1<=a/\a<=n);. exact db (h.row a q.1 q.2) λd r=>⟨d,λJ J=>r⟩
  . exact⟨0,λx y=>b6 ⟨x,y⟩ q⟩
 refine db (Classical.axiomOfChoice E) λA O=> ? _;have p:1<=n:=PI C.n2
 have m:∀j,j<n->(s.F gw !=0)=am:=λj D=>by
  ext Zj;. exact a3 z (show s.F (2*0)=1 from h.F0);rfl
  . exact rwL ((O j (Pl z) (OZ D)).fr D);cases c0 (A j) 1<;>rfl
 have t:∀j,eK->gp->(s.F hF !=0)=am:=λj H D=>by exact rwL ((O j H D).fw);cases lj 2 (A j)<;>rfl
 have F:∀f,f<hG->(s.F f !=0)=am:=λf w=>by
  rcases Nat.mod_two_eq_zero_or_one f with q|q;. have:=m (f/2) (by lia);replace this:=(show 2*(f/2)=f by lia)▸b_;exact b_
  . have:=t (f/2+1) (we _) (by lia);replace this:=(show aP (f/2+1)=f by unfold aP;lia)▸b_;exact b_
 have e:sJ n s.F=YZ hG:=v7 (aJ (Q:=λv=>M9 s.F v=am) λf w=>F f w);have l:∀j,al (λJ=>CR) j=am:=hS;refine⟨A,⟨⟨λj D=>⟨λJ=>⟨OA,λq=>O9 q⟩,λJ=>⟨OA,OA⟩,OA,λJ=>⟨oa 0,Q8 _,Q8 _⟩,λJ J J=>⟨0,rfl,oa 0,b7 s4,a1C,hS⟩,OA,OA,(λJ J q=>by exact sK q),λJ v J q=>(bG q),λJ v q=>(bG q),λJ q=>O9 q,λq=>(cT q)⟩,OA,λj J J q=>(cT q)⟩,V4,V4,⟨hA,? _,w8,? _,λo P=>((by cases P))⟩,w8,λJ J J=>rfl,Q9,⟨rfl,λJ=>s4,λv q=>(bG q)⟩,a1C,? _,⟨⟨? _,? _⟩,k,g,(λo P=>((by cases P))),(λo P=>((by cases P)))⟩,G⟩⟩;. induction j using Qn with|zero=>exact rfl|succ j=>refine⟨O5,λv q=>(bG q)⟩;show PS n n c_=_;unfold PS;exact rwL (a5y D);rfl
 .show Dw n (A j) ap (s.SL j) (s.F gw) (s.F hF) j;refine⟨D_,λH=> ? _⟩;. subst z;exact⟨h.sl0,h.F0⟩
  . have r:=O j H D;exact⟨r.sl,r.du,r.fr,r.fw⟩
 . show([ae.list (YZ hG)]:d_)[0]? =aj (bC (sJ n s.F));ext PD
 . show am=(s.F (2*i)!=0)/\am=Z9;exact⟨(F _ (by refine a06 W a0)).symm,(F _ (by refine a6B W a0)).symm⟩
 . exact IB λi W=>by show(s.F (2*i)!=0||Z9)=am;exact rwL (F (2*i) (by refine a06 W a0));rfl
 . refine⟨rfl,rfl,? _,λx J Y=>b6 Y (Qk x)⟩;show(oD i).length=R;exact ec (h.rg i W) List.length_replicate C.ro;rfl
 . show t3=(bI (λJ=>1) n:Nat);exact rwL qU;rewrite [Nat.mul_one];rfl
 . show hG+4<=(Lu (4*n+4)).length;unfold Lu;ext QF;refine pk (nat_lit 0x1093414500341250001) a7 [] a0
 .exact aJ (Q:=aH) λx J=>by
   show aH (if x%2=0 then _ else _);exact bcH z (x%2=0);. exact rwL vh;exact a7f
   . ext Vo;exact⟨_,rfl,λv Z=>⟨0,a2T⟩⟩
theorem Fk{n L p:Nat}(S:kT)(U:L<=10)(B:n*L<=20)(O:p<=4):y7 n L (λJ=>CR) (λJ=> ft) Oi Oi+p<250:=by
 have e:y7 n L (λJ=>CR) (λJ=> ft) Oi Oi=cp*(13+4*L):=by unfold y7;rewrite [fA (g:=λJ=>13+4*L) λi J=> ? _,qU];rfl;show 1+(12+2*(L-0)+2*(L-0))=13+4*L;refine pk (nat_lit 0x10b34500d133254010032540100c11101) a7 [] a0
 ext ea;rewrite [Nat.add_mul];rewrite [Nat.mul_add];rewrite [Nat.mul_left_comm];refine lin4 (nat_lit 0x10a000000fa233031534520d134510d60009510009a120090000001421009413004) Rb [] S U B O a0
section E
section
set_option backward.match.sparseCases false
open PySem
def uG:UU:=[(0,ap),(3000000,ap),(2000000,aj 6),(597,ap),(598,ap)]
def GN[f0][wl]:E V:=λK X m=>(match(bif lj 1 n then uC a6 else ap)with|eI=>Vs|ap=>gj)\/L1 n Oq a6 K X m
def lO(cl f:Str)[f0][wl]:w9:=bif VK then(bif f==(Qu:Str)then aj (Dx uG (r3 dZ n (hQ Qu) a6))else bif f==(T9:Str)then aj (GN n a6)else bif f==(Qt:Str)then aj (r3 dZ n (hQ Qt) a6)else bif f==(QZ:Str)then aj (λK X m=>∃A,Dx (rX A) (r3 gI n (hQ QZ) a6) K X m)else aj (L1 n Ul a6))else bif cl==(fI:Str)&&f==Yz then aj (Dx uD (r3 dZ n (OH qi) a6))else aj (L1 n Ul a6)
abbrev eQ[jm]:aD:=r3 (jF lO) G_
def M2[LR]:ac:=⟨[(0,[F2 c.scr]),Xw,(2000000,[f2 (aj z'),f2 Xl,f2 (aj (ek N0)),PB,PB,PB]),(597,c.gr),a6c,(601,s.gl),(725,c.tl)]⟩
theorem IC:∀n:Nat,l4->kT->∀[jm][l9](b0:Bool)(G:lR)(X:ef),TU ((kj 3).take 5) ⟨iY,[UY,(ZC,hP b0),("room",a4 f3)],aU⟩ G X (M2 n c s)=((am=am)/\(Sc Vp/\bZ (ao Vp) a1/\G (hH,[UY,(ZC,hP b0),("room",a4 f3),("table",jy),("files",Ru)]) Vp)):=by refine VS<;>(ext Q5)
section E
section
set_option backward.match.sparseCases false
open PySem
abbrev mB(i:Int):Int:=if i<0 then-i else i
def Ky:e_:=bq "" Qu
def NG:hC->hC| .Dict _ vs _=>(match vs with|_:: .BoolOp _ (e::_) _::_=>e|_=>w0)|_=>w0
def qn:Lc:=Du (uf Ky 1)
def qo:Lc:=Du (NG (JI Ky 2))
def Fn(R:gN)(d:Nat)(c:Lc)(src:V):E V:=TM>>=λn=>if(bg c.tgt src&&bJ c.sc)=am then ci d ej>>=λi=>cF (dx R c.elt c.tgt c.ifs src i cp 0 ⟨c.sc,[],[]⟩)>>=Y9 else a8
theorem Kz[w'][p3]:bA hN bj (hQ Qu) [OW] K X m=(km 596 OW a1 (a4 40) a1>>=λcs=>Fn Vh 597 qn cs>>=λg=>ci 598 (.sd [])>>=λd=>(Fn (O2 36) 598 qo cs>>=λsm=>cG sm>>=λt=>gm t (a_ sm) (ci 598 NL>>=λj=>a_ (a2 j)))>>=λsm=>aX d>>=λo=>match o with| .sd []=>cQ d (.sd [(RX,g),(UB,sm),("at",l1)])>>=λJ=>a_ (a2 d)|_=>a8) K X m:=by kernel_rfl
theorem KA[w'](w:ii)(u:Int)[UL]:(cV qn.tgt Qd ⟨qn.sc,hJ "cell" w,[]⟩>>=λloc=>bK Vh .And qn.ifs ⟨qn.sc,loc,[]⟩>>=T4) K X m=(gm (fl (T2 Pb<=mB u)) TA A'>>=λb=>G [("cell",Qd)] b) K X m:=by ext UV
theorem KB[w'](u:Int)[a1j]:((O2 38).ev qn.elt ⟨qn.sc,[("cell",Qd)],[]⟩>>=G) K X m=(bV (xz (mB u) Zl)>>=G) K X m:=by kernel_rfl
theorem KC[w'](w:ii)(u:Int)[UL]:(cV qo.tgt Qd ⟨qo.sc,hJ "cell" w,[]⟩>>=λloc=>bK (O2 36) .And qo.ifs ⟨qo.sc,loc,[]⟩>>=T4) K X m=(gm (fl (mB u<T2 Pb)) TA A'>>=λb=>G [("cell",Qd)] b) K X m:=by ext UV
theorem KD[w'](u:Int)[a1j]:((O2 36).ev qo.elt ⟨qo.sc,[("cell",Qd)],[]⟩>>=G) K X m=G Qd K X m:=by kernel_rfl
theorem CV{R:gN}[Ol]{c:Lc}{j:Id}{L:b5}[f_][N2]{p:OO}{f:V->V}[a2S](D:m.H j=T7)(T:PV<=1000)(r:(bg c.tgt (a2 j)&&bJ c.sc)=am)(M:∀v,v∈L->∀(w:ii)[UL],G [(x,v)] (p v) K X m->(cV c.tgt v ⟨c.sc,hJ x w,[]⟩>>=λloc=>Yw c.ifs ⟨c.sc,loc,[]⟩>>=T4) K X m)(y:∀v,v∈L->∀[a1j],G (f v) K X m->(R.ev c.elt ⟨c.sc,[(x,v)],[]⟩>>=G) K X m)(N:F (a2 VQ) K X (v2 d (bC ((L.filter p).map f)))):(Fn R d c (a2 j)>>=F) K X m:=by
 refine gD D (dE r ? _);have W:(v2 d ej).H VQ=Rx:=by ext SW
 show dx R c.elt c.tgt c.ifs (a2 j) VQ (PV+1) 0 ⟨c.sc,[],[]⟩ _ wj (v2 d ej);exact rwR (fX W);refine fK (x:=x) (p:=p) (f:=f) (o:= ej) W ? _ ? _ ? _ T ? _;. intro acc k G A;rw [dI]at A⊢;exact ff (aT D) A
 . exactλacc k v Z w G A=>M v (SP Z) w G _ _ _ A
 . exactλacc k v Z J G A=>y v (SP Z) G _ _ _ A
 . exact rwL dI;exact N
section E
section
set_option backward.match.sparseCases false
open PySem
def v8(I:b5)(r:M_):ac:=⟨(0,[F2 I])::Xw::(2000000,[PB,PB,PB,PB,PB,PB])::r⟩
def MT(I gl:b5)(y:d_)(E:Nat):ac:=v8 I [Zz,(598,bD T_ (Ov (E+1)) 0::y)]
def CW:OO| Qd=>fl (T2 Pb<=mB u)|_=>av
def ID:V->V| Qd=> a4 (xz (mB u) Zl)|v=>v
def zv:OO| Qd=>fl (mB u<T2 Pb)|_=>av
theorem Fp(z:Int){B:Int}(h:0<B):0<=xz z B/\xz z B<B:=by exact rwL (Int.fmod_eq_emod_of_nonneg _ (Int.le_of_lt h));exact⟨Int.emod_nonneg _ (Int.ne_of_gt h),Int.emod_lt_of_pos _ h⟩
theorem CX(z:Int):0<=xz z Zl/\xz z Zl<10^130:=by
 have h:=Fp z (B:=Zl) (by ext ij);have e:Zl<=10^130:=by ext ij
 exact⟨h.1,a1H h.2 e⟩
theorem IE{u B:Int}(h:mB u<B): -B<=u/\u<=B:=by unfold mB at h;split at h<;>lia
theorem GO{I gl:b5}{y:d_}{E:Nat}(Y:∀v∈I,UX)(D:∀v∈gl,UX)(b:∀o∈y,aH o)(N:E<y.length):Sc (MT I gl y E):=λi o e=>by
 ext X0;generalize B:ao (MT I gl y E)=q;have a:bZ q (a2 T_):=B▸rv (show((MT I gl y E).H T_).isSome=am by kernel_rfl);have K:bZ q (a2 (Ov (E+1))):=B▸rv (by show(y[E]?).isSome=am;rewrite [F4 N];rfl);have A:∀{l:b5},(∀v∈l,UX)->∀v∈l,bZ q v:=λh v Z=>by refine db (h v Z) λi e=> ? _;ext ea;exact f6
 have S:zd (kr q) (MT I gl y E).L:=⟨mV (a:= F2 I) (A Y),λo P=>by ext a4p,λo P=>by ext a4p,mV (a:= Ud) (A D),λo P=>(nr P).elim (λe=>e▸ke (by exact⟨a,K,di,ep⟩)) λP=>by refine aN (b o P) λl U=> ? _;ext W0;exact A h,ep⟩;exact jO S o (SP (show(hK (MT I gl y E).L)[j]? =ck from e))
theorem IF(I cs gl W:b5)[V5]:(a8S>>=a77) K X (v8 I [Zf,Zz,(598,[.sd [],bC W])])=(nd (W.length<=16777216) (bL (! W.isEmpty) (K z' (v8 I [Zf,Zz,(598,[bD T_ (Ov 1) 0,bC W])])) (K z' (v8 I [Zf,Zz,(598,[bD T_ (Ov 2) 0,bC W,NL])])))):=by kernel_rfl
theorem Fq[jm][p3]:r3 dZ OQ (hQ Qu) [OW] K X m=bA hN (r3 dZ f) (hQ Qu) [OW] K X m:=by kernel_rfl
theorem CY:(bg qn.tgt (a2 (bv 596 0))&&bJ qn.sc)=am/\(bg qo.tgt (a2 (bv 596 0))&&bJ qo.sc)=am:=⟨by kernel_rfl,by kernel_rfl⟩
theorem zw{f:Nat}{I:t4}{K:si}[l2](Y:kN<=63)(N:∀gl y E sm,cZ gl->j9 sm->a3G->(∀o∈y,aH o)->K z' (MT Zy gl y E)):Dx uG (r3 dZ OQ (hQ Qu) [OW]) K X (v8 Zy []):=by
 exact dl4 f I K X;refine⟨by kernel_rfl,? _⟩;rewrite [Fq];rewrite [Kz];have l:∀v∈I.map j1,UX:=λv Z=>by exact aN (WJ Z) λi J e=>⟨i,e.symm⟩
 have T:(I.map j1).length<=63:=by rewrite [a0n];exact Y
 generalize I.map j1=L at*;show(i4 ((ap:x0)≠t_/\PV<=16777216) (ci 596 (bC (bO L ap (aj (40:Nat)) ap))>>=λi=>a_ (og i))>>=_) _ _ (v8 L []);refine aV ⟨by decide,ei T (by decide)⟩ ? _;exact rwL kF;have c:∀v∈L.take 40,UX:=λv Z=>l v (a5M Z);have a:(L.take 40).length<=40:=List.length_take_le 40 L;generalize L.take 40=cs at*;show(Fn (wb (r3 dZ f) 38) 597 qn (a2 (bv 596 0))>>=_) _ X (v8 L [Zf]);refine CV (x:="cell") (p:=CW) (f:=ID) (L:=cs) rfl (ei a (by decide)) CY.1 ? _ ? _ ? _
 .intro v Z w G K X m A;ext a4U;rewrite [KA];refine cO (fl (T2 Pb<=mB u)) b4 b4;. replace A:=(show CW Qd=am from q)▸A;exact A
  . replace A:=(show CW Qd=av from q)▸A;exact A
 . intro v Z G K X m A;ext a4U;rewrite [KB];have h:=CX (mB u);have A:G (a4 (xz (mB u) Zl)) K X m:=A;generalize xz (mB u) Zl=z at*;exact bX (fM ⟨by refine c6 (nat_lit 0x119108001910011a001020) [] cb h.1 h.2 a0,by refine bn (nat_lit 0x11910001a100020) [] cb h.2 a0⟩) A
 have k:cZ ((cs.filter CW).map ID):=⟨by rewrite [a0n];exact ZU (by refine bn (nat_lit 0x10900000064200090000002820001) a7 [] a a0),λv Z=>by refine aN (WJ Z) λu n d=> ? _;subst d;refine db (c u (SS n).1) Yn;subst U;exact⟨_,rfl,CX _⟩⟩;generalize(cs.filter CW).map ID=gl at*;show(Fn (wb (r3 dZ f) 36) 598 qo (a2 (bv 596 0))>>=_) _ X (v8 L [Zf,Zz,(598,[.sd []])]);refine CV (x:="cell") (p:=zv) (f:=id) (L:=cs) rfl (ei a (by decide)) CY.2 ? _ ? _ ? _
 .intro v Z w G K X m A;ext a4U;rewrite [KC];refine cO (fl (mB u<T2 Pb)) b4 b4;. replace A:=(show zv Qd=am from q)▸A;exact A
  . replace A:=(show zv Qd=av from q)▸A;exact A
 . intro v Z G K X m A;ext a4U;rewrite [KD];exact A
 ext a0k;have M:∀v∈cs.filter zv,a7i:=λv Z=>by have h:=SS Z;refine db (c v h.1) λu U=> ? _;subst U;exact⟨u,rfl,IE (a0d h.2)⟩
 have b:(cs.filter zv).length<=40:=ZU a;generalize cs.filter zv=W at*;show(a8S>>=a77) _ X (v8 L [Zf,Zz,(598,[.sd [],bC W])]);rewrite [IF];refine f7 (ei b (by decide)) ? _;have p:∀v∈gl,UX:=λv Z=>by exact aN (k.2 v Z) a3I
 have g:aH (bC W):=⟨W,rfl,λv Z=>by exact aN (M v Z) a3I⟩;have x:∀y E,bZ (ao (MT L gl y E)) z':=λy E=> rv (show((MT L gl y E).H bd).isSome=am by kernel_rfl)
 induction W using li with
  |cons v r=>
   have P:∀o∈[ae.list (v::r)],aH o:=mV g;have e:f8 uG (v8 L [Zf,Zz,(598,[bD T_ (Ov 1) 0,bC (v::r)])])=MT L gl [bC (v::r)] 0:=by kernel_rfl
   show Sc _/\_/\_;ext ea;exact⟨GO l p P (F' 0),x _ _,N gl [bC (v::r)] 0 (v::r) k ⟨(Nat.le_add_left 1 r.length:1<=(v::r).length),a0e b,M⟩ rfl P⟩
  |nil=>
   have P:∀o∈[ae.list [],NL],aH o:=Dv g a7f;have e:f8 uG (v8 L [Zf,Zz,(598,[bD T_ (Ov 2) 0,ej,NL])])=MT L gl [ej,NL] 1:=by kernel_rfl
   show Sc _/\_/\_;ext ea;exact⟨GO l p P (F' 1),x _ _,N gl [ej,NL] 1 [l1] k ⟨oa 1,by decide,λv Z=>⟨0,w6 Z,by decide,by decide⟩⟩ rfl P⟩
section E
section
set_option backward.match.sparseCases false
open PySem
abbrev KE[Pu]:dd:=[UY,(ZC,B_)]
abbrev xJ[Pu](r:V):dd:=[UY,(ZC,B_),("room",r)]
def qp(c:Id)[ss](l:dd):E dd:=aX c>>=λo=>match o with| f2 _=>cQ c Uz>>=λJ=>a_ l|_=>a8
def NH:hC->hC| On _ l _ _=>(match l with|a::_=>a|[]=>w0)|e=>e
theorem Mx[w'](G:lR)[Qe]:U4 (bR.take 1) ⟨iY,[UY],aU⟩ G X m=(bj (hQ Qu) [OW]>>=λN=>kP OW>>=λl=>aY l (a4 2) YS>>=λb=>qp SE N [UY]>>=λl=>a_ (Pw,dS (ZC:Str) B_ l)) G X m:=by kernel_rfl
theorem My[w'](b0:Bool)(G:lR)[Qe]:U4 ((kj 1).take 1) ⟨iY,KE b0,aU⟩ G X m=(bP SE>>=λN=>bj Oq [N,a4 4]>>=λa=>jR 724 tt a>>=λR=>bP SE>>=λN=>gm b0 (a_ (j1 1)) (a_ (j1 4))>>=λH=>bj Oq [N,H]>>=λd=>jR 724 (a4 2) d>>=λn=>qp Rs n (xJ b0 R)>>=a0m) G X m:=by kernel_rfl
def zx:Lc:=Du (NH (uf bR 2))
theorem Mz[w'](b0:Bool)(R:V)(G:lR)[Qe]:U4 a38 ⟨iY,xJ b0 R,aU⟩ G X m=((bP SE>>=λN=>gm b0 (a_ (j1 4)) (bP Rs>>=λH=>aY (a4 20) H a2B>>=λq=>aY q tt a1V)>>=λH=>bj Oq [N,H]>>=λd=>jR 725 (a4 2) d>>=λz=>ja [z])>>=λsrc=>Fn (O2 37) 725 zx src>>=λl=>lY l>>=λt=>qp (nn 2) t (xJ b0 R)>>=a0m) G X m:=by kernel_rfl
section E
section
set_option backward.match.sparseCases false
open PySem
def MZ(I:b5)(k b c2:ii)(x:b5)[a5c](r:M_):ac:=⟨(0,[F2 I])::Xw::(2000000,[f2 k,f2 b,f2 c2,PB,PB,PB])::(597,[bC x])::(598,bD g (Ov (E+1)) a::y)::r⟩
theorem pI[jm](many:Int)[p3]:a3S K X m=(a8b\/L1 G_ Oq [z',Ps] K X m):=by kernel_rfl
theorem KF{many:Int}{P:Int->a5}(h:∀r,0<=r->r<eg->P r)(H:1<=eg):Fb eg P:=by
 unfold Fb;refine cO (eg==1) b4 b4;. exact h 0 (a0T 0) (by refine Xv H a0)
 .exact rwL cf;refine cO (eg==2) RY RY;. exact rwL ct;have:=f1 T;exact⟨h 0 (a0T 0) (by refine bn (nat_lit 0x11a00011b210010) [] a7 b_ a0),h 1 (by decide) (by refine bn (nat_lit 0x11a00111b210010) [] a7 b_ a0)⟩
  . exact rwL cf;exact h
theorem sy{f:Nat}{many:Int}[N5](h:a9l)(u:Y4)(N:∀r gl,0<=r->r<eg->cZ gl->Xk (lM gl m)):a3S K X m:=by rewrite [pI];exact b7 ⟨h,u,λgl D=>KF (λr a H=>N r gl a H D) u.1⟩
theorem v9{I x L sm:b5}{k b c2:ii}{g:Id}{E:Nat}{a:Int}{y:d_}{r:M_}(D:(TP r).H g=T7)(A:cZ L)(Z:a3G)(p:j9 sm)(m:0<=a/\a<=10000):qT ((TP r).H bd) ((TP r).H (vZ RX (c9 (TP r) bd))) ((TP r).H (vZ UB (c9 (TP r) bd))):=by
 revert y r;exact gs I x L sm k b c2 g E a;exact dl2 y r;have c:vZ RX (c9 (TP r) bd)=g:=by kernel_rfl
 have u:vZ UB (c9 (TP r) bd)= Ov (E+1):=by kernel_rfl
 have j:(TP r).H bd=aj (bD g (Ov (E+1)) a):=by kernel_rfl
 have T:(TP r).H (Ov (E+1))=y[E]? :=by kernel_rfl
 exact w3 c u j T;exact⟨g,Ov (E+1),a,L,sm,rfl,D,A,Z,p,m.1,m.2⟩
theorem KG(I x gl:b5)(k b c2:ii)(E:Nat)(a:Int)(y:d_):lM gl (MZ I k b c2 x T_ E a y [])=MZ I k b c2 x (bv 601 0) E Oa y [(601,[Ud])]:=by kernel_rfl
theorem GP(I x gl:b5)(k b c2:ii)(g:Id)(E:Nat)(a:Int)(y l:d_):lM gl (TP [(601,l)])=MZ I k b c2 x (bv 601 OE) E Oa y [(601,l++[Ud])]:=by kernel_rfl
theorem KH(I x:b5)(k b c2:ii)[a5c](r:M_)[ss]:(TP r).upd Rs Uz=MZ I k d0 c2 x g E a y r:=by kernel_rfl
theorem KJ(I x:b5)(k b c2:ii)[a5c](r:M_)[ss]:(TP r).upd (nn 2) Uz=MZ I k b d0 x g E a y r:=by kernel_rfl
theorem dj[tz][eX][g_]{F:Rq}[C_](h:Fc=aj Uz)(N:F v K X m):(bP i>>=F) K X m:=aK (f:=λo=>a1a>>=F) h N
theorem sA[tz][eX]{o:ii}[g_]{l:dd}{F:dd->E Y}[C_](h:Fc=aj (f2 o))(N:F l K X (pj i Uz)):(qp i v l>>=F) K X m:=aK (f:=λo=>(match o with| f2 _=>cQ i Uz>>=λJ=>a_ l|_=>a8)>>=F) h N
theorem iQ{u Y:cv}{x:E u}{F:u->E Y}[C_](h:x (λa m'=>F a K X m') X m):(x>>=F) K X m:=h
theorem KK[jm][p3]:eQ f (hQ Qu) [OW] K X m=Dx uG (r3 dZ G_ (hQ Qu) [OW]) K X m:=by kernel_rfl
theorem KL(L gl:b5)(y:d_)(E:Nat)(G:lR)(X:ef):(kP OW>>=λl=>aY l (a4 2) YS>>=λb=>qp SE z' [UY]>>=λl=>a_ (Pw,dS (ZC:Str) B_ l)) G X (MT L gl y E)=nd (PV<=16777216) (G (hH,KE (fl ((PV:Int)<2))) (Zm ap ap gl T_ E 0 y [])):=by kernel_rfl
theorem Fs{f:Nat}{I:t4}{G:lR}[l2](Y:kN<=63)(N:∀b gl y E sm,cZ gl->j9 sm->a3G->(∀o∈y,aH o)->G (hH,KE b) (MZ Zy (aj z') ap ap gl T_ E 0 y [])):TU (bR.take 1) ⟨iY,[UY],aU⟩ G X (v8 Zy []):=by rewrite [Mx];refine iQ ? _;rewrite [KK];refine zw Y λgl y E sm H F Q C=> ? _;rewrite [KL];exact f7 (by rewrite [a0n];exact ei Y (by decide)) (N _ gl y E sm H F Q C)
section E
section
set_option backward.match.sparseCases false
open PySem
theorem nI[tz][Ol]{a b:Int}{F:Rq}[C_](h: -1000<=a+b/\a+b<=1000)(N:F (a4 (a+b)) K X m):(jR d Pi (a4 b)>>=F) K X m:=by show(bV (a+b)>>=F) K X m;generalize a+b=z at*;exact bX (aQ (by refine c6 (nat_lit 0x1e19000f424020019008000f4240219008000003e8219000003e820010) [] a7 h.1 h.2 a0)) N
theorem Ft{f:Nat}{L x sm:b5}{y:d_}{E:Nat}[Wn]{G:lR}[l2](A:cZ x)(p:j9 sm)(Z:a3G)(N:∀(R n:Int)g1 g2,1<=R->R<=4->l4->kT->(b0=am->n=2)->cZ g1->cZ g2->G (hH,xJ b0 (a4 R)) a4n):TU ((kj 1).take 1) ⟨iY,KE b0,aU⟩ G X (Zm ap ap x T_ E 0 y []):=by
 exact dl9 f L x sm y E b0 G X;rewrite [My];refine dj (v:= z') (by kernel_rfl) (iQ (sy (v9 (L:=x) (by kernel_rfl) A Z p (by decide)) (by decide) λY g1 b T a=> ? _));rewrite [KG];refine nI (by refine a6f b T a0) (dj (v:= z') (by kernel_rfl) ? _);have I:∀many:Int,1<=eg->eg<=4->(b0=am->eg=1)->(a3S>>=λd=>jR 724 (a4 2) d>>=λn=>qp Rs n (xJ b0 (a4 (1+Y)))>>=a0m) G X (Zm ap ap x (bv 601 0) E (0+1) y [(601,[bC g1])]):=λmany m1 h S=>by refine iQ (sy (v9 (L:=g1) (by kernel_rfl) a Z p (by decide)) (by refine c6 (nat_lit 0x1e19000003e820019001119001119410010) [] a7 m1 h a0) λW g2 b1 P g=> ? _);rewrite [GP];refine nI (by refine kq (nat_lit 0x1e19000003e823002119300218000003e821941101900011a100020) [] cb h b1 P a0) (sA (o:=ap) (by kernel_rfl) ? _);rewrite [KH];exact N (1+Y) (2+W) g1 g2 (by refine bn (nat_lit 0x119300111119000110) [] a7 b a0) (by refine bn (nat_lit 0x11941300111a410010) [] a7 T a0) (by refine bn (nat_lit 0x119300212119000110) [] a7 b1 a0) (by refine c6 (nat_lit 0x11951300211941101a100020) [] cb h P a0) (λq=>by have:=S q;refine kq (nat_lit 0x11b21300211900011a10001b111020) [] cb b1 P b_ a0) a g
 induction b0 using u' with|true=>exact I 1 (by decide) (by decide) hS|false=>exact I 4 (by decide) (by decide) (λq=>by exact cT q)
section E
section
set_option backward.match.sparseCases false
open PySem
theorem CZ{u Y:cv}{g:Nat->u}{f:u->Y}:∀[e3],(aF g n).map f=aF (λk=>f (g k)) n:=λ{n}=>by induction n with|zero=>rfl|succ n G=>show(aF g n++[g n]).map f=_;exact a3 List.map_append G;rfl
theorem uH[tz]{z:Nat}{F:Nat->E Y}[C_](u:z<=1000000)(N:F z K X m):(cj (o_ z 1)>>=F) K X m:=by
 have l:((z:Int)-0).toNat=z:=by rewrite [Zs];rewrite [a1M];rfl
 have u:(z:Int)<=1000000:=by refine bn (nat_lit 0x119000f4240270009000f424020001) a7 [] u a0
 have V: Uv<=(z:Int):=by refine pk (nat_lit 0x1197008000f4240201) a7 [] a0
 show(i4 (Uv<=H_/\H_<=1000000/\ Uv<=(z:Int)/\(z:Int)<=1000000) (a_ ((z:Int)-0).toNat)>>=F) K X m;refine aV ⟨by decide,by decide,V,u⟩ ? _;exact rwL l;exact N
theorem IG{R:gN}[Ol]{c:Lc}{z:Nat}[f_][N2]{f:V->V}[a2S](T:z<=1000)(r:(bg c.tgt (o_ z 1)&&bJ c.sc)=am)(M:∀k:Nat,k<z->∀(w:ii)[UL],G [(x,v0)] am K X m->(cV c.tgt v0 ⟨c.sc,hJ x w,[]⟩>>=λloc=>Yw c.ifs ⟨c.sc,loc,[]⟩>>=T4) K X m)(y:∀k:Nat,k<z->∀[a1j],G (f v0) K X m->(R.ev c.elt ⟨c.sc,[(x,v0)],[]⟩>>=G) K X m)(N:F (a2 VQ) K X (v2 d (bC (aF (λk=>f v0) z)))):(Fn R d c (o_ z 1)>>=F) K X m:=by
 refine uH (ei T (by decide)) (dE r ? _);have W:(v2 d ej).H VQ=Rx:=by ext SW
 have a:∀[v1][g_],(ST z)[k]? =d0->k<z/\v= v0:=λ{k v}e=>by
  ext a0M;exact bcH N (k<z);. ext a7z
  . ext a3m
 have l:z=(ST z).length:=aM.symm;show dx R c.elt c.tgt c.ifs (o_ z 1) VQ (z+1) 0 ⟨c.sc,[],[]⟩ _ wj (v2 d ej);exact rwR (fX W);have g:z+1=(ST z).length+1:=hh (·+1) l;ext NZ;refine fK (x:=x) (p:=λJ=>am) (f:=f) (o:= ej) W ? _ ? _ ? _ (by ext QF;exact T) ? _
 .intro acc k G A;replace A:=aG▸A;show(λo=>G o) (if H_+k<z then aj (j1 (0+k))else ap) _ _ _;exact bcH q (k<z);. replace A:=PH▸A;exact rwL (c4 (by refine bn (nat_lit 0x11a7103700010a100002) cb [] q a0));rewrite [WU];exact A
  . replace A:=w2▸A;exact rwL (b9 (by refine bn (nat_lit 0x1c1a710370001c0a100002) cb [] q a0));exact A
 . ext a37;refine bx (a Z) λq U=> ? _;subst U;exact M k q w G _ _ _ A
 . intro acc k v Z _ G A;refine bx (a Z) λq U=> ? _;subst U;exact y k q G _ _ _ A
 . exact ec dI (List.filter_eq_self.mpr Q9) CZ;exact N
theorem MA[w'][q_](w:ii)[UL]:(cV zx.tgt v0 ⟨zx.sc,hJ "k" w,[]⟩>>=λloc=>bK (O2 37) .And zx.ifs ⟨zx.sc,loc,[]⟩>>=T4) K X m=a0F am K X m:=by ext UV
theorem MB[w'](u:Int)[a1j]:((O2 37).ev zx.elt ⟨zx.sc,[("k",Qd)],[]⟩>>=G) K X m=(bV (97+u)>>=G) K X m:=by kernel_rfl
theorem KM(z:Nat):(bg zx.tgt (o_ z 1)&&bJ zx.sc)=am:=by
 have e:bg zx.tgt (o_ z 1)=bg zx.tgt (o_ 0 1):=by kernel_rfl
 ext Zp
def Ni:V->V| v0=> a4 (97+k)|v=>v
def Ly(z:Nat):b5:=aF (λk=>Ni v0) z
theorem zy[OP]{i:Int}(W:0<=i/\i<256):∀{l:b5},mZ l=C2->mZ (l++[f6])=aj (b++[PJ i.toNat]):=λ{l}=>by
 induction l generalizing b with
  |nil=>intro h;ext xp;show(if 0<=i/\i<256 then(aj []).map (PJ i.toNat::·)else ap)=_;exact rwL (c4 W);rfl
  |cons v r G=>
   intro h
   induction v using kb with
    |int j=>
     have h:(if 0<=j/\j<256 then(mZ r).map (PJ Rm::·)else ap)=C2:=h;exact bcH q (0<=j/\j<256);. ext a0w;refine aN (ZV h) λc e d=> ? _;subst d;show(if 0<=j/\j<256 then(mZ (r++[f6])).map (PJ Rm::·)else ap)=_;exact a3 PH (G e);rfl
     . ext a1A
    |_=>ext rs
theorem Fu:∀{z:Nat},z<=100->∃b,mZ (Ly z)=C2/\nw=z:=λ{z}=>by induction z with|zero=>exactλJ=>⟨[],rfl,rfl⟩|succ z G=>intro h;exact aN (G (PI h)) λb e T=>⟨_,zy (i:=97+z) (by refine bn (nat_lit 0x1e1a000001002370000000061219370000000061201090000006423110001) a7 [] h a0) e,by exact a3 Qi T;rfl⟩
section E
section
set_option backward.match.sparseCases false
open PySem
theorem IH(L x:b5)(n:Int)[a5c](l:d_)(t:b5)(b:d7)(e:mZ t=C2)(I:Tp<=1000)(b0:Bool)(R:V)(G:lR)(X:ef)(N:G (hH,xJ b0 R) (Zm Xl (aj hj) x g E a y [(601,l),(725,[bC t])])):(lY (a2 (bv 725 0))>>=λt=>qp (nn 2) t (xJ b0 R)>>=a0m) G X (Zm Xl ap x g E a y [(601,l),(725,[bC t])]):=by
 refine aI (x:=aX (bv 725 0)) (g:=nM) (aK (o:= bC t) (by kernel_rfl) ? _);refine aV (c:=Tp<=1000) (x:=zZ t) I ? _;have k:zZ t=a_ hj:=by unfold zZ;ext PD
 exact rwL k;refine dc (sA (o:=ap) (by kernel_rfl) ? _);rewrite [KJ];exact N
theorem Fv{f:Nat}{L x g1 g2 sm:b5}{y:d_}{E:Nat}[Wn]{R n:Int}{G:lR}[l2](A:cZ g2)(p:j9 sm)(Z:a3G)(g:l4)(H:kT)(O:b0=am->n=2)(N:∀(z:Nat)(b:d7)g3,nw=z->z<=10->n*z<=20->2<=z->cZ g3->G (hH,xJ b0 (a4 R)) (Zm Xl (aj hj) x (bv 601 2) E (0+1+1+1) y [(601,[bC g1,bC g2,bC g3]),(725,[bC (Ly z)])])):TU a38 ⟨iY,xJ b0 (a4 R),aU⟩ G X a4n:=by
 revert n G X;exact gs f L x g1 g2 sm y E b0 R;exact dl3 n G X;rewrite [Mz]
 have I:∀many:Int,1<=eg->n*(1+eg)<=20->eg<=9->((a3S>>=λd=>jR 725 (a4 2) d>>=λz=>ja [z])>>=λsrc=>Fn (wb (eQ f) 37) 725 zx src>>=λl=>lY l>>=λt=>qp (nn 2) t (xJ b0 (a4 R))>>=a0m) G X a4n:=λmany m1 v j=>by
  refine aI (iQ (sy (v9 (L:=g2) (by kernel_rfl) A Z p (by decide)) (by refine c6 (nat_lit 0x1e19000003e820019001119001119910010) [] a7 m1 j a0) λr g3 D T o=> ? _));rewrite [GP];refine aI (nI (by refine kq (nat_lit 0x1e19000003e823002119300218000003e821991101900011a100020) [] cb j D T a0) ? _);obtain⟨z,u⟩:∃z:Nat,2+r=(z:Int):=⟨(2+r).toNat,(a5Z (by refine bn (nat_lit 0x119300210119000110) [] a7 D a0)).symm⟩;ext PE;show(Fn (wb (eQ f) 37) 725 zx (o_ z 1)>>=_) G X _;have s:n*z<=20:=G3 (Int.mul_le_mul_of_nonneg_left (by refine c6 (nat_lit 0x119300117001a00101b7003102121) a7 cb T u a0) (by refine bn (nat_lit 0x119000119002110) [] a7 g a0)) v;refine aN (Fu (z:=z) (by refine kq (nat_lit 0x109000000642001991001a00101b7003102121) a7 cb j T u a0)) λb e M=> ? _;refine IG (x:="k") (f:=Ni) (by refine a8X) (KM z) (λk J w G K X m h=>by rewrite [MA];exact h) (λk N G K X m h=> ? _) ? _;. rewrite [MB];have h:G (a4 (97+k)) K X m:=h;generalize B:(97:Int)+k=q at*;exact bX (aQ (by refine lin5 (nat_lit 0x1e19000f424020019008000f424021991101a10201b700320210a00101b00371000000061232) cb eb j T u N B a0)) h
  . exact IH L x n (bv 601 2) E _ y _ (Ly z) b e (by show(aF _ z).length<=1000;ext QF;refine a8X) b0 (a4 R) G X (N z b g3 M (by refine kq (nat_lit 0x109a1001991001a00101b7003102121) a7 cb j T u a0) s (by refine c6 (nat_lit 0x10900211900011b7003002111) a7 a7 D u a0) o)
 refine aI (dj (v:= z') (by kernel_rfl) ? _)
 induction b0 using u' with
  |true=>have:=O rfl;exact I 4 (by decide) (by lia) (by decide)
  |false=>
   have two:∀q:Int,q=Tj 20 n->4<=q->q<=10->n*q<=20->_:=λq B C c i=>I (q-1) (by refine bn (nat_lit 0x119411001119004110) [] a7 C a0) (by exact rwL (show 1+(q-1)=q by refine pk (nat_lit 0x11b003411001110) [] a7 a0);exact i) (by refine bn (nat_lit 0x119914110019a10010) [] a7 c a0)
   have S:∃q:Int,q=Tj 20 n/\4<=q/\q<=10/\n*q<=20:=by
    have:n=2\/n=3\/n=4\/n=5:=by refine c6 (nat_lit 0x1fff1b51001b41001b31001b210019002119510010) [] a7 g H a0
    rcases b_ with rfl|rfl|rfl|rfl;. exact⟨10,by decide⟩
    . exact⟨6,by decide⟩
    . exact⟨5,by decide⟩
    . exact⟨4,by decide⟩
   refine GT S λq B C c i=> ? _;clear S;have F:=two q B C c i;refine aI (aI (dj (v:= t5) (by kernel_rfl) ? _));show((i4 (0<n/\n<1073741824) (bV (Tj 20 n))>>=λq=>aY q tt a1V)>>=_) G X _;exact rwR B;refine aI (aV ⟨by refine bn (nat_lit 0x11a000119002110) [] a7 g a0,by refine bn (nat_lit 0x11a4000000020019510010) [] a7 H a0⟩ (bX (aQ (by refine c6 (nat_lit 0x1e19000f424020019008000f4240219004119a10010) [] a7 C c a0)) ? _));show(bV (q-1)>>=_) G X _;exact bX (aQ (by refine c6 (nat_lit 0x1e19000f424024110019411008000f4240219004119a10010) [] a7 C c a0)) F
section E
section
set_option backward.match.sparseCases false
open PySem
def MC(L x:b5)(y:d_)(E:Nat)(sm:b5)(R:Int)(b:d7)(z:Nat):Cf:=⟨L,R,b,λJ=>1,λJ=>av,1,sm,[bC x],y,E,[bC (Ly z)]⟩
def KN(gl:d_):St:=⟨λJ=>Nd 0,Oi,λJ=>[],[],λJ=>a30,λJ=>[],λJ=>CR,ap,ap,[],Oi,Oi,0,[],Xb,[],[],gl,2,3,[],[],[],[]⟩
structure qr [LR] : a5 where
  n2 : 2 ≤ n
  n5 : n ≤ 5
  dr : fP c s 3
  scr : a1B
  gr : a1w
  so : a1x
  tl : a1y
  ro : 1 ≤ f3 ∧ f3 ≤ 4
  tx : px ≤ 10
  nt : n * px ≤ 20
  t2 : 2 ≤ px
theorem jP{l:b5}(h:cZ l):aH RD:=⟨l,rfl,λv Z=>by exact aN (h.2 v Z) a3I⟩
theorem Fx{f:Nat}{I:t4}{G:lR}[l2](Y:kN<=63)(N:∀n b0 c s,qr n c s->G (hH,xJ b0 (a4 f3)) (M2 n c s)):TU (bR.take 3) ⟨iY,[UY],aU⟩ G X (v8 Zy []):=by
 have d:bR.take 3=bR.take 1++((kj 1).take 1++a38):=by kernel_rfl
 exact a3 d cE;refine Fs Y λb x y E sm H F Q C=> ? _;have U:∀v∈I.map j1,UX:=λv Z=>by exact aN (WJ Z) λi J e=>⟨i,e.symm⟩
 generalize I.map j1=L at*;show TU ((kj 1).take 1++a38) ⟨iY,KE b,aU⟩ G X (Zm ap ap x T_ E 0 y []);exact rwL cE;refine Ft H F Q λR n g1 g2 h A g B O l T=> ? _;show TU a38 ⟨iY,xJ b (a4 R),aU⟩ G X a4n;refine Fv T F Q g B O λz t g3 u a p r D=> ? _;obtain⟨n,rfl⟩:∃k:Nat,n=k:=⟨n.toNat,(a5Z (by refine bn (nat_lit 0x119000119002110) [] a7 g a0)).symm⟩;have P:qr n (MC L x y E sm R t z) (KN [bC g1,bC g2,bC g3]):=⟨by refine bn (nat_lit 0x1090021197002101) a7 [] g a0,by refine bn (nat_lit 0x1095100195170001) a7 [] B a0,⟨⟨g3,rfl,D⟩,λo m=>(nr m).elim (λe=>e▸jP l) (Dv (jP T) (jP D) o),(by decide:H_<=3),(by decide:(3:Int)<=(3:Nat)),F,Q⟩,U,mV (jP H),C,mV ⟨_,rfl,aJ (Q:=λv=>∃i,v=j1 i) λj J=>U1⟩,⟨h,A⟩,by show Tp<=10;refine c6 (nat_lit 0x109a1000b100009a11002) cb [] u a a0,by show n*Tp<=20;ext PE;exact_mod_cast p,by show 2<=Tp;refine c6 (nat_lit 0x10900210b100009102102) cb [] u r a0⟩;exact N n b _ _ P
section E
section
set_option backward.match.sparseCases false
open PySem
abbrev Fy[Pu](r:Int):dd:=[UY,(ZC,B_),("room",a4 r),("table",jy),("files",Ru)]
theorem MD[a7L]:U4 ((kj 8).take 1) ⟨iY,Fy b0 R,aU⟩ G X m=(bP SE>>=λN=>bP (nn 3)>>=λk=>bP (nn 4)>>=λQ=>bP Rs>>=λH=>bj (hQ QZ) [N,k,Q,H]>>=λr=>qp (nn 5) r (Fy b0 R)>>=a0m) G X m:=by kernel_rfl
theorem KO[jm][wl][p3]:eQ f (hQ QZ) a6 K X m=∃A,Dx (rX A) (r3 gI G_ (hQ QZ) a6) K X m:=by kernel_rfl
theorem Fz:∀n:Nat,l4->kT->∀[l9],CM (rX n) (ML n 0 0 c s [] [] [])=am:=by refine VS<;>(ext Q5)
section E
section
set_option backward.match.sparseCases false
open PySem
theorem uI{t:Nat}{b:M_}:∀{a:M_},(∀b',hK (a++b')=hK (a++b))\/(∀b',hK (a++b')=hK b'):=λ{a}=>by
 induction a with
  |nil=>exact ba λb'=>rfl
  |cons p r G=>
   have e:∀b',hK (p::r++b')=bL S' p.2 (hK (r++b')):=λb'=>rfl;refine cO S' b4 b4;. exact b7 λb'=>by rewrite [e];rewrite [e];ext OI;rfl
   . exact G.elim (λh=> b7 λb'=>by rewrite [e];rewrite [e];ext OI;exact h b') λh=> ba λb'=>by rewrite [e];ext OI;exact h b'
def KP[LR]:M_:=(a3F []).L.take 26
def ME[f0](c:Cf):M_:=(MS n c (iq n (KN []))).L.drop 26
theorem GQ[LR]:(a3F []).L=KP n c s++a4J:=by kernel_rfl
theorem KQ:∀n:Nat,l4->kT->∀[l9],a5V=KP n c s++ME n c:=by refine VS<;>(ext Q5)
theorem uJ[f_]{t k j:Nat}{f:Nat->ae}(e:hK m.L=aF f k)(h:j<k):ao m (bv t j):=by show((hK m.L)[j]?).isSome=am;exact ec e aG Pa;rfl
theorem KR[SA](F:l4)(d:kT)(w:GL n n n c s [] [] []):Sc Y3:=by
 exact dl3 n c s
 exactλi o e=>by
  have E:∀t,hK a5V=hK (KP n c s++ME n c):=λt=>by rewrite [KQ n F d];rfl
  have l:∀i,ao (a3F []) i->ao Y3 i:=λi h=>by
   ext X0;have h:((hK (a3F []).L)[j]?).isSome=am:=h;show((hK a5V)[j]?).isSome=am;rewrite [E];rewrite [GQ]at h;rcases uI (t:=t) (a:=KP n c s) (b:=a4J)with q|q;. rewrite [q];exact h
   .rewrite [q]at h;have z:hK a4J=[]:=by show bL (c0 625 t) [] (bL (c0 628 t) [] (bL (c0 632 t) [] (bL (c0 634 t) [] [])))=_;cases c0 625 t<;>cases c0 628 t<;>cases c0 632 t<;>cases c0 634 t<;>rfl
    replace h:=z▸h;ext sp
  ext X0;have e:(hK a5V)[j]? =ck:=e;rewrite [E]at e;rcases uI (t:=t) (a:=KP n c s) (b:=a4J)with q|q;. rewrite [q]at e;rewrite [<-GQ]at e;exact kr.mono l (CO w (bv t j) o e)
  .rewrite [q]at e;have L:∀i,ao (a3F []) i->bZ (ao Y3) eF:=λi h=> rv (l i h);have x:=L (aq 0) (uJ (t:=1000460) rfl (we n));have b:∀k,k<n->bZ (ao Y3) (a2 (B1 k)):=λk N=>L _ (uJ (t:=619) rfl N);have a:bZ (ao Y3) (a2 X_):= rv (show((MS n c (iq n s)).H X_).isSome=am by kernel_rfl);have S:zd (kr (ao Y3)) (ME n c):=by generalize ao Y3=q at*;exact⟨mV (ke (by exact⟨x,di,di,di,a1,a1,ek _,F3,F3,ep⟩)),Dv (a:= bC _) (λv Z=>w6 Z▸a) (λv Z=>(VJ Z).elim (λh=>aJ (Q:=λv=>bZ q v) (λk N=>b _ (by refine a4B N a0)) v h) λh=>w6 h▸a),(λo h=>(by cases h)),(λo h=>(by cases h)),(λo h=>(by cases h)),(λo h=>(by cases h)),(λo h=>(by cases h)),(λo h=>(by cases h)),ep⟩
   exact jO S o (SP e)
section E
section
set_option backward.match.sparseCases false
open PySem
theorem dJ.wf{n b:Nat}[z2](h:SF s b)(H:1<=n)(f:a1B)(D:a1w)(P:a1x)(I:a1y):GL n n n c s [] [] []:=by
 refine aN h.dr.gi λL g1 J=> ? _;refine⟨oa n,f,D,P,(L_ h.dr.so).1,I,h.dr.gl,(L_ g1).1,λa m=> ? _,(λo P=>(by cases P)),(λo P=>(by cases P)),(λo P=>(by cases P))⟩;rcases Nat.eq_zero_or_pos a with z|z;. exact a3 z h.sl0;exactλv Z=>(nr Z).elim (λe=> ba ⟨0,Nat.mul_pos (by decide) H,e⟩) λZ=> b7 (by ext a4u;exact Z)
 . refine db (h.row a z m) λd r=> ? _;exact rwL r.sl;exact ir r.du z m id
theorem fQ.pre[e3]{c y:Cf}{s:St}(h:fQ c y)(p:qr n c s):(∀v∈y.scr,UX)/\(∀o∈y.gr,aH o)/\(∀o∈y.so,aH o)/\∀o∈y.tl,aH o:=by exact w3 h.scr h.gr h.so h.tl;exact⟨p.scr,p.gr,p.so,p.tl⟩
def MR[LR]:ac:=(MS n c (iq n s)).upd (nn 5) (f2 (aj XR))
theorem FA{f n:Nat}[Wn][z2](p:qr n c s){G:lR}[l2](N:∀y U,dJ n y U 33->fQ c y->G (hH,Fy b0 f3) (MR n y U)):aB (wb (eQ OQ) 40) ((kj 8).take 1) ⟨iY,Fy b0 f3,aU⟩ G X Vp:=by
 rewrite [MD];have b:(a2v []).H SE=aj (f2 (aj z')):=by kernel_rfl
 have Q:(a2v []).H (nn 3)=aj (f2 (aj Jb)):=by kernel_rfl
 have C:(a2v []).H (nn 4)=aj (f2 (aj Jc)):=by kernel_rfl
 have H:(a2v []).H Rs=aj (f2 Xl):=by kernel_rfl
 have d:=Fz n p.n2 p.n5 c (f9 s WI)
 have L:=CU p.n2 p.n5 p.dr (by decide) p.scr p.gr p.so p.tl p.ro (f:=f) (X:=X) (R:=λv m=>Sc m/\bZ (ao m) v/\(qp (nn 5) v (Fy b0 f3)>>=a0m) G X m) λy U l sc=>by
  refine GS (sc.pre p) λa T I B=> ? _;have S:=KR p.n2 p.n5 (l.wf (PI p.n2) a T I B);have F:(MS n y (iq n U)).H (bv 636 1)=aj (bC (mW n)):=by kernel_rfl
  have e:(MS n y (iq n U)).H (nn 5)=aj PB:=by kernel_rfl
  have k:=N y U l sc;unfold MR at k;generalize MS n y (iq n U)=m at*;exact⟨S,rv (show(m.H (bv 636 1)).isSome=am by exact rwL F;rfl),sA e k⟩
 generalize Vp=m at*;refine dj b (dj Q (dj C (dj H (iQ ? _))));rewrite [KO];exact⟨n,d,L⟩
section E
section
set_option backward.match.sparseCases false
open PySem
def MG[f0](c:Cf):ae:= .sd [("calls",a2 Zb),(P1,js),("rows",XR),("text",ek N0),("room",a4 f3),("left",t5),("out",ek []),("came",a2 (bv 733 1)),("gone",a2 (bv 733 3))]
def MW[LR](T A:d_):ac:=⟨(dt (mA n s [] T s.gl s.gi x3)).L.map λp=>bif c0 c5 732 then(732,[MG n c])else bif c0 c5 734 then(734,A)else p⟩
theorem MH:∀n:Nat,l4->kT->∀[jm][l9](b0:Bool)(G:lR)(X:ef),TU ((kj 9).take 2) ⟨iY,Fy b0 f3,aU⟩ G X (MR n c s)=G (hH,B' f3 []) (Oy [] []):=by refine VS<;>(ext Q5)
abbrev dU:OX:=[(Rz,Rs),("store",SE),("text",nn 2)]
def gK:Lc:=Du (uf bR 11)
section E
section
set_option backward.match.sparseCases false
open PySem
abbrev IJ:e_:=bq "" Qt
abbrev MI:Scope:=cu "" Qt
abbrev MJ[f0](H L:Int):dd:=[("store",z'),(Rz,t5),("moves",a4 H),("kind",a4 L)]
theorem C0(f n:Nat)[l9](T A:d_)(H:Int)[V5]:a6V RZ=zt c 4 (λL s=>a6g RZ) s:=by kernel_rfl
def IK:ki|1=>3|_=>1
def uK(k L S:Int):d_:=[eA k L S am,bC [tt,a4 3,tt,tt]]
def MN[f0](c:Cf)(H:Int)(L:Nat)(k:Int->Int->NY)[k3]:a5:=zt c n (λp s=>nd (-(2^64)<H/\H<2^64) (nd (il (H*IK L)) (zt c (H*IK L) (λS s=>k p S s) s))) s
theorem k4{P:PZ}(a:P 0)(b:P 1)(c:P 2)(d:P 3):∀k,k<4->P k|0,_=>a|1,_=>b|2,_=>c|3,_=>d|_+4,h=>b6 h (Nat.not_lt_of_le (Nat.le_add_left ..))
theorem IL:∀L:Nat,L<4->∀(f n:Nat)[l9](A:d_)(H:Int)[V5],a6g (Oy [] A)=MN n c H L (λp S s=>K XV (Oy Wc A)) s:=by refine k4 ? _ ? _ ? _ ? _<;>(ext Q5)
theorem IM:∀L:Nat,L<4->∀(f n:Nat)[l9](a b:ae)(A:d_)(H:Int)[V5],a6g (Oy [a,b] A)=MN n c H L (λp S s=>K a4c (Oy (a::b::Wc) A)) s:=by refine k4 ? _ ? _ ? _ ? _<;>(ext Q5)
theorem KS[a7L]:U4 ((kj 11).take 1) a5P G X m=(bP SE>>=λN=>bj Oq [N,a4 2]>>=λd=>jR 734 tt d>>=λz=>ja [z]>>=λsrc=>TM>>=λn=>(if(bg gK.tgt src&&bJ gK.sc)=am then ci 734 ej>>=λi=>cF (a7P src i cp 0 ⟨gK.sc,[],dU⟩)>>=Y9 else a8)>>=λl=>e7 a1W (c1 "plans") l>>=λJ=>a_ (Pw,B' R [])) G X m:=by kernel_rfl
theorem MO[w'](u:V)(w:ii)[UL]:(cV gK.tgt u ⟨gK.sc,hJ "lap" w,dU⟩>>=λloc=>bK Vh .And gK.ifs ⟨gK.sc,loc,dU⟩>>=T4) K X m=G [("lap",u)] am K X m:=by ext UV
theorem MP[w'](u:V)[a1j]:a91 m=(bP SE>>=λN=>bP Rs>>=λH=>(bP Rs>>=λR=>bP (nn 2)>>=λt=>kP t>>=λl=>xP 734 R l)>>=λq=>bj (hQ Qt) [N,H,q]>>=G) K X m:=by kernel_rfl
section E
section
set_option backward.match.sparseCases false
open PySem
theorem dJ.drawn{n b:Nat}[z2]{gl:b5}(h:SF s b)(d:fP c Pv (b+1)):SF Pv (b+1):=⟨d,λa H F=>by exact db (h.row a H F) λd r=>⟨d,⟨r.sl,r.du,r.fr,r.fw,r.sz⟩⟩,h.rg,h.F0,h.sl0,h.ls⟩
theorem C5{n b:Nat}[z2](h:SF s b)(M:b+2<=10000)[a69]{L:Nat}{k:Int->Int->NY}(N:∀(p S:Int)U,SF U (b+2)->0<=p->p<n->0<=S->S<=1000->k p S U):MN n c H L k s:=by
 have z:IK L=3\/IK L=1:=by rcases L with _|_|_|L<;>first|exact hA|exact NT
 refine iZ h.dr (by refine bn (nat_lit 0x10900002710200090000271023210001) a7 [] M a0) (by refine c6 (nat_lit 0x1e19000003e82700197001109002109510001) a7 [] g B a0) λp gl y w J d=> ? _;have x:1<=H*IK L/\H*IK L<=60:=by rcases z with e|e<;>exact rwL e<;>lia
 generalize H*IK L=q at*;refine f7 (by lia) (f7 (aQ (by refine c6 (nat_lit 0x1e19000f424020019008000f42402190011190000003c20010) [] a7 x.1 x.2 a0)) ? _);exact iZ d (by refine bn (nat_lit 0x10900002710231100090000271023210001) a7 [] M a0) (by refine c6 (nat_lit 0x1e19000003e8200190011190011190000003c20010) [] a7 x.1 x.2 a0) λS a E f J K=>N p S _ ((h.drawn d).drawn K) y w E (by refine c6 (nat_lit 0x119000003e8200190000003c2101a100020) [] cb x.2 f a0)
theorem C6{n b f:Nat}[z2](h:SF s b)(M:b+3<=10000)[a69]{A:d_}{K:si}[l2](N:∀(p L S:Int)U,SF U (b+3)->0<=p->p<n->0<=S->S<=1000->K XV (MW n c U Wc A)):a6V (Oy [] A):=by rewrite [C0];refine iZ h.dr (by refine a9G) (by decide) λL gl k0 m J d=> ? _;refine db (VB k0) λL a=> ? _;subst a;have P:=IL L (by refine bn (nat_lit 0x10a41001a4170001) a7 [] m a0) f n c Pv A H K X;exact P.mpr (C5 (h.drawn d) (by refine a9c) g B m1 R λp S U l y w E k=>N p L S U l y w E k)
theorem zA{n b f:Nat}[z2]{t G:ae}(h:SF s b)(M:b+3<=10000)[a69]{A:d_}{K:si}[l2](N:∀(p L S:Int)U,SF U (b+3)->0<=p->p<n->0<=S->S<=1000->K a4c (MW n c U (t::G::Wc) A)):a6V (Oy [t,G] A):=by rewrite [C0];refine iZ h.dr (by refine a9G) (by decide) λL gl k0 m J d=> ? _;refine db (VB k0) λL a=> ? _;subst a;have P:=IM L (by refine bn (nat_lit 0x10a41001a4170001) a7 [] m a0) f n c Pv t G A H K X;exact P.mpr (C5 (h.drawn d) (by refine a9c) g B m1 R λp S U l y w E k=>N p L S U l y w E k)
theorem FC{f n:Nat}[z2]{T A:d_}{many:Int}{K:si}[l2](h:zt c eg (λr s=>Xk RZ) s):a3S K X RZ:=by
 rewrite [pI];have e:(qT ((Oy T A).H bd) ((Oy T A).H (vZ RX (c9 RZ bd))) ((Oy T A).H (vZ UB (c9 RZ bd)))/\Y4/\∀gl,cZ gl->Fb eg λr=>Xk (lM gl RZ))=zt c eg (λr s=>Xk RZ) s:=by kernel_rfl
 exact b7 (e.mpr h)
theorem KT{call:aD}[SA]{T A:d_}{u:V}{G:V->E l0}{K:Vt}[l2](e:kT)(i:px<=10)(h:bj (hQ Qt) [z',t5,a4 (t3*px)] (λa m=>G a K X m) X RZ):a91 RZ:=by
 have f:(Oy T A).H SE=aj (f2 (aj z')):=by kernel_rfl
 have H:(Oy T A).H Rs=aj (f2 Xl):=by kernel_rfl
 have F:(Oy T A).H (nn 2)=aj (f2 (aj (ek N0))):=by kernel_rfl
 rewrite [MP];have d:0<=t3/\t3<=5:=by refine bn (nat_lit 0x1e1951700197000109510001) a7 [] e a0
 have b:0<=t3*px/\t3*px<=5*10:=⟨Int.mul_nonneg d.1 (TT _),Int.mul_le_mul d.2 (a0j i) (TT _) (by decide)⟩;have l:Zo:=ei i (by decide);generalize RZ=m at*;generalize t3=z at*;refine dj f (dj H (aI (dj H (aI (dj F ? _)))));refine aI (x:=i4 Zo (a_ (j1 px))) (aV l ? _);generalize(px:Int)=y at*;refine dc (a:=j1 y) ? _;generalize B:z*y=q at*;show(i4 (-(2^64)<z/\z<2^64) (bV (z*y))>>=_) K X m;exact rwL B;refine aV (by lia) (bX (aQ (by refine c6 (nat_lit 0x1e19000f424020019008000f424021900011955a10010) [] a7 b.1 b.2 a0)) (iQ h))
theorem KU[jm][wl]:eQ f (hQ Qt) a6=r3 dZ G_ (hQ Qt) a6:=by kernel_rfl
theorem C7[LR](T:d_)(acc:b5)(x:V)(F:l0->E l0)(K:Vt)(X:ef):(kQ S6 x>>=F) K X (Oy T [bC acc])=nd (acc.length<=1000) (F () K X (Oy T [bC (acc++[x])])):=by kernel_rfl
theorem IN[tz][LR](F:Id->E Y)(K:Y->ef)(X:ef):(ci 734 ej>>=F) K X (Oy [] [])=F S6 K X (Oy [] [ej]):=by kernel_rfl
theorem IO[LR](T:d_)(j:b5)(F:l0->E m_)(K:lR)(X:ef):(e7 a1W (c1 "plans") (a2 S6)>>=F) K X (Oy T [bC j])=F () K X (dt a4W):=by kernel_rfl
section E
section
set_option backward.match.sparseCases false
open PySem
def ng[jm](W:Int)(d k:Nat)(w:ii):E l0:=a93 k ⟨gK.sc,hJ "lap" w,dU⟩
theorem C8[tz]{G W a:Int}[v1](h:G+k<W){f:ii->E Y}[C_](N:f (aj (a4 (G+k))) K X m):(fu (Uu a) k>>=f) K X m:=by show a6q;exact rwL Pa;exact N
theorem FD{call:aD}{d k:Nat}{W:Int}{w:ii}{K:Vt}[l2][f_](N:H_+k<W)(h:((O2 38).ev gK.elt a65>>=λx=>kQ S6 x>>=λJ=>a7P (o_ W 1) S6 d bm a65) K X m):a7P (o_ W 1) S6 (d+1) k ⟨gK.sc,hJ "lap" w,dU⟩ K X m:=by exact rwL nE;refine C8 N ? _;generalize H_+k=z at*;generalize a:Vh=R at*;have B:=MO bj (a4 z) w (λloc b=>kp (R.ev gK.elt ⟨gK.sc,loc,dU⟩>>=λx=>kQ S6 x>>=λJ=>a9j) a9j) K X m;replace B:=a▸B;exact B.mpr h
theorem C9{f n d k:Nat}[z2]{W:Int}{w:ii}{T A:d_}{K:Vt}[l2](B:kT)(i:px<=10)(N:H_+k<W)(h:r3 dZ G_ (hQ Qt) [z',t5,a4 (t3*px)] (λa m=>(kQ S6 a>>=λJ=>ng f W d bm (aj (a4 (0+k)))) K X m) X RZ):ng f W (d+1) k w K X RZ:=by rewrite [<-KU]at h;have E:=KT (u:= a4 (0+k)) (G:=λx=>kQ S6 x>>=λJ=>a93 bm a65) B i h;exact FD N E
theorem Da{f n d k:Nat}[z2]{W:Int}{w:ii}{T A:d_}{K:Vt}[l2](N:¬H_+k<W)(h:K () RZ):ng f W (d+1) k w K X RZ:=by unfold ng;exact rwL nE;exact CT N h
theorem IP[e3]{s:St}{p L S:Int}(y:0<=p)(w:p<n)(E:0<=S)(k:S<=1000){gl:d_}{Q:Nat}{a:Int}:GE n (mA n s [XV] Wc gl Q a):=by refine db (VB y) λx U=> ? _;subst U;exact⟨n-x,L,S,am,bC [tt,a4 3,tt,tt],by refine a6G w a0,by refine a6O,by refine a6A E a0,k,⟨_,rfl,λv Z=>by ext a9E⟩,b7 ⟨rfl,by show uK x L S=_;exact rwL (show n-(n-x)=x by refine a6z w a0);rfl⟩⟩
theorem IQ[e3]{s:St}{p L S W o O:Int}(c:0<=p)(w:p<n)(E:0<=S)(k:S<=1000)(b:0<=W)(C:W<n)(D:0<=O)(q:O<=1000){gl:d_}{Q:Nat}{a:Int}:GE n (mA n s [XV,a4c] (Wc++uK W o O) gl Q a):=by refine db (VB c) λx U=> ? _;subst U;refine db (VB b) λy U=> ? _;subst U;have I:aH (bC [tt,a4 3,tt,tt]):=⟨_,rfl,λv Z=>by ext a9E⟩;exact⟨n-x,L,S,am,_,by refine a6G w a0,by refine a6O,by refine a6A E a0,k,I,ba ⟨n-y,o,O,am,_,by refine a6G C a0,by refine a6O,by refine a6A D a0,q,I,rfl,by show uK x L S++uK y o O=_;exact a3 (show n-(n-x)=x by refine a6z w a0) (show n-(n-y)=y by refine a6z C a0);rfl⟩⟩
theorem KV{p L S:Int}:lA Wc<=4:=by
 have e:lA Wc=2:=by kernel_rfl
 ext ea;decide
theorem KW{p L S W o O:Int}:lA (Wc++uK W o O)<=4:=by
 have e:lA (Wc++uK W o O)=4:=by kernel_rfl
 ext ea;decide
theorem Db{f n:Nat}[z2][Wn]{R:Int}(h:SF s 33)(g:l4)(B:kT)(c7:2<=px)(i:px<=10)(d8:n*px<=20){G:lR}[l2](N:∀U j T,SF U 40->GE n a7u->lA T<=4->G (hH,B' R []) (dt a7u)):TU ((kj 11).take 1) a5P G X (Oy [] []):=by
 rewrite [KS];have Z:(Oy [] []).H SE=aj (f2 (aj z')):=by kernel_rfl
 refine dj Z (iQ (FC (iZ h.dr (by decide) (by decide) λr gl r0 Y J d=> ? _)));have H:=h.drawn d;clear h Z d;generalize Pv=A at*;have m1:1<=t3*px/\t3*px<=20:=by have:1<=n*px:=Nat.mul_le_mul (by refine bn (nat_lit 0x109001109002101) a7 [] g a0:1<=n) (by refine bn (nat_lit 0x109001109002101) a7 [] c7 a0:1<=px);exact⟨by exact_mod_cast b_,by exact_mod_cast d8⟩
 have v:∀W:Nat,W=1\/W=2->∀(K:Vt),(∀p L S U,SF U 37->H_<=p->p<n->H_<=S->S<=1000->ng f W W 1 (aj (a4 (0+(0:Nat)))) K wj (MW n c U Wc [bC [XV]]))->ng f W (W+1) 0 ap K wj (MW n c A [] [ej]):=λW M K P=>by refine C9 B i (by refine bn (nat_lit 0x11a700370101f0b21000b110001) a7 [] M a0) (C6 H (by decide) g B m1.1 m1.2 λp L S U l y w E k=> ? _);rewrite [C7];exact f7 (by decide) (P p L S U l y w E k)
 have d9:∀W:Int,(bg gK.tgt (o_ W 1)&&bJ gK.sc)=am:=λW=>by
  have e:bg gK.tgt (o_ W 1)=bg gK.tgt (o_ 0 1):=by kernel_rfl
  ext Zp
 have I:∀W:Nat,W=1\/W=2->∀(K:Vt),(∀U j T,SF U 40->GE n a7u->lA T<=4->K () (MW n c U T [bC j]))->ng f W (W+1) 0 ap K wj (MW n c A [] [ej]):=λW M K P=>by
  refine v W M K λp L S U l y w E k=> ? _;rcases M with e|e;. exact rwL (show ng f W W 1=ng f W (0+1) 1 from by ext PD);exact Da (by refine bn (nat_lit 0x1c1a7003711010b110001) a7 [] e a0) (P U _ _ ⟨l.dr.le (by decide),l.row,l.rg,l.F0,l.sl0,l.ls⟩ (IP y w E k) KV)
  . exact rwL (show ng f W W 1=ng f W (0+1+1) 1 from by ext PD);refine C9 B i (by refine bn (nat_lit 0x11a7003711010b210001) a7 [] e a0) (zA l (by decide) g B m1.1 m1.2 λc8 o O t x c9 C D q=> ? _);rewrite [C7];exact f7 (by decide) (Da (by refine bn (nat_lit 0x1c1a7003731111010b210001) a7 [] e a0) (P t _ _ ⟨x.dr.le (by decide),x.row,x.rg,x.F0,x.sl0,x.ls⟩ (IQ y w E k c9 C D q) KW))
 clear v;obtain⟨z,u⟩:∃z:Nat,1+r=(z:Int):=⟨(1+r).toNat,(a5Z (by refine bn (nat_lit 0x119300110119000110) [] a7 r0 a0)).symm⟩;refine nI (by refine c6 (nat_lit 0x1e19000003e823001119300118000003e821900011a210010) [] a7 r0 Y a0) ? _;ext PE;have Q:z=1\/z=2:=by refine kq (nat_lit 0x1f0b21000b11001900011a21001b7003001111) a7 a7 r0 Y u a0
 have F:=I z Q (λJ m=>(e7 a1W (c1 "plans") (a2 S6)>>=λJ=>a_ (Pw,B' R [])) G X m) λU j T a b d=>(IO n c U T j (λJ=>a_ (Pw,B' R [])) G X).mpr (N U j T a b d);clear I N;refine dc (a:=V.rng 0 (z:Int) 1) (uH (by refine c6 (nat_lit 0x109000f42402001a21001b7003001111) a7 a7 Y u a0) (dE (d9 _) (aI ? _)));rewrite [IN];unfold ng at F;generalize MW n c A [] [ej]=m at*;exact F
section E
section
set_option backward.match.sparseCases false
open PySem
theorem KY[a7L]:U4 ((kj 12).take 1) a5P G X m=a7A 301 0 a5P a9Q wj m:=by kernel_rfl
theorem FE[w'](L:b5)[V5]:bA hN bj a3k [OW] K X ⟨[(0,[F2 L]),Xw]⟩=U4 bR ⟨iY,[UY],aU⟩ (hW K X) X (v8 L []):=by kernel_rfl
theorem Dc[jm]:CC (eQ f) f:=by
 exact dl1 f
 exactλcl g args K X m h L=>by
  have e:eQ f ZA a6=(match jF lO G_ ZA a6 with|eI=>x|ap=>bA hN (r3 (jF lO) (f+14)) ZA a6):=rfl;have u:jF lO G_ ZA a6=(bif uy.contains g then lO cl g G_ a6 else aj (L1 G_ ZA a6)):=rfl;exact a3 e u;refine cO (uy.contains g) b4 b4
  .have h:(g==(QZ:Str)||(g==(Qu:Str)||(g==(Qt:Str)||(g==Yz||av))))=av:=h;have q:(g==(QZ:Str)||(g==(Qu:Str)||(g==(T9:Str)||(g==(Qt:Str)||(g==Yz||av)))))=am:=q;simp only [a3s]at h;refine Lz h λH F Q C J=> ? _;clear h;replace q:=H▸q;replace q:=F▸q;replace q:=Q▸q;replace q:=C▸q
   have q:(g==(T9:Str))=am:=by
    refine cO (g==(T9:Str)) D_ D_;. rfl
    . replace q:=z▸q;exact cT q
   have j:lO cl g G_ a6=aj (L1 G_ ZA a6)\/VK=am/\lO cl g G_ a6=aj (GN G_ a6):=by unfold lO;refine rwl H (rwl F (rwl Q (rwl C (rwl q ? _))));induction VK using u' with|true=>exact ba s4|false=>ext Wx;exact hA
   rcases j with j|⟨T,j⟩;. exact rwL j;exact L
   .exact rwL j;have D:cl=("":Str):=by obtain⟨⟨l⟩⟩:=cl;induction l using li with|nil=>kernel_rfl|cons a r=>exact cT T
    have b:g=(T9:Str):=f1 q;subst D b;exact ba L
  . exact L
theorem qr.wf[SA](p:qr n c s):GL n 0 0 c (f9 s WI) [] [] []:=by exact aN p.dr.gi λL g1 J=>⟨p1,p.scr,p.gr,p.so,(L_ p.dr.so).1,p.tl,p.dr.gl,(L_ g1).1,λa m=>by exact rwL (Nat.le_zero.mp m);exactλv Z=> b7 (by have Z:v∈[V.none,a1,a1,a1]:=Z;ext a4u;exact Z),(λo P=>(by cases P)),(λo P=>(by cases P)),(λo P=>(by cases P))⟩
theorem dJ.cf{n b R:Nat}{c y:Cf}{s U:St}(l:dJ n y U b)(sc:fQ c y)(p:qr n c s)(z:f3=R):gt n R y:=by refine GS (sc.pre p) λG T I B=> ? _;have r:=p.ro;refine⟨p.n2,p.n5,sc.room.trans z,by refine c6 (nat_lit 0x10900111b7000019001111) a7 a7 z r.1 a0,by refine c6 (nat_lit 0x10941001b7000019410011) a7 a7 z r.2 a0,by exact rwL sc.text;exact p.tx,λj H F=> ? _,l.ls,G,l.dr.sm,l.dr.so,I,T,B⟩;exact db (l.row j H F) λd r=>r.sz
theorem FF{n f:Nat}[Wn][z2](p:qr n c s){G:lR}[l2](h:G (hH,Fy b0 f3) Vp):TU ((kj 3).take 5) ⟨iY,xJ b0 (a4 f3),aU⟩ G X (M2 n c s):=by have T:=IC n p.n2 p.n5 f c s b0 G X;have S:=CO p.wf;generalize Vp=R at*;generalize M2 n c s=m at*;exact T.mpr ⟨rfl,S,a1,h⟩
theorem IR{f n R:Nat}[Wn][z2]{j:b5}{T:d_}[l2](C:gt n R c)(l:SF s 40)(h:n*px<=20)(O:GE n a4W)(r:lA T<=4):TU (kj 12) ⟨iY,B' f3 [],aU⟩ Xd X (dt a4W):=by
 have d:kj 12=(kj 12).take 1++kj 13:=by kernel_rfl
 exact a3 d cE;rewrite [KY];refine db (l.start C l.dr.gl l.dr.gi O) λA I=> ? _;have P:=Fk C.n5 C.tx h r;have a:=C.n2;have Z:0<=x3:=l.dr.at0;have G:x3<=(40:Nat):=l.dr.at1;have Q:=λK N=>CG C (Dc f) (b0:=b0) (r0:=f3) (K:=K) (X:=wj) N 300 0 _ _ _ _ ap (λJ=>show t3≠0 by refine bn (nat_lit 0x1c1b0170009002101) a7 [] a a0) rfl I (Nat.lt_trans P (by decide)) Z (show x3+(300:Nat)<=10000 by refine bn (nat_lit 0x119000027102370000012c2001970000002820010) [] a7 G a0);generalize dt a4W=m at Q⊢;refine Q _ λU md w g u v x i z=> ? _;clear Q I P;have F:= @da.fin n R c A U md w g lO f b0 f3 u v x X i C z;generalize dt U=m at F⊢;exact F
theorem KZ{f n:Nat}[Wn]{c y:Cf}{s U:St}[l2](p:qr n c s)(l:dJ n y U 33)(sc:fQ c y):TU (kj 9) ⟨iY,Fy b0 y.room,aU⟩ Xd X (MR n y U):=by
 exact dl8 f n b0 c y s U X;have d:kj 9=(kj 9).take 2++kj 11:=by kernel_rfl
 have K:kj 11=(kj 11).take 1++kj 12:=by kernel_rfl
 exact a3 d cE;have Q:=λG=>MH n p.n2 p.n5 f y U b0 G X;generalize MR n y U=m at Q⊢;rewrite [Q];clear Q m;show TU (kj 11) ⟨iY,B' y.room [],aU⟩ Xd X (MW n y U [] []);exact a3 K cE;have e:=p.tx;have h:=p.nt;have g:=p.t2;rw [<-sc.text]at e h g;have Q:=λG=> @Db f n y U b0 y.room l p.n2 p.n5 g e h G X;generalize MW n y U [] []=m at Q⊢;refine Q _ λb j T a O r=> ? _;clear Q m;obtain⟨R,z⟩:∃R:Nat,f3=R:=⟨c.room.toNat,by have:=p.ro;lia⟩;have F:= @IR f n R b0 y b j T X (a.cf sc p z) a h O r;generalize MM n y (mA n b j T b.gl b.gi b.at_)=m at F⊢;exact F
theorem K1{f n:Nat}[Wn][z2][l2](p:qr n c s)[f_](u:m=M2 n c s):aB (wb (eQ OQ) 40) (kj 3) ⟨iY,xJ b0 (a4 f3),aU⟩ Xd X m:=by
 ext PE;clear u m;have d:kj 3=(kj 3).take 5++kj 8:=by kernel_rfl
 have K:kj 8=(kj 8).take 1++kj 9:=by kernel_rfl
 exact a3 d cE;have Q:=λG=> @FF n OQ b0 c s p G X;generalize M2 n c s=m at Q⊢;refine Q _ ? _;clear Q m;show aB (wb (eQ OQ) 40) (kj 8) ⟨iY,Fy b0 f3,aU⟩ Xd X Vp;exact a3 K cE;have Q:=λG=> @FA f n b0 c s p G X;generalize Vp=m at Q⊢;refine Q _ λy U l sc=> ? _;clear Q m;have F:= @KZ OQ n b0 c y s U X p l sc;replace F:=sc.room▸F;generalize MR n y U=m at F⊢;exact F
theorem FG{f:Nat}{I:t4}(Y:kN<=63)[l2]:bA hN (eQ OQ) a3k [OW] K0 X ⟨[(0,[F2 Zy]),Xw]⟩:=by
 rewrite [FE];have d:bR=bR.take 3++kj 3:=by kernel_rfl
 exact a3 d cE;have Q:=λG=> @Fx OQ I G X Y;generalize v8 Zy []=m at Q⊢;refine Q _ λn b0 c s p=> ? _;clear Q d m;generalize u:M2 n c s=m;exact K1 p u.symm
section E
section
set_option backward.match.sparseCases false
open PySem
theorem pJ{u Y:cv} [BEq u] [LawfulBEq u]{a:u}{b:Y}:∀{l:dk (u×Y)},l.lookup a=C2->(a,b)∈l
 |[],h=>bG h
 |(x,y)::r,h=>by
  rewrite [s0]at h;refine cO (a==x) b4 b4;. ext a21;exact OU
  . ext p2;exact pn (pJ h)
theorem lQ[e3]{P:h8}[f_][Uk][mv](D:j<cp):fY m j=m3:=by unfold fY;exact rwL h.ps;rewrite [eu];exact a3 aG (c4 D);exact gg j m3
theorem uL{P Q:h8}{q:Int}:∀{d j:Nat},(∀i,i<j+d->P i=Q i)->ew P q d j=ew Q q d j:=by intro O;induction O with|zero=>intro _ _;exact rfl|succ d G=>intro j h;show a95=(bif bu (Q j)&&(Q j).pid==q then aj j else ew Q q d c_);exact a3 (h j YK) (G λi W=>h i (by rewrite [XE]at W;exact W));rfl
theorem qV[a19][e3]{Q:u->a5}(h:∀j,j<n->Q (f j)):∀o∈aF f n,Q o:=λo P=>by
 obtain⟨i,W,e⟩:=a1D P;have:(aF f n)[i]? =ck:=by rewrite [F4 W,e];try rfl
 replace W:=aM▸W;ext a6H;exact hR b_▸h i W
theorem IS{n j:Nat}{P:h8}[f_][Uk](D:gp):BF j m3 m=BP j m:=by
 unfold BF BP;have O:=h.proc D;refine(iN (by decide) (aT (dh O))).trans (hh (λx:ac=>x.mk1 430 VG) ? _);refine(iN (by decide) (dh O)).trans (hh (λx:ac=>x.mk1 430 NL) ? _);refine gk.trans ? _;have e:=ac.setP_id h.ps;refine(hh (λx:ac=>x.upd x1 (t0 a1X)) e.symm).trans ? _;exact rwL (ac.setP_upd (VL D));show a3U=a3U;congr 2;refine List.ext_getElem? λi=> ? _;unfold eu;exact a3 o8 h.ps;rewrite [eu];exact a3 aG aG;exact bcH q (i<cp)
 .exact a3 PH PH;rewrite [Ow];show aj (bw i (if i=j then a1X else P i))=aj (bw i (bif c0 i j then a1X else jw (bw i (P i))));rewrite [gg];exact bcH r (i=j);. exact a3 (c4 r) r;ext Wv
  . exact a3 (b9 r) (fR r);rfl
 . exact a3 w2 w2;rfl
theorem wg{P Q:h8}[g_][e3](h:∀j,j<cp->m3=Q j):cR P v n=cR Q v n:=by refine List.filter_congr W3;refine(qV (Q:=λx=>jz P v x=jz Q v x) V4) x Y;show(bu m3&&gx (P j).par v)=(bu (Q j)&&gx (Q j).par v);exact rwL (h j D);rfl
theorem Dd{P:h8}:∀{l:b5}[mv],c8 P l=aj j->∃s,og Vf∈l:=λ{l}=>by
 induction l with
  |nil=>exactλh=>bG h
  |cons v r G=>
   intro j h
   induction v using kb with
    |ref i=>
     obtain⟨s,k⟩:=i;have h:(bif(P k).state==Ot then v_ else c8 P r)=aj j:=h;refine cO ((P k).state==Ot) b4 b4;. ext p2;ext xp;exact⟨s,OU⟩
     . ext p2;exact db (G h) λU Z=>⟨U,pn Z⟩
    |_=>ext rs
theorem wh{P Q:h8}:∀{l:b5},(∀s j,og Vf∈l->m3=Q j)->c8 P l=c8 Q l:=λ{l}=>by induction l with|nil=>exact hS|cons v r G=>intro h;have G:=G λs j D=>h s j (pn D);induction v using kb with|ref i=>obtain⟨s,k⟩:=i;show(bif(P k).state==Ot then v_ else c8 P r)=(bif(Q k).state==Ot then v_ else c8 Q r);exact a3 (h s k OU) G;rfl|_=>rfl
theorem dW[f_][R0](h:RC):c9 m i=o:=by unfold c9;ext Td
theorem zB[e3]{c:eN}{args:b5}(h:n<6):bl n c a6=ap:=by
 have:∀k,k<6->bl k c a6=ap:=λk h=>by
  rcases k with _|_|_|_|_|_|k;iterate 6 rfl
  exact b6 h (Nat.not_lt_of_le (Nat.le_add_left 6 k))
 exact b_ n h
theorem jG{Y:Type _}[RN]{a x:Y}(h:(if c then C1 else ap)=eI):c/\a=x:=by
 exact bcH q c;. ext a0w;exact⟨q,hR h⟩
 . ext a1A
theorem jQ{u Y:Type _}{o:ez u}{f:u->ez Y}{x:Y}(h:o.bind f=eI):∃a,o=C1/\f a=eI:=ZS
abbrev FH(p:(Str×Str)×(b5->w9)):a5:=∀[f0][wl](x:E V)[p3],p.2 a6=eI->Vs->au hN (n+6) (.fn c5.1 c5.2) a6 K X m
theorem De:FH ((fI,Pz),Gr):=λn args x K X m h Y=>by refine i5 (eB h) λt A d=> ? _;subst d;intro h;ext a7J;exact rwL (cD q.1);refine bx Y V_;clear Y;exact i5 (nG H) λE P l J=>Eo (n+4) A K X m ⟨⟨E,P,l,HE q.2⟩,λc=>(F c)⟩
theorem Df:FH ((fI,QO),Gs):=λn args x K X m h Y=>by
 refine i5 (eB h) λt v d=> ? _;subst d;intro h;refine aN (ik h) λq U=> ? _;ext W0;refine bx (jG h) λC U=> ? _;subst U;exact rwL (cD C);refine bx Y λG Q=> ? _;clear Y;refine bx G V_;clear G;refine i5 (nG H) λE P l J=> ? _;refine Er (n+4) q K X m l ? _;replace F:=l.ps▸F;rewrite [eu]at F;replace F:=aM▸F;replace F:=(uL (Q:=P) λi W=>lQ l (by rewrite [Ow]at W;exact W))▸F;exact rwL F;refine cO (bu (fY m (q-1).toNat)) RY RY;. replace Q:=T▸Q;exact Q
 . replace Q:=T▸Q;exact Q
theorem Dg:FH ((fI,Xa),Gu):=λn args x K X m h Y=>by
 ext a6T;refine aN (jQ h) λj D h=> ? _;ext a7J;rw [cD q.1,cD D]at*;refine bx Y V_;clear Y;refine i5 (nG H) λE P l O=> ? _
 have e:cR P f5 E=[]:=by
  refine List.filter_eq_nil_iff.mpr λv Z=> ? _
  induction v using kb with
   |ref i=>
    obtain⟨s,k⟩:=i;show¬(bu (P k)&&gx (P k).par f5)=am
    have:gx (P k).par f5=av:=by
     rcases O k with e|e;. ext PD
     . ext ea;exact S1 λz=>q.2 (Xi z).2.symm
    ext Od;ext Wx;exact WC
   |_=>exact WC
 refine qO l O ? _;ext ea;exact F
theorem IT:FH ((r_,A_),M6):=λn args x K X m h Y=>by
 ext a6T;refine aN (jQ h) λy hy h=> ? _;ext a7J;exact a3 (cD q) (cD hy);refine cO (qb We (c9 m (bS y))==1) (λM=> ? _) λM=> ? _
 .replace Y:=M▸Y;refine bx Y λG Y=> ? _;obtain⟨H,E,sz,most,u,f,L,e,F,Q,C,S,s,N,i,b,c,a⟩:=G;have k:a1u=u:=by exact rwL (dW F);kernel_rfl
  replace Q:=k▸Q;refine Hw H F Q C S s N i b c a ? _;have Y:=Y;unfold Gv at Y;replace Y:=k▸Y;replace Y:=dW F▸Y;replace Y:=dW Q▸Y;replace Y:=dW N▸Y;replace Y:=dW b▸Y;exact Y
 . replace Y:=M▸Y;exact Eu Y.1 (by decide) (Y.2)
theorem IU:FH ((hL,Oe),M7):=λn args x K X m h Y=>by
 refine i5 (eB h) λp v d=> ? _;subst d;intro h;refine aN (ul h) λb U=> ? _;ext b0q;refine bx Y λG Y=> ? _;refine LC G λsz f y H F Q C S=> ? _;clear G;have g:qd m i=f:=by unfold qd;exact rwL (dW H);cases f;kernel_rfl
 have u:BN m i=sz:=by unfold BN;exact rwL (dW H);kernel_rfl
 have j:HH m i=y:=by unfold HH;exact rwL (dW F);rfl
 replace Y:=g▸Y;replace Y:=u▸Y;refine cO f.ro b4 b4
 .replace Y:=q▸Y
  have M:0<=(if sz-(f.wc-f.rc)<(nw:Int)then sz-(f.wc-f.rc)else nw):=by
   exact bcH z (sz-(f.wc-f.rc)<(nw:Int));. exact rwL vh;refine bn (nat_lit 0x119442010000119300201030) [] eb S.2.2.1 a0
   . ext Vo;refine a6U
  refine db (VB M) λT l=> ? _;have a:=Y.2 T l.symm;refine Hz H F q Q C S Y.1 T l.symm (? _);unfold BO at a;replace a:=g▸a;replace a:=u▸a;replace a:=j▸a;exact rwL l;refine cO (NW==nw) D_ D_;. replace a:=z▸a;exact rwL (c4 (f1 z));exact a
  . replace a:=z▸a;exact rwL (b9 (beq_eq_false_iff_ne.mp z));exact a
 . replace Y:=q▸Y;refine(Go (n+3) i b K X m).mpr ? _;refine aC (v:= hP f.ro) H (by kernel_rfl) (by kernel_rfl) ? _;ext OI;exact Y
theorem IV:FH ((hL,RB),M8):=λn args x K X m h Y=>by
 refine i5 (eB h) λp v d=> ? _;subst d;intro h;refine aN (ik h) λc U=> ? _;ext b0q;refine zF Y λG L Y=> ? _;refine LC G λsz f y H F Q C S=> ? _;clear G;have g:qd m i=f:=by unfold qd;exact rwL (dW H);cases f;kernel_rfl
 have u:BN m i=sz:=by unfold BN;exact rwL (dW H);kernel_rfl
 have j:HH m i=y:=by unfold HH;exact rwL (dW F);rfl
 replace Y:=g▸Y;refine cO (f.wo&&(fl (0<c)&&f.wc-f.rc==0)) b4 b4;. replace Y:=q▸Y;rewrite [py]at q;rewrite [py]at q;exact Bz H (a0d q.2.1) (f1 q.2.2) q.1 (Y)
 .replace Y:=q▸Y
  have M:0<=(if f.wc-f.rc<c then f.wc-f.rc else c):=by
   exact bcH z (f.wc-f.rc<c);. exact rwL vh;refine bn (nat_lit 0x119410000119001020) [] cb S.2.1 a0
   . ext Vo;refine bn (nat_lit 0x119000119000110) [] a7 L.1 a0
  refine db (VB M) λT l=> ? _;have a:=Y T l.symm;unfold Gw at a;replace a:=g▸a;replace a:=u▸a;replace a:=j▸a;refine HB H F Q C S L ? _ T l.symm (a);exact rwR q;rewrite [Bool.and_comm f.wo];rewrite [Bool.and_assoc];rfl
theorem FJ:FH (("",a2h),JO):=λn args x K X m h Y=>by
 induction a6 using li with
  |nil=>ext rs
  |cons v l=>
   refine i5 (eB (show two l _=eI from h)) λw u d=> ? _;subst d;intro h;refine aN (qR h) λp U=> ? _;ext W0;refine aN (qR h) λr U=> ? _;ext W0;refine aN (ik h) ZE;ext W0;ext xp;refine bx Y λG Y=> ? _;obtain⟨k,L,S,c,E,j,sz,N,R,A,H,F,Q,C,a⟩:=G;have e:BQ (c9 m r)=x1:=by exact rwL (dW F);kernel_rfl
   replace Q:=e▸Q;exact EG H F Q ⟨C,a⟩ (Y.1) λP b=>(Y.2 (by exact rwLR (dW H) P;kernel_rfl) b)
theorem Dh:FH ((fI,Pd),Gx):=λn args x K X m h Y=>by
 ext a6T;refine bx (jG h) λq k=> ? _;subst k;rw [cD q.1,cD q.2]at*;refine GS Y λH F Q C=> ? _;clear Y;refine i5 (nG H) λE P l O=> ? _;have r:a4r=E:=by exact rwL l.ps;rewrite [eu];ext QF;rfl
 have f:cR (fY m) js E=cR P js E:=wg λj D=>lQ l D;have N:∀s j,og Vf∈cR P js E->j<E+1:=λs j D=>by refine(qV (Q:=λv=>∀s j,v=og Vf->j<E+1) (λi W s j e=> ? _)) _ (SS D).1 s j rfl;cases e;exact W
 have o:c8 (fY m) (cR P js E)=c8 P (cR P js E):=wh λs j D=>lQ l (N s j D);rw [r,show(og (bv 1000460 0))= js from rfl,f,o]at F Q C;rw [lQ l (we E)]at Q C;refine BH (q:=0) l O (Q8 E) V4 (λa b=>Q a b) λa b c=>C a b c;refine db (Dd D) λU Z=> ? _;have B:=N U j Z;have:=F j D;replace this:=lQ l B▸b_;have g:cy E P ((uQ js m).mk1 493 (bC (cR P js E))):=cy.other (cy.other l (by decide)) (by decide);exact rwL (IS g (oc B));exact b_
theorem Di[Z5](h:bl n c a6=eI)[p3](Y:Vs):∃P',l7 m P' K/\au hN n c a6 P' X m:=by
 obtain⟨n,rfl⟩:∃k,n=k+6:=by refine⟨n-6,(Pk (Nat.le_of_not_lt b4)).symm⟩;have:bl n c a6=ap:=zB q;replace h:=b_▸h;ext rs
 cases c with|clos=>ext rs|fn cl f=>refine aN (Option.bind_eq_some_iff.mp (show(HI.lookup (cl,f)).bind (λg=>g a6)=eI from h)) λg D h=> ? _;have o:∀p∈HI,FH p:=ZY ⟨De,ZY ⟨Df,ZY ⟨Dg,ZY ⟨IT,ZY ⟨IU,ZY ⟨IV,ZY ⟨FJ,List.forall_mem_singleton.mpr Dh⟩⟩⟩⟩⟩⟩⟩;exact⟨K,λJ J q=> b7 q,o _ (pJ D) n a6 x K X m h Y⟩
section E
section
open PySem PySem.W PySem.Calls PyProof.Rows
theorem VR.sc[h_][US]:bZ Ql v:=VR.rec (motive_1:=λv J J=>bZ Ql v) (motive_2:=λvs J J=>∀v∈vs,bZ Ql v) a1 (λb=> B_) (λi J=> f6) (λs J=> c1 s) (λb J=> hj) (λi h=> eF h) (λc f J J=> Tm) (λc J J=> .cls c) (λn J J J=> .bi n) (λvs J J J J h=> w_ h) (λJ J J J J J J=> .rng _ _ _) (λb s cells J J J J J J J J J J J L=> .clos b s mz λx c e=>(L x c e).1) (λv Z=>(by cases Z)) (λJ J h t v Z=>(nr Z).elim (λe=>e▸h) (t v)) h
theorem bW.sc[h_]:∀[M'],tq->∀v∈vs,bZ Ql v:=by intro O;induction O with|nil=>intro _ _ v Z;exact(by cases Z)|cons x I G=>intro _ h v Z;cases h with|cons a b=>exact(nr Z).elim (λe=>e▸a.sc) (G b v)
theorem PR.sc[h_]{K:cv}[ZO]:∀q∈F,bZ Ql q.2:=by induction h with|nil=>exactλq B=>(by cases B)|cons a _ G=>exactλq B=>(nr B).elim (λe=>e▸a.sc) (G q)
theorem fE.sc[h_][R0](R:fE C σ i o):kr Ql o:=by
 induction o using z5 with
  |inst c F=>
   refine GU R λA K J J J J h=> ? _;clear R;intro x v e;have h:=h x;ext a7t;. ext p2;exact Ok
   . ext p2;exact VR.sc h
  |list vs=>refine i5 R λJ J J h=> ? _;clear R;exact h.sc
  |flist vs=>refine xM R λJ J J J J J h=> ? _;clear R;exact h.sc
  |sd F=>refine aN R λJ J h=> ? _;clear R;exact h.sc
  |idc F=>refine aN R λJ J h=> ? _;clear R;exact h.sc
  |cell v=>induction v using u_ with|none=>exact ep|some v=>refine aN R λw J h=> ? _;clear R;induction w using u_ with|none=>exact Ok|some w=>exact VR.sc h
  |_=>exact ep
abbrev Sg.wm[iv][m5]:Sg:=⟨tp,σ.δ,m,σ.h⟩
theorem VR.fewer[h_][f_][US]:bZ (ao m) v->D' (σ.wm m) v w:=VR.rec (C:=C) (σ:=σ) (motive_1:=λv w J=>bZ (ao m) v->D' (σ.wm m) v w) (motive_2:=λvs ws J=>(∀v∈vs,bZ (ao m) v)->bW C (σ.wm m) vs ws) (λJ=> a1) (λb J=> B_) (λi t J=> f6 t) (λs t J=> c1 s t) (λb t J=> hj t) (λi J s=> a2 (σ:=σ.wm m) i (by cases s;assumption)) (λc f a e J=> Tm a e) (λc a e J=> .cls c a e) (λn v e k J=> .bi n v e k) (λvs a items e J h s=> w_ a kn e (h (by cases s;assumption))) (λG W a u t v e J=> Uu a u t v e) (λbody sc cells a name g cl j o ct q N e r L s=> a7M j o ct q N e r λx c Y=>⟨by cases s with|clos _ _ _ z=>exact z x c Y,(L x c Y).2⟩) (λJ=> .nil) (λJ J h t s=> t6 (h (s _ OU)) (t λv Z=>s v (pn Z))) h
theorem bW.fewer[h_][f_]:∀[M'],tq->(∀v∈vs,bZ (ao m) v)->bW C (σ.wm m) vs ws:=by intro O;induction O with|nil=>intro _ h _;cases h;exact .nil|cons x I G=>intro _ h s;cases h with|cons a b=>exact t6 (a.fewer (s _ OU)) (G b λv Z=>s v (pn Z))
theorem PR.fewer[h_][f_]{K:cv}[ZO]:(∀q∈F,bZ (ao m) q.2)->PR C (σ.wm m) F d:=by induction h with|nil=>exactλJ=> .nil|cons a _ G=>exactλs=> t6 (a.fewer (s _ OU)) (G λq B=>s q (pn B))
theorem fE.fewer[h_][f_][R0](R:fE C σ i o)(s:kr (ao m) o):fE C (σ.wm m) i o:=by
 induction o using z5 with
  |inst c F=>
   refine GU R λA K G T I B h=> ? _;clear R;refine⟨A,K,G,T,I,B,λx=> ? _⟩;have h:=h x;refine cM (R3 x) od S7
   .ext a7t;. exact ep
    . ext p2;exact Ok
   .ext a7t;. ext p2;exact Ok
    . ext p2;exact VR.fewer h (s x v e)
  |list vs=>refine i5 R λa b c h=> ? _;clear R;exact⟨a,b,c,h.fewer s⟩
  |flist vs=>refine xM R λa b c d e f h=> ? _;clear R;exact⟨a,b,c,d,e,f,h.fewer s⟩
  |sd F=>refine aN R λa b h=> ? _;clear R;exact⟨a,b,h.fewer s⟩
  |idc F=>refine aN R λa b h=> ? _;clear R;exact⟨a,b,h.fewer s⟩
  |barr b=>exact R
  |tab=>exact R
  |cell v=>
   refine aN R λw a h=> ? _;clear R;refine⟨w,a,? _⟩
   induction v using u_ with
    |none=>induction w using u_ with|none=>exact ep|some w=>exact Ok
    |some v=>induction w using u_ with|none=>exact Ok|some w=>exact VR.fewer h s
theorem Gc.inv{S:ey}[RV]{d:ac}[g_](g:Gc hM D.m d v)(c:x_)(x:B5 D)(I:bH C D):bH C (D.wm d)/\B5 (D.wm d):=by
 have f:∀b,gJ (D.wm d) b->gJ D b:=λb⟨i,o,e,h⟩=>⟨i,o,g.sub i o e,h⟩;have w:∀i,C3->ao d i:=λi h=>by exact db (ga (SI i h)) λo e=>ce ((g.old i h).trans e)
 have k:∀p,m6 (D.wm d) p->m6 D p:=λp⟨o,e,h⟩=>⟨o,g.sub _ o e,h⟩;refine⟨⟨I.base,λb h=>I.new b (f b h),λi o e=>(I.obj i o (g.sub i o e)).fewer ? _,λp q O B z=>I.inj p q (k p O) (k q B) z,λb h=>I.big b (f b h),I.low,λt P e=> ? _⟩,w,x.ρ,x.δ,λi o e=> ? _,x.keep,x.stay,λb h=>TF b (f b h)⟩
 .rcases g.obj i o e with h|h;. exact(c.obj i o h).sc.mono w
  . exact h
 . exact⟨w t (c.tabs t P e).1,XW.2⟩
 . exact aN (x.inst i o e) λo' r h=>⟨o',(g.old i (ce e)).trans r,h⟩
theorem cH.gc{X:XP}{S:ey}[h_]{x y:E V}[V6][m2](h:NN D' y hM Q E)(f:∀P PX,y P PX hM->∃P',l7 hM P' P/\x P' PX hM):NN D' x hM Q E:=by
 refine d9 h λP PX N Y h=> ? _;refine aN (f P PX h) λP' k h=> ? _;refine⟨P',PX,λb m' L D U a u y Z K z=> ? _,Y,h⟩;subst u;rcases k b D.m L with L|⟨d,g,L⟩;. exact N b _ L D U a rfl y Z K z
 . exact bx (g.inv I y K.inv) λj c=>N b d L (D.wm d) U a rfl c (λb M=>⟨λ⟨i,o,e,q⟩=>(Z b M).1 ⟨i,o,g.sub i o e,q⟩,(Z b M).2⟩) ⟨K.heap,j,K.gens,K.os⟩ (z.fewer g.val)
theorem aa.gc{A:Around}{X:XP}{S:ey}[h_]{t:P7}{x y:E V}(h:eG t x)(f:∀P PX m,y P PX m->∃P',l7 m P' P/\x P' PX m):eG t y:=λs at_ p Q E O=>YA (cH.gc lv O λP PX q=>f P PX hM q)
theorem uM{mg S:h7}(G:GF C mg S)(B:nQ C){i:Rl}(M:fV C i){s:jW}(j:a8N):fV C (ay C.P s)
 |0,A,l,Ar=>a9F
 |cp,A,l,Ar=>by
  have h:∀d env,fU d Ri n->VM->oW C d Ri env (ay C.P s n) AD:=λd env N z=>rT G B N.zero z (uM G B M j n d Ri N) AD;have y:=M cp A l Ar;refine⟨λσ c f a vs ws I T g Z=> ? _,λσ b sc cl w vs ws I T r Z=> ? _⟩
  .show aa C _ _ S0 σ D' _ (match s cp Tm vs with|eI=>x|ap=>bA C.P (ay C.P s n) Tm vs);refine cM (s cp Tm vs) od λx e=> ? _;. exact wY G Ar h I T g Z
   . exact(y.fn σ c f a vs ws I T g Z).gc (j _ _ _ _ e)
  .show aa C _ _ S0 σ D' _ (match s cp WL vs with|eI=>x|ap=>bA C.P (ay C.P s n) WL vs);refine cM (s cp WL vs) od λx e=> ? _;. exact qJ G Ar h I T r Z
   . exact(y.clos σ b sc cl w vs ws I T r Z).gc (j _ _ _ _ e)
section E
section
set_option backward.match.sparseCases false
open PySem PySem.W PySem.Calls PyProof.Rows
theorem IW:Ab C:=λmg S G B K f=>have b:=Hr G K B f;⟨oZ G b,λi s M Z=>uM G b M Z⟩
section E
section
open PySem PySem.W PySem.Calls PyProof.Rows
def K2(a b:Rl):Rl:=λn c args K X m=>a n c a6 K X m\/b n c a6 K X m
theorem aa.or{C:Cx}{A:Around}{X:XP}{S:ey}[h_]{t:P7}{a b:E V}(c:eG t a)(M:eG t b):eG t (λK X m=>a K X m\/b K X m):=λs at_ p Q E O=>by
 ext a27;clear O;rcases h with h|h;. exact c s at_ p Q E ⟨P,PX,N,Y,h⟩
 . exact M s at_ p Q E ⟨P,PX,N,Y,h⟩
theorem sB{C:Cx}{a b:Rl}(m:fV C a)(M:fV C b):fV C (K2 a b):=λn A l D=>⟨λσ c f x vs ws I T g Z=>aa.or ((m n A l D).fn σ c f x vs ws I T g Z) ((M n A l D).fn σ c f x vs ws I T g Z),λσ b sc cl w vs ws I T r Z=>aa.or ((m n A l D).clos σ b sc cl w vs ws I T r Z) ((M n A l D).clos σ b sc cl w vs ws I T r Z)⟩
abbrev mC(i:Rl)[Z5]:a5:=∀K X m,Vs->∃P',l7 m P' K/\i n c a6 P' X m
theorem mC.self{i:Rl}[e3]{c:eN}{args:b5}:mC i n c a6 (i n c a6):=λK J J h=>⟨K,λJ J h=> b7 h,h⟩
theorem xL{cl:Str}(h:VK=am):cl=("":Str):=by obtain⟨⟨l⟩⟩:=cl;induction l using li with|nil=>kernel_rfl|cons a r=>ext sp
theorem sC[e3]{cl f:Str}{args:b5}{x:E V}(L:VK=am)(d:a02=am)(h:uC a6=eI):mC (au hN) n Ul a6 x:=λK X m Y=>by rewrite [py]at d;refine bx d λa B=> ? _;obtain⟨k,rfl⟩:∃k,n=bm:=⟨w5,(Pk (SO B)).symm⟩;exact a3 (xL L) (f1 a);exact Iv h Y
theorem Dj[Z5](h:dZ n c a6=eI):mC (au hN) n c a6 x:=by
 cases c with
  |clos=>ext rs
  |fn cl f=>
   have h:a7j=eI:=h;refine cO (VK&&a02) b4 b4;. ext p2;rewrite [py]at q;exact sC q.1 q.2 h
   . ext p2;ext rs
abbrev cC:Rl:=r3 dZ
theorem Dk[Z5](h:gI n c a6=eI):mC (K2 (au hN) cC) n c a6 x:=by
 cases c with
  |clos=>ext rs
  |fn cl f=>
   have h:a8x=eI:=h;refine cO (CP.contains (cl,f)) b4 b4;. ext p2;ext xp;exactλK X m Y=>by exact aN (v3 Y) λP' H F=>⟨P',H,ba F⟩
   .ext p2;refine cO (VK&&a02) b4 b4;. ext p2;rewrite [py]at q;exactλK X m Y=>by exact aN (sC q.1 q.2 h K X m Y) λP' H F=>⟨P',H,b7 F⟩
    . ext p2;ext rs
abbrev cL:Rl:=r3 gI
abbrev c2:Rl:=L1
abbrev cB:Rl:=K2 (K2 (au hN) c2) (K2 cC cL)
theorem mC.c2[e3]{c:eN}{args:b5}:mC cB n c a6 (L1 n c a6):=λK J J h=>⟨K,λJ J h=> b7 h,b7 (ba h)⟩
theorem mC.gC[e3]{c:eN}{args:b5}{cs:UU}:mC cB n c a6 (Dx cs (r3 dZ n c a6)):=λK X m Y=>by exact aN (v3 Y) λP' H F=>⟨P',H,ba (b7 F)⟩
theorem FK[f0](cl f:Str)[wl](x:E V)(h:lO cl f n a6=eI):mC cB n Ul a6 x:=by
 exact dl5 n cl f a6 x;unfold lO at h;refine cO VK b4 b4
 .ext p2;have q:=xL q;subst q;refine cO (f==(Qu:Str)) b4 b4;. ext a21;exact .gC
  .ext p2;refine cO (f==(T9:Str)) b4 b4
   .ext a21;intro K X m Y;rcases Y with Y|Y
    .refine cM (bif lj 1 n then uC a6 else ap) od λy e=> ? _;. replace Y:=e▸Y;exact Y.elim
     .replace Y:=e▸Y;refine cO (lj 1 n) D_ D_;. ext a0X;exact aN (sC (n:=n) (cl:="") (f:=T9) (args:=a6) (by kernel_rfl) (by exact rwL z;kernel_rfl) e K X m Y) λP' H F=>⟨P',H,b7 (b7 F)⟩
      . ext a0X;ext pf
    . exact⟨K,λJ J h=> b7 h,b7 (ba Y)⟩
   .ext p2;refine cO (f==(Qt:Str)) b4 b4;. ext a21;exactλK X m Y=>⟨K,λJ J h=> b7 h,ba (b7 Y)⟩
    .ext p2;refine cO (f==(QZ:Str)) b4 b4;. ext a21;exactλK X m⟨A,Y⟩=>by exact aN (v3 Y) λP' H F=>⟨P',H,ba (ba F)⟩
     . ext p2;ext xp;exact .c2
 .ext p2;refine cO (cl==(fI:Str)&&f==Yz) b4 b4;. ext p2;ext xp;rewrite [py]at q;exact a3 (f1 q.1) (f1 q.2);exact .gC
  . ext p2;ext xp;exact .c2
theorem Dl[Z5](h:jF lO n c a6=eI):mC cB n c a6 x:=by
 cases c with
  |clos=>ext xp;exact .c2
  |fn cl f=>
   have h:(bif uy.contains f then lO cl f n a6 else aj (L1 n Ul a6))=eI:=h;refine cO (uy.contains f) b4 b4;. ext p2;exact FK n cl f a6 x h
   . ext p2;ext xp;exact .c2
abbrev c3:Rl:=r3 (jF lO)
def mX:jW:=λn c args=>if n=30 then ap else aj (c3 n c a6)
theorem Dm[Z5](h:mX n c a6=eI):mC c3 n c a6 x:=by
 unfold mX at h;exact bcH q (n=30);. ext a0w;ext rs
 . replace h:=w2▸h;ext xp;exact .self
theorem MU(I:t4)(Y:kN<=63)[l2]:r3 mX 30 a3k [OW] K0 X ⟨[(0,[F2 Zy]),Xw]⟩:=by
 have e:r3 mX 30=λc args=>bA hN (c3 29) c a6:=by kernel_rfl
 ext ea;exact FG (f:=13) Y
theorem Dn{C:Cx}{mg S:h7}(d:C.P=hN)(G:GF C mg S)(B:nR C.K)(K:C.ca w7=aj 76)(f:S QW=aj R6):fV C (r3 mX):=by
 have g:=Ac IW C mg S G B K f;have L:∀{i:Rl}{s:jW},fV C i->(∀n c args x,s n c a6=eI->mC i n c a6 x)->fV C (r3 s):=λM Z=>by have:=g.2 _ _ M Z;replace this:=d▸b_;exact b_
 have b0:fV C (au hN):=by have:=g.1;replace this:=d▸b_;exact b_
 have b1:=L b0 Di;have P:=L b1 Cb;have b:=L b0 Dj;have a:=L (sB b0 b) Dk;exact L (L (sB (sB b0 P) (sB b a)) Dl) Dm
section E
section
open PySem PySem.W PySem.Calls PyProof.Rows PySem.SeqAt
def NI(xs:t4):Wb| bv r k=>if r=0/\k=0 then aj (F2 a0K)else if(cW (bv r k)).isSome then aj sw else ap
def m0(xs:t4):ac:=⟨[(0,[F2 a0K]),Xw]⟩
theorem K3{xs:t4}:(m0 xs).H=NI xs:=by
 funext⟨r,k⟩;show(bL (c0 0 r) [ae.flist a0K] (bL (c0 3000000 r) [sw,sw,sw,sw,sw] []))[k]? =a6a;exact bcH h0 (r=0);. subst h0;match k with|0=>rfl|bm=>rfl
 .exact a3 (fR (LL h0)) (b9 λq=>h0 q.1);exact bcH h1 (r=3000000);. subst h1;match k with|0|1|2|3|4=>rfl|k+5=>rfl
  .exact rwL (fR (LL h1));have:cW (bv r k)=ap:=by show(bif c0 r 3000000 then _ else ap)=ap;exact rwL (fR h1);rfl
   ext Od;rfl
def Do[Qc]:b2:=eV.all λa=>K.any λx=>codeHdIn K x.1 a
def IX(P:Nat):Id:= V3 (bif c0 P 841 then 0 else bif c0 P 855 then 1 else bif c0 P 862 then 2 else bif c0 P 876 then 3 else 4)
theorem sD[eX]{P:Addr}(h:cW i=aj P):P∈eV/\i=IX P:=by
 obtain⟨r,k⟩:=i;have h:(bif c0 r 3000000 then(a3o:zn)[k]? else ap)=aj P:=h;refine cO (c0 r 3000000) od od;. ext Qp;exact rwL (TQ e);have h:(a3o:zn)[k]? =aj P:=h;exact match k,h with|0,h|1,h|2,h|3,h|4,h=>hR h▸⟨by decide,rfl⟩|k+5,h=>bG h
 . ext Qp;ext rs
theorem lT[eX]{P:Addr}(h:cW i=aj P):P∈eV/\∀j,cW j=aj P->i=j:=⟨(sD h).1,λJ D=>(sD h).2.trans (sD D).2.symm⟩
theorem IY[lS](h:a∈eV):∃i,cW i=C1:=by
 have h:a∈a3o:=h;simp only [Y6,a1p,or_false]at h;rcases h with rfl|rfl|rfl|rfl|rfl;. exact⟨V3 0,rfl⟩
 . exact⟨V3 1,rfl⟩
 . exact⟨V3 2,rfl⟩
 . exact⟨V3 3,rfl⟩
 . exact⟨V3 4,rfl⟩
theorem iw{xs:t4}[R0](h:(m0 xs).H i=ck):(i= bv 0 0/\o= F2 a0K)\/(o= sw/\∃P,cW i=aj P):=by
 replace h:=K3▸h;obtain⟨r,k⟩:=i;have h:a6a=ck:=h;exact bcH h0 (r=0/\k=0);. replace h:=c4 h0▸h;ext xp;refine bx h0 PY;clear h0;ext a1J;exact b7 s4
 .replace h:=b9 h0▸h;exact bcH h1 ((cW (bv r k)).isSome=am);. replace h:=c4 h1▸h;ext xp;exact ba ⟨rfl,UM h1⟩
  . replace h:=b9 h1▸h;ext rs
theorem Dp{xs:t4}[eX]{P:Addr}(h:cW i=aj P):(m0 xs).H i=aj sw:=by
 exact rwL K3;obtain⟨r,k⟩:=i;show a6a=aj sw;exact bcH h0 (r=0/\k=0);. refine bx h0 PY;clear h0;ext a1J;ext rs
 . exact a3 (b9 h0) (c4 (by ext Td));rfl
def σ0(xs:t4)(h:Heap)(sc:Addr):Sg:=⟨λi=>(cW i).getD sc,Oi,m0 xs,h⟩
theorem Dq{C:Cx}[h_]{xs:t4}{ws:eS}(h:IntsAre ws xs):xb a0K ws:=by induction h with|nil=>exact .nil|cons _ _ _ G=>exact t6 (di _) G
section
variable{p:Program}{w:World}{s:Shared}{K:Frag}{mg mb:h7}{sc:Addr}{xs:t4}
theorem zC(l:Bo e5)(G:(hideAll e5 eV).Ns PT mg)(A:a9g):bH (yO p w e5 s.os K) (Yt sc):=by
 exact dl7 p w s K mg sc xs;refine xM A λy items n g u C T=> ? _;clear A;have Z:sc∉eV:=λI=>by replace g:=l sc I▸g;ext a3c;cases C
 have a:∀i P,cW i=aj P->(Yt sc).ρ i=P:=λi P h=>by show(cW i).getD sc=P;ext Td
 have d:(Yt sc).ρ (bv 0 0)=sc:=rfl
 have f:∀b,gJ (Yt sc) b->b∈eV:=λb⟨i,o,H,F,Q⟩=>by
  rcases iw H with⟨rfl,rfl⟩|⟨rfl,P,m⟩;. exact sK F
  .rcases Q with rfl|⟨Q,_⟩;. exact rwL (a i P m);exact(lT m).1
   . exact cT Q
 refine⟨λb o e=>of_hideAll _ e,λb M=>hideAll_none _ (f b M),λi o h=> ? _,λq r B z e=> ? _,λb M=> ? _,? _,λt P h=>⟨ce (Dp h),a t P h⟩⟩
 .rcases iw h with⟨rfl,rfl⟩|⟨rfl,P,m⟩;. exact⟨y,kn,n,a2c g Z,u,C,Dq T⟩
  .refine⟨#[],? _,ep,λpos N q=> ? _⟩;. exact rwL (a i P m);exact l P (lT m).1
   . exact bG q
 .obtain⟨i,b⟩:=q;obtain⟨j,c⟩:=r;refine aN B λE W M=> ? _;clear B;refine aN z λv D L=> ? _;clear z;have b0:b=av:=by induction b using u' with|false=>rfl|true=>rcases iw W with⟨_,rfl⟩|⟨rfl,_⟩<;>cases M rfl
  have k:c=av:=by induction c using u' with|false=>rfl|true=>rcases iw D with⟨_,rfl⟩|⟨rfl,_⟩<;>cases L rfl
  subst b0 k;have e:(Yt sc).ρ i=(Yt sc).ρ j:=e;rcases iw W with⟨rfl,_⟩|⟨_,P,m⟩<;>rcases iw D with⟨rfl,_⟩|⟨_,R,x⟩;. rfl
  . replace e:=d▸e;replace e:=a j R x▸e;exact b6 (e▸(lT x).1) Z
  . replace e:=d▸e;replace e:=a i P m▸e;exact b6 (e▸(lT m).1) Z
  . replace e:=a i P m▸e;replace e:=a j R x▸e;subst e;exact hh (·,av) ((lT (i:=i) m).2 j x)
 .have:∀b∈eV,(4:Nat)<=b:=by decide
  exact b_ b (f b M)
 . exact qs G λo Y S e J=>⟨_,o,e,oa 4⟩
theorem zD:fU callerA [] 30:=⟨rfl,rfl,rfl,by decide,by decide⟩
theorem Dr[V6]{q:Program}{k:pb}{t:ExcName->II}(y:rV K)(B:nR K)(O:Do K=am)(X:K.In e5)(l:Bo e5)(T:Top q k t mg mb e5)(d:s.gens= #[])(A:a9g)(C:r3 mX 30 a3k [OW] (λv J=>v= y2) oN (m0 xs))(c9:∀U,OldK e5 U.heap->U.os=s.os->U.gens= #[]->Q y2 U):bp (model p w) callerA (bj (a2 889) [a2 sc]) Q E s:=by
 revert q k t;exact gs p w s K mg mb sc xs Q E;exact dl3 q k t;have G:=JD (p:=p) (w:=w) (os:=s.os) y X l T;have a:mb QW=aj R6:=(T.builtins QW (by decide)).trans (by kernel_rfl);have I:bH (yO p w e5 s.os K) (Yt sc):=zC l G.g A;have at_:At (yO p w e5 s.os K) (Yt sc) s:=⟨rfl,I,d,rfl⟩;have S:=((Dn rfl G B (by decide:zI dP w7=aj 76) a 30 callerA [] zD).fn (Yt sc) Str.empty "law" 889 [OW] [a2 sc] I (λJ h=>by cases h) (by decide:zH dH Str.empty "law"=aj 889) (t6 (rv (ce (o:= F2 a0K) rfl)) .nil)).of_inC;refine S s at_ eH Q E ⟨λv J=>v= y2,oN,λv m' V D U w c7 x f F Z=> ? _,λJ z=>z.elim,C⟩;subst V;cases Z
 have m:∀b o,R2->(b∉eV->U.heap.get? b=ck)/\(b∈eV->o=tabObj #[]/\isCodeTable e5 b/\∃H,U.heap.get? b=aj (tabObj H)):=λb o e=>by
  refine⟨λM=> ? _,λM=> ? _⟩;. exact rwL F.heap;exact F.inv.base b o (a2c e M)
  .have r:=l b M;replace r:=e▸r;refine⟨hR r,? _,? _⟩;. refine db (List.any_eq_true.mp (Qg O b M)) λc L=> ? _;obtain⟨c8,vs,_,_,_,_,_,_,_,P,c2,c3,N,_⟩:=codeHd_of_K X L.2;exact⟨_,c8,vs,P,c2,c3,N⟩
   .refine db (IY M) w8;refine aN (x.inst i sw (Dp W)) λo' g u=> ? _;have j:o'= sw:=by cases o'<;>first|rfl|cases u
    subst j;refine aN (show fE _ D i sw from F.inv.obj i _ g) λH Y J=> ? _;have R:TH=b:=(F.inv.tabs i b W).2;exact⟨H,by exact rwLR F.heap R;exact Y⟩
 refine c9 U ⟨λb o e=> ? _,λb o e=> ? _⟩ F.os F.gens
 .exact bcH M (b∈eV);. obtain⟨rfl,L,H,u⟩:=(m b o e).2 M;exact ba (b7 ⟨L,rfl,#[],H,rfl,by exact a3 u Array.empty_append;rfl⟩)
  . exact b7 ((m b o e).1 M)
 .exact bcH M (b∈eV);. obtain⟨_,_,H,u⟩:=(m b o e).2 M;exact⟨_,u⟩
  . exact⟨o,(m b o e).1 M⟩
section E
section E
section
open PySem PySem.W PySem.Calls PyProof.Rows PySem.SeqAt
open PySem.Challenge
theorem zE{args:dk WData}{p:eS}{i:zn}{cl:Wm}{h:Heap}(L:rw_tk0075_01.row.toRowW.claim.pre a6=am)(x:ReadsAllW rw_tk0075_01.row.records cl h p a6 i):∃sc I,p=[a2 sc]/\kN<=63/\∃o items n,Th sc=ck/\o.cls= Qs/\B2= .seq kn n/\IntsAre Pn I:=by
 exact dl5 a6 p i cl h;refine bx (pre_splitW L) V_;refine d9 (hasAllW_cons (show WShape.hasAll [] a6 [bC a4]=am from H)) λd r t=> ? _;subst t;intro Q C;cases hasAllW_nil C;refine aN (hasW_list Q) λds U=> ? _;subst U;intro Q;refine db (items_int Q) λc U=> ? _;subst U;refine K7 (readsAllW_cons_inv x) λv vs a b k=> ? _;subst k;intro N;subst N;intro Y W;obtain⟨l,o,f,n,s,rfl,g,u,j,m,_⟩:=readsW_list_open Y;have e:ofPys (c.map PyData.int)=c.map a4:=by rewrite [ofPys_eq];exact rwL List.map_map;rfl
 refine⟨l,c,by exact rwL ((readsAllW_nil_inv W).1);rfl,? _,o,f,n,g,u,j,(readsAll_intsAre0 (readsAll_of_readsAllW _ (e▸m))).1⟩;have F:WTm.holds [] (.and (.not (.lt (.lit (a4 63)) (.len (.arg 0)))) (.lit y2)) {args:=[bC (c.map a4)]}=am:=F;rewrite [holdsW_of_value (w_and (w_not (w_lt w_lit (w_len_list (w_arg rfl)))) w_lit)]at F;rewrite [a0n]at F;rewrite [Bool.and_true]at F;refine cO (fl ((63:Int)<R7)) b4 b4;. replace F:=q▸F;exact cT F
 . have:=of_decide_eq_false q;refine bn (nat_lit 0x1090000003f200c1a7000000003f201) a7 [] b_ a0
theorem tail{q:Program}{K:Frag}{k:pb}{t b:ExcName->II}{mg S:h7}{g:Addr}{w:World}{f:Shared}{cl:Wm}{args:dk WData}{p:eS}{i:zn}(r:∀I:t4,kN<=63->r3 mX 30 a3k [OW] (λv J=>v= y2) oN (m0 I))(y:rV K)(B:nR K)(O:Do K=am)(c:nsIn K PT "law"=aj (aj (a2 889)))(X:K.In f.heap)(n:∀P∈([876,862,855,841,276,886]:zn),f.heap.get? P=aj (tabObj #[]))(T:Top q k t mg S f.heap)(D:f.gens= #[])(V:mg "law"=aj (a2 g))(L:rw_tk0075_01.row.toRowW.claim.pre a6=am)(x:ReadsAllW rw_tk0075_01.row.records cl f.heap p a6 i):bp (model rw_tk0075_01.row.prog w) callerA (bj (a2 g) p) (λv U=>GoodWG rw_tk0075_01.row.toRowW.claim cl b a6 f (.ok LO) U) (λe U=>GoodWG rw_tk0075_01.row.toRowW.claim cl b a6 f Q1 U) f:=by
 revert cl args p i;exact gs q K k t b mg S g w f;exact dl4 cl a6 p i;refine d9 (zE L x) λsc I d=> ? _;subst d;intro j A;have C:=r I j;have e:=mg_of X T.g c;replace e:=V▸e;cases e;refine Dr y B O X (λa m=>n a ? _) T D A C λU H F Q=>⟨b7 ⟨y2,y2,[],rfl,λl=>rfl,y2,? _,λJ=>⟨List.nodup_nil,λa h=>by cases h⟩⟩,H,F,.of_eq Q⟩
 .have:∀a∈eV,a∈([876,862,855,841,276,886]:zn):=by decide
  exact b_ a m
 . show(WShape.has [] y2 hP&&WTm.holds [] (.eq .res (.lit y2)) {args:=a6,res:=aj y2,after:=a6})=am;kernel_rfl
section E
section
set_option backward.match.sparseCases false
open PySem PySem.W PySem.Calls PyProof.Rows
instance:E2 OpenRow:=⟨PySem.Challenge.rw_tk0075_01.row⟩
instance:E2 DefRec:=⟨⟨w0,w0,[],w0,w0⟩⟩
theorem sE:kW ⟨a5G,ap,ap,[],ap⟩:=⟨by decide,λ_ h=>by cases h⟩
def K4(R:Q')(I:Fin)(U:Shared):a5:=∃f,I= .done f/\R (.ok f) U/\leftWithCleanup U.gens=av
def K5(R:Q')(e:Value)(U:Shared):a5:=R Q1 U/\leftWithCleanup U.gens=av
theorem Ds{prog:Program}{w:World}{t:Sem Fin}[o2]{R:Q'}(u:s.asleep)(h:bp h6 callerA t (K4 R) (K5 R) s):∃n r U c,runN (denote table) hN w n s ⟨t,a5G,w0,[]⟩= .halted (outcomeOf r) U/\schedN (denote table) hN w n (.single s ⟨t,a5G,w0,[]⟩)= .halted (outcomeOf r) U/\U.forget=c.forget/\R r c:=by obtain⟨n,r,a,b,H,F,Q,C⟩:=wp_halts_full (M:=h6) (R:=R) (p:=w0) u (Sem.wp_mono _ _ t (λI W U q=>by obtain⟨f,e,x⟩:=q;subst e;exact x) (λ_ _ _ x=>x) _ _ (h ⟨a5G,ap,ap,[],ap⟩ w0 caller_in sE));exact⟨n,r,b,a,F,H,Q,C⟩
abbrev K6(q:Program)(k:pb)(XP:h7->Heap->a5)(Y:World->Heap->a5)(r:RowW)(d:DefRec)(g:dk (Str×hC)):a5:=∀(w:World)(s f:Shared)(mg S:h7),Ground q k r.records XP w s mg S f.heap->Y w f.heap->∀[SB](o:Obj)(j H b c h:Value),f.heap.get? a=ck->B2= .func {docDef d.name d.params d.body d.scope j H b with defaults:=c,kwdefaults:=h}->f.heap.CodeRec H d.name->Dflts mg f.heap d.params g c h->mg d.name=aj er->f.gens= #[]->∀(args:dk WData)(p:eS)(i:zn),r.claim.pre a6=am->WData.layableAll a6=am->ReadsAllW r.records (classAt e5) f.heap p a6 i->WellAll w.params f.heap p a6->(∀a∈i,(a==sysModules)=av)->bp (model r.prog w) callerA (Uh er p) (λv U=>a99 (.ok LO) U) (λe U=>a99 Q1 U) f
def GR(r:OpenRow)(s f:Shared)(args:dk WData)(vs:eS)(x:Result)(U:Shared):a5:=r.toRowW.claim.Ends s a6 vs f x U/\U.os=s.os/\(r.writes=am->namesKept r.toRowW.claim.prog r.keeps e5 U.heap/\∀x∈r.toRowW.claim.records,∀a,classAt e5 x.1=C1->recordClass U.heap a x.1 (x.2.map w1)=am)
theorem PySem.W.holds_open{r:OpenRow}{q:Program}{loose:pb}{Xt:Shared->b2}{XP:h7->Heap->a5}{α:cv}{Yf:Shared->α}{Ya:World->α}{YP:World->Heap->a5}{d:DefRec}{kwd:dk (Str×hC)}{N:Nat}(left:LeftO r.prog q loose Xt Yf Ya N)(hY:∀w s,Yf s=Ya w->YP w e5)(hYk:∀w h h',YP w h->(∀b o,Xo->Ou)->YP w h')(hX:∀s,Xt s=am->XP (s.heap.nsMap PT) e5)(hXk:∀mg h h',XP mg h->(∀b o,Xo->Ou)->XP mg h')(hdef:defOf q r.name=aj (d,kwd))(hp:r.prog.theDef r.name=aj (d.params,d.body,d.scope))(hk:kwWritten? d.params.kwonlyargs d.params.kw_defaults=aj kwd)(hRf:∀s,Xt s=am->RecFacts r.records e5)(hwr:(! r.writes||r.records.isEmpty)=am)(k1:r.wellSaid=am)(ok:(chainsOk q&&opensWell r.prog&&(frees r.toRowW&&r.within.isEmpty))=am)(hb:r.prog.bare)(hw:r.toRowW.promised)(call:K6 q loose XP YP r.toRowW d kwd):r.Holds:=by
 obtain⟨ok1,ok2⟩:=UK ok;obtain⟨chains,opens⟩:=UK ok1;obtain⟨free,inside⟩:=UK ok2;obtain⟨hsame,hu,ha,hap,hm⟩:=frees_parts free;refine⟨k1,hw,⟨hb,opens,by show r.toRowW.makers.map _=[];exact rwL hm;rfl⟩,hw.witness,λw=>⟨(left.behind hX chains w).1,λtop htop=> ? _⟩⟩;obtain⟨s₀,t1,t2,s,hT,hz,hgens,hg,G00,y⟩:=(left.behind (XP:=λmg h=>XP mg h/\RecFacts r.records h) (λs hs=>⟨hX s hs,hRf s hs⟩) chains w).2 top htop;have G0:Ground q loose [] XP w s (s.heap.nsMap PT) (s.heap.nsMap W_) e5:=⟨G00.T,G00.B,G00.D,G00.TE,G00.TD,G00.W,G00.X.1,G00.cls,G00.has,G00.apart,G00.once,G00.K⟩;have hT':=hT;refine⟨s₀,t1,t2,s,hT,λn hn=> ? _,G00.X.2.1,G00.X.2.2.1,? _⟩
 .obtain rfl:n=r.name:=by split at hn<;>simp_all
  exact pinned_of_view hg G0 hdef hp hk
 have g0:s.gens= #[]:=Array.eq_empty_of_size_eq_zero (beq_iff_eq.mp hgens);have G:Ground q loose r.records XP w s _ _ e5:=G00.X.2.ground G0;intro args hpre hlay ord hord;have y':=hY w s y;clear left hY hX hRf y htop t1 t2 hw hb k1 ok1 ok2 ok opens hp hk;revert w s₀ s args ord;exact dl7 r q loose XP YP d kwd;revert args ord;exact dl3 w s₀ s;revert ord;exact dl1 a6;exact dl1 ord;obtain⟨⟨vs,s₁⟩,hlaid⟩:=UM (layAllW_isSome (P:=w.params) (ord:=ord) G.has a6 r.args s (pre_splitW hpre).1);have keeps:=layAllW_keeps _ _ _ hlaid;have hal:=layAllW_rest _ _ _ hlaid;obtain⟨as,hrd,hin,hold⟩:=reads_layAllW hord _ _ _ hlaid hlay s₁.heap (λ_ _ e=>e);have L:Laid r.records w s s₁ a6 vs as:=⟨⟨ord,hord,hlaid⟩,hrd,hin,hold,keeps,hal.1.trans g0,hal.2.2.1⟩;have G₁:=G.keeps hXk keeps;obtain⟨a,o,pm,cd,doc,dV,kV,h1,h2,h3,h4,h5⟩:=G₁.fn hdef;have body:=bj w s s₁ _ _ G₁ (hYk _ _ _ y' keeps) a o pm cd doc dV kV h2 h3 h4 h5 (defOf_name hdef▸h1) L.gens a6 vs as hpre hlay L.reads L.well (L.low G.low);have laid{x:Result}{s':Shared}(g:a88):=g.laid (c:=r.toRowW.claim) hsame (VI inside) (ident_freeW hu ha hap) L;clear call y' hYk hXk G G0 G00 hsame hu ha hap hm inside free chains hpre hlay L hrd hin hold h2 h3 h4 h5 hdef;clear as o pm cd doc dV kV;revert a;exact dl2 vs s₁;exact dl1 a;have lf{x:Result}{s':Shared}(g:a88):GR r s s₁ a6 vs x s'/\leftWithCleanup s'.gens=av:=have z:=laid g;⟨⟨z.1,z.2.1,λqq=>⟨namesKept_of hT' hg _ keeps g.2.1.old,noTable hwr qq⟩⟩,leftWithCleanup_false_of_bare z.2.2⟩;clear laid;obtain⟨k,x,s',s'',hrun,hsched,hfo,hcase,hos,hkp⟩:=Ds (prog:=r.prog) (w:=w) (s:=s₁) (t:=do match<-nsGet mainNs r.name with|aj f=>do ret (<-Uh f vs)|ap=>unsupported "claim.caller:no-such-global") (R:=GR r s s₁ a6 vs) (Shared.asleep_of_life hal.2.2.2 hz) (aA (wpAny_nsGet G₁.T.g (by exact rwL h1;exact ad (dC hq (λv s' g=>ak ⟨_,rfl,lf g⟩) λe s' g=>lf g))));obtain⟨eh,_,_,eo,_⟩:=Shared.forget_eq hfo;have hcase:=hcase.congr eh;rw [<-eo]at hos;have hlife:s'.heap.life=s.heap.life:=(runN_life _ _ _ hrun).trans hal.2.2.2;refine⟨vs,s₁,hlaid,k,_,s',hsched,? _,(λ_ i x hx=>by rw [g0]at hx;simp at hx),eh▸hkp,by exact rwL hlife;rfl,Shared.rest_eq hos⟩;rcases hcase with⟨v,rfl,d1,d2,d3,d4,d5⟩|⟨e,ob,cls,rfl,d1,d2,d3,d4,d5⟩;. exact b7 ⟨v,rfl,d1,d2,d3,λb o y _=>d4 b o y,d5⟩
 . exact ba ⟨e,ob,cls,rfl,d1,d2,d3,d4,λb o y _=>d5 b o y⟩
section E
namespace head
theorem tw1258453716306658304:True:=trivial
theorem tw2005824559283308544:True:=trivial
theorem tw17386617097664931840:True:=trivial
theorem tw12278463079101488128:True:=trivial
theorem tw11849437003460264032:True:=trivial
theorem tw2894152552507235424:True:=trivial
theorem tw6160965864018361472:True:=trivial
theorem tw2934248064766088352:True:=trivial
theorem tw1567943673962162336:True:=trivial
theorem tw2452028519420643520:True:=trivial
theorem tw12533188119829535936:True:=trivial
theorem tw12042323147584365760:True:=trivial
theorem tw18357526836595070304:True:=trivial
theorem tw10801678706402968000:True:=trivial
theorem tw17500755431956896192:True:=trivial
theorem tw1987557369150731712:True:=trivial
theorem tw10478411361968804352:True:=trivial
theorem tw4804523201834689056:True:=trivial
theorem tw14902749303576689216:True:=trivial
theorem tw12742234505937585760:True:=trivial
theorem tw9656145585253418624:True:=trivial
theorem tw12026955668342804096:True:=trivial
theorem tw5853792966756943488:True:=trivial
theorem tw6345962803626072704:True:=trivial
theorem tw9750375429457580736:True:=trivial
theorem tw7468600366217884352:True:=trivial
theorem tw225149629895374560:True:=trivial
theorem tw2423416151595942688:True:=trivial
theorem tw4356994229188071200:True:=trivial
theorem tw3869182881569682240:True:=trivial
theorem tw11434322307572493216:True:=trivial
theorem tw16470738274083341248:True:=trivial
theorem tw6984558992135690208:True:=trivial
theorem tw14929068417886092385:True:=trivial
theorem tw12102787196800394369:True:=trivial
theorem tw4120473513447068833:True:=trivial
theorem tw3146642883932764321:True:=trivial
theorem tw16623005101582439649:True:=trivial
theorem tw10875764276356024609:True:=trivial
theorem tw5575261005901118753:True:=trivial
theorem tw3927874440679748897:True:=trivial
theorem tw15987298236799223137:True:=trivial
theorem tw12169433661247332737:True:=trivial
theorem tw5367720379555559809:True:=trivial
theorem tw871252903898582465:True:=trivial
theorem tw9033182001766740417:True:=trivial
theorem tw18255462893550846401:True:=trivial
theorem tw4308027884169681377:True:=trivial
theorem tw12806253548222901857:True:=trivial
theorem tw15138065235074995841:True:=trivial
theorem tw13854868483263387329:True:=trivial
theorem tw327085425411541729:True:=trivial
theorem tw10696463899954577153:True:=trivial
theorem tw17668470780512804641:True:=trivial
theorem tw16138420628824636225:True:=trivial
theorem tw5495607003866541921:True:=trivial
theorem tw15099370444278567809:True:=trivial
theorem tw8343031900333054849:True:=trivial
theorem tw1651360569294593921:True:=trivial
theorem tw17339063669654888321:True:=trivial
theorem tw4293379382155133889:True:=trivial
theorem tw12049423146163859425:True:=trivial
theorem tw6441196650915534850:True:=trivial
theorem tw2300749246909507682:True:=trivial
theorem tw15372866424011491458:True:=trivial
theorem tw6288538588269318274:True:=trivial
theorem tw2167427703948753026:True:=trivial
theorem tw14640619569106899106:True:=trivial
theorem tw5831084495787454658:True:=trivial
theorem tw4720382259942339842:True:=trivial
theorem tw9178964171498209538:True:=trivial
theorem tw180557579094491458:True:=trivial
theorem tw13545384222982373698:True:=trivial
theorem tw7795901939020475714:True:=trivial
theorem tw14804807535031770434:True:=trivial
theorem tw14776828949437865282:True:=trivial
theorem tw7653770046041843074:True:=trivial
theorem tw13839247677454372258:True:=trivial
theorem tw6302871324792935842:True:=trivial
theorem tw14431188939852883394:True:=trivial
theorem tw18231679819947193826:True:=trivial
theorem tw17879266493245626914:True:=trivial
theorem tw14086282813714110018:True:=trivial
theorem tw10046488721125158466:True:=trivial
theorem tw17698011370445219426:True:=trivial
theorem tw8397667373497710178:True:=trivial
theorem tw1844467570389974658:True:=trivial
theorem tw9686857981684724386:True:=trivial
theorem tw8427403130609186562:True:=trivial
theorem tw14704451711062366978:True:=trivial
theorem tw15934718622137474818:True:=trivial
theorem tw3729568987708025634:True:=trivial
theorem tw17223239339676694306:True:=trivial
theorem tw7387348980798310210:True:=trivial
theorem tw14328636744485967810:True:=trivial
theorem tw3824990019111102402:True:=trivial
theorem tw2919749146745499586:True:=trivial
theorem tw2323926309532271586:True:=trivial
theorem tw15225103352731655138:True:=trivial
theorem tw12757151084355026914:True:=trivial
theorem tw3135906202827797507:True:=trivial
theorem tw2624494413115057283:True:=trivial
theorem tw5636203721351222531:True:=trivial
theorem tw12905125323518435587:True:=trivial
theorem tw5161104113109860643:True:=trivial
theorem tw16030568412080735523:True:=trivial
theorem tw5585298417887737123:True:=trivial
theorem tw10443298067184218467:True:=trivial
theorem tw1753003951421427075:True:=trivial
theorem tw131415200265715171:True:=trivial
theorem tw4255666144921013795:True:=trivial
theorem tw15830968035239220771:True:=trivial
theorem tw278581248325843523:True:=trivial
theorem tw13074133843078740547:True:=trivial
theorem tw2007915535196607075:True:=trivial
theorem tw573855439382118019:True:=trivial
theorem tw1373012823760850595:True:=trivial
theorem tw16891317342568782531:True:=trivial
theorem tw13882234696957952739:True:=trivial
theorem tw6200549489047768835:True:=trivial
theorem tw6220086916755017475:True:=trivial
theorem tw4481052934663621475:True:=trivial
theorem tw4813042636963138435:True:=trivial
theorem tw8801017856744895395:True:=trivial
theorem tw507867392388677603:True:=trivial
theorem tw9537380183471018052:True:=trivial
theorem tw8556157796565629092:True:=trivial
theorem tw16297892007826214052:True:=trivial
theorem tw18407380456907040068:True:=trivial
theorem tw13149666652136121732:True:=trivial
theorem tw16729595403625350564:True:=trivial
theorem tw10852966169642419620:True:=trivial
theorem tw11729432960898958820:True:=trivial
theorem tw4067203111510269444:True:=trivial
theorem tw17630976985212021252:True:=trivial
theorem tw8684634495478282788:True:=trivial
theorem tw11803325564168552996:True:=trivial
theorem tw9634045303191909956:True:=trivial
theorem tw1988755030936440388:True:=trivial
theorem tw9438585840210694724:True:=trivial
theorem tw1059163318146682468:True:=trivial
theorem tw6719656258133677700:True:=trivial
theorem tw13066142833054226084:True:=trivial
theorem tw15520181941019334340:True:=trivial
theorem tw1688876610941822724:True:=trivial
theorem tw11935999123547761444:True:=trivial
theorem tw10677006617423633188:True:=trivial
theorem tw14930278808943442820:True:=trivial
theorem tw14294982102292943780:True:=trivial
theorem tw575952367332253668:True:=trivial
theorem tw8122885039181923333:True:=trivial
theorem tw1194786874175587333:True:=trivial
theorem tw8679461368082878469:True:=trivial
theorem tw15182858166330841093:True:=trivial
theorem tw1547330158025341957:True:=trivial
theorem tw6295136114372876325:True:=trivial
theorem tw6786778168509544517:True:=trivial
theorem tw8882645185676685445:True:=trivial
theorem tw16854100568098985125:True:=trivial
theorem tw2043087103621964997:True:=trivial
theorem tw5351099862895338725:True:=trivial
theorem tw11566841906782242053:True:=trivial
theorem tw3343984374828313861:True:=trivial
theorem tw1563577297761486117:True:=trivial
theorem tw10806634533459545381:True:=trivial
theorem tw18104016066901283141:True:=trivial
theorem tw1737130595558553925:True:=trivial
theorem tw15647054619291945445:True:=trivial
theorem tw5761873415233972741:True:=trivial
theorem tw17431456679323178533:True:=trivial
theorem tw14564241988698318373:True:=trivial
theorem tw2011731968932453:True:=trivial
theorem tw10982946209367121509:True:=trivial
theorem tw15631718473216897701:True:=trivial
theorem tw1881055677477116581:True:=trivial
theorem tw12306518083596781285:True:=trivial
theorem tw2169281033359032037:True:=trivial
theorem tw3941156040307774213:True:=trivial
theorem tw10196448298402465541:True:=trivial
theorem tw672570726121695013:True:=trivial
theorem tw5509060068099777413:True:=trivial
theorem tw1735712362863950725:True:=trivial
theorem tw5511813777183162341:True:=trivial
theorem tw12764645524322043877:True:=trivial
theorem tw10949025697342971877:True:=trivial
theorem tw12607887061940235302:True:=trivial
theorem tw3897190675560765510:True:=trivial
theorem tw10467852365440921670:True:=trivial
theorem tw5279946723360487494:True:=trivial
theorem tw15991991953990720742:True:=trivial
theorem tw8880369905712230630:True:=trivial
theorem tw11232978470920408358:True:=trivial
theorem tw756069217127356742:True:=trivial
theorem tw2624745742894260550:True:=trivial
theorem tw14594469244564773350:True:=trivial
theorem tw4904261729475024422:True:=trivial
theorem tw13864285028588155430:True:=trivial
theorem tw16358555599909018182:True:=trivial
theorem tw10288341847844054694:True:=trivial
theorem tw17743693862729980614:True:=trivial
theorem tw4500438253849987814:True:=trivial
theorem tw17421213231281661734:True:=trivial
theorem tw10657940773215961958:True:=trivial
theorem tw5673306034993891238:True:=trivial
theorem tw10847146045693573062:True:=trivial
theorem tw1515345725807219654:True:=trivial
theorem tw9633808310430400454:True:=trivial
theorem tw458149121178462182:True:=trivial
theorem tw4477118761818678279:True:=trivial
theorem tw17143094881623060519:True:=trivial
theorem tw17576806870698252327:True:=trivial
theorem tw2869377799857603687:True:=trivial
theorem tw13565670087438899335:True:=trivial
theorem tw8248575341118134407:True:=trivial
theorem tw8053394759554831559:True:=trivial
theorem tw2890209865472221383:True:=trivial
theorem tw7717097885034689735:True:=trivial
theorem tw1511891059713779943:True:=trivial
theorem tw11770992669613265159:True:=trivial
theorem tw13938314743558959367:True:=trivial
theorem tw7453933950953202983:True:=trivial
theorem tw16531991790674821415:True:=trivial
theorem tw12881004197342179623:True:=trivial
theorem tw2043889385310230855:True:=trivial
theorem tw5121121683633849671:True:=trivial
theorem tw2736538178757748039:True:=trivial
theorem tw7848811690419876199:True:=trivial
theorem tw16293861684877478311:True:=trivial
theorem tw368270107659410887:True:=trivial
theorem tw150979079722049991:True:=trivial
theorem tw7487491745404429767:True:=trivial
theorem tw2469965030768400839:True:=trivial
theorem tw4664621624991227399:True:=trivial
theorem tw13864736982000498215:True:=trivial
theorem tw6930718583620718151:True:=trivial
theorem tw6204776756014468711:True:=trivial
theorem tw18308072863541763719:True:=trivial
theorem tw3664162495101484743:True:=trivial
theorem tw16777521522860482247:True:=trivial
theorem tw5091913553619172103:True:=trivial
theorem tw10310981372384372519:True:=trivial
theorem tw3635525712308927271:True:=trivial
theorem tw6886170947632238407:True:=trivial
theorem tw9993300197053530983:True:=trivial
theorem tw3796036621921146727:True:=trivial
theorem tw695893946633948039:True:=trivial
theorem tw16002366332284682119:True:=trivial
theorem tw14717603870844797863:True:=trivial
theorem tw12001577667717255176:True:=trivial
theorem tw17512409790240258056:True:=trivial
theorem tw10714201629055478824:True:=trivial
theorem tw15201846218156111944:True:=trivial
theorem tw3003217347886287976:True:=trivial
theorem tw5079108954250836072:True:=trivial
theorem tw7871040755861822600:True:=trivial
theorem tw3097101300178927752:True:=trivial
theorem tw2131911711366185128:True:=trivial
theorem tw379154397386507432:True:=trivial
theorem tw12125221754952656040:True:=trivial
theorem tw9788767914283571400:True:=trivial
theorem tw2871415402671921352:True:=trivial
theorem tw13433233657428206792:True:=trivial
theorem tw12762682531890253096:True:=trivial
theorem tw18071378121363579176:True:=trivial
theorem tw3563479953845385512:True:=trivial
theorem tw3241465772588796232:True:=trivial
theorem tw5557368755826140488:True:=trivial
theorem tw512018409098999112:True:=trivial
theorem tw10619135741265857928:True:=trivial
theorem tw9343841776052470216:True:=trivial
theorem tw12455520345694358024:True:=trivial
theorem tw2688960552751689224:True:=trivial
theorem tw4925291594519982632:True:=trivial
theorem tw7565973642626116232:True:=trivial
theorem tw15996938239223969416:True:=trivial
theorem tw8363271796746967752:True:=trivial
theorem tw2422478181749461736:True:=trivial
theorem tw4567146139349149416:True:=trivial
theorem tw4723723271744914184:True:=trivial
theorem tw14255320843353542408:True:=trivial
theorem tw14809388494844252968:True:=trivial
theorem tw18349109515238182760:True:=trivial
theorem tw1335529745519465352:True:=trivial
theorem tw18373861408837262280:True:=trivial
theorem tw13092991177759998952:True:=trivial
theorem tw16880951475479886921:True:=trivial
theorem tw15419450125499025513:True:=trivial
theorem tw9021974018963436649:True:=trivial
theorem tw1188849707634237577:True:=trivial
theorem tw11996321428080588937:True:=trivial
theorem tw9629543149614385321:True:=trivial
theorem tw15318862911822293161:True:=trivial
theorem tw7456361490076408009:True:=trivial
theorem tw9258970225585006825:True:=trivial
theorem tw17398074001465023753:True:=trivial
theorem tw11957508812711829801:True:=trivial
theorem tw7376887436866901289:True:=trivial
theorem tw11798683024389638473:True:=trivial
theorem tw8273974295544231241:True:=trivial
theorem tw15445888625251461481:True:=trivial
theorem tw1323558778686592361:True:=trivial
theorem tw18385344648293578121:True:=trivial
theorem tw969033425148315049:True:=trivial
theorem tw9486179325711558089:True:=trivial
theorem tw12639482037638911433:True:=trivial
theorem tw7934260813177360937:True:=trivial
theorem tw5763261649813281321:True:=trivial
theorem tw9652088499572941417:True:=trivial
theorem tw4950721183540625033:True:=trivial
theorem tw5758286399336058601:True:=trivial
theorem tw15553797352527871753:True:=trivial
theorem tw1278451321631604521:True:=trivial
theorem tw10644323740855133001:True:=trivial
theorem tw3248080294440303433:True:=trivial
theorem tw12906616878968439657:True:=trivial
theorem tw8804343660805199721:True:=trivial
theorem tw16670131545429640105:True:=trivial
theorem tw16055707317498819497:True:=trivial
theorem tw6558063594523118537:True:=trivial
theorem tw17263427690546889705:True:=trivial
theorem tw12833563696867029993:True:=trivial
theorem tw1656181690755500009:True:=trivial
theorem tw6683920079252563978:True:=trivial
theorem tw18142152687971341386:True:=trivial
theorem tw2643138091564768330:True:=trivial
theorem tw15709428146427402346:True:=trivial
theorem tw5151289576439492714:True:=trivial
theorem tw14082094871413604490:True:=trivial
theorem tw7842224052649319562:True:=trivial
theorem tw13111057102255539402:True:=trivial
theorem tw15997579793656432842:True:=trivial
theorem tw10156959423878155498:True:=trivial
theorem tw8957747082342985962:True:=trivial
theorem tw12619512236032086282:True:=trivial
theorem tw13896250499497688330:True:=trivial
theorem tw3441272882867930410:True:=trivial
theorem tw1155653616832183594:True:=trivial
theorem tw7182186429182927178:True:=trivial
theorem tw12268107022977922378:True:=trivial
theorem tw15455170188983691658:True:=trivial
theorem tw6835922771926613386:True:=trivial
theorem tw15912091044079083978:True:=trivial
theorem tw5531843404549935594:True:=trivial
theorem tw6536087584392566282:True:=trivial
theorem tw17576387167790452266:True:=trivial
theorem tw11485815400417367690:True:=trivial
theorem tw2762088878838790826:True:=trivial
theorem tw16153705398640301738:True:=trivial
theorem tw10611000914816789194:True:=trivial
theorem tw6459330472900232938:True:=trivial
theorem tw18289451761536356138:True:=trivial
theorem tw17292970962960149322:True:=trivial
theorem tw8230188563286494058:True:=trivial
theorem tw12887062192404025258:True:=trivial
theorem tw5537773006019800010:True:=trivial
theorem tw14109380674944687050:True:=trivial
theorem tw4371241328660312010:True:=trivial
theorem tw13886546596857081899:True:=trivial
theorem tw4274313052582936651:True:=trivial
theorem tw7800988372487446763:True:=trivial
theorem tw8939464649871245579:True:=trivial
theorem tw8291344588662555915:True:=trivial
theorem tw15446928378914063659:True:=trivial
theorem tw997365496626702635:True:=trivial
theorem tw13926301869143162155:True:=trivial
theorem tw14401466065109191019:True:=trivial
theorem tw758980129013455211:True:=trivial
theorem tw7669542570389801355:True:=trivial
theorem tw6411576796020146635:True:=trivial
theorem tw12142385515706650059:True:=trivial
theorem tw8300570662155676107:True:=trivial
theorem tw10574963512794415595:True:=trivial
theorem tw1599018632521883147:True:=trivial
theorem tw13257972016065767947:True:=trivial
theorem tw16460313092685165067:True:=trivial
theorem tw15489742176703056555:True:=trivial
theorem tw10144926432722608811:True:=trivial
theorem tw4903428944905943755:True:=trivial
theorem tw5528803162204563147:True:=trivial
theorem tw3334355388040290027:True:=trivial
theorem tw12705611185899675467:True:=trivial
theorem tw9063132295611338571:True:=trivial
theorem tw3087972217934253931:True:=trivial
theorem tw6410145684983428971:True:=trivial
theorem tw16804399734337586059:True:=trivial
theorem tw16598778423583430539:True:=trivial
theorem tw13130026477503750059:True:=trivial
theorem tw14975749312235765675:True:=trivial
theorem tw13090210470212044747:True:=trivial
theorem tw4270314641519683531:True:=trivial
theorem tw7190595422212573131:True:=trivial
theorem tw5925415697949592555:True:=trivial
theorem tw13687540235240741867:True:=trivial
theorem tw996981640771525611:True:=trivial
theorem tw12078229439370049644:True:=trivial
theorem tw11860589723203421292:True:=trivial
theorem tw18218894547561957484:True:=trivial
theorem tw11809372751355778188:True:=trivial
theorem tw6015909709239590028:True:=trivial
theorem tw18374166688396529900:True:=trivial
theorem tw9714425267121465612:True:=trivial
theorem tw5281672172050905356:True:=trivial
theorem tw16102659116359997740:True:=trivial
theorem tw15738198401836456268:True:=trivial
theorem tw5066669096059514188:True:=trivial
theorem tw11931330559654779212:True:=trivial
theorem tw17497440989566038380:True:=trivial
theorem tw8973045309603158412:True:=trivial
theorem tw10944186730913527180:True:=trivial
theorem tw11661065636700889516:True:=trivial
theorem tw15332405847694572972:True:=trivial
theorem tw9773917743061728748:True:=trivial
theorem tw17870151092536345100:True:=trivial
theorem tw2587074192816195084:True:=trivial
theorem tw9194472977650436620:True:=trivial
theorem tw647418491663393324:True:=trivial
theorem tw6618904058693782124:True:=trivial
theorem tw232473315762453100:True:=trivial
theorem tw17391939332154934924:True:=trivial
theorem tw4038296290503734956:True:=trivial
theorem tw6534560273987699404:True:=trivial
theorem tw5294638443716959948:True:=trivial
theorem tw12490366024630467340:True:=trivial
theorem tw16469735366463463244:True:=trivial
theorem tw14231805517815195468:True:=trivial
theorem tw4069350580246479820:True:=trivial
theorem tw5639416283206960076:True:=trivial
theorem tw3800295392328895436:True:=trivial
theorem tw12648024291328057292:True:=trivial
theorem tw7630614333878801388:True:=trivial
theorem tw7836174546575239148:True:=trivial
theorem tw8568197537054905324:True:=trivial
theorem tw7285385138943665165:True:=trivial
theorem tw3507624263613819917:True:=trivial
theorem tw9548861120244870157:True:=trivial
theorem tw6929394149058840621:True:=trivial
theorem tw6962018899104020525:True:=trivial
theorem tw4806577588144690221:True:=trivial
theorem tw13312725732919641165:True:=trivial
theorem tw215088660058033229:True:=trivial
theorem tw17608012506762601549:True:=trivial
theorem tw384100419241242765:True:=trivial
theorem tw14506496976691018925:True:=trivial
theorem tw3610420016983457965:True:=trivial
theorem tw5674825507052082349:True:=trivial
theorem tw10323350097857441997:True:=trivial
theorem tw11316745239999467757:True:=trivial
theorem tw10326433227229921549:True:=trivial
theorem tw8564634812336065805:True:=trivial
theorem tw1081918594029998349:True:=trivial
theorem tw1903809553442905389:True:=trivial
theorem tw5188547130963436909:True:=trivial
theorem tw10835457729697442157:True:=trivial
theorem tw5456479906107452781:True:=trivial
theorem tw14902837588030647693:True:=trivial
theorem tw10532295789626618253:True:=trivial
theorem tw8691739093245523341:True:=trivial
theorem tw14504264663935038925:True:=trivial
theorem tw15029389029185964493:True:=trivial
theorem tw50896459018227149:True:=trivial
theorem tw3706193764460939757:True:=trivial
theorem tw15063069900258622093:True:=trivial
theorem tw90598915626312365:True:=trivial
theorem tw13752030441720751821:True:=trivial
theorem tw1568912342305137357:True:=trivial
theorem tw5685686986798369517:True:=trivial
theorem tw8341041181660773101:True:=trivial
theorem tw2694128037389889325:True:=trivial
theorem tw1705665465591260045:True:=trivial
theorem tw14907395632340382734:True:=trivial
theorem tw10165431968968751118:True:=trivial
theorem tw15996041460632315918:True:=trivial
theorem tw7452148100223020078:True:=trivial
theorem tw2110877475482146926:True:=trivial
theorem tw5826030692613398638:True:=trivial
theorem tw13272653632137012334:True:=trivial
theorem tw9038836212991870062:True:=trivial
theorem tw4811286922782717070:True:=trivial
theorem tw17475747908561287342:True:=trivial
theorem tw15276139102095723726:True:=trivial
theorem tw1662621770911083758:True:=trivial
theorem tw565821351612907790:True:=trivial
theorem tw9074990603217378574:True:=trivial
theorem tw15572949344126905646:True:=trivial
theorem tw11532515657967676718:True:=trivial
theorem tw1567440863127649582:True:=trivial
theorem tw5681861815129081166:True:=trivial
theorem tw2611384508635057486:True:=trivial
theorem tw4986859925826892238:True:=trivial
theorem tw13990309641415329262:True:=trivial
theorem tw16170722059020510766:True:=trivial
theorem tw9554088087165546030:True:=trivial
theorem tw12141385270926258734:True:=trivial
theorem tw15527012874900490798:True:=trivial
theorem tw54855423550623310:True:=trivial
theorem tw17297219793221002926:True:=trivial
theorem tw7858154071309823662:True:=trivial
theorem tw3615901872300330702:True:=trivial
theorem tw9256776686342206158:True:=trivial
theorem tw9270267985669984014:True:=trivial
theorem tw4754782131174066958:True:=trivial
theorem tw184064285816689454:True:=trivial
theorem tw18039750520779619118:True:=trivial
theorem tw5585663891437385518:True:=trivial
theorem tw6118928204495084398:True:=trivial
theorem tw10079860215814902702:True:=trivial
theorem tw10196950947417357230:True:=trivial
theorem tw1125208917562807246:True:=trivial
theorem tw7742056743536037903:True:=trivial
theorem tw17650822020619547663:True:=trivial
theorem tw6513808132904572015:True:=trivial
theorem tw8402733330285803759:True:=trivial
theorem tw3981427053546926319:True:=trivial
theorem tw298335191302580495:True:=trivial
theorem tw8836652641366305039:True:=trivial
theorem tw17594429827846230351:True:=trivial
theorem tw12386443521812714831:True:=trivial
theorem tw9434034715570441583:True:=trivial
theorem tw6163553270827759087:True:=trivial
theorem tw16541082763231266319:True:=trivial
theorem tw12583066597068699183:True:=trivial
theorem tw5483013456187853391:True:=trivial
theorem tw12939671114271353487:True:=trivial
theorem tw10004968210546728623:True:=trivial
theorem tw8491820067614933743:True:=trivial
theorem tw5206473230331900655:True:=trivial
theorem tw2431657681545466639:True:=trivial
theorem tw4743209388086510351:True:=trivial
theorem tw7914099146338004751:True:=trivial
theorem tw1825821025991958319:True:=trivial
theorem tw5394941613023254383:True:=trivial
theorem tw14566449394318177135:True:=trivial
theorem tw11966087129274986415:True:=trivial
theorem tw11148025639844457423:True:=trivial
theorem tw13565100068041680847:True:=trivial
theorem tw17484823706847619055:True:=trivial
theorem tw8799397525684243439:True:=trivial
theorem tw4439044264226220048:True:=trivial
theorem tw11734387023926553616:True:=trivial
theorem tw1094486055635779632:True:=trivial
theorem tw3947381682708912176:True:=trivial
theorem tw9991829656483592240:True:=trivial
theorem tw15517624276369520:True:=trivial
theorem tw10209039374229592208:True:=trivial
theorem tw13052173369479026832:True:=trivial
theorem tw9204440531228079312:True:=trivial
theorem tw14988240910421226704:True:=trivial
theorem tw13451211059535878384:True:=trivial
theorem tw17841386997120191728:True:=trivial
theorem tw8091988528312788240:True:=trivial
theorem tw14549435271706706224:True:=trivial
theorem tw8755073441035686192:True:=trivial
theorem tw204814726684615984:True:=trivial
theorem tw16840755293988039984:True:=trivial
theorem tw5357483711101957424:True:=trivial
theorem tw9360740354718025040:True:=trivial
theorem tw10620765322381241744:True:=trivial
theorem tw1199058877586954672:True:=trivial
theorem tw2229781084959714832:True:=trivial
theorem tw13825956281807410768:True:=trivial
theorem tw9066055609438617168:True:=trivial
theorem tw7993170635273628240:True:=trivial
theorem tw8380034559641552496:True:=trivial
theorem tw4240350817474645616:True:=trivial
theorem tw7651935194775108272:True:=trivial
theorem tw16392708975658356464:True:=trivial
theorem tw3905749787061621520:True:=trivial
theorem tw885467010654446384:True:=trivial
theorem tw14477604489051941744:True:=trivial
theorem tw8035035416736859024:True:=trivial
theorem tw14158428439919870864:True:=trivial
theorem tw17613311456908602385:True:=trivial
theorem tw1944605091054254097:True:=trivial
theorem tw2439738643158869041:True:=trivial
theorem tw9149885144370575409:True:=trivial
theorem tw4895222498855466129:True:=trivial
theorem tw78849457177150641:True:=trivial
theorem tw16254600325777785169:True:=trivial
theorem tw13289269885103834513:True:=trivial
theorem tw17013429710562117009:True:=trivial
theorem tw12400829552769024433:True:=trivial
theorem tw11265610853283262897:True:=trivial
theorem tw10771887539982464465:True:=trivial
theorem tw3719757830788971985:True:=trivial
theorem tw68791429988877841:True:=trivial
theorem tw597019766565637649:True:=trivial
theorem tw7004043142383214097:True:=trivial
theorem tw10390551338457105969:True:=trivial
theorem tw16299635379590263345:True:=trivial
theorem tw12534521552944749137:True:=trivial
theorem tw10338859181450622609:True:=trivial
theorem tw1304109134517134065:True:=trivial
theorem tw10918473249476564785:True:=trivial
theorem tw1358449597577685809:True:=trivial
theorem tw1803827914629316465:True:=trivial
theorem tw17455982768175728529:True:=trivial
theorem tw4167199826336633745:True:=trivial
theorem tw16596432275829068785:True:=trivial
theorem tw4984333546951434225:True:=trivial
theorem tw15311939220964185106:True:=trivial
theorem tw7264651287706605586:True:=trivial
theorem tw16551592612956221458:True:=trivial
theorem tw10743851739164386354:True:=trivial
theorem tw15208567757004530770:True:=trivial
theorem tw11236264308040969394:True:=trivial
theorem tw15822617696187475154:True:=trivial
theorem tw10793811875839641842:True:=trivial
theorem tw14172424672946166034:True:=trivial
theorem tw14397015532696111410:True:=trivial
theorem tw2120349209514560818:True:=trivial
theorem tw5387168689241914674:True:=trivial
theorem tw3002026125614157138:True:=trivial
theorem tw9287645345724030290:True:=trivial
theorem tw1901947026874951026:True:=trivial
theorem tw9893352306937984402:True:=trivial
theorem tw14946424000415424946:True:=trivial
theorem tw12621192663148488146:True:=trivial
theorem tw104248997913267698:True:=trivial
theorem tw6106758186589717010:True:=trivial
theorem tw13763259863565942290:True:=trivial
theorem tw3442542328804436530:True:=trivial
theorem tw13345015079826006610:True:=trivial
theorem tw17840676843927578194:True:=trivial
theorem tw15828130552055596690:True:=trivial
theorem tw18405740669185776274:True:=trivial
theorem tw15938720242040571570:True:=trivial
theorem tw7950528230231018194:True:=trivial
theorem tw7522540995713088274:True:=trivial
theorem tw600998845896309522:True:=trivial
theorem tw246766493212783410:True:=trivial
theorem tw4550462689801330482:True:=trivial
theorem tw12328297505516256082:True:=trivial
theorem tw9217025424471583602:True:=trivial
theorem tw7871400988371781522:True:=trivial
theorem tw8502167927129422738:True:=trivial
theorem tw15128749181546931122:True:=trivial
theorem tw364950591144210386:True:=trivial
theorem tw13263170178881064946:True:=trivial
theorem tw17708814002326905842:True:=trivial
theorem tw4060700195381250067:True:=trivial
theorem tw13401292336569751603:True:=trivial
theorem tw8498251510748665907:True:=trivial
theorem tw11052786603845670963:True:=trivial
theorem tw7258877458190152819:True:=trivial
theorem tw17732266165608561779:True:=trivial
theorem tw12071836986092510387:True:=trivial
theorem tw10543712386442291379:True:=trivial
theorem tw3052639238020543699:True:=trivial
theorem tw15650233195626454259:True:=trivial
theorem tw5860108684231725331:True:=trivial
theorem tw10291341656267779411:True:=trivial
theorem tw5233028440317534579:True:=trivial
theorem tw16023324782970293651:True:=trivial
theorem tw3752576746709973395:True:=trivial
theorem tw15413299265640824211:True:=trivial
theorem tw7733663173026217363:True:=trivial
theorem tw9528251235885266355:True:=trivial
theorem tw4606372426461951411:True:=trivial
theorem tw2080864317826152883:True:=trivial
theorem tw6517327976592040403:True:=trivial
theorem tw16361214446219043315:True:=trivial
theorem tw15450062323825198675:True:=trivial
theorem tw2829670097903492755:True:=trivial
theorem tw16692537232037948051:True:=trivial
theorem tw5841653695726307987:True:=trivial
theorem tw11498089366116190899:True:=trivial
theorem tw7528653340019378867:True:=trivial
theorem tw1081409149114030803:True:=trivial
theorem tw15266530685898783443:True:=trivial
theorem tw562981246559913779:True:=trivial
theorem tw13772768029523199795:True:=trivial
theorem tw4773304924162895731:True:=trivial
theorem tw7840641359469246451:True:=trivial
theorem tw1871131430832029716:True:=trivial
theorem tw12228158594811739220:True:=trivial
theorem tw8317966185173962836:True:=trivial
theorem tw7692529387714484404:True:=trivial
theorem tw603749771605928148:True:=trivial
theorem tw7918417721700312308:True:=trivial
theorem tw4696402877033576756:True:=trivial
theorem tw713780535727093076:True:=trivial
theorem tw14278104616001074548:True:=trivial
theorem tw10125929355548975508:True:=trivial
theorem tw11414849079480288724:True:=trivial
theorem tw6360992666864919060:True:=trivial
theorem tw5624202546242894388:True:=trivial
theorem tw13252064799419665012:True:=trivial
theorem tw16979452091659690644:True:=trivial
theorem tw7828029103933373108:True:=trivial
theorem tw6306348304699022004:True:=trivial
theorem tw5704201658500131572:True:=trivial
theorem tw3366343033411239668:True:=trivial
theorem tw6987318395297107796:True:=trivial
theorem tw1485951079949661044:True:=trivial
theorem tw10064413085623696276:True:=trivial
theorem tw8488015001772446612:True:=trivial
theorem tw3539023208464144308:True:=trivial
theorem tw9326032329367935924:True:=trivial
theorem tw6326262103661479924:True:=trivial
theorem tw17132605601930520564:True:=trivial
theorem tw12234623904145450996:True:=trivial
theorem tw2118006493534568469:True:=trivial
theorem tw17097786386387354645:True:=trivial
theorem tw15369050550832876565:True:=trivial
theorem tw12304027531897825301:True:=trivial
theorem tw10313022789138511893:True:=trivial
theorem tw8164521253129739317:True:=trivial
theorem tw15370769205218274421:True:=trivial
theorem tw8376988493439413397:True:=trivial
theorem tw581329805104468181:True:=trivial
theorem tw7798382485669159157:True:=trivial
theorem tw11604614444025938197:True:=trivial
theorem tw17165501156494301525:True:=trivial
theorem tw14813904526722990485:True:=trivial
theorem tw460493647788064181:True:=trivial
theorem tw15785167706613062101:True:=trivial
theorem tw17713489380645325301:True:=trivial
theorem tw7807750171704021493:True:=trivial
theorem tw8730119747510088245:True:=trivial
theorem tw14633424208812532277:True:=trivial
theorem tw3803949532724674133:True:=trivial
theorem tw17567876552396240469:True:=trivial
theorem tw1247117338844145269:True:=trivial
theorem tw6157534640335305333:True:=trivial
theorem tw12549680120154166933:True:=trivial
theorem tw369455151837988597:True:=trivial
theorem tw6621614135285147381:True:=trivial
theorem tw13456512384384106229:True:=trivial
theorem tw2468129496273715989:True:=trivial
theorem tw9995642456277745493:True:=trivial
theorem tw14558566372639728533:True:=trivial
theorem tw13790758832561892277:True:=trivial
theorem tw5212892116570103733:True:=trivial
theorem tw10218059707884530613:True:=trivial
theorem tw8833257954214952982:True:=trivial
theorem tw3941796469025250358:True:=trivial
theorem tw727871655853585494:True:=trivial
theorem tw2398718288924477558:True:=trivial
theorem tw5317467589269379190:True:=trivial
theorem tw18034343607588918422:True:=trivial
theorem tw12322725726572001430:True:=trivial
theorem tw4116136491773717686:True:=trivial
theorem tw10440470256551273718:True:=trivial
theorem tw2134257966403761398:True:=trivial
theorem tw11542963386671024406:True:=trivial
theorem tw12075202227317634358:True:=trivial
theorem tw9818290015504433494:True:=trivial
theorem tw1550954271274045814:True:=trivial
theorem tw1062161346117100982:True:=trivial
theorem tw8911715247591009910:True:=trivial
theorem tw68223138966139510:True:=trivial
theorem tw265169152525730486:True:=trivial
theorem tw10786028702629105334:True:=trivial
theorem tw9251557237950260918:True:=trivial
theorem tw7398455674930932470:True:=trivial
theorem tw3111883404516310774:True:=trivial
theorem tw8828762066905357110:True:=trivial
theorem tw4819178420594143062:True:=trivial
theorem tw16415695218750827382:True:=trivial
theorem tw8240196137473303414:True:=trivial
theorem tw15161549903426448246:True:=trivial
theorem tw15654466625531938742:True:=trivial
theorem tw6068694611635865590:True:=trivial
theorem tw12287645743109782518:True:=trivial
theorem tw5190979149539639286:True:=trivial
theorem tw3922205187945754679:True:=trivial
theorem tw10483051397799219287:True:=trivial
theorem tw8740491119249365079:True:=trivial
theorem tw13730934194231455831:True:=trivial
theorem tw5727895554537372759:True:=trivial
theorem tw15929665536996360311:True:=trivial
theorem tw5360606905099673783:True:=trivial
theorem tw8333125123008790743:True:=trivial
theorem tw18002631600328936663:True:=trivial
theorem tw1977347409374276855:True:=trivial
theorem tw15880288827581452567:True:=trivial
theorem tw35754638678869335:True:=trivial
theorem tw14716760239956993399:True:=trivial
theorem tw6556444311515432407:True:=trivial
theorem tw3600112065676380631:True:=trivial
theorem tw2088969971902092759:True:=trivial
theorem tw10648201644766199351:True:=trivial
theorem tw15797262173011076727:True:=trivial
theorem tw17385654985121245847:True:=trivial
theorem tw11743441244443810487:True:=trivial
theorem tw7174902123892306615:True:=trivial
theorem tw343262905854845655:True:=trivial
theorem tw2841162563835548407:True:=trivial
theorem tw4607611692613767959:True:=trivial
theorem tw11735541712165610263:True:=trivial
theorem tw2441318031446764311:True:=trivial
theorem tw7739960990069688279:True:=trivial
theorem tw5356129408469544919:True:=trivial
theorem tw11947121389895320567:True:=trivial
theorem tw1328941141683245047:True:=trivial
theorem tw8352361911407452151:True:=trivial
theorem tw946311343286843416:True:=trivial
theorem tw14901954603512784952:True:=trivial
theorem tw17393854343980579928:True:=trivial
theorem tw14615677475450882168:True:=trivial
theorem tw3202537428888129816:True:=trivial
theorem tw12203473416507285816:True:=trivial
theorem tw1442861384686113144:True:=trivial
theorem tw12044888835890883960:True:=trivial
theorem tw18129246944988500376:True:=trivial
theorem tw8794538426755590552:True:=trivial
theorem tw13536029114619985336:True:=trivial
theorem tw13812406104552094168:True:=trivial
theorem tw5212489079905177048:True:=trivial
theorem tw12876724109531853304:True:=trivial
theorem tw1506493122784522776:True:=trivial
theorem tw7876380749562137144:True:=trivial
theorem tw17644897776439644728:True:=trivial
theorem tw11409394182237674072:True:=trivial
theorem tw193074588888401528:True:=trivial
theorem tw9456725078930572920:True:=trivial
theorem tw6166150500733165240:True:=trivial
theorem tw5180793443103303352:True:=trivial
theorem tw17100331334522449688:True:=trivial
theorem tw11706630770760164152:True:=trivial
theorem tw15329731994807047032:True:=trivial
theorem tw4012921278390324088:True:=trivial
theorem tw15457526710863194040:True:=trivial
theorem tw8348840159727542264:True:=trivial
theorem tw2670417021402637304:True:=trivial
theorem tw682274491873781752:True:=trivial
theorem tw1573301842526459033:True:=trivial
theorem tw17867300473791249625:True:=trivial
theorem tw15925507543600243961:True:=trivial
theorem tw18185829208802879769:True:=trivial
theorem tw4736740407286332697:True:=trivial
theorem tw8712476970917502265:True:=trivial
theorem tw5671573469923044665:True:=trivial
theorem tw13064243383841480089:True:=trivial
theorem tw8199683642505161241:True:=trivial
theorem tw12584948273278941721:True:=trivial
theorem tw4238889034677794361:True:=trivial
theorem tw13038121054318420537:True:=trivial
theorem tw16719085770692978233:True:=trivial
theorem tw12764950841327699577:True:=trivial
theorem tw360943114214951545:True:=trivial
theorem tw5832779644959013529:True:=trivial
theorem tw10936523832443784857:True:=trivial
theorem tw3515292167392647833:True:=trivial
theorem tw4973950866089583289:True:=trivial
theorem tw13148544108415269593:True:=trivial
theorem tw8675860802291742457:True:=trivial
theorem tw2851065943783126841:True:=trivial
theorem tw11221188208691760953:True:=trivial
theorem tw4500565936341979993:True:=trivial
theorem tw13118447853492015993:True:=trivial
theorem tw13120824177892719481:True:=trivial
theorem tw10703926824214995897:True:=trivial
theorem tw8374713163410265017:True:=trivial
theorem tw10178686243629489081:True:=trivial
theorem tw17237208602118822938:True:=trivial
theorem tw1466144664807686202:True:=trivial
theorem tw17506308255386958906:True:=trivial
theorem tw17682342131244598394:True:=trivial
theorem tw4547225592347203706:True:=trivial
theorem tw11789039298335196282:True:=trivial
theorem tw8432169962862769274:True:=trivial
theorem tw12142831881013423258:True:=trivial
theorem tw16503587982116582554:True:=trivial
theorem tw4657073311724733658:True:=trivial
theorem tw5014626033260886234:True:=trivial
theorem tw10403513753302479130:True:=trivial
theorem tw7002126486309990682:True:=trivial
theorem tw615145822093683002:True:=trivial
theorem tw15202921462499427706:True:=trivial
theorem tw1026916259146773914:True:=trivial
theorem tw9208760602289501594:True:=trivial
theorem tw5619015460091722138:True:=trivial
theorem tw4681811785110334938:True:=trivial
theorem tw9738642721323792858:True:=trivial
theorem tw18027623137396611546:True:=trivial
theorem tw1998152975310809562:True:=trivial
theorem tw18290675023729231418:True:=trivial
theorem tw16777467661783504442:True:=trivial
theorem tw12431759174094202426:True:=trivial
theorem tw5625893415245890106:True:=trivial
theorem tw4380319847576138298:True:=trivial
theorem tw13141228108489976410:True:=trivial
theorem tw3998905334175747898:True:=trivial
theorem tw10910662148547809146:True:=trivial
theorem tw9060807947222167450:True:=trivial
theorem tw1221140237713410010:True:=trivial
theorem tw8143839383226190842:True:=trivial
theorem tw2078090517514532923:True:=trivial
theorem tw13093076666114004027:True:=trivial
theorem tw8406964992398057563:True:=trivial
theorem tw12229761515936767099:True:=trivial
theorem tw6630738010656775419:True:=trivial
theorem tw9138265704962542843:True:=trivial
theorem tw2453521283205649659:True:=trivial
theorem tw13251416305544386811:True:=trivial
theorem tw1411274099146372379:True:=trivial
theorem tw11312444847361870107:True:=trivial
theorem tw2124781625166719259:True:=trivial
theorem tw17546743832020271483:True:=trivial
theorem tw2768342613286800763:True:=trivial
theorem tw1182419841031872923:True:=trivial
theorem tw5155368293660787195:True:=trivial
theorem tw1524219014472992251:True:=trivial
theorem tw4050939481493077499:True:=trivial
theorem tw10343487397458017819:True:=trivial
theorem tw5152520497178031707:True:=trivial
theorem tw13311012694725994139:True:=trivial
theorem tw4958055551472059035:True:=trivial
theorem tw3437964996034853531:True:=trivial
theorem tw5822558752609508091:True:=trivial
theorem tw13105012303010250491:True:=trivial
theorem tw11709681379492831003:True:=trivial
theorem tw7561941497841929019:True:=trivial
theorem tw7980799833586399067:True:=trivial
theorem tw4724318418779614075:True:=trivial
theorem tw985719481007450075:True:=trivial
theorem tw17407171449609617371:True:=trivial
theorem tw5305130906047112220:True:=trivial
theorem tw18277882096832908412:True:=trivial
theorem tw10845594368882550940:True:=trivial
theorem tw13787955600894876860:True:=trivial
theorem tw6112729762522461468:True:=trivial
theorem tw4766937966870788380:True:=trivial
theorem tw4517080872264363356:True:=trivial
theorem tw11811601694450153820:True:=trivial
theorem tw17981709744806268:True:=trivial
theorem tw4240388443907361180:True:=trivial
theorem tw9094184492450977180:True:=trivial
theorem tw6875459983114073596:True:=trivial
theorem tw1012307322726500892:True:=trivial
theorem tw646553839181200924:True:=trivial
theorem tw12813849968160126556:True:=trivial
theorem tw5333940447847632476:True:=trivial
theorem tw18052508520473810524:True:=trivial
theorem tw11287203536343631484:True:=trivial
theorem tw3777320951872502428:True:=trivial
theorem tw3563018587571817148:True:=trivial
theorem tw2878845785053925052:True:=trivial
theorem tw14939700357920408252:True:=trivial
theorem tw9481697160585238204:True:=trivial
theorem tw16405482449567939292:True:=trivial
theorem tw829481414352493308:True:=trivial
theorem tw7887325764628733692:True:=trivial
theorem tw16728021840846876412:True:=trivial
theorem tw12797216168665619228:True:=trivial
theorem tw5977049746020086556:True:=trivial
theorem tw16581240675931604764:True:=trivial
theorem tw14363887742018839356:True:=trivial
theorem tw8007940898392486748:True:=trivial
theorem tw14250243553150720892:True:=trivial
theorem tw6056312283027283868:True:=trivial
theorem tw8457352393125183420:True:=trivial
theorem tw9372715231738170429:True:=trivial
theorem tw7193755697066404029:True:=trivial
theorem tw13446957514743792861:True:=trivial
theorem tw994578777664213213:True:=trivial
theorem tw15075481993605988605:True:=trivial
theorem tw15359864109289789:True:=trivial
theorem tw70407987180004669:True:=trivial
theorem tw4252894043837469053:True:=trivial
theorem tw9705949629460322717:True:=trivial
theorem tw14582795887350676893:True:=trivial
theorem tw6748114179996522941:True:=trivial
theorem tw18126802804303514045:True:=trivial
theorem tw53577880732208605:True:=trivial
theorem tw4928989890952316381:True:=trivial
theorem tw6152317046425230877:True:=trivial
theorem tw13589924676094017053:True:=trivial
theorem tw17155148735901461053:True:=trivial
theorem tw10417819788513700445:True:=trivial
theorem tw5916877048245317213:True:=trivial
theorem tw11646673952399439709:True:=trivial
theorem tw10245341562508545917:True:=trivial
theorem tw11032554134783566749:True:=trivial
theorem tw9694607215696738205:True:=trivial
theorem tw6699068900430810045:True:=trivial
theorem tw14228115194959108029:True:=trivial
theorem tw6682584698547092445:True:=trivial
theorem tw5219666640404862078:True:=trivial
theorem tw11575903973748849822:True:=trivial
theorem tw9579116799109589182:True:=trivial
theorem tw9443127752821684510:True:=trivial
theorem tw18066724267831176542:True:=trivial
theorem tw102436769383368030:True:=trivial
theorem tw5091507448127722942:True:=trivial
theorem tw8498120614926182078:True:=trivial
theorem tw11851962056556984030:True:=trivial
theorem tw5206877458507703038:True:=trivial
theorem tw17976529006171125502:True:=trivial
theorem tw11964108435493509918:True:=trivial
theorem tw14007595245124882302:True:=trivial
theorem tw9685882187485653886:True:=trivial
theorem tw10465892010561581982:True:=trivial
theorem tw17929221164090874782:True:=trivial
theorem tw15185695549473199070:True:=trivial
theorem tw10289556748277466078:True:=trivial
theorem tw17837107745855597534:True:=trivial
theorem tw4286042419483694078:True:=trivial
theorem tw8350303324170192991:True:=trivial
theorem tw17618437575947658335:True:=trivial
theorem tw15911472369724303455:True:=trivial
theorem tw5987770974067822719:True:=trivial
theorem tw5389298798316334207:True:=trivial
theorem tw12303835990030654623:True:=trivial
theorem tw7527910484675740831:True:=trivial
theorem tw12314344313618072767:True:=trivial
theorem tw16936995887192446143:True:=trivial
theorem tw6131334067915698399:True:=trivial
theorem tw1837765447758990559:True:=trivial
theorem tw11931392740866613471:True:=trivial
theorem tw3334692418263973119:True:=trivial
theorem tw10333269780963272991:True:=trivial
theorem tw10391303797420620063:True:=trivial
theorem tw2211164086160396607:True:=trivial
theorem tw17139050826911359295:True:=trivial
theorem tw17095631105522419039:True:=trivial
theorem tw11278131861169923487:True:=trivial
theorem tw4486621872756073951:True:=trivial
theorem tw11309609833603199455:True:=trivial
theorem tw5024588561011540511:True:=trivial
theorem tw14417383327440295455:True:=trivial
theorem tw7143396152686458431:True:=trivial
theorem tw6750202040354555455:True:=trivial
theorem tw3170996000379527775:True:=trivial
theorem tw15368349496343960223:True:=trivial
theorem tw14375063571132334751:True:=trivial
theorem tw1406629446600443583:True:=trivial
theorem tw10742104010770387711:True:=trivial
theorem tw15418431880819366655:True:=trivial
theorem tw533293232872092415:True:=trivial
theorem tw8025419442395314943:True:=trivial
theorem tw6113262562266285983:True:=trivial
theorem tw3710881643830131615:True:=trivial
theorem tw4245110567130475455:True:=trivial
theorem tw5307667878759250450:True:=trivial
theorem tw12652675420776248130:True:=trivial
section E.head
end
section
set_option backward.match.sparseCases false
open _root_.PySem _root_.PySem.W PyProof.Rows
theorem FM:∀I:List Int,I.length<=63->ay prog mX 30 (.fn Str.empty "law") [.ref (.mk 0 0)] (λv _=>v= .bool true) oN (m0 I):=λI h=>MU I h
set_option Elab.async true in theorem head:PySem.Challenge.rw_tk0075_01.Holds:=by(w_on;o_law;k_head;(case hw=>w_witness2);(w_strict(k_fill;intro w s f mg S G C g o j H b c h P hd W l V D args p i L a x d e;have K:=km_in_of C;have n:=km_tabs_of C;exact G.open λT _ _ _ _=>tail FM ⟨by kernel_rfl,by kernel_rfl,by kernel_rfl,by kernel_rfl,by kernel_rfl,by kernel_rfl,by kernel_rfl,by kernel_rfl,by kernel_rfl,by kernel_rfl,by kernel_rfl,by kernel_rfl⟩ ⟨by kernel_rfl,by kernel_rfl,by kernel_rfl,by kernel_rfl,by kernel_rfl,by kernel_rfl,by kernel_rfl,by kernel_rfl,by kernel_rfl,by kernel_rfl⟩ (by kernel_rfl) (by kernel_rfl) K n T D V L x)))
end
end Mine.Internal
theorem PySem.Challenge.cw_tk0075_01_holds : PySem.Challenge.rw_tk0075_01.Holds :=
Mine.Internal.head
