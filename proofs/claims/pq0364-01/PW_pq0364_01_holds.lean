import PyProof.Rows.All
import Wide.All
import OpenK.AllK
import Wide.FinOn
import PySem.Challenge.RW_pq0364_01
set_option Elab.async false
set_option maxRecDepth 100000
set_option maxHeartbeats 0
set_option linter.unusedVariables false
set_option linter.unusedSimpArgs false
set_option tactic.hygienic false
set_option genInjectivity false
set_option genCtorIdx false
set_option backward.match.sparseCases false
set_option genSizeOf false
set_option genSizeOfSpec false
set_option bootstrap.genMatcherCode false
section
open PySem
namespace Mine
noncomputable abbrev pZ (a b c:Nat):PySem.Pos:=⟨a,b,a,c⟩
theorem A0 {α:Type _} {a:α} {l m:List α} (h:a ∈ m):a ∈ l++m:=List.mem_append_right l h
theorem A1 {α:Type _} {a:α} {l m:List α} (h:a ∈ l):a ∈ l++m:=List.mem_append_left m h
theorem A2 {α:Type _} {a b:α} (h:a ∈ [b]):a=b:=List.mem_singleton.mp h
theorem A3 {α:Type _} {a:α} {l m:List α} (h:a ∈ l++m):a ∈ l\/a ∈ m:=List.mem_append.mp h
theorem A4 {a b:Nat} (h:Nat.beq a b=true):a=b:=Nat.eq_of_beq_eq_true h
theorem A5 {a b:Nat} (h:Nat.ble a b=true):a<=b:=Nat.le_of_ble_eq_true h
theorem A6 {α:Type _} {p:α->Bool} {l:List α} (h:l.all p=true):∀ x ∈ l,p x=true:=List.all_eq_true.mp h
theorem A7 {α:Type _} {a b:α} {l:List α} (h:a ∈ b::l):a=b\/a ∈ l:=List.mem_cons.mp h
theorem A8 {h:PySem.Heap} {a:PySem.Addr} {x o:PySem.Obj} (e:h.get? a=some x):(h.push o).get? a=some x:=PySem.Heap.get?_push_of_some o e
theorem ai {p q:Prop} {Y:Prop} (H:p/\q) (K:p->q->Y):Y:=K H.1 H.2
theorem jy {p q r:Prop} {Y:Prop} (H:p/\q/\r) (K:p->q->r->Y):Y:=K H.1 H.2.1 H.2.2
theorem ay {A:Sort _} {p:A->Prop} {Y:Prop} (H:∃ a,p a) (K:∀ a,p a->Y):Y:=H.elim fun a H=>K a H
theorem ae {A:Sort _} {p q:A->Prop} {Y:Prop} (H:∃ a,p a/\q a) (K:∀ a,p a->q a->Y):Y:=H.elim fun a H=>K a H.1 H.2
theorem bD {A:Sort _} {p q r:A->Prop} {Y:Prop} (H:∃ a,p a/\q a/\r a) (K:∀ a,p a->q a->r a->Y):Y:=H.elim fun a H=>K a H.1 H.2.1 H.2.2
theorem y1 {A:Sort _} {p q r s:A->Prop} {Y:Prop} (H:∃ a,p a/\q a/\r a/\s a) (K:∀ a,p a->q a->r a->s a->Y):Y:=H.elim fun a H=>K a H.1 H.2.1 H.2.2.1 H.2.2.2
theorem tq {A:Sort _} {p q r s t:A->Prop} {Y:Prop} (H:∃ a,p a/\q a/\r a/\s a/\t a) (K:∀ a,p a->q a->r a->s a->t a->Y):Y:=H.elim fun a H=>K a H.1 H.2.1 H.2.2.1 H.2.2.2.1 H.2.2.2.2
theorem eE {A B:Sort _} {p:A->B->Prop} {Y:Prop} (H:∃ a b,p a b) (K:∀ a b,p a b->Y):Y:=H.elim fun a H=>H.elim fun b H=>K a b H
theorem fL {A B:Sort _} {p q:A->B->Prop} {Y:Prop} (H:∃ a b,p a b/\q a b) (K:∀ a b,p a b->q a b->Y):Y:=H.elim fun a H=>H.elim fun b H=>K a b H.1 H.2
theorem aV {A B:Sort _} {p q r:A->B->Prop} {Y:Prop} (H:∃ a b,p a b/\q a b/\r a b) (K:∀ a b,p a b->q a b->r a b->Y):Y:=H.elim fun a H=>H.elim fun b H=>K a b H.1 H.2.1 H.2.2
theorem cJ {A B:Sort _} {p q r s:A->B->Prop} {Y:Prop} (H:∃ a b,p a b/\q a b/\r a b/\s a b) (K:∀ a b,p a b->q a b->r a b->s a b->Y):Y:=H.elim fun a H=>H.elim fun b H=>K a b H.1 H.2.1 H.2.2.1 H.2.2.2
theorem jz {A B:Sort _} {p q r s t:A->B->Prop} {Y:Prop} (H:∃ a b,p a b/\q a b/\r a b/\s a b/\t a b) (K:∀ a b,p a b->q a b->r a b->s a b->t a b->Y):Y:=H.elim fun a H=>H.elim fun b H=>K a b H.1 H.2.1 H.2.2.1 H.2.2.2.1 H.2.2.2.2
theorem fE {A B C:Sort _} {p q:A->B->C->Prop} {Y:Prop} (H:∃ a b c,p a b c/\q a b c) (K:∀ a b c,p a b c->q a b c->Y):Y:=H.elim fun a H=>H.elim fun b H=>H.elim fun c H=>K a b c H.1 H.2
theorem de {A B C:Sort _} {p q r:A->B->C->Prop} {Y:Prop} (H:∃ a b c,p a b c/\q a b c/\r a b c) (K:∀ a b c,p a b c->q a b c->r a b c->Y):Y:=H.elim fun a H=>H.elim fun b H=>H.elim fun c H=>K a b c H.1 H.2.1 H.2.2
theorem eS {A B C:Sort _} {p q r s:A->B->C->Prop} {Y:Prop} (H:∃ a b c,p a b c/\q a b c/\r a b c/\s a b c) (K:∀ a b c,p a b c->q a b c->r a b c->s a b c->Y):Y:=H.elim fun a H=>H.elim fun b H=>H.elim fun c H=>K a b c H.1 H.2.1 H.2.2.1 H.2.2.2
theorem nj {A B C:Sort _} {p q r s t:A->B->C->Prop} {Y:Prop} (H:∃ a b c,p a b c/\q a b c/\r a b c/\s a b c/\t a b c) (K:∀ a b c,p a b c->q a b c->r a b c->s a b c->t a b c->Y):Y:=H.elim fun a H=>H.elim fun b H=>H.elim fun c H=>K a b c H.1 H.2.1 H.2.2.1 H.2.2.2.1 H.2.2.2.2
theorem nk {A B C:Sort _} {p q r s t u v:A->B->C->Prop} {Y:Prop} (H:∃ a b c,p a b c/\q a b c/\r a b c/\s a b c/\t a b c/\u a b c/\v a b c) (K:∀ a b c,p a b c->q a b c->r a b c->s a b c->t a b c->u a b c->v a b c->Y):Y:=H.elim fun a H=>H.elim fun b H=>H.elim fun c H=>K a b c H.1 H.2.1 H.2.2.1 H.2.2.2.1 H.2.2.2.2.1 H.2.2.2.2.2.1 H.2.2.2.2.2.2
theorem nn {A B C D:Sort _} {p q r:A->B->C->D->Prop} {Y:Prop} (H:∃ a b c d,p a b c d/\q a b c d/\r a b c d) (K:∀ a b c d,p a b c d->q a b c d->r a b c d->Y):Y:=H.elim fun a H=>H.elim fun b H=>H.elim fun c H=>H.elim fun d H=>K a b c d H.1 H.2.1 H.2.2
theorem pd {A B C D:Sort _} {p q r s t u:A->B->C->D->Prop} {Y:Prop} (H:∃ a b c d,p a b c d/\q a b c d/\r a b c d/\s a b c d/\t a b c d/\u a b c d) (K:∀ a b c d,p a b c d->q a b c d->r a b c d->s a b c d->t a b c d->u a b c d->Y):Y:=H.elim fun a H=>H.elim fun b H=>H.elim fun c H=>H.elim fun d H=>K a b c d H.1 H.2.1 H.2.2.1 H.2.2.2.1 H.2.2.2.2.1 H.2.2.2.2.2
theorem nq {A B C D E:Sort _} {p q r s:A->B->C->D->E->Prop} {Y:Prop} (H:∃ a b c d e,p a b c d e/\q a b c d e/\r a b c d e/\s a b c d e) (K:∀ a b c d e,p a b c d e->q a b c d e->r a b c d e->s a b c d e->Y):Y:=H.elim fun a H=>H.elim fun b H=>H.elim fun c H=>H.elim fun d H=>H.elim fun e H=>K a b c d e H.1 H.2.1 H.2.2.1 H.2.2.2
theorem yu {A B C D E F:Sort _} {p q r s t u v w x y z:A->B->C->D->E->F->Prop} {Y:Prop} (H:∃ a b c d e f,p a b c d e f/\q a b c d e f/\r a b c d e f/\s a b c d e f/\t a b c d e f/\u a b c d e f/\v a b c d e f/\w a b c d e f/\x a b c d e f/\y a b c d e f/\z a b c d e f) (K:∀ a b c d e f,p a b c d e f->q a b c d e f->r a b c d e f->s a b c d e f->t a b c d e f->u a b c d e f->v a b c d e f->w a b c d e f->x a b c d e f->y a b c d e f->z a b c d e f->Y):Y:=H.elim fun a H=>H.elim fun b H=>H.elim fun c H=>H.elim fun d H=>H.elim fun e H=>H.elim fun f H=>K a b c d e f H.1 H.2.1 H.2.2.1 H.2.2.2.1 H.2.2.2.2.1 H.2.2.2.2.2.1 H.2.2.2.2.2.2.1 H.2.2.2.2.2.2.2.1 H.2.2.2.2.2.2.2.2.1 H.2.2.2.2.2.2.2.2.2.1 H.2.2.2.2.2.2.2.2.2.2
theorem ax {A:Sort _} {p q:A->Prop} (a:A) (g:p a) (h:q a):∃ a,p a/\q a:=⟨a,g,h⟩
theorem bY {A:Sort _} {p q r:A->Prop} (a:A) (g:p a) (h:q a) (i:r a):∃ a,p a/\q a/\r a:=⟨a,g,h,i⟩
theorem cF {p q r:Prop} (g:p) (h:q) (i:r):p/\q/\r:=⟨g,h,i⟩
theorem db {A B:Sort _} {p q r:A->B->Prop} (a:A) (b:B) (g:p a b) (h:q a b) (i:r a b):∃ a b,p a b/\q a b/\r a b:=⟨a,b,g,h,i⟩
theorem dz {A B C:Sort _} {p q r:A->B->C->Prop} (a:A) (b:B) (c:C) (g:p a b c) (h:q a b c) (i:r a b c):∃ a b c,p a b c/\q a b c/\r a b c:=⟨a,b,c,g,h,i⟩
theorem dW {A B:Sort _} {p q r s:A->B->Prop} (a:A) (b:B) (g:p a b) (h:q a b) (i:r a b) (j:s a b):∃ a b,p a b/\q a b/\r a b/\s a b:=⟨a,b,g,h,i,j⟩
theorem fF {A B C:Sort _} {p q r s:A->B->C->Prop} (a:A) (b:B) (c:C) (g:p a b c) (h:q a b c) (i:r a b c) (j:s a b c):∃ a b c,p a b c/\q a b c/\r a b c/\s a b c:=⟨a,b,c,g,h,i,j⟩
theorem gP {A B:Sort _} {p:A->B->Prop} (a:A) (b:B) (g:p a b):∃ a b,p a b:=⟨a,b,g⟩
theorem hM {A B C:Sort _} {p q:A->B->C->Prop} (a:A) (b:B) (c:C) (g:p a b c) (h:q a b c):∃ a b c,p a b c/\q a b c:=⟨a,b,c,g,h⟩
theorem jA {A:Sort _} {p q r s:A->Prop} (a:A) (g:p a) (h:q a) (i:r a) (j:s a):∃ a,p a/\q a/\r a/\s a:=⟨a,g,h,i,j⟩
theorem pf {A B:Sort _} {p q r s t:A->B->Prop} (a:A) (b:B) (g:p a b) (h:q a b) (i:r a b) (j:s a b) (k:t a b):∃ a b,p a b/\q a b/\r a b/\s a b/\t a b:=⟨a,b,g,h,i,j,k⟩
theorem nr {A B C:Sort _} {p q r s t u v:A->B->C->Prop} (a:A) (b:B) (c:C) (g:p a b c) (h:q a b c) (i:r a b c) (j:s a b c) (k:t a b c) (l:u a b c) (m:v a b c):∃ a b c,p a b c/\q a b c/\r a b c/\s a b c/\t a b c/\u a b c/\v a b c:=⟨a,b,c,g,h,i,j,k,l,m⟩
theorem rO {A B C D:Sort _} {p q r s t u:A->B->C->D->Prop} (a:A) (b:B) (c:C) (d:D) (g:p a b c d) (h:q a b c d) (i:r a b c d) (j:s a b c d) (k:t a b c d) (l:u a b c d):∃ a b c d,p a b c d/\q a b c d/\r a b c d/\s a b c d/\t a b c d/\u a b c d:=⟨a,b,c,d,g,h,i,j,k,l⟩
theorem rP {A B:Sort _} {p q:A->B->Prop} (a:A) (b:B) (g:p a b) (h:q a b):∃ a b,p a b/\q a b:=⟨a,b,g,h⟩
theorem oi {α:Type _} {a b:α} (h:some a=some b):a=b:=Option.some.inj h
theorem nS {α:Type _} {a:α} {G:Prop} (h:none=some a):G:=nomatch h
theorem Sn {α:Type _} {a:α} {G:Prop} (h:some a=none):G:=nomatch h
theorem fT {G:Prop} (h:false=true):G:=nomatch h
theorem tF {G:Prop} (h:true=false):G:=nomatch h
theorem cL {G:Prop} (k:∀ G':Prop,(G->G')->G'):G:=k G id
set_option genCtorIdx true in
inductive V where
 | none | bool (b:Bool) | int (i:Int) | str (s:List Nat)
 | tup (l:List V) | lst (l:List V)
 | obj (k:Nat) | fn (i:Nat) | exc (c:Nat) (fs:List (Nat × V)) | rng (a b:Int)
 | clo (i:Nat) (vs:List V)
inductive O where
 | list (l:List V) | dict (es:List (V × V)) | inst (c:Nat) | ns (fs:List (Nat × V))
 | hid (p l:List V)
 | wild (j:Nat)
noncomputable abbrev St:=List O
noncomputable abbrev Loc:=List (Option V)
inductive AI where
 | none | bool (b:Bool) | int (i:Int) | str (s:List Nat)
noncomputable def AI.v:AI->V
 | .none=>.none | .bool b=>.bool b | .int i=>.int i | .str s=>.str s
noncomputable def aA (s:List Nat):Str:=⟨⟨s⟩⟩
noncomputable def AI.c:AI->Const
 | .none=>.none | .bool b=>.bool b | .int i=>.int i | .str s=>.str (aA s)
mutual
inductive ME where
 | const (v:AI) (k:Nat) (p:Pos)
 | name (i:Nat) (p:Pos)
 | glob (g:Nat) (p:Pos)
 | bin (a:ME) (op:Operator) (b:ME) (p:Pos)
 | un (op:UnaryOp) (a:ME) (p:Pos)
 | bools (op:BoolOp) (l:bP) (p:Pos)
 | cmp (a:ME) (op:CmpOp) (b:ME) (p:Pos)
 | cmp2 (a:ME) (o1:CmpOp) (b:ME) (o2:CmpOp) (c:ME) (p:Pos)
 | ifx (t a b:ME) (p:Pos)
 | tup (l:bP) (k:Nat) (p:Pos)
 | list (l:bP) (p:Pos)
 | lstV (l:bP) (p:Pos)
 | addV (a b:ME) (p:Pos)
 | dict (ks vs:bP) (p:Pos)
 | attr (a:ME) (c:Nat) (p:Pos)
 | sub (a i:ME) (p:Pos)
 | slice (a:ME) (lo hi:MO) (sp p:Pos)
 | callg (g:Nat) (gp:Pos) (l:bP) (p:Pos)
 | calle (f:ME) (l:bP) (p:Pos)
 | meth (o:ME) (c:Nat) (ap:Pos) (l:bP) (p:Pos)
 | comp (elt:ME) (t:MT) (iter:ME) (ifs:bP) (ns:List (Nat × Nat)) (vs:List (Nat × Option Nat)) (gs:List Nat) (p:Pos)
 | dcomp (k v:ME) (t:MT) (iter:ME) (ns:List (Nat × Nat)) (vs:List (Nat × Option Nat)) (gs:List Nat) (p:Pos)
inductive bP where
 | nil | cons (e:ME) (l:bP)
inductive MO where
 | none | some (e:ME)
inductive MT where
 | name (i:Nat) (p:Pos)
 | tup (l:List (Nat × Pos)) (k:Nat) (p:Pos)
 | attr (o:ME) (c:Nat) (p:Pos)
 | sub (o i:ME) (p:Pos)
end
mutual
inductive MS where
 | expr (e:ME) (p:Pos)
 | asg (t:MT) (e:ME) (p:Pos)
 | aug (i:Nat) (ip:Pos) (op:Operator) (e:ME) (p:Pos)
 | ife (t:ME) (a b:bL) (p:Pos)
 | whl (t:ME) (a:bL) (p:Pos)
 | forr (t:MT) (it:ME) (a:bL) (p:Pos)
 | ret (e:ME) (p:Pos) | ret0 (p:Pos)
 | rais (g:Nat) (gp:Pos) (l:bP) (cp p:Pos)
 | tryx (t:MT) (e:ME) (ap:Pos) (g:Nat) (gp:Pos) (n:Nat) (h:bL) (hp p:Pos)
 | pass (p:Pos) | brk (p:Pos) | cont (p:Pos)
 | tryr (e:ME) (rp:Pos) (g:Nat) (gp:Pos) (n:Nat) (h:bL) (hp p:Pos)
inductive bL where
 | nil | cons (s:MS) (l:bL)
end
section
variable (nm:Nat->Str) (vn:Nat->Nat)
noncomputable def i6 (k:Nat):NameKind:=match k with
 | 0=>.local
 | 1=>.globalImplicit
 | _=>.free
noncomputable def cR (nm:Nat->Str) (ns:List (Nat × Nat)):Scope:={ kind:=.function,names:=((Str.ofString ".0"),.local) :: ns.map fun p=>(nm p.1,i6 p.2),isGenerator:=false,isCoroutine:=false,more:=[] }
mutual
noncomputable def ME.toE (vn:Nat->Nat):ME->Expr
 | .const v k p=>.Constant v.c k p
 | .name i p=>.Name (nm (vn i)) p
 | .glob g p=>.Name (nm g) p
 | .bin a op b p=>.BinOp (a.toE vn) op (b.toE vn) p
 | .un op a p=>.UnaryOp op (a.toE vn) p
 | .bools op l p=>.BoolOp op (l.toE vn) p
 | .cmp a op b p=>.Compare (a.toE vn) [op] [b.toE vn] p
 | .cmp2 a o1 b o2 c p=>.Compare (a.toE vn) [o1,o2] [b.toE vn,c.toE vn] p
 | .ifx t a b p=>.IfExp (t.toE vn) (a.toE vn) (b.toE vn) p
 | .tup l k p=>.Tuple (l.toE vn) k p
 | .list l p=>.List (l.toE vn) p
 | .lstV l p=>.List (l.toE vn) p
 | .addV a b p=>.BinOp (a.toE vn) .Add (b.toE vn) p
 | .dict ks vs p=>.Dict ((ks.toE vn).map some) (vs.toE vn) p
 | .attr a c p=>.Attribute (a.toE vn) (nm c) p
 | .sub a i p=>.Subscript (a.toE vn) (i.toE vn) p
 | .slice a lo hi sp p=>.Subscript (a.toE vn) (.Slice (lo.toE vn) (hi.toE vn) none sp) p
 | .callg g gp l p=>.Call (.Name (nm g) gp) (l.toE vn) [] p
 | .calle f l p=>.Call (f.toE vn) (l.toE vn) [] p
 | .meth o c ap l p=>.Call (.Attribute (o.toE vn) (nm c) ap) (l.toE vn) [] p
 | .comp elt t iter ifs ns vs _ p=>.ListComp (elt.toE fun i=>(vs.getD i (0,none)).1) [⟨t.toE fun i=>(vs.getD i (0,none)).1,iter.toE vn,ifs.toE fun i=>(vs.getD i (0,none)).1,0⟩] (cR nm ns) p
 | .dcomp k v t iter ns vs _ p=>.DictComp (k.toE fun i=>(vs.getD i (0,none)).1) (v.toE fun i=>(vs.getD i (0,none)).1) [⟨t.toE fun i=>(vs.getD i (0,none)).1,iter.toE vn,[],0⟩] (cR nm ns) p
noncomputable def bP.toE (vn:Nat->Nat):bP->List Expr
 | .nil=>[]
 | .cons e l=>e.toE vn :: l.toE vn
noncomputable def MO.toE (vn:Nat->Nat):MO->Option Expr
 | .none=>none
 | .some e=>some (e.toE vn)
noncomputable def MT.toE (vn:Nat->Nat):MT->Expr
 | .name i p=>.Name (nm (vn i)) p
 | .tup l k p=>.Tuple (l.map fun x=>.Name (nm (vn x.1)) x.2) k p
 | .attr o c p=>.Attribute (o.toE vn) (nm c) p
 | .sub o i p=>.Subscript (o.toE vn) (i.toE vn) p
end
mutual
noncomputable def MS.toS (vn:Nat->Nat):MS->Stmt
 | .expr e p=>.Expr (e.toE nm vn) p
 | .asg t e p=>.Assign [t.toE nm vn] (e.toE nm vn) p
 | .aug i ip op e p=>.AugAssign (.Name (nm (vn i)) ip) op (e.toE nm vn) p
 | .ife t a b p=>.If (t.toE nm vn) (a.toS vn) (b.toS vn) p
 | .whl t a p=>.While (t.toE nm vn) (a.toS vn) [] p
 | .forr t it a p=>.For (t.toE nm vn) (it.toE nm vn) (a.toS vn) [] p
 | .ret e p=>.Return (some (e.toE nm vn)) p
 | .ret0 p=>.Return none p
 | .rais g gp l cp p=>.Raise (some (.Call (.Name (nm g) gp) (l.toE nm vn) [] cp)) none p
 | .tryx t e ap g gp n h hp p=>.Try [.Assign [t.toE nm vn] (e.toE nm vn) ap] [.ExceptHandler (some (.Name (nm g) gp)) (some (nm (vn n))) (h.toS vn) hp] [] [] p
 | .pass p=>.Pass p
 | .brk p=>.Break p
 | .cont p=>.Continue p
 | .tryr e rp g gp n h hp p=>.Try [.Return (some (e.toE nm vn)) rp] [.ExceptHandler (some (.Name (nm g) gp)) (some (nm (vn n))) (h.toS vn) hp] [] [] p
noncomputable def bL.toS (vn:Nat->Nat):bL->List Stmt
 | .nil=>[]
 | .cons s l=>s.toS vn :: l.toS vn
end
end
set_option genCtorIdx true in
inductive aU (α:Type) where
 | ok (a:α) (s:St)
 | exc (c:Nat) (fs:List (Nat × V)) (s:St)
 | stuck
noncomputable def aU.bind {α β:Type}:aU α->(α->St->aU β)->aU β
 | .ok a s,f=>f a s
 | .exc c fs s,_=>.exc c fs s
 | .stuck,_=>.stuck
noncomputable def aU.calm {α β:Type}:aU α->(α->St->aU β)->aU β
 | .ok v s,f=>f v s
 | _,_=>.stuck
noncomputable def chk {α:Type} (b:Bool) (o:aU α):aU α:=match b with
 | true=>o
 | false=>.stuck
noncomputable def ofO {α β:Type} (o:Option α) (f:α->aU β):aU β:=match o with
 | some a=>f a
 | none=>.stuck
noncomputable def aU.quiet {α β:Type}:aU α->(St->aU β)->aU β
 | .ok _ s,f=>f s
 | _,_=>.stuck
noncomputable def ao {α:Type}:List α->Nat->Option α
 | [],_=>none
 | x :: l,i=>match i with | 0=>some x | i + 1=>ao l i
noncomputable def bc {α:Type}:List α->Nat->α->List α
 | [],_,_=>[]
 | x :: l,i,y=>match i with | 0=>y :: l | i + 1=>x :: bc l i y
noncomputable def nu:List Nat->List Nat->Bool
 | [],[]=>true
 | x :: l,y :: m=>match Nat.beq x y with | true=>nu l m | false=>false
 | _,_=>false
noncomputable def CI:List Nat->List Nat->Bool
 | _,[]=>false
 | [],_ :: _=>true
 | x :: l,y :: m=>match Nat.beq x y with | true=>CI l m | false=>Nat.blt x y
noncomputable def aQ:List Nat->Nat->Bool
 | [],_=>false
 | x :: l,c=>match Nat.beq x c with | true=>true | false=>aQ l c
noncomputable def find {α:Type}:List (Nat × α)->Nat->Option α
 | [],_=>none
 | p :: l,c=>match Nat.beq p.1 c with | true=>some p.2 | false=>find l c
noncomputable def wm {α:Type}:List (Nat × α)->Nat->α->List (Nat × α)
 | [],c,v=>[(c,v)]
 | p :: l,c,v=>match Nat.beq p.1 c with | true=>(c,v) :: l | false=>p :: wm l c v
set_option genCtorIdx true in
inductive Flow where
 | next | brk | cont | ret (v:V)
set_option genCtorIdx true in
inductive GV where
 | fn (i:Nat) | cls (i:Nat) | bi (b:Nat) | val (v:V) | no
 | mk (i j:Nat)
structure bu where
 addr:Nat
 np:Nat
 nv:Nat
 pure:Bool
 iso:Bool
 vars:List (Nat × Nat)
 gl:List Nat
 body:bL
 pre:List (Nat × Nat)
 home:Nat
structure lg where
 addr:Nat
 init:Nat
 kind:Nat
 up:List Nat
structure cz where
 gv:Nat->GV
 fns:Nat->Option bu
 cls:Nat->Option lg
 wl:Nat->Option (Nat × List (Pos × List Nat))
 wn:Nat
structure Ctx where
 l:Loc
 d:Nat
 hm:Bool
 g:List Nat
 ro:List Nat
 ce:List Nat
inductive eh where
 | seq (k:Nat) (l:List V)
 | obj (k i:Nat)
structure dv where
 e:ME->Ctx->St->aU V
 t:ME->Ctx->St->aU Bool
 b:bL->Ctx->St->aU (Flow × Loc)
 c:Nat->List V->Nat->Bool->St->aU V
 w:ME->bL->Ctx->St->aU (Flow × Loc)
 f:MT->eh->bL->Ctx->St->aU (Flow × Loc)
 lc:ME->MT->bP->eh->Nat->Ctx->St->aU Unit
 dc:ME->ME->MT->eh->Nat->Ctx->St->aU Unit
noncomputable def jk:Option O->Option (List V)
 | some (.list l)=>some l
 | _=>none
noncomputable def bX (v:V) (s:St):Option (List V):=match v with
 | .lst l=>some l
 | .obj k=>jk (ao s k)
 | _=>none
noncomputable def iO:V->Option Int
 | .int i=>some i
 | _=>none
noncomputable def sO:V->Option (List Nat)
 | .str s=>some s
 | _=>none
noncomputable def bO:V->Option Bool
 | .bool b=>some b
 | _=>none
noncomputable def tO:V->Option (List V)
 | .tup l=>some l
 | _=>none
noncomputable def oO:V->Option Nat
 | .obj k=>some k
 | _=>none
noncomputable def Ey:V->Option Nat
 | .fn i=>some i
 | _=>none
noncomputable def isNone:V->Bool
 | .none=>true
 | _=>false
noncomputable def AJ:Option O->Option (List (V × V))
 | some (.dict es)=>some es
 | _=>none
noncomputable def one {α:Type}:List α->Option α
 | []=>none
 | x :: l=>match l with | []=>some x | _ :: _=>none
noncomputable def two {α:Type}:List α->Option (α × α)
 | []=>none
 | x :: l=>(one l).map fun y=>(x,y)
noncomputable def grd {α:Type} (b:Bool) (a:Option α):Option α:=match b with
 | true=>a
 | false=>none
noncomputable def hV:V->Bool
 | .str _=>true
 | .int _=>true
 | _=>false
noncomputable def ej (a b:V):Option Bool:=match a with
 | .int x=>(iO b).map fun y=>decide (x=y)
 | .str x=>(sO b).map fun y=>nu x y
 | _=>none
noncomputable def fB:List (V × V)->V->Option (Option V)
 | [],_=>some none
 | p :: l,k=>(ej p.1 k).bind fun q=>match q with
  | true=>some (some p.2)
  | false=>fB l k
noncomputable def fM (f:V->V->Option Bool):List V->List V->Option Bool
 | [],_=>some true
 | x :: l,m=>match m with
  | []=>some true
  | y :: m=>(f x y).bind fun a=>(fM f l m).map fun b=>a && b
noncomputable def ny (f:V->V->Option Bool) (l m:List V):Option Bool:=match Nat.beq l.length m.length with
 | true=>fM f l m
 | false=>some false
noncomputable def dO (s:St):Nat->V->V->Option Bool
 | 0,_,_=>none
 | n + 1,a,b=>match a with
  | .int x=>(iO b).map fun y=>decide (x=y)
  | .str x=>(sO b).map fun y=>nu x y
  | .bool x=>(bO b).map fun y=>x == y
  | .none=>grd (isNone b) (some true)
  | .tup l=>(tO b).bind fun m=>(fM (dO s n) l m).map fun r=>r && Nat.beq l.length m.length
  | .lst l=>(bX b s).bind fun m=>ny (dO s n) l m
  | .obj i=>(ao s i).bind fun o=>match o with
   | .list l=>(bX b s).bind fun m=>ny (dO s n) l m
   | _=>none
  | _=>none
noncomputable def bj:Nat->V->Bool
 | 0,_=>false
 | n + 1,v=>match v with
  | .tup l=>l.all (bj n)
  | .lst l=>l.all (bj n)
  | .obj _=>false
  | .exc ..=>false
  | .rng ..=>false
  | .clo ..=>false
  | _=>true
noncomputable def d4 (s:St):Nat->V->Option V
 | 0,_=>none
 | n + 1,v=>match v with
  | .tup l=>(l.mapM (d4 s n)).map .tup
  | .lst l=>(l.mapM (d4 s n)).map .lst
  | .obj k=>(jk (ao s k)).bind fun l=>(l.mapM (d4 s n)).map .lst
  | .exc ..=>none
  | .rng ..=>none
  | .clo ..=>none
  | v=>some v
noncomputable def aP:Nat:=100000
noncomputable def tu:Nat:=50000
noncomputable def dN (o:Option V) (s:St):aU V:=match o with
 | some v=>.ok v s
 | none=>.stuck
noncomputable def kR (o:Option (List V)) (s:St):aU V:=match o with
 | some l=>.ok (.obj s.length) (s++[.list l])
 | none=>.stuck
noncomputable def eF {α:Type} (a b:V) (f:Int->Int->Option α):Option α:=(iO a).bind fun x=>(iO b).bind fun y=>f x y
noncomputable def jB (a b:V) (s:St):Option (List V):=(bX a s).bind fun x=>(bX b s).bind fun y=>grd (Nat.ble (x.length + y.length) aP) (some (x++y))
noncomputable def lh (a b:V) (s:St):aU V:=match iO a with
 | some x=>dN ((iO b).map fun y=>.int (x + y)) s
 | none=>match sO a with
  | some x=>dN ((sO b).bind fun y=>grd (Nat.ble (x.length + y.length) aP) (some (.str (x++y)))) s
  | none=>kR (jB a b s) s
noncomputable def eG (op:Operator) (a b:V) (s:St):aU V:=match op with
 | .Add=>lh a b s
 | .Sub=>dN (eF a b fun x y=>some (.int (x - y))) s
 | .Mult=>dN (eF a b fun x y=>grd (decide (x.natAbs<=1000000/\y.natAbs<=1000000)) (some (.int (x * y)))) s
 | .FloorDiv=>dN (eF a b fun x y=>grd (decide (0 < y/\y<=1000000)) (some (.int (Int.fdiv x y)))) s
 | .Mod=>dN (eF a b fun x y=>grd (decide (0 < y/\y<=1000000)) (some (.int (Int.fmod x y)))) s
 | _=>.stuck
noncomputable def lj (op:Operator) (a b:V) (s:St):aU V:=match iO a with
 | some _=>eG op a b s
 | none=>match sO a,op with
  | some _,.Add=>eG .Add a b s
  | _,_=>.stuck
noncomputable def wo (s:St) (a b:V):Option Bool:=dO s 9 a b
noncomputable def wq (s:St) (x:V):List V->Option Bool
 | []=>some false
 | y :: l=>(wo s y x).bind fun q=>(wq s x l).map fun r=>q || r
noncomputable def CJ:Option Bool->Bool
 | some b=>b
 | none=>false
noncomputable def fG:List (V × V)->V->V->List (V × V)
 | [],k,v=>[(k,v)]
 | p :: l,k,v=>match CJ (ej p.1 k) with
  | true=>(p.1,v) :: l
  | false=>p :: fG l k v
noncomputable def contains (x c:V) (s:St):Option Bool:=match c with
 | .str l=>(sO x).bind fun y=>(one y).map fun ch=>aQ l ch
 | .tup l=>wq s x l
 | .lst l=>wq s x l
 | .obj k=>(ao s k).bind fun o=>match o with
  | .list l=>wq s x l
  | .dict es=>grd (hV x) ((fB es x).map Option.isSome)
  | _=>none
 | _=>none
noncomputable def dT (op:CmpOp) (a b:V) (s:St):Option Bool:=match op with
 | .Eq=>wo s a b
 | .NotEq=>(wo s a b).map (!·)
 | .Lt=>eF a b fun x y=>some (decide (x < y))
 | .LtE=>match sO a with
  | some x=>(sO b).map fun y=>!CI y x
  | none=>eF a b fun x y=>some (decide (x<=y))
 | .Gt=>eF a b fun x y=>some (decide (x > y))
 | .GtE=>eF a b fun x y=>some (decide (x ≥ y))
 | .Is=>grd (isNone b) (some (isNone a))
 | .IsNot=>grd (isNone b) (some (!isNone a))
 | .In=>contains a b s
 | .NotIn=>(contains a b s).map (!·)
noncomputable def gJ (o:Option Bool) (s:St):aU Bool:=match o with
 | some b=>.ok b s
 | none=>.stuck
noncomputable def CL:Option Int->Bool
 | none=>true
 | some a=>decide (0<=a)
noncomputable def yv {α:Type} (l:List α):Option Int->List α
 | none=>l
 | some b=>l.take b.toNat
noncomputable def yw {α:Type} (l:List α):Option Int->List α
 | none=>l
 | some a=>l.drop a.toNat
noncomputable def nz {α:Type} (l:List α) (lo hi:Option Int):Option (List α):=grd (Nat.ble l.length aP && (CL lo && CL hi)) (some (yw (yv l hi) lo))
noncomputable def item (l:List V) (i:Int):Option V:=
 if 0<=i then (if i<=100000 then ao l i.toNat else none) else if i = -1/\l.length<=aP then l.getLast? else none
noncomputable def sub (a i:V) (s:St):Option V:=match a with
 | .tup l=>(iO i).bind fun j=>item l j
 | .lst l=>(iO i).bind fun j=>item l j
 | .str l=>(iO i).bind fun j=>grd (decide (0<=j/\j<=100000)) ((ao l j.toNat).map fun c=>.str [c])
 | .obj k=>(ao s k).bind fun o=>match o with
  | .list l=>(iO i).bind fun j=>item l j
  | .dict es=>(fB es i).join
  | _=>none
 | _=>none
noncomputable def wt (a:V) (lo hi:Option Int) (s:St):Option V:=match sO a with
 | some l=>(nz l lo hi).map .str
 | none=>(bX a s).bind fun l=>(nz l lo hi).map .lst
noncomputable def pg:Option V->Option (Option Int)
 | none=>some none
 | some v=>(iO v).map some
noncomputable def fN (v:V) (s:St):Option eh:=match v with
 | .tup l=>some (.seq 0 l)
 | .lst l=>some (.seq 1 l)
 | .str l=>some (.seq 2 (l.map fun c=>.str [c]))
 | .rng a b=>grd (decide (0<=a/\a<=100000/\-1000<=b/\b<=100000)) (some (.seq 3 ((List.range (b - a).toNat).map fun (i:Nat)=>.int (a + i))))
 | .obj k=>(jk (ao s k)).map fun HC=>.obj k 0
 | _=>none
noncomputable def bx (x:eh) (s:St):Option (Option (V × eh)):=match x with
 | .seq k l=>match l with
  | []=>some none
  | v :: l=>some (some (v,.seq k l))
 | .obj k i=>(jk (ao s k)).map fun l=>(ao l i).map fun v=>(v,.obj k (i + 1))
noncomputable def gQ:List (Nat × Nat)->Bool
 | []=>true
 | p :: l=>Nat.ble p.2 1 && gQ l
noncomputable def lm:Nat->List (Nat × Nat)->List Nat
 | _,[]=>[]
 | i,p :: l=>match p.2 with
  | 0=>lm (i + 1) l
  | 1=>lm (i + 1) l
  | _=>i :: lm (i + 1) l
noncomputable def wc (i c:Nat):Nat:=1000000 + (1000 * i + c)
noncomputable def jl:Nat->List (Nat × Nat)->List Nat
 | _,[]=>[]
 | i,p :: l=>match p.2 with
  | 0=>jl (i + 1) l
  | 1=>i :: wc i p.1 :: jl (i + 1) l
  | _=>i :: jl (i + 1) l
noncomputable def eU:Nat->List (Nat × Option Nat)->List Nat
 | _,[]=>[]
 | i,p :: l=>match p.2 with
  | none=>eU (i + 1) l
  | some _=>i :: eU (i + 1) l
noncomputable def bk (ro:List Nat) (i:Nat) (v:V) (l:Loc):Option Loc:=match aQ ro i with
 | true=>none
 | false=>match ao l i with
  | some _=>some (bc l i (some v))
  | none=>none
noncomputable def eV (ro:List Nat):List (Nat × Pos)->List V->Loc->Option Loc
 | [],[],l=>some l
 | p :: ps,v :: vs,l=>match bk ro p.1 v l with
  | some l=>eV ro ps vs l
  | none=>none
 | _,_,_=>none
noncomputable def qm (v:V) (hm:Bool):Option (List V):=match v with
 | .tup l=>match hm with
  | false=>some l
  | true=>none
 | _=>none
noncomputable def gK (n:Nat):Option V:=grd (Nat.ble n aP) (some (.int n))
noncomputable def fO (v:V) (s:St):Option V:=match v with
 | .str x=>gK x.length
 | .lst x=>gK x.length
 | .tup x=>gK x.length
 | .obj k=>(ao s k).bind fun o=>match o with
  | .list x=>gK x.length
  | .hid p x=>grd (Nat.ble x.length tu) (some (.int ((p.length + x.length:Nat):Int)))
  | _=>none
 | _=>none
noncomputable def l7 (l:List V):Option V:=match one l with
 | some v=>(iO v).bind fun b=>grd (decide (-1000<=b/\b<=100000)) (some (.rng 0 b))
 | none=>(two l).bind fun q=>eF q.1 q.2 fun a b=>grd (decide (0<=a/\a<=100000/\-1000<=b/\b<=100000)) (some (.rng a b))
noncomputable def wu (c:Nat):Option Nat:=grd (Nat.ble 48 c && Nat.ble c 57) (some (c - 48))
noncomputable def za (l:List Nat):Option Nat:=match one l with
 | some c=>wu c
 | none=>(two l).bind fun q=>(wu q.1).bind fun a=>(wu q.2).map fun b=>10 * a + b
noncomputable def builtin (b:Nat) (l:List V) (s:St):Option V:=match b with
 | 0=>(one l).bind fun v=>fO v s
 | 1=>l7 l
 | 2=>(one l).bind fun v=>(iO v).bind fun c=>grd (decide (0<=c/\c < 128)) (some (.str [c.toNat]))
 | 3=>(one l).bind fun v=>(sO v).bind fun x=>(one x).map fun (c:Nat)=>.int c
 | 4=>(two l).bind fun q=>eF q.1 q.2 fun a b=>some (.int (if a < b then b else a))
 | 5=>(one l).bind fun v=>(sO v).bind fun x=>(za x).map fun (k:Nat)=>.int k
 | _=>none
noncomputable def meth (c:Nat) (o:V) (l:List V):Option V:=(sO o).bind fun x=>match c with
 | 0=>(one l).bind fun v=>(sO v).map fun p=>.int (Txt.find (aA x) (aA p))
 | 1=>(two l).bind fun q=>(sO q.1).bind fun y=>(sO q.2).bind fun r=>grd (decide (x.length<=aP/\r.length<=10)) (some (.str (Txt.replace (aA x) (aA y) (aA r)).cps.toList))
 | _=>none
structure aS where
 append:Nat
 pop:Nat
 find:Nat
 replace:Nat
 split:Nat
 text:Nat
 line:Nat
 memo:Nat->List V->Nat->Option V
 attrs:List Nat
noncomputable def jm (r:dv):bP->Ctx->St->aU (List V)
 | .nil,_,s=>.ok [] s
 | .cons e l,c,s=>(r.e e c s).bind fun v s=>(jm r l c s).bind fun vs s=>.ok (v :: vs) s
noncomputable def AK (r:dv):MO->Ctx->St->aU (Option V)
 | .none,_,s=>.ok none s
 | .some e,c,s=>(r.e e c s).bind fun v s=>.ok (some v) s
noncomputable def AF (r:dv) (op:BoolOp):bP->Ctx->St->aU V
 | .nil,_,_=>.stuck
 | .cons e .nil,c,s=>r.e e c s
 | .cons e (.cons e' l),c,s=>(r.e e c s).bind fun v s=>match op,v with
  | .And,.bool false=>.ok v s
  | .And,.bool true=>AF r op (.cons e' l) c s
  | .Or,.bool true=>.ok v s
  | .Or,.bool false=>AF r op (.cons e' l) c s
  | _,_=>.stuck
noncomputable def tv (r:dv) (op:BoolOp):bP->Ctx->St->aU Bool
 | .nil,_,s=>.ok (match op with | .And=>true | .Or=>false) s
 | .cons e l,c,s=>(r.t e c s).bind fun b s=>match op,b with
  | .And,false=>.ok false s
  | .And,true=>tv r op l c s
  | .Or,true=>.ok true s
  | .Or,false=>tv r op l c s
noncomputable def ey (k:V):List (V × V)->Bool
 | []=>hV k
 | p :: l=>match ej p.1 k with
  | some _=>ey k l
  | none=>false
noncomputable def fP (ns:List (Nat × Nat)) (k c:Nat):Bool:=match find ns c with
 | some q=>Nat.beq q k
 | none=>false
noncomputable def apart (l:List (Nat × Nat)):Bool:=match l with
 | []=>true
 | p :: l=>!aQ (l.map (·.1)) p.1 && apart l
noncomputable def eW (ce:List Nat) (ns:List (Nat × Nat)) (vs:List (Nat × Option Nat)) (gs:List Nat):Bool:=
 (apart ns && apart (vs.map fun p=>(p.1,0))) && (Nat.ble vs.length 1000 && (gs.all (fP ns 1) && (ns.all (fun p=>Nat.ble p.2 1 || aQ (vs.map (·.1)) p.1) &&
  vs.all (fun p=>match p.2 with
   | none=>fP ns 0 p.1
   | some i=>fP ns 2 p.1 && (Nat.blt p.1 1000 && aQ ce (wc i p.1))))))
noncomputable def dD (vs:List (Nat × Option Nat)) (l:Loc):Loc:=vs.map fun p=>match p.2 with
 | none=>none
 | some i=>match ao l i with
  | some v=>v
  | none=>none
noncomputable def Ez:GV->Option V
 | .val v=>some v
 | .fn i=>some (.fn i)
 | _=>none
noncomputable def tx:O->Bool
 | .inst _=>true
 | _=>false
noncomputable def EA:O->Option (List (Nat × V))
 | .ns fs=>some fs
 | _=>none
noncomputable def bW (k:Nat) (s:St):Option (List (Nat × V)):=(ao s k).bind fun o=>(ao s (k + 1)).bind fun n=>grd (tx o) (EA n)
noncomputable def ph (C:aS) (f:Nat) (x:V) (s:St):Option V:=match x with
 | .obj k=>(bW k s).bind fun fs=>grd (aQ C.attrs f) (find fs f)
 | .exc _ fs=>grd (Nat.beq f C.text || Nat.beq f C.line) (find fs f)
 | _=>none
noncomputable def qn (o:O) (j v:V):Option O:=match o with
 | .dict es=>grd (ey j es && Nat.ble es.length aP) (some (.dict (fG es j v)))
 | .list l=>(iO j).bind fun i=>grd (decide ((0<=i\/i = -1)/\i < (l.length:Int)/\0 < l.length) && Nat.ble l.length aP) (some (.list (bc l (if i = -1 then l.length - 1 else i.toNat) v)))
 | _=>none
noncomputable def lq (z m:Nat):Nat->V->Option V
 | 0,_=>none
 | n + 1,v=>match v with
  | .tup l=>(l.mapM (lq z m n)).map .tup
  | .lst l=>(l.mapM (lq z m n)).map .lst
  | .clo i l=>(l.mapM (lq z m n)).map (.clo i)
  | .obj k=>grd (Nat.ble z k) (some (.obj (m + k)))
  | .exc ..=>none
  | .rng ..=>none
  | v=>some v
noncomputable def zb (z m:Nat) (p:V × V):Option (V × V):=(lq z m 9 p.1).bind fun a=>(lq z m 9 p.2).map fun b=>(a,b)
noncomputable def AO (z m:Nat) (p:Nat × V):Option (Nat × V):=(lq z m 9 p.2).map fun b=>(p.1,b)
noncomputable def wv (z m:Nat):O->Option O
 | .list l=>(l.mapM (lq z m 9)).map .list
 | .dict es=>(es.mapM (zb z m)).map .dict
 | .inst c=>some (.inst c)
 | .ns fs=>(fs.mapM (AO z m)).map .ns
 | _=>none
noncomputable def dP:O->Bool
 | .wild _=>true
 | _=>false
noncomputable def i7 (z:Nat) (vs:List V) (s:St):Option (Nat × List V × List V):=match vs with
 | []=>none
 | x :: rest=>(oO x).bind fun k=>(jk (ao s k)).bind fun l=>grd ((Nat.ble z k && Nat.beq (k + 1) s.length) && ((s.take z).all dP && (rest.all (bj 9) && l.all (bj 9)))) (some (k - z,l,rest))
noncomputable def l8:List (Nat × Nat)->Loc->Loc
 | [],l=>l
 | p :: ps,l=>l8 ps (bc l p.1 (some (.clo p.2 [])))
noncomputable def yx (f:bu):Bool:=gQ f.vars && Nat.blt f.home 1000
noncomputable def eX (k:Nat) (s:St):Bool:=match ao s k with
 | some (.wild j)=>Nat.beq j k
 | _=>false
noncomputable def eY (f:bu) (s:St):Bool:=match f.pre with
 | []=>true
 | _ :: _=>match ao s f.home with
  | some (.wild j)=>Nat.beq j f.home
  | _=>false
section
variable (P:cz) (C:aS)
noncomputable def cS (r:dv) (i:Nat) (vs:List V) (c:Ctx) (s:St):aU V:=match P.fns i with
 | none=>.stuck
 | some f=>match c.d with
  | 0=>.stuck
  | d + 1=>match f.pure with
   | false=>match f.iso with
    | false=>r.c i vs d c.hm s
    | true=>chk (!c.hm) (ofO (i7 P.wn vs s) fun q=>(r.c i (.obj P.wn :: q.2.2) d false (s.take P.wn++[.list q.2.1])).calm fun v s'=>chk ((s'.take P.wn).all dP) (ofO (lq P.wn q.1 9 v) fun v=>ofO ((s'.drop P.wn).mapM (wv P.wn q.1)) fun t=>.ok v (s'.take P.wn++((s.drop P.wn).take q.1++t))))
   | true=>match c.hm || !(vs.all (bj 9)) with
    | true=>.stuck
    | false=>match C.memo i vs d with
     | some v=>.ok v s
     | none=>match r.c i vs d false [] with
      | .ok v s'=>dN (d4 s' 9 v) s
      | .exc ..=>.stuck
      | .stuck=>.stuck
noncomputable def assign (r:dv) (t:MT) (v:V) (c:Ctx) (s:St):aU Loc:=match t with
 | .name i _=>ofO (bk c.ro i v c.l) fun l=>.ok l s
 | .tup ps _ _=>ofO (qm v c.hm) fun vs=>ofO (eV c.ro ps vs c.l) fun l=>.ok l s
 | .attr o a _=>(r.e o c s).bind fun x s=>ofO (oO x) fun k=>ofO (bW k s) fun fs=>chk (Nat.ble fs.length 100 && aQ C.attrs a) (.ok c.l (bc s (k + 1) (.ns (wm fs a v))))
 | .sub o i _=>(r.e o c s).bind fun x s=>(r.e i c s).bind fun j s=>ofO (oO x) fun k=>ofO (ao s k) fun o=>ofO (qn o j v) fun o'=>.ok c.l (bc s k o')
noncomputable def ww:bP->Bool
 | .nil=>true
 | .cons ..=>false
noncomputable def fQ:bP->Option ME
 | .nil=>none
 | .cons e l=>match ww l with | true=>some e | false=>none
noncomputable def tA:bP->Option (ME × ME)
 | .nil=>none
 | .cons e l=>(fQ l).map fun d=>(e,d)
noncomputable def nA:ME->Option (List Nat)
 | .const v _ _=>sO v.v
 | _=>none
noncomputable def tB (l:bP):Option (List Nat × List Nat):=(tA l).bind fun q=>(nA q.1).bind fun a=>(nA q.2).bind fun b=>match nu a b with
 | false=>some (a,b)
 | true=>none
noncomputable def wx:O->Option (List V)
 | .list l=>some l
 | .hid _ l=>some l
 | _=>none
noncomputable def AP:O->Bool
 | .list _=>true
 | _=>false
noncomputable def dZ:ME->Bool
 | .callg ..=>false
 | .calle ..=>false
 | .meth ..=>false
 | _=>true
noncomputable def AQ:MT->Option Nat
 | .name _ p=>some p.line
 | _=>none
noncomputable def yy (t:MT) (p:Pos):Bool:=match AQ t with
 | some n=>Nat.beq n p.line
 | none=>false
noncomputable def cM:MT->ME->Bool
 | t,.comp _ _ _ _ _ _ _ p=>yy t p
 | t,.dcomp _ _ _ _ _ _ _ p=>yy t p
 | .tup ..,.tup ..=>false
 | _,_=>true
noncomputable def hW:MT->Bool
 | .name ..=>true
 | _=>false
noncomputable def wy:V->Option (Nat × List V)
 | .clo i l=>some (i,l)
 | _=>none
noncomputable def jC:bP->Bool
 | .nil=>true
 | .cons _ .nil=>true
 | _=>false
noncomputable def bT:ME->Bool
 | .comp ..=>false
 | .dcomp ..=>false
 | _=>true
noncomputable def AR:ME->Bool
 | .sub ..=>true
 | _=>false
noncomputable def jD:bP->Bool
 | .nil=>false
 | .cons ..=>true
noncomputable def l9:bP->Bool
 | .nil=>true
 | .cons _ .nil=>true
 | .cons _ (.cons _ .nil)=>true
 | _=>false
noncomputable def CM:GV->Option Nat
 | .cls i=>some i
 | _=>none
noncomputable def nB (cl:lg) (vs:List V):Option (List (Nat × V)):=match Nat.beq cl.kind 1 with
 | true=>(one vs).map fun v=>[(C.text,v)]
 | false=>grd (Nat.beq cl.kind 2) ((two vs).map fun q=>[(C.text,q.2),(C.line,q.1)])
noncomputable def zc:MT->Bool
 | .name ..=>true
 | .tup ..=>true
 | _=>false
noncomputable def eH:bL->Option (Nat × bP)
 | .cons (.rais g _ l _ _) .nil=>some (g,l)
 | _=>none
noncomputable def eZ {α:Type} (r:dv) (late:Nat) (g:Nat) (l:bP) (c:Ctx) (s:St):aU α:=chk (aQ c.g g) (ofO (CM (P.gv g)) fun i=>ofO (P.cls i) fun cl=>chk (Nat.ble (late + 1) cl.kind) ((jm r l c s).bind fun vs s=>ofO (nB C cl vs) fun fs=>.exc i fs s))
noncomputable def jE (k:Nat) (v:V) (s:St):aU V:=match ao s k with
 | none=>.stuck
 | some o=>match o with
  | .list xs=>match Nat.ble xs.length aP with
   | true=>.ok .none (bc s k (.list (xs++[v])))
   | false=>.stuck
  | .hid p xs=>match Nat.ble xs.length tu with
   | true=>.ok .none (bc s k (.hid p (xs++[v])))
   | false=>.stuck
  | _=>.stuck
noncomputable def wz (k:Nat) (ys:List V) (s:St):aU V:=match grd (Nat.ble ys.length aP) ys.getLast? with
 | some v=>.ok v (bc s k (.list ys.dropLast))
 | none=>.stuck
noncomputable def lr (r:dv) (f:Nat) (l:bP) (c:Ctx) (x:V) (s:St):aU V:=match oO x with
 | some k=>match ao s k with
  | none=>.stuck
  | some o=>match wx o with
   | none=>.stuck
   | some ys=>match Nat.beq f C.append with
    | true=>match fQ l with
     | some e=>(r.e e c s).bind fun v s=>jE k v s
     | none=>.stuck
    | false=>match Nat.beq f C.pop && (ww l && AP o) with
     | true=>wz k ys s
     | false=>.stuck
 | none=>match sO x with
  | none=>.stuck
  | some y=>match Nat.beq f C.find with
   | true=>match fQ l with
    | some e=>(r.e e c s).bind fun v s=>dN (meth 0 (.str y) [v]) s
    | none=>.stuck
   | false=>match Nat.beq f C.replace with
    | true=>match tB l with
     | some q=>dN (meth 1 (.str y) [.str q.1,.str q.2]) s
     | none=>.stuck
    | false=>match Nat.beq f C.split with
     | true=>match (fQ l).bind nA with
      | some q=>kR (grd (Nat.ble y.length aP && Nat.beq q.length 1) (some ((Txt.split (aA y) (aA q)).map fun z=>.str z.cps.toList))) s
      | none=>.stuck
     | false=>.stuck
noncomputable def pj:ME->Bool
 | .glob g _=>match P.gv g with
  | .bi b=>Nat.beq b 5
  | _=>false
 | _=>false
noncomputable def zf (c:Ctx):ME->Bool
 | .glob g _=>aQ c.g g
 | _=>false
noncomputable def fR (v:V) (s:St):Option Bool:=match iO v with
 | some _=>some true
 | none=>(oO v).bind fun k=>(jk (ao s k)).map fun HC=>false
noncomputable def fC (fl:Flow × Loc) (s:St):aU V:=match fl.1 with
 | .ret v=>.ok v s
 | .next=>.ok .none s
 | _=>.stuck
noncomputable def step (r:dv):dv where
 e:=fun e c s=>match e with
  | .const v _ _=>.ok v.v s
  | .name i _=>dN (ao c.l i).join s
  | .glob g _=>dN (grd (aQ c.g g) (Ez (P.gv g))) s
  | .bin a op b _=>(r.e a c s).bind fun x s=>(r.e b c s).bind fun y s=>eG op x y s
  | .un op a _=>match op with
   | .Not=>(r.e a c s).bind fun x s=>dN ((bO x).map fun b=>.bool !b) s
   | .USub=>(r.e a c s).bind fun x s=>dN ((iO x).map fun i=>.int (-i)) s
   | _=>.stuck
  | .bools op l _=>AF r op l c s
  | .cmp a op b _=>(r.e a c s).bind fun x s=>(r.e b c s).bind fun y s=>(gJ (dT op x y s) s).bind fun q s=>.ok (.bool q) s
  | .cmp2 a o1 b o2 d _=>(r.e a c s).bind fun x s=>(r.e b c s).bind fun y s=>(gJ (dT o1 x y s) s).bind fun q s=>match q with
   | false=>.ok (.bool false) s
   | true=>(r.e d c s).bind fun z s=>(gJ (dT o2 y z s) s).bind fun q s=>.ok (.bool q) s
  | .ifx t a b _=>(r.t t c s).bind fun q s=>match q with | true=>r.e a c s | false=>r.e b c s
  | .tup l _ _=>(jm r l c s).bind fun vs s=>dN (grd (Nat.ble vs.length aP) (some (.tup vs))) s
  | .list l _=>(jm r l c s).bind fun vs s=>kR (grd (Nat.ble vs.length aP) (some vs)) s
  | .addV a b _=>(r.e a c s).bind fun x s=>(r.e b c s).bind fun y s=>dN ((jB x y s).map .lst) s
  | .lstV l _=>(jm r l c s).bind fun vs s=>dN (grd (Nat.ble vs.length aP) (some (.lst vs))) s
  | .dict ks vs _=>match ks with
   | .nil=>match vs with
    | .nil=>.ok (.obj s.length) (s++[.dict []])
    | .cons ..=>.stuck
   | .cons ..=>.stuck
  | .attr a f _=>chk (dZ a) ((r.e a c s).bind fun x s=>dN (ph C f x s) s)
  | .sub a i _=>(r.e a c s).bind fun x s=>(r.e i c s).bind fun j s=>dN (sub x j s) s
  | .slice a lo hi _ _=>(r.e a c s).bind fun x s=>(AK r lo c s).bind fun l s=>(AK r hi c s).bind fun h s=>dN ((pg l).bind fun l=>(pg h).bind fun h=>wt x l h s) s
  | .callg g _ l _=>chk (aQ c.g g) (match P.gv g with
   | .fn i=>(jm r l c s).bind fun vs s=>cS P C r i vs c s
   | .cls i=>ofO (P.cls i) fun cl=>chk (Nat.beq cl.kind 0 && jD l) ((jm r l c s).bind fun vs s=>match c.d with
    | d + 2=>(r.c cl.init (.obj s.length :: vs) d c.hm (s++[.inst i,.ns []])).bind fun v s'=>chk (isNone v) (.ok (.obj s.length) s')
    | _=>.stuck)
   | .bi b=>chk (!c.hm) (match Nat.beq b 6 with
    | true=>ofO (tA l) fun q=>chk (pj P q.2 && zf c q.2) ((r.e q.1 c s).bind fun v s=>dN ((fR v s).map .bool) s)
    | false=>(jm r l c s).bind fun vs s=>dN (builtin b vs s) s)
   | .mk i j=>(jm r l c s).bind fun vs s=>chk ((vs.all (bj 9) && Nat.beq vs.length 1) && eX 0 s) (.ok (.clo j vs) s)
   | _=>.stuck)
  | .calle f l _=>chk (AR f) ((r.e f c s).bind fun x s=>match wy x with
   | some q=>ofO (P.fns q.1) fun f=>(jm r l c s).bind fun vs s=>match c.d with
    | d + 1=>chk (Nat.beq (vs.length + q.2.length) f.np) ((r.b f.body ⟨(vs++q.2).map some++List.replicate (f.nv - f.np) none,d,c.hm,f.gl,lm 0 f.vars,jl 0 f.vars⟩ s).bind fC)
    | 0=>.stuck
   | none=>ofO (Ey x) fun i=>(jm r l c s).bind fun vs s=>cS P C r i vs c s)
  | .meth o f ap l p=>chk ((dZ o && Nat.beq ap.endLine p.line) && l9 l) ((r.e o c s).bind fun x s=>lr C r f l c x s)
  | .comp elt t iter ifs ns vs gs _=>chk (!c.hm && ((hW t && jC ifs) && eW c.ce ns vs gs)) ((r.e iter c s).calm fun x s=>ofO (fN x s) fun q=>(r.lc elt t ifs q s.length ⟨dD vs c.l,c.d,c.hm,gs,eU 0 vs,eU 0 vs⟩ (s++[.list []])).calm fun HC s'=>.ok (.obj s.length) s')
  | .dcomp k v t iter ns vs gs _=>chk (!c.hm && (hW t && eW c.ce ns vs gs)) ((r.e iter c s).calm fun x s=>ofO (fN x s) fun q=>(r.dc k v t q s.length ⟨dD vs c.l,c.d,c.hm,gs,eU 0 vs,eU 0 vs⟩ (s++[.dict []])).calm fun HC s'=>.ok (.obj s.length) s')
 t:=fun e c s=>match e with
  | .un .Not a _=>(r.t a c s).bind fun q s=>.ok (!q) s
  | .bools op l _=>tv r op l c s
  | .ifx t a b _=>(r.t t c s).bind fun q s=>match q with | true=>r.t a c s | false=>r.t b c s
  | .cmp a op b _=>(r.e a c s).bind fun x s=>(r.e b c s).bind fun y s=>gJ (dT op x y s) s
  | .cmp2 a o1 b o2 d _=>(r.e a c s).bind fun x s=>(r.e b c s).bind fun y s=>(gJ (dT o1 x y s) s).bind fun q s=>match q with
   | false=>.ok false s
   | true=>(r.e d c s).bind fun z s=>gJ (dT o2 y z s) s
  | e=>(r.e e c s).bind fun x s=>gJ (bO x) s
 b:=fun b c s=>match b with
  | .nil=>.ok (.next,c.l) s
  | .cons st rest=>
   let go (l:Loc) (s:St):aU (Flow × Loc):=r.b rest ⟨l,c.d,c.hm,c.g,c.ro,c.ce⟩ s
   let thru (o:aU (Flow × Loc)):aU (Flow × Loc):=o.bind fun fl s=>match fl.1 with
    | .next=>go fl.2 s
    | _=>.ok fl s
   match st with
   | .expr e _=>chk (bT e) ((r.e e c s).bind fun HC s=>go c.l s)
   | .asg t e _=>match cM t e with
    | false=>.stuck
    | true=>(r.e e c s).bind fun v s=>(assign C r t v c s).bind fun l s=>go l s
   | .aug i _ op e _=>ofO (ao c.l i).join fun x=>(r.e e c s).bind fun y s=>(lj op x y s).bind fun z s=>ofO (bk c.ro i z c.l) fun l=>go l s
   | .ife t a b _=>(r.t t c s).bind fun q s=>match q with
    | true=>thru (r.b a c s)
    | false=>thru (r.b b c s)
   | .whl t a _=>chk (!c.hm) (thru (r.w t a c s))
   | .forr t it a _=>chk (!c.hm) ((r.e it c s).bind fun x s=>ofO (fN x s) fun q=>thru (r.f t q a c s))
   | .ret e _=>(r.e e c s).bind fun v s=>.ok (.ret v,c.l) s
   | .ret0 _=>.ok (.ret .none,c.l) s
   | .rais g _ l _ _=>chk (!c.hm) (eZ P C r 0 g l c s)
   | .tryx t e _ g _ n h _ _=>chk (!(c.hm || aQ c.ce n) && ((cM t e && bT e) && zc t)) (match r.e e c s with
    | .ok v s=>(assign C r t v c s).bind fun l s=>go l s
    | .exc k fs s=>chk (aQ c.g g) (ofO (CM (P.gv g)) fun i=>ofO (P.cls k) fun cl=>chk (aQ cl.up i && Nat.ble 1 cl.kind) (ofO (bk c.ro n (.exc k fs) c.l) fun l=>match eH h with
     | some q=>chk (Nat.beq cl.kind 1) (eZ P C r 1 q.1 q.2 ⟨l,c.d,true,c.g,c.ro,c.ce⟩ s)
     | none=>(r.b h ⟨l,c.d,true,c.g,c.ro,c.ce⟩ s).calm fun fl s=>match fl.1 with
      | .next=>.stuck
      | f=>.ok (f,bc fl.2 n none) s))
    | .stuck=>.stuck)
   | .tryr e _ g _ n h _ _=>chk (!(c.hm || aQ c.ce n) && bT e) (match r.e e c s with
    | .ok v s=>.ok (.ret v,c.l) s
    | .exc k fs s=>chk (aQ c.g g) (ofO (CM (P.gv g)) fun i=>ofO (P.cls k) fun cl=>chk (aQ cl.up i && Nat.ble 1 cl.kind) (ofO (bk c.ro n (.exc k fs) c.l) fun l=>(r.b h ⟨l,c.d,true,c.g,c.ro,c.ce⟩ s).calm fun fl s=>match fl.1 with
      | .next=>.stuck
      | f=>.ok (f,bc fl.2 n none) s))
    | .stuck=>.stuck)
   | .pass _=>go c.l s
   | .brk _=>.ok (.brk,c.l) s
   | .cont _=>.ok (.cont,c.l) s
 c:=fun i vs d hm s=>ofO (P.fns i) fun f=>chk (Nat.beq vs.length f.np && (yx f && eY f s)) ((r.b f.body ⟨l8 f.pre (vs.map some++List.replicate (f.nv - f.np) none),d,hm,f.gl,lm 0 f.vars,jl 0 f.vars⟩ s).bind fC)
 w:=fun t a c s=>(r.t t c s).bind fun q s=>match q with
  | false=>.ok (.next,c.l) s
  | true=>(r.b a c s).bind fun fl s=>match fl.1 with
   | .next=>r.w t a ⟨fl.2,c.d,c.hm,c.g,c.ro,c.ce⟩ s
   | .cont=>r.w t a ⟨fl.2,c.d,c.hm,c.g,c.ro,c.ce⟩ s
   | .brk=>.ok (.next,fl.2) s
   | .ret v=>.ok (.ret v,fl.2) s
 f:=fun t q a c s=>ofO (bx q s) fun o=>match o with
  | none=>.ok (.next,c.l) s
  | some p=>(assign C r t p.1 c s).bind fun l s=>(r.b a ⟨l,c.d,c.hm,c.g,c.ro,c.ce⟩ s).bind fun fl s=>match fl.1 with
   | .next=>r.f t p.2 a ⟨fl.2,c.d,c.hm,c.g,c.ro,c.ce⟩ s
   | .cont=>r.f t p.2 a ⟨fl.2,c.d,c.hm,c.g,c.ro,c.ce⟩ s
   | .brk=>.ok (.next,fl.2) s
   | .ret v=>.ok (.ret v,fl.2) s
 lc:=fun elt t ifs q k c s=>ofO (bx q s) fun o=>match o with
  | none=>.ok () s
  | some p=>(assign C r t p.1 c s).bind fun l s=>(tv r .And ifs ⟨l,c.d,c.hm,c.g,c.ro,c.ce⟩ s).bind fun ok s=>match ok with
   | false=>r.lc elt t ifs p.2 k ⟨l,c.d,c.hm,c.g,c.ro,c.ce⟩ s
   | true=>(r.e elt ⟨l,c.d,c.hm,c.g,c.ro,c.ce⟩ s).bind fun x s=>ofO (jk (ao s k)) fun xs=>chk (Nat.ble xs.length aP) (r.lc elt t ifs p.2 k ⟨l,c.d,c.hm,c.g,c.ro,c.ce⟩ (bc s k (.list (xs++[x]))))
 dc:=fun ke ve t q k c s=>ofO (bx q s) fun o=>match o with
  | none=>.ok () s
  | some p=>(assign C r t p.1 c s).bind fun l s=>(r.e ke ⟨l,c.d,c.hm,c.g,c.ro,c.ce⟩ s).bind fun x s=>(r.e ve ⟨l,c.d,c.hm,c.g,c.ro,c.ce⟩ s).bind fun y s=>ofO (AJ (ao s k)) fun es=>chk (ey x es && Nat.ble es.length aP) (r.dc ke ve t p.2 k ⟨l,c.d,c.hm,c.g,c.ro,c.ce⟩ (bc s k (.dict (fG es x y))))
noncomputable def AU:dv where
 e:=fun HC HC HC=>.stuck
 t:=fun HC HC HC=>.stuck
 b:=fun HC HC HC=>.stuck
 c:=fun HC HC HC HC HC=>.stuck
 w:=fun HC HC HC HC=>.stuck
 f:=fun HC HC HC HC HC=>.stuck
 lc:=fun HC HC HC HC HC HC HC=>.stuck
 dc:=fun HC HC HC HC HC HC HC=>.stuck
noncomputable def run:Nat->dv
 | 0=>AU
 | n + 1=>step P C (run n)
end
end Mine
end
section
open PySem PySem.Calls PyProof.Rows PySem.W
namespace Mine
noncomputable def cG (o:Obj) (r:Option Obj):Prop:=r=some o\/(o.cls = .type "frame"/\∃ sl,r=some { o with slots:=sl })
noncomputable def bZ (h:Heap) (a:Addr):Prop:=∃ o,h.get? a=some o
theorem cG.live {o:Obj} {h':Heap} {b:Addr} (x:cG o (h'.get? b)):bZ h' b:=by
 rcases x with x | ⟨_,sl,x⟩
 ·exact ⟨_,x⟩
 ·exact ⟨_,x⟩
structure bw (mod:List Addr) (h h':Heap):Prop where
 live:∀ b,bZ h b->bZ h' b
 obj:∀ b o,h.get? b=some o->b∉mod->cG o (h'.get? b)
theorem cG.trans {o:Obj} {r:Option Obj} {h'':Heap} {b:Addr} {h':Heap} (hr:r=h'.get? b) (x:cG o r) (k:∀ o',h'.get? b=some o'->cG o' (h''.get? b)):cG o (h''.get? b):=by
 subst hr
 rcases x with x | ⟨hc,sl,x⟩
 ·exact k _ x
 ·rcases k _ x with y | ⟨_,sl',y⟩
  ·exact .inr ⟨hc,sl,y⟩
  ·exact .inr ⟨hc,sl',y⟩
theorem bw.refl (mod:List Addr) (h:Heap):bw mod h h:=⟨fun HC x=>x,fun HC HC e HC=>.inl e⟩
theorem bw.trans {mod:List Addr} {h h' h'':Heap} (x:bw mod h h') (y:bw mod h' h''):bw mod h h'':=
 ⟨fun b z=>y.live b (x.live b z),fun b o e nm=>(x.obj b o e nm).trans rfl fun o' e'=>y.obj b o' e' nm⟩
theorem bw.mono {m m':List Addr} {h h':Heap} (x:bw m h h') (hm:∀ b∈m,b∈m'):bw m' h h':=⟨x.live,fun b o e nm=>x.obj b o e fun hb=>nm (hm b hb)⟩
theorem bw.exact {mod:List Addr} {h h':Heap} (x:bw mod h h') {b:Addr} {o:Obj} (e:h.get? b=some o) (nm:b∉mod) (hc:o.cls≠.type "frame"):h'.get? b=some o:=by
 rcases x.obj b o e nm with y | ⟨hc',_⟩
 ·exact y
 ·exact absurd hc' hc
theorem bw.of_but {a:Addr} {h h':Heap} (x:∀ b o,b≠a->h.get? b=some o->h'.get? b=some o) (l:bZ h' a):bw [a] h h':=
 ⟨fun b ⟨o,e⟩=>if q:b=a then q▸l else ⟨o,x b o q e⟩,fun b o e nm=>.inl (x b o (by simpa using nm) e)⟩
theorem bw.of_stays {h h':Heap} (k:∀ b o,h.get? b=some o->h'.get? b=some o):bw [] h h':=⟨fun b ⟨o,e⟩=>⟨o,k b o e⟩,fun b o e HC=>.inl (k b o e)⟩
theorem bw.push (h:Heap) (o:Obj):bw [] h (h.push o):=.of_stays fun HC HC e=>A8 e
theorem aZ (h:Heap):h.get? h.objs.size=none:=Heap.get?_none_of_le (Nat.le_refl _)
theorem az {h:Heap} {a:Addr} (d:h.get? a=none) (l:bZ h a):False:=by
 refine ay l fun o e=>?_; clear l; rw [d] at e; exact nS e
structure CloS0 (nm:Nat->Str) (f:bu) (fd:FuncData) (k:Nat):Prop where
 kind:fd.scope.kind = .function
 co:fd.scope.isCoroutine=false
 gen:fd.scope.isGenerator=false
 glo:fd.globals=mainGlobals
 blt:fd.builtins=builtinsNs
 bind:∀ zs:List Value,zs.length=f.np - k->bindArgs fd ⟨zs,[]⟩ = pure (((f.vars.take (f.np - k)).map fun p=>nm p.1).zip zs)
 clo:fd.closure.map (·.1)=((f.vars.drop (f.np - k)).take k).map fun p=>nm p.1
 var:∀ i c q,ao f.vars i=some (c,q)->(q=0/\fd.scope.names.lookup (nm c)=some .local/\(i < f.np - k\/f.np<=i))\/(q=1/\fd.scope.names.lookup (nm c)=some .cell/\f.np<=i)\/(q=2/\fd.scope.names.lookup (nm c)=some .free/\f.np - k<=i/\i < f.np)
 gl:∀ g,aQ f.gl g=true->fd.scope.names.lookup (nm g)=some .globalImplicit
 nd:∀ i j c q q',ao f.vars i=some (c,q)->ao f.vars j=some (c,q')->i=j
 nv:f.nv=f.vars.length
 np:f.np<=f.nv
 le:k<=f.np
 sm:∀ i c q,ao f.vars i=some (c,q)->c < 1000
 few:f.nv<=1000
structure tC (nm:Nat->Str) (f:bu) (fd:FuncData) (k:Nat):Prop extends CloS0 nm f fd k where
 body:fd.body = .stmts (f.body.toS nm fun i=>(f.vars.getD i (0,0)).1)
 pre:f.pre=[]
 nc:∀ x∈fd.scope.names,x.2≠.cell
section
variable (P:cz) (nm:Nat->Str)
noncomputable def tD (m:Str->Option Value):List (Nat × V)->List Value->Prop
 | [],[]=>True
 | p :: fs,x :: xs=>m (nm p.1)=some x/\tD m fs xs
 | _,_=>False
section
variable (h:Heap) (ow ρ:List Addr)
noncomputable def md (c:Nat) (fs:List (Nat × V)) (z:Value) (xs:List Value):Prop:=
 ∃ (e d:Addr) (cl:lg) (oe:Obj) (ws:Array Value) (m:Str->Option Value),z = .ref e/\P.cls c=some cl/\h.get? e=some oe/\oe.cls = .ref cl.addr/\oe.data = .fields ws/\oe.dict=some d /\
   e∉ow/\d∉ow/\h.Ns1 d m/\(∃ od,h.get? d=some od/\od.cls = .type "dict")/\tD nm m fs xs
noncomputable def gw:List Addr->List Value->Prop
 | [],xs=>xs=[]
 | a :: as,xs=>∃ x ys o,xs=x :: ys/\h.get? a=some o/\o.cls = .type "cell"/\o.data = .cell (some x)/\a∉ow/\gw as ys
noncomputable def qo (i:Nat) (a:Addr) (as:List Addr):Prop:=∃ (o:Obj) (fd:FuncData) (f:bu) (c:Addr) (oc:Obj) (vs:Array Value) (t:Tok),h.get? a=some o/\o.cls = .type "function"/\o.data = .func fd/\a∉ow/\P.fns i=some f/\tC nm f fd as.length/\fd.closure.map (·.2)=as /\
 fd.code = .ref c/\h.get? c=some oc/\oc.cls = .type "code"/\oc.data = .fields vs/\vs[1]? = some (.str fd.qualname t)/\c∉ow
mutual
noncomputable def au:V->Value->Prop
 | .none,z=>z = .none
 | .bool b,z=>z = .bool b
 | .int i,z=>∃ t,z = .int i t
 | .str s,z=>∃ t,z = .str (aA s) t
 | .tup l,z=>∃ a vs,z = .ref a/\IsTup h a (List.toArray vs)/\a∉ow/\ak l vs
 | .lst l,z=>∃ a vs,z = .ref a/\h.IsList a (List.toArray vs)/\a∉ow/\ak l vs
 | .obj k,z=>∃ a,z = .ref a/\ao ρ k=some a
 | .fn i,z=>∃ f,z = .ref f.addr/\P.fns i=some f
 | .exc c fs,z=>∃ xs,md P nm h ow c fs z xs/\i8 fs xs
 | .rng a b,z=>∃ r t u v,z = .ref r/\IsRange h r a b 1 t u v/\r∉ow
 | .clo i l,z=>∃ a as xs,z = .ref a/\qo P nm h ow i a as/\gw h ow as xs/\ak l xs
noncomputable def ak:List V->List Value->Prop
 | [],zs=>zs=[]
 | v :: l,zs=>∃ x xs,zs=x :: xs/\au v x/\ak l xs
noncomputable def i8:List (Nat × V)->List Value->Prop
 | [],zs=>zs=[]
 | p :: l,zs=>∃ x xs,zs=x :: xs/\nC p x/\i8 l xs
noncomputable def nC:Nat × V->Value->Prop
 | (_,v),z=>au v z
end
end
end
theorem bz {α:Type}:∀ {l m:List α} {k:Nat} {a:α},ao l k=some a->ao (l++m) k=some a
 | [],_,_,_,e=>by exact nS e
 | _ :: _,_,0,_,e=>e
 | _ :: l,_,k + 1,_,e=>bz (l:=l) (k:=k) e
theorem aJ {α:Type}:∀ {l:List α} {k:Nat},ao l k=l[k]?
 | [],_=>rfl
 | x :: l,0=>rfl
 | _ :: l,k + 1=>aJ (l:=l) (k:=k)
theorem aT {α:Type} {l:List α} {k:Nat} {a:α} (e:ao l k=some a):a∈l:=List.mem_of_getElem? (aJ▸e)
section
variable {P:cz} {nm:Nat->Str} {h h':Heap} {ow ow' ρ ρ':List Addr}
theorem gR {mod:List Addr} {a:Addr} {its:Array Value} (k:bw mod h h') (x:IsTup h a its) (na:a∉mod):IsTup h' a its:=by
 refine bD x fun o ho hc r=>?_; clear x
 exact (bY o (k.exact ho na (by rw [hc]; decide)) hc r)
theorem fS {mod:List Addr} {a:Addr} {its:Array Value} (k:bw mod h h') (x:h.IsList a its) (na:a∉mod):h'.IsList a its:=by
 refine bD x fun o ho hc r=>?_; clear x
 exact (bY o (k.exact ho na (by rw [hc]; decide)) hc r)
theorem hY {mod:List Addr} {d:Addr} {m:Str->Option Value} (k:bw mod h h') (x:h.Ns1 d m) (na:d∉mod):h'.Ns1 d m:=by
 refine de x fun o es ep ho hd r=>?_; clear x
 rcases k.obj d o ho na with y | ⟨_,sl,y⟩
 ·exact (dz o es ep y hd r)
 ·exact (dz _ es ep y hd r)
theorem dX {mod:List Addr} {d:Addr} {m:Str->Option Value} (k:bw mod h h') (x:h.Ns d m) (na:d∉mod):h'.Ns d m:=by
 refine de x fun o es ep ho hd r=>?_; clear x
 rcases k.obj d o ho na with y | ⟨_,sl,y⟩
 ·exact (dz o es ep y hd r)
 ·exact (dz _ es ep y hd r)
theorem nD {a:Addr} {its:Array Value} (x:IsTup h a its):bZ h a:=let ⟨o,ho,_⟩:=x; ⟨o,ho⟩
theorem lu {a:Addr} {its:Array Value} (x:h.IsList a its):bZ h a:=let ⟨o,ho,_⟩:=x; ⟨o,ho⟩
theorem au.none:au P nm h ow ρ .none .none:=rfl
theorem au.bool (b:Bool):au P nm h ow ρ (.bool b) (.bool b):=rfl
theorem au.int (i:Int) (t:Tok):au P nm h ow ρ (.int i) (.int i t):=⟨t,rfl⟩
theorem au.str (s:List Nat) (t:Tok):au P nm h ow ρ (.str s) (.str (aA s) t):=⟨t,rfl⟩
theorem au.tup {l:List V} {a:Addr} {vs:List Value} (x:IsTup h a vs.toArray) (y:a∉ow) (z:ak P nm h ow ρ l vs):au P nm h ow ρ (.tup l) (.ref a):=(dW a vs rfl x y z)
theorem au.lst {l:List V} {a:Addr} {vs:List Value} (x:h.IsList a vs.toArray) (y:a∉ow) (z:ak P nm h ow ρ l vs):au P nm h ow ρ (.lst l) (.ref a):=(dW a vs rfl x y z)
theorem au.obj {k:Nat} {a:Addr} (e:ao ρ k=some a):au P nm h ow ρ (.obj k) (.ref a):=(ax a rfl e)
theorem au.fn {i:Nat} {f:bu} (e:P.fns i=some f):au P nm h ow ρ (.fn i) (.ref f.addr):=(ax f rfl e)
theorem au.rng {a b:Int} {r:Addr} {t u v:Tok} (x:IsRange h r a b 1 t u v) (y:r∉ow):au P nm h ow ρ (.rng a b) (.ref r):=⟨r,t,u,v,rfl,x,y⟩
theorem ak.nil:ak P nm h ow ρ [] []:=rfl
theorem ak.cons {v:V} {x:Value} {l:List V} {xs:List Value} (a:au P nm h ow ρ v x) (b:ak P nm h ow ρ l xs):ak P nm h ow ρ (v :: l) (x :: xs):=(db x xs rfl a b)
theorem ak.hd {v:V} {x:Value} {l:List V} {xs:List Value} (r:ak P nm h ow ρ (v :: l) (x :: xs)):au P nm h ow ρ v x:=by
 refine aV r fun HC HC e a HC=>?_; clear r
 cases e; exact a
theorem ak.tl {v:V} {x:Value} {l:List V} {xs:List Value} (r:ak P nm h ow ρ (v :: l) (x :: xs)):ak P nm h ow ρ l xs:=by
 refine aV r fun HC HC e HC a=>?_; clear r
 cases e; exact a
theorem ak.of_nil {xs:List Value} (r:ak P nm h ow ρ [] xs):xs=[]:=r
theorem ak.one {v:V} {xs:List Value} (r:ak P nm h ow ρ [v] xs):∃ x,xs=[x]/\au P nm h ow ρ v x:=by
 refine aV r fun x HC zq1 a e=>?_; clear r; subst zq1
 exact (ax x (congrArg _ e) a)
theorem ak.two {v v':V} {xs:List Value} (r:ak P nm h ow ρ [v,v'] xs):∃ x y,xs=[x,y]/\au P nm h ow ρ v x/\au P nm h ow ρ v' y:=by
 obtain ⟨x,_,rfl,a,r⟩:=r
 obtain ⟨y,rfl,b⟩:=ak.one r
 exact (db x y rfl a b)
inductive eI:Value->Prop
 | none:eI .none
 | bool (b:Bool):eI (.bool b)
 | int (i:Int) (t:Tok):eI (.int i t)
 | str (s:Str) (t:Tok):eI (.str s t)
 | ref (a:Addr):eI (.ref a)
theorem au.pl {v:V} {z:Value} (r:au P nm h ow ρ v z):eI z:=by
 cases v with
 | none=>exact (show z = .none from r)▸.none
 | bool b=>exact (show z = .bool b from r)▸.bool b
 | int i=>exact r.elim fun HC e=>e▸.int _ _
 | str i=>exact r.elim fun HC e=>e▸.str _ _
 | tup l=>exact r.elim fun HC r=>r.elim fun HC e=>e.1▸.ref _
 | lst l=>exact r.elim fun HC r=>r.elim fun HC e=>e.1▸.ref _
 | obj k=>exact r.elim fun HC e=>e.1▸.ref _
 | fn i=>exact r.elim fun HC e=>e.1▸.ref _
 | exc c fs=>exact r.elim fun HC r=>r.1.elim fun HC r=>r.elim fun HC r=>r.elim fun HC r=>r.elim fun HC r=>r.elim fun HC r=>r.elim fun HC e=>e.1▸.ref _
 | rng a b=>exact r.elim fun HC r=>r.elim fun HC r=>r.elim fun HC r=>r.elim fun HC e=>e.1▸.ref _
 | clo i vs=>exact r.elim fun HC r=>r.elim fun HC r=>r.elim fun HC e=>e.1▸.ref _
theorem iI:∀ {fs:List (Nat × V)} {xs:List Value},i8 P nm h ow ρ fs xs ↔ ak P nm h ow ρ (fs.map (·.2)) xs
 | [],_=>Iff.rfl
 | (_,_) :: _,_=>exists_congr fun HC=>exists_congr fun HC=>and_congr Iff.rfl (and_congr Iff.rfl iI)
theorem au.exc {c:Nat} {fs:List (Nat × V)} {e d:Addr} {cl:lg} {oe:Obj} {ws:Array Value} {m:Str->Option Value} {xs:List Value} (h1:P.cls c=some cl) (h2:h.get? e=some oe) (h3:oe.cls = .ref cl.addr) (h4:oe.data = .fields ws) (h5:oe.dict=some d)
  (h6:e∉ow) (h7:d∉ow) (h8:h.Ns1 d m) (h9:∃ od,h.get? d=some od/\od.cls = .type "dict") (h10:tD nm m fs xs) (h11:ak P nm h ow ρ (fs.map (·.2)) xs):au P nm h ow ρ (.exc c fs) (.ref e):=
 (ax xs ⟨e,d,cl,oe,ws,m,rfl,h1,h2,h3,h4,h5,h6,h7,h8,h9,h10⟩ (iI.mpr h11))
structure iJ (ow ow' ρ ρ':List Addr) (h h':Heap):Prop where
 has:∀ {a o T},h.get? a=some o->o.cls = .type T->T≠"frame"->T≠"traceback"->a∉ow->h'.get? a=some o/\a∉ow'
 ex:∀ {e o A ws},h.get? e=some o->o.cls = .ref A->o.data = .fields ws->e∉ow->∃ o' ws',h'.get? e=some o'/\o'.cls=o.cls/\o'.dict=o.dict/\o'.data = .fields ws'/\e∉ow'
 ns:∀ {d m},h.Ns1 d m->d∉ow->h'.Ns1 d m
 pre:∀ k a,ao ρ k=some a->ao ρ' k=some a
theorem md.map (g:iJ ow ow' ρ ρ' h h') {c:Nat} {fs:List (Nat × V)} {z:Value} {xs:List Value} (r:md P nm h ow c fs z xs):md P nm h' ow' c fs z xs:=by
 refine yu r fun e d cl oe ws m h0 h1 h2 h3 h4 h5 h6 h7 h8 zq1 h11=>?_; clear r; refine ae zq1 fun od h9 h10=>?_
 refine jz (g.ex h2 h3 h4 h6) fun o' ws' e1 e2 e3 e4 e5=>?_
 refine ai (g.has h9 h10 (by decide) (by decide) h7) fun k1 k2=>?_
 exact ⟨e,d,cl,o',ws',m,h0,h1,e1,e2.trans h3,e4,e3.trans h5,e5,k2,g.ns h8 h7,(ax od k1 h10),h11⟩
theorem gw.map (g:iJ ow ow' ρ ρ' h h'):∀ {as:List Addr} {xs:List Value},gw h ow as xs->gw h' ow' as xs
 | [],_,r=>r
 | _ :: _,_,r=>by
  obtain ⟨x,ys,o,e,h1,h2,h3,n,q⟩:=r
  refine ai (g.has h1 h2 (by decide) (by decide) n) fun k n'=>?_
  exact ⟨x,ys,o,e,k,h2,h3,n',gw.map g q⟩
theorem qo.map (g:iJ ow ow' ρ ρ' h h') {i:Nat} {a:Addr} {as:List Addr} (r:qo P nm h ow i a as):qo P nm h' ow' i a as:=by
 refine cL fun HC kG=>?_
 obtain ⟨o,fd,f,c,oc,vs,t,h1,h2,h3,n,q1,q2,q3,q4,k1,k2,k3,k4,m⟩:=r
 refine ai (g.has h1 h2 (by decide) (by decide) n) fun e1 n'=>?_
 refine ai (g.has k1 k2 (by decide) (by decide) m) fun e2 m'=>?_
 refine kG ?_
 exact ⟨o,fd,f,c,oc,vs,t,e1,h2,h3,n',q1,q2,q3,q4,e2,k2,k3,k4,m'⟩
mutual
theorem au.map (g:iJ ow ow' ρ ρ' h h'):∀ {v:V} {x:Value},au P nm h ow ρ v x->au P nm h' ow' ρ' v x
 | .none,_,r=>r
 | .bool _,_,r=>r
 | .int _,_,r=>r
 | .str _,_,r=>r
 | .tup _,_,r=>by
  refine cJ r fun a vs e zq1 n hs=>?_; clear r; refine bD zq1 fun o ho hc t=>?_
  refine ai (g.has ho hc (by decide) (by decide) n) fun k n'=>?_
  exact (dW a vs e (bY o k hc t) n' (ak.map g hs))
 | .lst _,_,r=>by
  refine cJ r fun a vs e zq1 n hs=>?_; clear r; refine bD zq1 fun o ho hc t=>?_
  refine ai (g.has ho hc (by decide) (by decide) n) fun k n'=>?_
  exact (dW a vs e (bY o k hc t) n' (ak.map g hs))
 | .obj _,_,r=>let ⟨a,e,k⟩:=r; (ax a e (g.pre _ _ k))
 | .fn _,_,r=>r
 | .exc _ _,_,r=>let ⟨xs,a,b⟩:=r; (ax xs (a.map g) (i8.map g b))
 | .rng _ _,_,r=>by
  refine nn r fun a t u v e hr n=>?_; clear r
  refine ai (g.has hr rfl (by decide) (by decide) n) fun k n'=>?_
  exact ⟨a,t,u,v,e,k,n'⟩
 | .clo _ _,_,r=>by
  refine eS r fun a as xs e x y z=>?_; clear r
  exact (fF a as xs e (x.map g) (y.map g) (ak.map g z))
theorem ak.map (g:iJ ow ow' ρ ρ' h h'):∀ {l:List V} {xs:List Value},ak P nm h ow ρ l xs->ak P nm h' ow' ρ' l xs
 | [],_,r=>r
 | _ :: _,_,r=>let ⟨x,xs,e,a,b⟩:=r; (db x xs e (au.map g a) (ak.map g b))
theorem i8.map (g:iJ ow ow' ρ ρ' h h'):∀ {l:List (Nat × V)} {xs:List Value},i8 P nm h ow ρ l xs->i8 P nm h' ow' ρ' l xs
 | [],_,r=>r
 | _ :: _,_,r=>let ⟨x,xs,e,a,b⟩:=r; (db x xs e (nC.map g a) (i8.map g b))
theorem nC.map (g:iJ ow ow' ρ ρ' h h'):∀ {p:Nat × V} {x:Value},nC P nm h ow ρ p x->nC P nm h' ow' ρ' p x
 | (_,_),_,r=>au.map g r
end
structure cK (mod ow ow' ρ ρ':List Addr) (h h':Heap):Prop where
 keep:bw mod h h'
 sub:∀ a∈mod,a∈ow
 new:∀ a∈ow',a∈ow\/h.get? a=none
 pre:∀ k a,ao ρ k=some a->ao ρ' k=some a
theorem cK.map {mod:List Addr} (g:cK mod ow ow' ρ ρ' h h'):iJ ow ow' ρ ρ' h h':=by
 have no:∀ {a o},h.get? a=some o->a∉ow->a∉ow':=fun e n m=>(g.new _ m).elim n fun d=>az d ⟨_,e⟩
 exact ⟨fun e hc h1 HC n=>⟨g.keep.exact e (fun m=>n (g.sub _ m)) (by rw [hc]; exact fun q=>h1 (Value.type.inj q)),no e n⟩,
  fun e hc hd n=>(pf _ _ (g.keep.exact e (fun m=>n (g.sub _ m)) (by rw [hc]; exact fun q=>nomatch q)) rfl rfl hd (no e n)),
  fun x n=>hY g.keep x fun m=>n (g.sub _ m),g.pre⟩
theorem au.grow {mod:List Addr} (g:cK mod ow ow' ρ ρ' h h') {v:V} {x:Value} (r:au P nm h ow ρ v x):au P nm h' ow' ρ' v x:=r.map g.map
theorem ak.grow {mod:List Addr} (g:cK mod ow ow' ρ ρ' h h') {l:List V} {xs:List Value} (r:ak P nm h ow ρ l xs):ak P nm h' ow' ρ' l xs:=r.map g.map
theorem ak.length {l:List V} {xs:List Value} (r:ak P nm h ow ρ l xs):l.length=xs.length:=by
 induction l generalizing xs with
 | nil=>rw [ak.of_nil r]; rfl
 | cons v l ih=>
  obtain ⟨x,xs,rfl,_,r⟩:=r
  exact congrArg Nat.succ (ih r)
theorem ak.at {l:List V} {xs:List Value} (r:ak P nm h ow ρ l xs) {i:Nat} {v:V} (e:ao l i=some v):∃ x,xs[i]? = some x/\au P nm h ow ρ v x:=by
 induction l generalizing xs i with
 | nil=>exact nS e
 | cons w l ih=>
  obtain ⟨x,xs,rfl,a,r⟩:=r
  cases i with
  | zero=>replace e:=oi e; subst e; exact (ax x rfl a)
  | succ i=>exact ih r e
theorem ak.append {l m:List V} {xs ys:List Value} (r:ak P nm h ow ρ l xs) (q:ak P nm h ow ρ m ys):ak P nm h ow ρ (l++m) (xs++ys):=by
 induction l generalizing xs with
 | nil=>rw [ak.of_nil r]; exact q
 | cons v l ih=>
  obtain ⟨x,xs,rfl,a,r⟩:=r
  exact .cons a (ih r)
theorem ak.drop {l:List V} {xs:List Value} (r:ak P nm h ow ρ l xs) (n:Nat):ak P nm h ow ρ (l.drop n) (xs.drop n):=by
 induction n generalizing l xs with
 | zero=>exact r
 | succ n ih=>cases l with
  | nil=>rw [ak.of_nil r]; exact .nil
  | cons v l=>
   obtain ⟨x,xs,rfl,_,r⟩:=r
   exact ih r
theorem ak.take {l:List V} {xs:List Value} (r:ak P nm h ow ρ l xs) (n:Nat):ak P nm h ow ρ (l.take n) (xs.take n):=by
 induction n generalizing l xs with
 | zero=>exact .nil
 | succ n ih=>cases l with
  | nil=>rw [ak.of_nil r]; exact .nil
  | cons v l=>
   obtain ⟨x,xs,rfl,a,r⟩:=r
   exact .cons a (ih r)
theorem ak.set {l:List V} {xs:List Value} (r:ak P nm h ow ρ l xs) {v:V} {x:Value} (q:au P nm h ow ρ v x) (n:Nat):ak P nm h ow ρ (bc l n v) (xs.set n x):=by
 induction l generalizing xs n with
 | nil=>rw [ak.of_nil r]; exact .nil
 | cons w l ih=>
  obtain ⟨y,xs,rfl,a,r⟩:=r
  cases n with
  | zero=>exact .cons q r
  | succ n=>exact .cons a (ih r n)
theorem ak.dropLast {l:List V} {xs:List Value} (r:ak P nm h ow ρ l xs):ak P nm h ow ρ l.dropLast xs.dropLast:=by
 rw [List.dropLast_eq_take,List.dropLast_eq_take,<- r.length]; exact r.take _
theorem ak.last {l:List V} {xs:List Value} (r:ak P nm h ow ρ l xs) {v:V} (e:l.getLast? = some v):∃ x,xs.getLast? = some x/\au P nm h ow ρ v x:=by
 rw [List.getLast?_eq_getElem?,<- aJ] at e
 refine ae (r.at e) fun x h1 h2=>?_
 exact (ax x (by rw [List.getLast?_eq_getElem?,<- r.length]; exact h1) h2)
end
section
variable (prog:Program) (w:World) (P:cz) (nm:Nat->Str)
inductive me (h:Heap) (ow ρ:List Addr) (a:Addr):List (V × V)->Prop
 | ofI {l:List (Int × V)} {kvs:List (Int × Value)}:h.DictOf (intKind prog w) a kvs->kvs.map (·.1)=l.map (·.1)->ak P nm h ow ρ (l.map (·.2)) (kvs.map (·.2))->me h ow ρ a (l.map fun p=>(.int p.1,p.2))
 | ofS {l:List (List Nat × V)} {kvs:List (Str × Value)}:h.DictOf (strKind prog w) a kvs->kvs.map (·.1)=l.map (fun p=>aA p.1)->ak P nm h ow ρ (l.map (·.2)) (kvs.map (·.2))->me h ow ρ a (l.map fun p=>(.str p.1,p.2))
noncomputable def fU (h:Heap) (ow:List Addr) (q:Str) (v:Value):Prop:=∃ c oc vs t,v = .ref c/\h.get? c=some oc/\oc.cls = .type "code"/\oc.data = .fields vs/\vs[1]? = some (.str q t)/\c∉ow
noncomputable def gS (h:Heap) (ow:List Addr) (a:Addr) (tab:List (Pos × List Nat)):Prop:=
 ∃ ps:Array Value,h.get? a=some { cls:=.none,data:=.fields ps }/\TriplesOk ps.toList/\∀ p∈tab,∀ v,codeAmong p.1 ps.toList=some v->fU h ow (aA p.2) v
theorem fU.map {ow ow' ρ ρ':List Addr} {h h':Heap} (g:iJ ow ow' ρ ρ' h h') {q:Str} {v:Value} (x:fU h ow q v):fU h' ow' q v:=
 by
 refine pd x fun c oc vs t e h1 h2 h3 h4 n=>?_; clear x
 refine ai (g.has h1 h2 (by decide) (by decide) n) fun k n'=>?_
 exact (rO c oc vs t e k h2 h3 h4 n')
theorem gS.map {ow ow' ρ ρ':List Addr} {h h':Heap} (g:iJ ow ow' ρ ρ' h h') {a:Addr} (ha:∀ o,h.get? a=some o->o.cls = .none->h'.get? a=some o) {tab:List (Pos × List Nat)} (x:gS h ow a tab):gS h' ow' a tab:=
 let ⟨ps,h1,h2,h3⟩:=x
 (bY ps (ha _ h1 rfl) h2 (fun p m v e=>(h3 p m v e).map g))
noncomputable def gL (h:Heap) (ow ρ:List Addr) (a:Addr) (next:Option Addr):O->Prop
 | .list l=>∃ vs:List Value,h.PlainList a vs.toArray/\ak P nm h ow ρ l vs
 | .dict es=>me prog w P nm h ow ρ a es/\(es=[]->h.DictOf (intKind prog w) a []/\h.DictOf (strKind prog w) a [])
 | .inst c=>∃ o d cl,P.cls c=some cl/\cl.kind=0/\h.get? a=some o/\o.cls = .ref cl.addr/\(∀ c,o.data≠.cls c)/\o.dict=some d/\next=some d
 | .ns fs=>∃ m,h.Ns1 a m/\(∀ c v,find fs c=some v->∃ x,m (nm c)=some x/\au P nm h ow ρ v x)/\Within m (fs.map fun p=>nm p.1)
 | .hid ..=>False
 | .wild j=>∃ tab,P.wl j=some (a,tab)/\gS h ow a tab
structure aG (base:Heap) (s:St) (ρ xs:List Addr) (h:Heap):Prop where
 stay:base.StaysIn h
 len:ρ.length=s.length
 nd:(ρ++xs).Nodup
 new:∀ a∈ρ++xs,base.get? a=none/\bZ h a
 obj:∀ k o a,ao s k=some o->ao ρ k=some a->gL prog w P nm h (ρ++xs) ρ a (ao ρ (k + 1)) o
end
structure ck (nm:Nat->Str) (ev:Env) (vn:Nat->Nat) (vars:List (Nat × Nat)) (gs ro ce:List Nat) (xs:List Addr):Prop where
 hk:ev.scope.kind = .function
 glo:ev.globals=mainGlobals
 blt:ev.builtins=builtinsNs
 vn:∀ i c k,ao vars i=some (c,k)->vn i=c
 loc:∀ i c,ao vars i=some (c,0)->ev.kindOf (nm c)=some .local
 cel:∀ i c,ao vars i=some (c,1)->ev.kindOf (nm c)=some .cell
 fre:∀ i c k,ao vars i=some (c,k + 2)->ev.kindOf (nm c)=some .free\/ev.kindOf (nm c)=some .cell
 nd:∀ i j c k k',ao vars i=some (c,k)->ao vars j=some (c,k')->i=j
 gl:∀ g,aQ gs g=true->ev.kindOf (nm g)=some .globalImplicit
 lin:ev.locals∈xs
 ro:∀ i c k,ao vars i=some (c,k + 2)->aQ ro i=true
 cec:∀ i c,c < 1000->aQ ce (wc i c)=true->ao vars i=some (c,1)
 ce:∀ i c k,ao vars i=some (c,k + 1)->aQ ce i=true
 cinj:∀ c c' a,ev.cells.lookup (nm c)=some a->ev.cells.lookup (nm c')=some a->c=c'
 cloc:∀ c a,ev.cells.lookup (nm c)=some a->a≠ev.locals
 cx:∀ c a,ev.cells.lookup (nm c)=some a->a∈xs
noncomputable def gT (fes:List Env) (xs:List Addr) (h:Heap):Prop:=∀ e∈fes,e.scope.kind≠.module/\∃ L o,e.frame=some L/\L∈xs/\h.get? L=some o/\o.cls = .type "frame"/\∃ es ep,o.data = .dict es ep
structure aH (P:cz) (nm:Nat->Str) (ev:Env) (fes:List Env) (vars:List (Nat × Nat)) (own xs:List Addr) (h:Heap) (ρ:List Addr) (l:Loc):Prop where
 len:l.length=vars.length
 ns:∃ m,h.Ns ev.locals m/\∀ i v,ao l i=some (some v)->∃ c k x,ao vars i=some (c,k)/\au P nm h (ρ++xs) ρ v x /\
  ((k=0/\m (nm c)=some x)\/(k≠0/\∃ a,ev.cells.lookup (nm c)=some a/\h.IsCell a (some x)/\a∈xs))
 un:∀ i c,ao vars i=some (c,1)->∃ a cC,ev.cells.lookup (nm c)=some a/\h.IsCell a cC/\a∈own
 own:ev.locals∈own/\(∀ a∈own,a∈xs)
 fr:gT fes xs h
structure cV (A:Around) (fes:List Env) (d:Nat) (hm:Bool):Prop where
 fr:A.frames=some fes
 dep:A.depth + 12 * d + 12<=600
 un:A.units + 60 * d + 100<=9000
 hd:hm=false->A.handled=none
theorem zg {a k X:Nat} (h:k + X<=a):a - k - X + X + k=a:=by
 rw [Nat.sub_add_cancel (Nat.le_sub_of_add_le (Nat.add_comm k X▸h)),Nat.sub_add_cancel (Nat.le_trans (Nat.le_add_right k X) h)]
theorem tri {b x:Nat} (h:b<=x/\x < b + 3):x=b\/x=b + 1\/x=b + 2:=
 (Nat.eq_or_lt_of_le h.1).elim (fun e=>.inl e.symm) fun h1=>(Nat.eq_or_lt_of_le h1).elim (fun e=>.inr (.inl e.symm)) fun h2=>.inr (.inr (Nat.le_antisymm (Nat.le_of_lt_succ h.2) h2))
theorem tE {k:Nat}:(-1 + ((k + 1:Nat):Int)).toNat=k:=by rw [Int.natCast_succ,Int.add_comm (k:Int) 1,Int.neg_add_cancel_left,Int.toNat_natCast]
theorem wA {n:Nat} (h:0 < n):(-1 + (n:Int)).toNat=n - 1:=by
 cases n with
 | zero=>exact absurd h (Nat.lt_irrefl 0)
 | succ k=>exact tE
theorem CN {n k:Nat} (h:n<=k):(n:Int).natAbs<=k:=by rw [Int.natAbs_natCast]; exact h
theorem pn {u d:Nat} (h:u + 12 * d + 12<=600):u < 1000:=Nat.lt_of_le_of_lt (Nat.le_trans (Nat.le_add_right u (12 * d + 12)) (Nat.add_assoc u _ _▸h)) (by decide)
theorem tG {u d:Nat} (h:u + 12 * (d + 1) + 12<=600):u + 1 + 12 * d + 12<=600:=Nat.le_trans (Nat.add_le_add_right (by rw [Nat.add_assoc u 1,Nat.add_comm 1]; exact Nat.add_le_add_left (Nat.add_le_add_left (by decide) _) u) 12) h
theorem yz {u d k:Nat} (h:u + 60 * (d + 1) + 100<=9000) (hk:k<=60):u + k + 60 * d + 100<=9000:=Nat.le_trans (Nat.add_le_add_right (by rw [Nat.add_assoc u k,Nat.add_comm k]; exact Nat.add_le_add_left (Nat.add_le_add_left hk _) u) 100) h
theorem yA {u d d' a b m:Nat} (h:u + a * d + b<=m) (hd:d'<=d):u + a * d' + b<=m:=Nat.le_trans (Nat.add_le_add_right (Nat.add_le_add_left (Nat.mul_le_mul_left a hd) u) b) h
structure bq (mod ρ ρ':List Addr) (h h':Heap):Prop where
 keep:bw mod h h'
 pre:∀ k a,ao ρ k=some a->ao ρ' k=some a
 new:∀ a∈ρ',a∈ρ\/h.get? a=none
 ff:∀ L o,L∉ρ->h.get? L=some o->o.cls = .type "frame"->(∃ es ep,o.data = .dict es ep)->∃ o',h'.get? L=some o'/\o'.cls = .type "frame"/\∃ es ep,o'.data = .dict es ep
theorem cG.ff {o:Obj} {h':Heap} {L:Addr} (x:cG o (h'.get? L)) (hc:o.cls = .type "frame") (hd:∃ es ep,o.data = .dict es ep):∃ o',h'.get? L=some o'/\o'.cls = .type "frame"/\∃ es ep,o'.data = .dict es ep:=by
 rcases x with y | ⟨_,sl,y⟩
 ·exact (bY o y hc hd)
 ·exact (bY _ y hc hd)
theorem bw.ff {mod ρ:List Addr} {h h':Heap} (k:bw mod h h') (hm:∀ b∈mod,b∈ρ):∀ L o,L∉ρ->h.get? L=some o->o.cls = .type "frame"->(∃ es ep,o.data = .dict es ep)->∃ o',h'.get? L=some o'/\o'.cls = .type "frame"/\∃ es ep,o'.data = .dict es ep:=
 fun L o hL ho hc hd=>(k.obj L o ho fun m=>hL (hm L m)).ff hc hd
theorem bq.refl (mod ρ:List Addr) (h:Heap):bq mod ρ ρ h h:=⟨.refl _ _,fun HC HC e=>e,fun HC m=>.inl m,fun HC o HC ho hc hd=>(bY o ho hc hd)⟩
theorem bq.trans {own ρ aa aW:List Addr} {h h₁ aR:Heap} (x:bq (own++ρ) ρ aa h h₁) (y:bq (own++aa) aa aW h₁ aR):bq (own++ρ) ρ aW h aR:=by
 refine ⟨⟨fun b z=>y.keep.live b (x.keep.live b z),fun b o e nb=>?_⟩,fun k a e=>y.pre k a (x.pre k a e),fun a m=>?_,fun L o hL ho hc hd=>?_⟩
 ·refine (x.keep.obj b o e nb).trans rfl fun o' e'=>y.keep.obj b o' e' fun hm=>?_
  rcases A3 hm with hm | hm
  ·exact nb (A1 hm)
  ·rcases x.new b hm with hm | hm
   ·exact nb (A0 hm)
   ·exact az hm ⟨_,e⟩
 ·rcases y.new a m with m | m
  ·exact x.new a m
  ·right
   cases q:h.get? a with
   | none=>rfl
   | some o=>exact (az m (x.keep.live a ⟨o,q⟩)).elim
 ·refine bD (x.ff L o hL ho hc hd) fun o' e1 e2 e3=>?_
  exact y.ff L o' (fun m=>(x.new L m).elim hL fun q=>az q ⟨o,ho⟩) e1 e2 e3
theorem bq.transE {ρ aa aW:List Addr} {h h₁ aR:Heap} (x:bq ρ ρ aa h h₁) (y:bq aa aa aW h₁ aR):bq ρ ρ aW h aR:=bq.trans (own:=[]) x y
theorem bq.mono {m m' ρ ρ':List Addr} {h h':Heap} (x:bq m ρ ρ' h h') (hm:∀ b∈m,b∈m'):bq m' ρ ρ' h h':=⟨x.keep.mono hm,x.pre,x.new,x.ff⟩
theorem bq.grow {mod ρ ρ' xs:List Addr} {h h':Heap} (x:bq mod ρ ρ' h h') (hm:∀ a∈mod,a∈ρ++xs):cK mod (ρ++xs) (ρ'++xs) ρ ρ' h h':=
 ⟨x.keep,hm,fun a m=>(A3 m).elim (fun m=>(x.new a m).imp (List.mem_append_left _) id) fun m=>.inl (A0 m),x.pre⟩
theorem bq.growE {ρ ρ' xs:List Addr} {h h':Heap} (x:bq ρ ρ ρ' h h'):cK ρ (ρ++xs) (ρ'++xs) ρ ρ' h h':=x.grow fun HC m=>A1 m
section
variable {prog:Program} {w:World} {P:cz} {nm:Nat->Str} {ev:Env} {vars:List (Nat × Nat)} {own xs ρ ρ':List Addr} {h h' base:Heap} {l:Loc} {s s':St} {fes:List Env}
theorem cW {mod:List Addr} {a:Addr} {v:Option Value} (k:bw mod h h') (x:h.IsCell a v) (na:a∉mod):h'.IsCell a v:=by
 refine ae x fun o ho hd=>?_; clear x
 rcases k.obj a o ho na with y | ⟨_,sl,y⟩
 ·exact (ax o y hd)
 ·exact (ax _ y hd)
theorem aG.disj (I:aG prog w P nm base s ρ xs h) {a:Addr} (ha:a∈ρ) (hx:a∈xs):False:=
 (List.nodup_append.mp I.nd).2.2 a ha a hx rfl
theorem gT.keep {fes:List Env} {mod:List Addr} (x:gT fes xs h) (k:bw mod h h') (hm:∀ a∈xs,a∉mod):gT fes xs h':=fun e he=>by
 refine ai (x e he) fun hk zq1=>?_; refine cJ zq1 fun L o h1 h2 h3 h4=>?_
 refine ⟨hk,L,?_⟩
 rcases k.obj L o h3 (hm L h2) with y | ⟨_,sl,y⟩
 ·exact (jA o h1 h2 y h4)
 ·exact (jA _ h1 h2 y h4)
theorem gT.stp {fes:List Env} (x:gT fes xs h) (I:aG prog w P nm base s ρ xs h) (S:bq ρ ρ ρ' h h'):gT fes xs h':=x.keep S.keep fun HC hx hr=>I.disj hr hx
theorem aH.stp (R:aH P nm ev fes vars own xs h ρ l) (I:aG prog w P nm base s ρ xs h) (S:bq ρ ρ ρ' h h'):aH P nm ev fes vars own xs h' ρ' l:=by
 have hd:∀ a∈own,a∉ρ:=fun a ha hr=>I.disj hr (R.own.2 a ha)
 refine ae R.ns fun m hn hm=>?_
 refine ⟨R.len,(ax m (dX S.keep hn (hd _ R.own.1)) (fun i v e=>?_)),fun i c e'=>?_,R.own,R.fr.stp I S⟩
 ·refine de (hm i v e) fun c k x h1 h2 h3=>?_
  exact (dz c k x h1 (h2.grow S.growE) (h3.imp id fun ⟨hk,a,ha,hc,hx⟩=>⟨hk,a,ha,cW S.keep hc (fun hr=>I.disj hr hx),hx⟩))
 ·refine aV (R.un i c e') fun a cC h1 h2 h3=>?_
  exact (db a cC h1 (cW S.keep h2 (hd a h3)) h3)
end
noncomputable def C4 (P:cz) (c:Nat) (h:Heap) (e:Addr):Prop:=∀ cl,P.cls c=some cl->cl.kind=1->∃ oe ws,h.get? e=some oe/\oe.data = .fields ws/\ws[2]? = some .none
structure d5 (P:cz) (nm:Nat->Str) (h₀ h:Heap) (ow ρ:List Addr) (c:Nat) (fs:List (Nat × V)) (e:Addr):Prop where
 val:au P nm h ow ρ (.exc c fs) (.ref e)
 new:h₀.get? e=none
 bare:C4 P c h e
 tb:∃ oe ws,h.get? e=some oe/\oe.data = .fields ws/\5<=ws.size/\(ws[1]? = some .none\/∃ T oT ts,ws[1]? = some (.ref T)/\h₀.get? T=none/\T≠e/\h.get? T=some oT/\oT.cls = .type "traceback"/\oT.data = .fields ts/\4<=ts.size)
section
variable (prog:Program) (w:World) (base:Heap) (P:cz) (nm:Nat->Str)
noncomputable def af {α β:Type} (own:List Addr) (out:aU α) (rel:Heap->List Addr->List Addr->α->β->Prop) (ρ xs:List Addr) (Q:β->Shared->Prop) (E:Value->Shared->Prop) (s:Shared):Prop:=match out with
 | .ok v σ'=>∀ x h' tk' ρ',bq (own++ρ) ρ ρ' s.heap h'->aG prog w P nm base σ' ρ' xs h'->rel h' (ρ'++xs) ρ' v x->Q x { s with heap:=h',toks:=tk' }
 | .exc c fs σ'=>∀ e h' tk' ρ',bq (own++ρ) ρ ρ' s.heap h'->aG prog w P nm base σ' ρ' xs h'->d5 P nm s.heap h' (ρ'++xs) ρ' c fs e->E (.ref e) { s with heap:=h',toks:=tk' }
 | .stuck=>False
noncomputable abbrev bh (out:aU V):=af prog w base P nm [] out (au P nm)
noncomputable abbrev AV (out:aU (List V)):=af prog w base P nm [] out (ak P nm)
noncomputable def AW (_:Heap) (_ _:List Addr) (b b':Bool):Prop:=b=b'
noncomputable abbrev qp (out:aU Bool):=af prog w base P nm [] out AW
noncomputable def T1 {β:Type} (Q:β->Shared->Prop):β->Shared->Prop:=fun a s'=>1<=s'.toks->Q a s'
noncomputable def df (r:dv):Prop:=∀ (e:ME) (c:Ctx) (σ:St) (A:Around) (ev:Env) (fes:List Env) (vn:Nat->Nat) (vars:List (Nat × Nat)) (own xs ρ:List Addr) (s:Shared) (Q E:Value->Shared->Prop),1<=s.toks ->
 ck nm ev vn vars c.g c.ro c.ce xs->cV A fes c.d c.hm->aG prog w P nm base σ ρ xs s.heap->aH P nm ev fes vars own xs s.heap ρ c.l ->
 bh prog w base P nm (r.e e c σ) ρ xs (T1 Q) (T1 E) s->wpAny (model prog w) A (eval (e.toE nm vn) ev) Q E s
noncomputable def kS (r:dv):Prop:=∀ (e:ME) (c:Ctx) (σ:St) (A:Around) (ev:Env) (fes:List Env) (vn:Nat->Nat) (vars:List (Nat × Nat)) (own xs ρ:List Addr) (s:Shared) (Q:Bool->Shared->Prop) (E:Value->Shared->Prop),1<=s.toks ->
 ck nm ev vn vars c.g c.ro c.ce xs->cV A fes c.d c.hm->aG prog w P nm base σ ρ xs s.heap->aH P nm ev fes vars own xs s.heap ρ c.l ->
 qp prog w base P nm (r.t e c σ) ρ xs (T1 Q) (T1 E) s->wpAny (model prog w) A (isTrue (e.toE nm vn) ev (eval (e.toE nm vn) ev)) Q E s
end
section
variable {prog:Program} {w:World} {base:Heap} {P:cz} {nm:Nat->Str} {A:Around} {E Q:Value->Shared->Prop} {s:Shared} {σ:St} {ρ xs:List Addr}
theorem d5.shift {h₀ h₁ h:Heap} {ow ρ:List Addr} {c:Nat} {fs:List (Nat × V)} {e:Addr} (x:d5 P nm h₁ h ow ρ c fs e) (hs:∀ b,bZ h₀ b->bZ h₁ b):d5 P nm h₀ h ow ρ c fs e:=by
 obtain ⟨v,n,bb,oe,ws,h1,h2,h3,h4⟩:=x
 have dd:∀ a,h₁.get? a=none->h₀.get? a=none:=fun a d=>by
  cases q:h₀.get? a with
  | none=>rfl
  | some o=>exact (az d (hs a ⟨o,q⟩)).elim
 refine ⟨v,dd _ n,bb,oe,ws,h1,h2,h3,h4.imp id ?_⟩
 rintro ⟨T,oT,ts,a,b,r⟩
 exact (dz T oT ts a (dd _ b) r)
theorem af.shift {α β:Type} {own:List Addr} {out:aU α} {rel:Heap->List Addr->List Addr->α->β->Prop} {ρ aa xs:List Addr} {Q:β->Shared->Prop} {E:Value->Shared->Prop} {s:Shared} {h₁:Heap} {t₁:Nat}
  (g:af prog w base P nm own out rel ρ xs Q E s) (S:bq (own++ρ) ρ aa s.heap h₁):af prog w base P nm own out rel aa xs Q E { s with heap:=h₁,toks:=t₁ }:=by
 cases out with
 | stuck=>exact g
 | ok v σ'=>exact fun x h' tk' ρ' S' I r=>g x h' tk' ρ' (S.trans S') I r
 | exc c fs σ'=>exact fun e h' tk' ρ' S' I r=>g e h' tk' ρ' (S.trans S') I (r.shift S.keep.live)
theorem fc {own₁ own ρ:List Addr} (hs:∀ a∈own₁,a∈own):∀ a∈own₁++ρ,a∈own++ρ:=fun a m=>
 (A3 m).elim (fun m=>A1 (hs a m)) fun m=>A0 m
theorem af.bindO {α β γ δ:Type} {own own₁:List Addr} (hs:∀ a∈own₁,a∈own) {out:aU α} {k:α->St->aU γ} {rel:Heap->List Addr->List Addr->α->β->Prop} {rel':Heap->List Addr->List Addr->γ->δ->Prop} {ρ xs:List Addr}
  {Q:δ->Shared->Prop} {Q':β->Shared->Prop} {E:Value->Shared->Prop} {s:Shared} (g:af prog w base P nm own (out.bind k) rel' ρ xs Q E s)
  (hk:∀ v σ₁ x h₁ tk₁ aa,bq (own₁++ρ) ρ aa s.heap h₁->aG prog w P nm base σ₁ aa xs h₁->rel h₁ (aa++xs) aa v x->af prog w base P nm own (k v σ₁) rel' aa xs Q E { s with heap:=h₁,toks:=tk₁ }->Q' x { s with heap:=h₁,toks:=tk₁ }) :
  af prog w base P nm own₁ out rel ρ xs Q' E s:=by
 cases out with
 | stuck=>exact g
 | ok v σ'=>exact fun x h' tk' ρ' S I r=>hk v σ' x h' tk' ρ' S I r (af.shift g (S.mono (fc hs)))
 | exc c fs σ'=>exact fun e h' tk' ρ' S I r=>g e h' tk' ρ' (S.mono (fc hs)) I r
theorem af.bind {α β γ δ:Type} {own:List Addr} {out:aU α} {k:α->St->aU γ} {rel:Heap->List Addr->List Addr->α->β->Prop} {rel':Heap->List Addr->List Addr->γ->δ->Prop} {ρ xs:List Addr}
  {Q:δ->Shared->Prop} {Q':β->Shared->Prop} {E:Value->Shared->Prop} {s:Shared} (g:af prog w base P nm own (out.bind k) rel' ρ xs Q E s)
  (hk:∀ v σ₁ x h₁ tk₁ aa,bq ρ ρ aa s.heap h₁->aG prog w P nm base σ₁ aa xs h₁->rel h₁ (aa++xs) aa v x->af prog w base P nm own (k v σ₁) rel' aa xs Q E { s with heap:=h₁,toks:=tk₁ }->Q' x { s with heap:=h₁,toks:=tk₁ }) :
  af prog w base P nm [] out rel ρ xs Q' E s:=af.bindO (own₁:=[]) (fun HC m=>(nomatch m)) g hk
theorem af.bindOT {α β γ δ:Type} {own own₁:List Addr} (hs:∀ a∈own₁,a∈own) {out:aU α} {k:α->St->aU γ} {rel:Heap->List Addr->List Addr->α->β->Prop} {rel':Heap->List Addr->List Addr->γ->δ->Prop} {ρ xs:List Addr}
  {Q:δ->Shared->Prop} {Q':β->Shared->Prop} {E:Value->Shared->Prop} {s:Shared} (g:af prog w base P nm own (out.bind k) rel' ρ xs Q E s)
  (hk:∀ v σ₁ x h₁ tk₁ aa,1<=tk₁->bq (own₁++ρ) ρ aa s.heap h₁->aG prog w P nm base σ₁ aa xs h₁->rel h₁ (aa++xs) aa v x->af prog w base P nm own (k v σ₁) rel' aa xs Q E { s with heap:=h₁,toks:=tk₁ }->Q' x { s with heap:=h₁,toks:=tk₁ }) :
  af prog w base P nm own₁ out rel ρ xs (T1 Q') (T1 E) s:=by
 cases out with
 | stuck=>exact g
 | ok v σ'=>exact fun x h' tk' ρ' S I r ht=>hk v σ' x h' tk' ρ' ht S I r (af.shift g (S.mono (fc hs)))
 | exc c fs σ'=>exact fun e h' tk' ρ' S I r HC=>g e h' tk' ρ' (S.mono (fc hs)) I r
theorem af.bindT {α β γ δ:Type} {own:List Addr} {out:aU α} {k:α->St->aU γ} {rel:Heap->List Addr->List Addr->α->β->Prop} {rel':Heap->List Addr->List Addr->γ->δ->Prop} {ρ xs:List Addr}
  {Q:δ->Shared->Prop} {Q':β->Shared->Prop} {E:Value->Shared->Prop} {s:Shared} (g:af prog w base P nm own (out.bind k) rel' ρ xs Q E s)
  (hk:∀ v σ₁ x h₁ tk₁ aa,1<=tk₁->bq ρ ρ aa s.heap h₁->aG prog w P nm base σ₁ aa xs h₁->rel h₁ (aa++xs) aa v x->af prog w base P nm own (k v σ₁) rel' aa xs Q E { s with heap:=h₁,toks:=tk₁ }->Q' x { s with heap:=h₁,toks:=tk₁ }) :
  af prog w base P nm [] out rel ρ xs (T1 Q') (T1 E) s:=af.bindOT (own₁:=[]) (fun HC m=>(nomatch m)) g hk
theorem af.t1 {α β:Type} {own:List Addr} {out:aU α} {rel:Heap->List Addr->List Addr->α->β->Prop} {ρ xs:List Addr} {Q:β->Shared->Prop} {E:Value->Shared->Prop} {s:Shared} (g:af prog w base P nm own out rel ρ xs Q E s) :
  af prog w base P nm own out rel ρ xs (T1 Q) (T1 E) s:=by
 cases out with
 | stuck=>exact g
 | ok v σ'=>exact fun x h' tk' ρ' S I r HC=>g x h' tk' ρ' S I r
 | exc c fs σ'=>exact fun e h' tk' ρ' S I r HC=>g e h' tk' ρ' S I r
theorem af.here {α β:Type} {own:List Addr} {v:α} {σ:St} {rel:Heap->List Addr->List Addr->α->β->Prop} {ρ xs:List Addr} {Q:β->Shared->Prop} {E:Value->Shared->Prop} {s:Shared} (g:af prog w base P nm own (.ok v σ) rel ρ xs Q E s)
  (I:aG prog w P nm base σ ρ xs s.heap) {x:β} (r:rel s.heap (ρ++xs) ρ v x) (t:Nat):Q x { s with toks:=t }:=g x s.heap t ρ (.refl _ _ _) I r
theorem hZ (a b:List Nat):aA a++aA b=aA (a++b):=by
 show Str.append _ _=_
 simp [Str.append,aA]
theorem aL (a:List Nat):(aA a).length=a.length:=by simp [aA,Str.length]
theorem cq:aP<=sizeLine:=by rw [sizeLine_eq]; decide
theorem cX {a b:List Nat} (h:aA a=aA b):a=b:=by
 simp only [aA,Str.mk.injEq,Array.mk.injEq] at h
 exact h
theorem fV:∀ a b:List Nat,nu a b=decide (a=b)
 | [],[]=>rfl
 | [],_ :: _=>rfl
 | _ :: _,[]=>rfl
 | x :: l,y :: m=>by
  show (match Nat.beq x y with | true=>nu l m | false=>false)=_
  by_cases h:x=y
  ·subst h
   rw [Nat.beq_refl]
   dsimp only
   rw [fV l m]
   simp
  ·have:Nat.beq x y=false:=by
    cases q:Nat.beq x y with
    | true=>exact absurd (A4 q) h
    | false=>rfl
   rw [this]
   simp [h]
theorem qq (a b:List Nat):(aA a == aA b)=nu a b:=by
 rw [fV]
 by_cases h:a=b
 ·subst h; simp
 ·rw [decide_eq_false h]
  exact beq_eq_false_iff_ne.mpr fun e=>h (cX e)
theorem yB {a b:Int} (ha:a.natAbs<=1000000):IntMulOk a b:=by
 have h:Builtin.Int.intBits a<=64:=intBits_le_64 (by omega) (by omega)
 have:decide (Builtin.Int.intBits a > shortFactorBits)=false:=decide_eq_false (by show ¬ (Builtin.Int.intBits a > 64); omega)
 unfold IntMulOk
 rw [this]
 simp
theorem gU {o:Option O} {l:List V} (e:jk o=some l):o=some (.list l):=by
 cases o with
 | none=>exact nS e
 | some o=>cases o with
  | list _=>replace e:=oi e; subst e; rfl
  | _=>exact nS e
theorem b9 {v:V} {x:Value} {l:List V} (I:aG prog w P nm base σ ρ xs s.heap) (r:au P nm s.heap (ρ++xs) ρ v x) (e:bX v σ = some l) :
  ∃ a vs,x = .ref a/\s.heap.IsList a (List.toArray vs)/\ak P nm s.heap (ρ++xs) ρ l vs:=by
 cases v with
 | lst m=>
  refine cJ r fun a vs zq1 hl HC hs=>?_; clear r; subst zq1
  replace e:=oi e; subst e; exact (db a vs rfl hl hs)
 | obj k=>
  refine ae r fun a zq1 hk=>?_; clear r; subst zq1
  refine ae (I.obj _ _ _ (gU e) hk) fun vs hp hs=>?_
  exact (db a vs rfl hp.isList hs)
 | _=>exact nS e
theorem b7 {α:Type} {l:List α} {k:Nat} {a:α} (e:ao l k=some a):k < l.length:=by
 rw [aJ] at e
 exact (List.getElem?_eq_some_iff.mp e).1
theorem dh {α:Type} {l:List α} {k:Nat} (h:k < l.length):∃ a,ao l k=some a:=⟨l[k],by rw [aJ]; exact List.getElem?_eq_getElem h⟩
theorem aK {α:Type} {l m:List α} {k:Nat} (h:l.length<=k):ao (l++m) k=ao m (k - l.length):=by
 rw [aJ,aJ,List.getElem?_append_right h]
theorem cN {α:Type} {l m:List α} {k:Nat} (h:k < l.length):ao (l++m) k=ao l k:=by
 rw [aJ,aJ,List.getElem?_append_left h]
theorem ek {K:Type} [DecidableEq K] {knd:KeyKind prog w K} {mod:List Addr} {h h':Heap} {a:Addr} {kvs:List (K × Value)} (k:bw mod h h') (x:h.DictOf knd a kvs) (na:a∉mod):h'.DictOf knd a kvs:=by
 refine de x fun o es ep ho hc r=>?_; clear x
 exact (dz o es ep (k.exact ho na (by rw [hc.1]; decide)) hc r)
theorem me.grow {mod ow ow' ρ ρ':List Addr} {h h':Heap} (g:cK mod ow ow' ρ ρ' h h') {a:Addr} (na:a∉mod) {es:List (V × V)} (x:me prog w P nm h ow ρ a es):me prog w P nm h' ow' ρ' a es:=by
 cases x with
 | ofI hd hk hv=>exact .ofI (ek g.keep hd na) hk (hv.grow g)
 | ofS hd hk hv=>exact .ofS (ek g.keep hd na) hk (hv.grow g)
theorem gL.grow {mod ow ow' ρ ρ':List Addr} {h h':Heap} (g:cK mod ow ow' ρ ρ' h h') {a:Addr} (na:a∉mod) {nx nx':Option Addr} (hx:∀ d,nx=some d->nx'=some d):∀ {o:O},gL prog w P nm h ow ρ a nx o->gL prog w P nm h' ow' ρ' a nx' o
 | .list _,⟨vs,⟨n,hp⟩,hs⟩=>(ax vs ⟨n,g.keep.exact hp na (by show Value.type "list"≠_; decide)⟩ (hs.grow g))
 | .dict _,⟨hd,he⟩=>⟨hd.grow g na,fun e=>⟨ek g.keep (he e).1 na,ek g.keep (he e).2 na⟩⟩
 | .inst _,r=>by
  refine nk r fun o d cl h1 h0 h2 h3 h4 h5 h6=>?_; clear r
  exact (nr o d cl h1 h0 (g.keep.exact h2 na (by rw [h3]; intro z; cases z)) h3 h4 h5 (hx d h6))
 | .ns _,r=>by
  refine bD r fun m h1 h3 h5=>?_; clear r
  exact (bY m (hY g.keep h1 na) (fun c v e=>(h3 c v e).elim fun x h=>(ax x h.1 (h.2.grow g))) h5)
 | .hid ..,h=>h.elim
 | .wild _,⟨tab,h0,h1⟩=>(ax tab h0 (h1.map g.map fun HC e q=>g.keep.exact e na (by rw [q]; decide)))
theorem aG.app {h h':Heap} (I:aG prog w P nm base σ ρ xs h) (k:∀ b o,h.get? b=some o->h'.get? b=some o) {new:List Addr} {os:List O} (hl:new.length=os.length) (hn:new.Nodup)
  (hr:∀ a∈new,h.get? a=none/\bZ h' a)
  (ho:∀ j o a,ao os j=some o->ao new j=some a->gL prog w P nm h' ((ρ++new)++xs) (ρ++new) a (ao new (j + 1)) o) :
  bq ρ ρ (ρ++new) h h'/\aG prog w P nm base (σ++os) (ρ++new) xs h':=by
 have S:bq ρ ρ (ρ++new) h h':=⟨(bw.of_stays k).mono (fun HC m=>(nomatch m)),fun k a e=>bz e,fun a m=>(A3 m).imp id fun m=>(hr a m).1,(bw.of_stays k).ff fun HC m=>(nomatch m)⟩
 refine ⟨S,⟨fun b o e=>k b o (I.stay b o e),?_,?_,?_,?_⟩⟩
 ·rw [List.length_append,List.length_append,I.len,hl]
 ·have hnd:=List.nodup_append.mp I.nd
  rw [List.append_assoc]
  refine List.nodup_append.mpr (cF hnd.1 (List.nodup_append.mpr (cF hn hnd.2.1 (fun a ha b hb e=>?_))) (fun a ha b hb e=>?_))
  ·subst e
   exact az (hr a ha).1 (I.new a (A0 hb)).2
  ·subst e
   rcases A3 hb with hb | hb
   ·exact az (hr a hb).1 (I.new a (A1 ha)).2
   ·exact hnd.2.2 a ha a hb rfl
 ·intro a ha
  have old:∀ b∈ρ++xs,base.get? b=none/\bZ h' b:=fun b hb=>⟨(I.new b hb).1,S.keep.live b (I.new b hb).2⟩
  rcases A3 ha with ha | ha
  ·rcases A3 ha with ha | ha
   ·exact old a (A1 ha)
   ·refine ⟨?_,(hr a ha).2⟩
    cases q:base.get? a with
    | none=>rfl
    | some o=>exact (az (hr a ha).1 ⟨_,I.stay a o q⟩).elim
  ·exact old a (A0 ha)
 ·intro j o a e1 e2
  by_cases hj:j < σ.length
  ·rw [cN hj] at e1
   rw [cN (by rw [I.len]; exact hj)] at e2
   have:=I.obj j o a e1 e2
   have G:cK [] (ρ++xs) ((ρ++new)++xs) ρ (ρ++new) h h':=⟨bw.of_stays k,fun HC m=>(nomatch m),fun b m=>by
    rcases A3 m with m | m
    ·rcases A3 m with m | m
     ·exact .inl (A1 m)
     ·exact .inr (hr b m).1
    ·exact .inl (A0 m),fun HC HC e=>bz e⟩
   exact this.grow G (fun m=>(nomatch m)) fun d e=>bz e
  ·have hj':σ.length<=j:=Nat.not_lt.mp hj
   rw [aK hj'] at e1
   rw [aK (by rw [I.len]; exact hj')] at e2
   rw [aK (by rw [I.len]; exact Nat.le_succ_of_le hj')]
   have:=ho (j - σ.length) o a e1 (by rw [<- I.len]; exact e2)
   rw [I.len,Nat.succ_sub hj']
   exact this
theorem cY {α:Type}:∀ (l:List α) (k:Nat) (a:α),(bc l k a).length=l.length
 | [],_,_=>rfl
 | _ :: _,0,_=>rfl
 | _ :: l,k + 1,a=>by show (bc l k a).length + 1=l.length + 1; rw [cY l k a]
theorem eJ {α:Type}:∀ {l:List α} {k j:Nat} {a:α},ao (bc l k a) j=if j=k then (ao l k).map (fun HC=>a) else ao l j
 | [],k,j,a=>(ite_self none).symm
 | x :: l,0,0,a=>(if_pos rfl).symm
 | x :: l,0,j + 1,a=>(if_neg (Nat.succ_ne_zero j)).symm
 | x :: l,k + 1,0,a=>(if_neg (Nat.succ_ne_zero k).symm).symm
 | x :: l,k + 1,j + 1,a=>by
  show ao (bc l k a) j=if j + 1=k + 1 then (ao l k).map (fun HC=>a) else ao l j
  rw [eJ (l:=l)]
  by_cases h:j=k
  ·rw [if_pos h,if_pos (congrArg (· + 1) h)]
  ·rw [if_neg h,if_neg fun e=>h (Nat.succ.inj e)]
theorem iK {l:List Addr} (hn:l.Nodup) {i j:Nat} {a:Addr} (hi:ao l i=some a) (hj:ao l j=some a):i=j:=by
 rw [aJ] at hi hj
 refine ay (List.getElem?_eq_some_iff.mp hi) fun h1 e1=>?_
 refine ay (List.getElem?_eq_some_iff.mp hj) fun h2 e2=>?_
 exact (List.getElem_inj hn).mp (e1.trans e2.symm)
theorem aG.upd {h h':Heap} (I:aG prog w P nm base σ ρ xs h) {k:Nat} {a:Addr} {tH o':O} (ha:ao ρ k=some a) (h0:ao σ k=some tH) (hk:∀ b o,b≠a->h.get? b=some o->h'.get? b=some o) (hl:bZ h' a)
  (ho:gL prog w P nm h' (ρ++xs) ρ a (ao ρ (k + 1)) o') :
  bq ρ ρ ρ h h'/\aG prog w P nm base (bc σ k o') ρ xs h':=by
 have ham:a∈ρ:=aT ha
 have K:bw [a] h h':=.of_but hk hl
 have S:bq ρ ρ ρ h h':=⟨K.mono fun b m=>by rw [A2 m]; exact ham,fun HC HC e=>e,fun HC m=>.inl m,K.ff fun b m=>by rw [A2 m]; exact ham⟩
 refine ⟨S,⟨fun b o e=>?_,by rw [cY]; exact I.len,I.nd,fun b m=>⟨(I.new b m).1,K.live b (I.new b m).2⟩,fun j o b e1 e2=>?_⟩⟩
 ·refine hk b o (fun z=>?_) (I.stay b o e)
  have:=(I.new a (A1 ham)).1
  rw [z,this] at e; exact nS e
 ·rw [eJ] at e1
  by_cases hj:j=k
  ·subst hj
   rw [if_pos rfl,h0] at e1
   replace e1:=oi e1; subst e1
   rw [ha] at e2; replace e2:=oi e2; subst e2
   exact ho
  ·rw [if_neg hj] at e1
   have nb:b∉[a]:=fun m=>by
    rw [A2 m] at e2
    exact hj (iK (List.nodup_append.mp I.nd).1 e2 ha)
   exact (I.obj j o b e1 e2).grow ⟨K,fun c m=>by rw [A2 m]; exact A1 ham,fun HC m=>.inl m,fun HC HC e=>e⟩ nb fun HC e=>e
end
end Mine
end
section
open PySem PySem.Calls PyProof.Rows PySem.W PySem.SeqAt
namespace Mine
section
variable {prog:Program} {w:World} {base h:Heap} {P:cz} {nm:Nat->Str} {ow ρ xs own:List Addr} {σ:St} {s:Shared} {A:Around} {E Q:Value->Shared->Prop} {mg mb:Str->Option Value} {ev:Env} {vn:Nat->Nat} {vars:List (Nat × Nat)} {gs ro ce:List Nat} {l:Loc} {fes:List Env}
theorem aD {a b:Bool} (h:(a && b)=true):a=true:=(Bool.and_eq_true_iff.mp h).1
theorem al {a b:Bool} (h:(a && b)=true):b=true:=(Bool.and_eq_true_iff.mp h).2
theorem AX (a b:Nat):Nat.beq a b=(a == b):=by rw [Bool.eq_iff_iff,Nat.beq_eq,beq_iff_eq]
noncomputable def dA {α:Type} (o:Option α) (G:α->Prop):Prop:=match o with
 | some r=>G r
 | none=>True
theorem dA.of {α:Type} {o:Option α} {G:α->Prop} {r:α} (h:dA o G) (e:o=some r):G r:=by subst e; exact h
theorem dA.bnd {α β:Type} {o:Option α} {f:α->Option β} {G:β->Prop} (h:∀ a,o=some a->dA (f a) G):dA (o.bind f) G:=by
 cases o with
 | none=>trivial
 | some a=>exact h a rfl
theorem dA.eq {α:Type} {o:Option α} {G:α->Prop} (h:∀ a,o=some a->G a):dA o G:=by
 cases o with
 | none=>trivial
 | some a=>exact h a rfl
theorem dA.mpd {α β:Type} {o:Option α} {f:α->β} {G:β->Prop} (h:∀ a,o=some a->G (f a)):dA (o.map f) G:=by
 cases o with
 | none=>trivial
 | some a=>exact h a rfl
theorem dA.grd {α:Type} {b:Bool} {o:Option α} {G:α->Prop} (h:b=true->dA o G):dA (grd b o) G:=by
 cases b with
 | false=>trivial
 | true=>exact h rfl
theorem wB (v:V):dA (iO v) fun i=>v = .int i:=by cases v <;> trivial
theorem wC (v:V):dA (sO v) fun i=>v = .str i:=by cases v <;> trivial
theorem wD (v:V):dA (bO v) fun i=>v = .bool i:=by cases v <;> trivial
theorem wF (v:V):dA (tO v) fun i=>v = .tup i:=by cases v <;> trivial
theorem wG (v:V):dA (oO v) fun i=>v = .obj i:=by cases v <;> trivial
theorem dw {v:V} {i:Int} (e:iO v=some i):v = .int i:=(wB v).of e
theorem d6 {v:V} {i:List Nat} (e:sO v=some i):v = .str i:=(wC v).of e
theorem tI {v:V} {i:Bool} (e:bO v=some i):v = .bool i:=(wD v).of e
theorem AY {v:V} {i:List V} (e:tO v=some i):v = .tup i:=(wF v).of e
theorem nE {v:V} {i:Nat} (e:oO v=some i):v = .obj i:=(wG v).of e
theorem nF (v:V):match isNone v with | true=>v = .none | false=>True:=by cases v <;> trivial
theorem gx {v:V} (e:isNone v=true):v = .none:=by
 have h:=nF v
 rw [e] at h; exact h
theorem tJ {α:Type} (l:List α):dA (one l) fun x=>l=[x]:=by
 cases l with
 | nil=>trivial
 | cons y l=>cases l <;> trivial
theorem ez {α:Type} {l:List α} {x:α} (e:one l=some x):l=[x]:=(tJ l).of e
theorem aO {α:Type} {b:Bool} {o:Option α} {r:α} (e:grd b o=some r):b=true/\o=some r:=by
 cases b with
 | true=>exact ⟨rfl,e⟩
 | false=>exact nS e
theorem tK {l:bP} (h:ww l=true):l = .nil:=by
 cases l with
 | nil=>rfl
 | cons e l=>exact fT h
theorem bnd {α β:Type} {o:Option α} {f:α->Option β} {r:β} (e:o.bind f=some r):∃ a,o=some a/\f a=some r:=Option.bind_eq_some_iff.mp e
theorem mpd {α β:Type} {o:Option α} {f:α->β} {r:β} (e:o.map f=some r):∃ a,o=some a/\f a=r:=Option.map_eq_some_iff.mp e
theorem mh {α:Type} {l:List α} {q:α × α} (e:two l=some q):l=[q.1,q.2]:=by
 cases l with
 | nil=>exact nS e
 | cons y l=>
  refine ae (mpd e) fun z h1 zq1=>?_; subst zq1
  rw [ez h1]
theorem jn {l:bP} {e:ME} (h:fQ l=some e):l = .cons e .nil:=by
 cases l with
 | nil=>exact nS h
 | cons d l=>
  dsimp only [fQ] at h
  cases q:ww l with
  | true=>rw [q] at h; replace h:=oi h; subst h; rw [tK q]
  | false=>rw [q] at h; exact nS h
theorem qs {l:bP} {q:ME × ME} (h:tA l=some q):l = .cons q.1 (.cons q.2 .nil):=by
 cases l with
 | nil=>exact nS h
 | cons d l=>refine ae (mpd h) fun e h1 zq1=>?_; subst zq1; rw [jn h1]
theorem mi {e:ME} {a:List Nat} (h:nA e=some a):∃ k p,e = .const (.str a) k p:=by
 have q:dA (nA e) fun a=>∃ k p,e = .const (.str a) k p:=by
  cases e with
  | const v k p=>cases v with
   | str s=>exact (gP k p rfl)
   | _=>trivial
  | _=>trivial
 exact q.of h
theorem wH {l:bP} {q:List Nat × List Nat} (h:tB l=some q):∃ k p k' p',l = .cons (.const (.str q.1) k p) (.cons (.const (.str q.2) k' p') .nil)/\nu q.1 q.2=false:=by
 refine ae (bnd h) fun d h1 h=>?_
 refine ae (bnd h) fun a h2 h=>?_
 refine ae (bnd h) fun b h3 h=>?_
 refine eE (mi h2) fun k p h4=>?_
 refine eE (mi h3) fun k' p' h5=>?_
 cases hl:nu a b with
 | true=>rw [hl] at h; exact nS h
 | false=>
  rw [hl] at h
  replace h:=oi h; subst h
  exact ⟨k,p,k',p',by rw [qs h1,h4,h5],hl⟩
theorem ia {α:Type} {a b:V} {f:Int->Int->Option α} {r:α} (e:eF a b f=some r):∃ x y,a = .int x/\b = .int y/\f x y=some r:=by
 refine ae (bnd e) fun x h1 e=>?_
 refine ae (bnd e) fun y h2 e=>?_
 exact (db x y (dw h1) (dw h2) e)
theorem lw (a b:Int):ej (.int a) (.int b)=some (decide (a=b)):=rfl
theorem ly (a b:List Nat):ej (.str a) (.str b)=some (decide (aA a=aA b)):=by
 show some (nu a b)=_
 rw [fV]
 congr 1
 by_cases h:a=b
 ·subst h; simp
 ·rw [decide_eq_false h,decide_eq_false fun e=>h (cX e)]
theorem nG {J K:Type} [DecidableEq K] (g:J->K) (en:J->V) (hk:∀ a b,ej (en a) (en b)=some (decide (g a=g b))) {l:List (J × V)} {kvs:List (K × Value)} (e:kvs.map (·.1)=l.map (fun p=>g p.1)) (hv:ak P nm h ow ρ (l.map (·.2)) (kvs.map (·.2))) (k:J) :
   ∃ r,fB (l.map fun p=>(en p.1,p.2)) (en k)=some r/\match r with
    | none=>valueAt kvs (g k)=none
    | some v=>∃ x,valueAt kvs (g k)=some x/\au P nm h ow ρ v x:=by
 induction l generalizing kvs with
 | nil=>cases kvs with
  | nil=>exact (ax none rfl rfl)
  | cons _ _=>cases e
 | cons p l ih=>cases kvs with
  | nil=>cases e
  | cons kv kvs=>
   have e1:=(List.cons.inj e).1
   have d:fB ((p :: l).map fun p=>(en p.1,p.2)) (en k)=match decide (g p.1=g k) with | true=>some (some p.2) | false=>fB (l.map fun p=>(en p.1,p.2)) (en k):=congrArg (fun o:Option Bool=>o.bind fun q=>match q with | true=>some (some p.2) | false=>fB (l.map fun p=>(en p.1,p.2)) (en k)) (hk _ _)
   by_cases q:g p.1=g k
   ·rw [d,decide_eq_true q]
    exact ⟨some p.2,rfl,kv.2,by simp [valueAt,show kv.1=g p.1 from e1,q],hv.hd⟩
   ·rw [d,decide_eq_false q,show valueAt (kv :: kvs) (g k)=valueAt kvs (g k) by simp [valueAt,show kv.1=g p.1 from e1,q]]
    exact ih (List.cons.inj e).2 hv.tl
theorem wI {J K:Type} [DecidableEq K] (g:J->K) (en:J->V) (hk:∀ a b,ej (en a) (en b)=some (decide (g a=g b))) {v:V} {x:Value} (hx:au P nm h ow ρ v x) (k:J)
  {l:List (J × V)} {kvs:List (K × Value)} (e:kvs.map (·.1)=l.map (fun p=>g p.1)) (hn:(kvs.map (·.1)).Nodup) (hv:ak P nm h ow ρ (l.map (·.2)) (kvs.map (·.2))) :
   ∃ l':List (J × V),fG (l.map fun p=>(en p.1,p.2)) (en k) v=(l'.map fun p=>(en p.1,p.2))/\(stored kvs (g k) x).map (·.1)=l'.map (fun p=>g p.1)/\ak P nm h ow ρ (l'.map (·.2)) ((stored kvs (g k) x).map (·.2)):=by
 induction l generalizing kvs with
 | nil=>cases kvs with
  | nil=>exact (bY [(k,v)] rfl rfl (.cons hx .nil))
  | cons _ _=>cases e
 | cons p l ih=>cases kvs with
  | nil=>cases e
  | cons kv kvs=>
   have e1:kv.1=g p.1:=(List.cons.inj e).1
   have n1:=(List.nodup_cons.mp hn).1
   have d:fG ((p :: l).map fun p=>(en p.1,p.2)) (en k) v=match decide (g p.1=g k) with | true=>(en p.1,v) :: (l.map fun p=>(en p.1,p.2)) | false=>(en p.1,p.2) :: fG (l.map fun p=>(en p.1,p.2)) (en k) v:=congrArg (fun o:Option Bool=>match CJ o with | true=>(en p.1,v) :: (l.map fun p:J × V=>(en p.1,p.2)) | false=>(en p.1,p.2) :: fG (l.map fun p:J × V=>(en p.1,p.2)) (en k) v) (hk _ _)
   by_cases q:g p.1=g k
   ·have hst:stored (kv :: kvs) (g k) x=(kv.1,x) :: kvs:=by
     unfold stored
     rw [if_pos (by simp [e1,q]),List.map_cons,if_pos (by rw [e1,q]),map_store_of_not_mem kvs _ x (by rw [<- q,<- e1]; exact n1)]
    rw [d,decide_eq_true q,hst]
    exact (bY ((p.1,v) :: l) rfl e (.cons hx hv.tl))
   ·refine bD (ih (List.cons.inj e).2 (List.nodup_cons.mp hn).2 hv.tl) fun l' a1 a2 a3=>?_
    have hne:¬ kv.1=g k:=by rw [e1]; exact q
    have hst:stored (kv :: kvs) (g k) x=kv :: stored kvs (g k) x:=by
     unfold stored
     simp only [List.any_cons,decide_eq_false hne,Bool.false_or,List.map_cons,if_neg hne]
     split <;> rfl
    rw [d,decide_eq_false q,hst]
    exact (bY (p :: l') (congrArg _ a1) (congr (congrArg _ e1) a2) (.cons hv.hd a3))
theorem lz {f:V->V->Option Bool} {x y:V} {l m:List V} {r:Bool} (e:fM f (x :: l) (y :: m)=some r):∃ a b,f x y=some a/\fM f l m=some b/\(a && b)=r:=by
 refine ae (bnd e) fun a h1 e=>?_
 refine ae (mpd e) fun b h2 h3=>?_
 exact (db a b h1 h2 h3)
theorem rQ (f:V->V->Option Bool) (l m:List V) (r:Bool) (h:fM f l m=some r) :
  ∃ e:Nat->Bool,r=(List.range (min l.length m.length)).all e/\∀ j p q,ao l j=some p->ao m j=some q->f p q=some (e j):=by
 induction l generalizing m r with
 | nil=>exact (ax (fun HC=>true) (by replace h:=oi h; subst h; simp) (fun j p q hp=>nomatch hp))
 | cons x l ih=>cases m with
  | nil=>exact (ax (fun HC=>true) (by replace h:=oi h; subst h; simp) (fun j p q HC hq=>nomatch hq))
  | cons y m=>
   refine aV (lz h) fun a b ha hb zq1=>?_; subst zq1
   refine ae (ih m b hb) fun e he hp=>?_
   refine (ax (fun j=>match j with | 0=>a | j + 1=>e j) ?_ (fun j p q h1 h2=>?_))
   ·rw [he,List.length_cons,List.length_cons,Nat.succ_min_succ,List.range_succ_eq_map,List.all_cons,List.all_map]
    rfl
   ·cases j with
    | zero=>rw [<- oi h1,<- oi h2]; exact ha
    | succ j=>exact hp j p q h1 h2
inductive yC (s:St) (n:Nat):V->V->Bool->Prop
 | int (x y:Int):yC s n (.int x) (.int y) (decide (x=y))
 | str (x y:List Nat):yC s n (.str x) (.str y) (nu x y)
 | bool (x y:Bool):yC s n (.bool x) (.bool y) (x == y)
 | none:yC s n .none .none true
 | tup {l m:List V} {r:Bool}:fM (dO s n) l m=some r->yC s n (.tup l) (.tup m) (r && Nat.beq l.length m.length)
 | lst {a b:V} {l m:List V} {r:Bool}:bX a s=some l->bX b s=some m->ny (dO s n) l m=some r->yC s n a b r
theorem rR (s:St) (n:Nat) (a b:V):dA (dO s (n + 1) a b) fun r=>yC s n a b r:=by
 cases a with
 | int x=>exact .mpd fun y h=>dw h▸.int _ _
 | str x=>exact .mpd fun y h=>d6 h▸.str _ _
 | bool x=>exact .mpd fun y h=>tI h▸.bool _ _
 | none=>exact .grd fun h=>gx h▸.none
 | tup l=>exact .bnd fun m h=>.mpd fun q h1=>AY h▸.tup h1
 | lst l=>exact .bnd fun m h=>dA.eq fun r e=>.lst rfl h e
 | obj i=>
  refine .bnd fun o h=>?_
  cases o with
  | list l=>exact .bnd fun m h1=>dA.eq fun r e=>.lst (show jk (ao s i)=_ by rw [h]; rfl) h1 e
  | _=>trivial
 | _=>trivial
theorem lA {s:St} {n:Nat} {a b:V} {r:Bool} (e:dO s (n + 1) a b=some r):yC s n a b r:=(rR s n a b).of e
theorem pp {a:Addr} {i j:Array Value} (x:IsTup h a i) (y:IsTup h a j):i=j:=by
 refine bD x fun o ho HC zq1=>?_; clear x; refine ay zq1 fun n hd=>?_
 refine bD y fun o' ho' HC zq1=>?_; clear y; refine ay zq1 fun n' hd'=>?_
 rw [ho] at ho'; replace ho':=oi ho'; subst ho'
 rw [hd] at hd'; cases hd'; rfl
theorem nH {a:Addr} {i j:Array Value} (x:h.IsList a i) (y:h.IsList a j):i=j:=by
 refine bD x fun o ho HC zq1=>?_; clear x; refine ay zq1 fun n hd=>?_
 refine bD y fun o' ho' HC zq1=>?_; clear y; refine ay zq1 fun n' hd'=>?_
 rw [ho] at ho'; replace ho':=oi ho'; subst ho'
 rw [hd] at hd'; cases hd'; rfl
theorem kT (I:aG prog w P nm base σ ρ xs s.heap) {n:Nat} (ih:∀ (v v':V) (x:Value) (b:Bool),au P nm s.heap (ρ++xs) ρ v x->au P nm s.heap (ρ++xs) ρ v' x->dO σ n v v'=some b->b=true) {v v':V} {x:Value} {b:Bool} (r:au P nm s.heap (ρ++xs) ρ v x) (r':au P nm s.heap (ρ++xs) ρ v' x) (e:dO σ (n + 1) v v'=some b):b=true:=by
  have all:∀ (l m:List V) (vs:List Value) (c:Bool),ak P nm s.heap (ρ++xs) ρ l vs->ak P nm s.heap (ρ++xs) ρ m vs->fM (dO σ n) l m=some c->c=true:=by
   intro l
   induction l with
   | nil=>exact fun m vs c HC HC e=>(oi e).symm
   | cons p l ihl=>
    intro m vs c h1 h2 e
    refine aV h1 fun z zs zq1 a1 a2=>?_; clear h1; subst zq1
    cases m with
    | nil=>exact (oi e).symm
    | cons q m=>
     refine aV (lz e) fun c1 c2 e1 e2 zq1=>?_; subst zq1
     rw [ih _ _ _ _ a1 h2.hd e1,ihl _ _ _ a2 h2.tl e2]; rfl
  cases lA e with
  | int i j=>
   refine ay r fun t zq1=>?_; clear r; subst zq1
   refine ay r' fun u q=>?_; clear r'
   exact decide_eq_true (Value.int.inj q).1
  | str i j=>
   refine ay r fun t zq1=>?_; clear r; subst zq1
   refine ay r' fun u q=>?_; clear r'
   rw [fV]; exact decide_eq_true (cX (Value.str.inj q).1)
  | bool i j=>
   rw [Value.bool.inj ((show x = .bool i from r).symm.trans r')]; exact beq_self_eq_true j
  | none=>rfl
  | tup h1=>
   refine cJ r fun a vs zq1 ht HC hs=>?_; clear r; subst zq1
   refine cJ r' fun a' vs' q ht' HC hs'=>?_; clear r'
   cases q
   cases (show vs=vs' from congrArg Array.toList (pp ht ht'))
   rw [all _ _ _ _ hs hs' h1,hs.length,hs'.length,Nat.beq_refl]; rfl
  | lst e1 e2 e3=>
   refine aV (b9 I r e1) fun a vs zq1 hl hs=>?_; subst zq1
   refine aV (b9 I r' e2) fun a' vs' q hl' hs'=>?_
   cases q
   cases (show vs=vs' from congrArg Array.toList (nH hl hl'))
   unfold ny at e3
   rw [hs.length,hs'.length,Nat.beq_refl] at e3
   exact all _ _ _ _ hs hs' e3
theorem tL (I:aG prog w P nm base σ ρ xs s.heap) (n:Nat):∀ (v v':V) (x:Value) (b:Bool),au P nm s.heap (ρ++xs) ρ v x->au P nm s.heap (ρ++xs) ρ v' x->dO σ n v v'=some b->b=true:=by
 induction n with
 | zero=>exact fun HC HC HC HC HC HC e=>nomatch e
 | succ n ih=>exact fun v v' x b r r' e=>kT I ih r r' e
noncomputable def C5 (A:Around) (s:Shared) (x y:Value) (b:Bool):Prop:=EqAt A s x y b/\RcAt A s x y b/\RcNeAt A s x y (!b)
theorem rS (I:aG prog w P nm base σ ρ xs s.heap) (hsm:base.get? sysModules≠none) {n:Nat} (ih:∀ (A:Around) (v v':V) (x y:Value) (b:Bool),A.units + n < cLine->au P nm s.heap (ρ++xs) ρ v x->au P nm s.heap (ρ++xs) ρ v' y->dO σ n v v'=some b->EqAt A s x y b) {A:Around} {v v':V} {x y:Value} {b:Bool} (hu:A.units + (n + 1) < cLine) (r:au P nm s.heap (ρ++xs) ρ v x) (r':au P nm s.heap (ρ++xs) ρ v' y) (e:dO σ (n + 1) v v'=some b):C5 A s x y b:=by
  have hu1:A.in1.units + n < cLine:=Nat.lt_of_le_of_lt (Nat.le_of_eq (Nat.succ_add_eq_add_succ A.units n)) hu
  have huc:A.units < cLine:=Nat.lt_of_le_of_lt (Nat.le_add_right _ _) hu
  have all:∀ (l m:List V) (us vs:List Value) (c:Bool),ak P nm s.heap (ρ++xs) ρ l us->ak P nm s.heap (ρ++xs) ρ m vs->fM (dO σ n) l m=some c ->
    ∃ e:Nat->Bool,c=(List.range (min us.toArray.size vs.toArray.size)).all e/\∀ j (h1:j < us.toArray.size) (h2:j < vs.toArray.size),EqAt A.in1 s us.toArray[j] vs.toArray[j] (e j):=by
   intro l m us vs c h1 h2 h3
   refine ae (rQ _ _ _ _ h3) fun e he hp=>?_
   refine (ax e (by rw [he,h1.length,h2.length]; rfl) (fun j q1 q2=>?_))
   refine ay (dh (l:=l) (k:=j) (by rw [h1.length]; exact q1)) fun p hp1=>?_
   refine ay (dh (l:=m) (k:=j) (by rw [h2.length]; exact q2)) fun q hq1=>?_
   refine ae (h1.at hp1) fun x1 hx1 r1=>?_
   refine ae (h2.at hq1) fun x2 hx2 r2=>?_
   rw [show us.toArray[j]=x1 from (List.getElem?_eq_some_iff.mp hx1).2,show vs.toArray[j]=x2 from (List.getElem?_eq_some_iff.mp hx2).2]
   exact ih A.in1 p q x1 x2 _ hu1 r1 r2 (hp j p q hp1 hq1)
  have refs:∀ {a a':Addr},x = .ref a->y = .ref a'->(RcAt A s (.ref a) (.ref a') b/\RcNeAt A s (.ref a) (.ref a') (!b))->C5 A s x y b:=by
   rintro a a' rfl rfl hh
   refine ⟨?_,hh⟩
   by_cases q:a=a'
   ·cases q
    rw [tL I _ _ _ _ _ r r' e]
    exact EqAt.same _
   ·exact EqAt.of_refs q hh.1
  cases lA e with
  | int i j=>
   refine ay r fun t zq1=>?_; clear r; subst zq1
   refine ay r' fun u zq1=>?_; clear r'; subst zq1
   exact (cF (EqAt.int_int _ _ _ _) (RcAt.int_int _ _ _ _) (RcNeAt.int_int _ _ _ _))
  | str i j=>
   refine ay r fun t zq1=>?_; clear r; subst zq1
   refine ay r' fun u zq1=>?_; clear r'; subst zq1
   rw [<- qq]
   exact (cF (EqAt.str_str _ _ _ _) (RcAt.str_str _ _ _ _) (RcNeAt.str_str _ _ _ _))
  | bool i j=>
   rw [show x = .bool i from r,show y = .bool j from r']
   exact (cF (EqAt.bool_bool _ _) (RcAt.bool_bool _ _) (RcNeAt.bool_bool _ _))
  | none=>
   rw [show x = .none from r,show y = .none from r']
   exact (cF (EqAt.same _) RcAt.none_none RcNeAt.none_none)
  | tup h1=>
   refine cJ r fun a vs hx ht HC hs=>?_; clear r
   refine cJ r' fun a' vs' hy ht' HC hs'=>?_; clear r'
   refine refs hx hy ?_
   refine ae (all _ _ _ _ _ hs hs' h1) fun e he hp=>?_
   rw [he,hs.length,hs'.length,show Nat.beq vs.length vs'.length=(vs.toArray.size == vs'.toArray.size) from AX _ _]
   exact ⟨RcAt.tuples ht ht' huc hp,RcNeAt.tuples ht ht' huc hp⟩
  | lst e1 e2 e3=>
   refine aV (b9 I r e1) fun a vs hx hl hs=>?_
   refine aV (b9 I r' e2) fun a' vs' hy hl' hs'=>?_
   refine refs hx hy ?_
   unfold ny at e3
   rw [hs.length,hs'.length] at e3
   cases q:Nat.beq vs.length vs'.length with
   | true=>
    rw [q] at e3
    have hlen:vs.toArray.size=vs'.toArray.size:=A4 q
    refine ae (all _ _ vs vs' b hs hs' e3) fun e he hp=>?_
    rw [he,<- hlen,Nat.min_self]
    exact ⟨RcAt.lists hl hl' hlen huc hp,RcNeAt.lists hl hl' hlen huc hp⟩
   | false=>
    rw [q] at e3
    replace e3:=oi e3; subst e3
    have hne:(vs.toArray.size != vs'.toArray.size)=true:=congrArg not ((AX _ _).symm.trans q)
    exact ⟨RcAt.lists_lengths hl hl' hne huc,RcNeAt.lists_lengths hl hl' hne huc⟩
theorem iL (I:aG prog w P nm base σ ρ xs s.heap) (hsm:base.get? sysModules≠none) (n:Nat):∀ (A:Around) (v v':V) (x y:Value) (b:Bool),A.units + n < cLine->au P nm s.heap (ρ++xs) ρ v x->au P nm s.heap (ρ++xs) ρ v' y->dO σ n v v'=some b->C5 A s x y b:=by
 induction n with
 | zero=>exact fun HC HC HC HC HC HC HC HC HC e=>nomatch e
 | succ n ih=>exact fun A v v' x y b hu r r' e=>rS I hsm (fun A v v' x y b a b' c d=>(ih A v v' x y b a b' c d).1) hu r r' e
theorem qt {y:Int} (h:0 < y/\y<=1000000):y≠0:=Int.ne_of_gt h.1
theorem nJ {y:Int} (h:0 < y/\y<=1000000):y.natAbs < 1073741824:=by omega
theorem fW (I:aG prog w P nm base σ ρ xs s.heap) {l:List V} {vs:List Value} (hs:ak P nm s.heap (ρ++xs) ρ l vs) (g:bh prog w base P nm (.ok (.obj σ.length) (σ++[.list l])) ρ xs Q E s) (t:Nat) :
  Q (.ref s.heap.objs.size) { s with heap:=s.heap.push { cls:=.type "list",data:=.seq vs.toArray },toks:=t }:=by
 have ho:∀ b o,s.heap.get? b=some o->(s.heap.push { cls:=.type "list",data:=.seq vs.toArray }).get? b=some o:=fun b o e=>A8 e
 obtain ⟨S,I'⟩:=I.app (os:=[.list l]) (new:=[s.heap.objs.size]) ho rfl (by simp) (fun a m=>by rw [A2 m]; exact ⟨aZ _,_,Heap.get?_push_size _ rfl⟩) (by
  intro j o a e1 e2
  cases j with
  | succ j=>exact nS e1
  | zero=>
   replace e1:=oi e1; subst e1; replace e2:=oi e2; subst e2
   refine (ax vs ⟨0,Heap.get?_push_size _ rfl⟩ (hs.grow (mod:=[]) ⟨.push _ _,fun HC m=>(nomatch m),fun a m=>?_,fun HC HC e=>bz e⟩))
   rcases A3 m with m | m
   ·rcases A3 m with m | m
    ·exact .inl (A1 m)
    ·rw [A2 m]; exact .inr (aZ _)
   ·exact .inl (A0 m))
 ·refine g _ _ _ _ S I' (.obj ?_)
  rw [<- I.len,aK (Nat.le_refl _),Nat.sub_self]; rfl
theorem dF {o:Option V} (g:bh prog w base P nm (dN o σ) ρ xs Q E s):∃ v,o=some v/\bh prog w base P nm (.ok v σ) ρ xs Q E s:=by
 cases o with
 | none=>exact g.elim
 | some v=>exact (ax v rfl g)
theorem lB {o:Option (List V)} (g:bh prog w base P nm (kR o σ) ρ xs Q E s):∃ l,o=some l/\bh prog w base P nm (.ok (.obj σ.length) (σ++[.list l])) ρ xs Q E s:=by
 cases o with
 | none=>exact g.elim
 | some v=>exact (ax v rfl g)
theorem cZ {a b:V} {x y:Value} (ra:au P nm s.heap (ρ++xs) ρ a x) (rb:au P nm s.heap (ρ++xs) ρ b y) {f:Int->Int->Option V} (g:bh prog w base P nm (dN (eF a b f) σ) ρ xs Q E s) :
  ∃ i t j u v,x = .int i t/\y = .int j u/\f i j=some v/\bh prog w base P nm (.ok v σ) ρ xs Q E s:=by
 refine ae (dF g) fun v e g=>?_
 refine aV (ia e) fun i j h1 h2 e=>?_
 refine ay (h1▸ra) fun t h3=>?_
 refine ay (h2▸rb) fun u h4=>?_
 exact ⟨i,t,j,u,v,h3,h4,e,g⟩
theorem dG {n:Nat} (h:Nat.ble n aP=true):n<=aP:=A5 h
theorem qu {a b:V} {x y:Value} (I:aG prog w P nm base σ ρ xs s.heap) (ra:au P nm s.heap (ρ++xs) ρ a x) (rb:au P nm s.heap (ρ++xs) ρ b y) {l:List V} (e:jB a b σ = some l)
  (k:∀ vs:List Value,ak P nm s.heap (ρ++xs) ρ l vs->Q (.ref s.heap.objs.size) { s with heap:=s.heap.push { cls:=.type "list",data:=.seq vs.toArray } }):wpAny (model prog w) A (binaryOp .Add x y) Q E s:=by
 refine cL fun HC kG=>?_
 refine ae (bnd e) fun l1 h1 e=>?_
 refine ae (bnd e) fun l2 h2 e=>?_
 refine ai (aO e) fun hsz e=>?_
 replace e:=oi e; subst e
 refine aV (b9 I ra h1) fun c vs zq1 hl hs=>?_; subst zq1
 refine aV (b9 I rb h2) fun d us zq1 hl' hs'=>?_; subst zq1
 have hsz:=Nat.le_trans (dG hsz) cq
 rw [hs.length,hs'.length] at hsz
 obtain ⟨⟨cls,dd,data,sl⟩,ho,rfl,n,rfl⟩:=id hl
 obtain ⟨⟨cls2,dd2,data2,sl2⟩,ho2,rfl,n2,rfl⟩:=id hl'
 refine kG ?_
 refine concat_meets (ax _ ho rfl) (ax _ ho2 rfl) noFill_list_add seq_list_add PySem.F.slot_list_add PySem.F.entry_list_add (PySem.F.args_list_add_2 _ _) (PyProof.Rows.list_addW c d vs.toArray us.toArray n n2 dd dd2 sl sl2 hsz) (cF ho ho2 ?_)
 rw [List.append_toArray]
 exact k _ (hs.append hs')
theorem rU {a b:V} {x y:Value} (I:aG prog w P nm base σ ρ xs s.heap) (ra:au P nm s.heap (ρ++xs) ρ a x) (rb:au P nm s.heap (ρ++xs) ρ b y)
  (g:bh prog w base P nm (kR (jB a b σ) σ) ρ xs Q E s):wpAny (model prog w) A (binaryOp .Add x y) Q E s:=
 let ⟨_,e,g⟩:=lB g
 qu I ra rb e fun HC hs=>fW I hs g s.toks
theorem zh {a b:V} {x y:Value} (I:aG prog w P nm base σ ρ xs s.heap) (ra:au P nm s.heap (ρ++xs) ρ a x) (rb:au P nm s.heap (ρ++xs) ρ b y)
  (g:bh prog w base P nm (lh a b σ) ρ xs Q E s):wpAny (model prog w) A (binaryOp .Add x y) Q E s:=by
 unfold lh at g
 cases h1:iO a with
 | some i=>
  rw [h1] at g
  refine ae (dF g) fun v e g=>?_
  refine ae (mpd e) fun j h2 zq1=>?_; subst zq1
  refine ay (dw h1▸ra) fun t zq1=>?_; subst zq1
  refine ay (dw h2▸rb) fun u zq1=>?_; subst zq1
  exact PyProof.Rows.add_int (g.here I (.int _ _) _)
 | none=>
  rw [h1] at g
  cases h1:sO a with
  | some i=>
   rw [h1] at g
   refine ae (dF g) fun v e g=>?_
   refine ae (bnd e) fun j h2 e=>?_
   refine ai (aO e) fun hsz e=>?_
   replace e:=oi e; subst e
   refine ay (d6 h1▸ra) fun t zq1=>?_; subst zq1
   refine ay (d6 h2▸rb) fun u zq1=>?_; subst zq1
   refine PyProof.Rows.add_str (fun t' tk=>?_) (by rw [aL,aL]; exact Nat.le_trans (dG hsz) cq)
   rw [hZ]
   exact g.here I (.str _ _) _
  | none=>rw [h1] at g; exact rU I ra rb g
theorem tM {op:Operator} {a b:V} {x y:Value} (I:aG prog w P nm base σ ρ xs s.heap) (ra:au P nm s.heap (ρ++xs) ρ a x) (rb:au P nm s.heap (ρ++xs) ρ b y)
  (g:bh prog w base P nm (eG op a b σ) ρ xs Q E s):wpAny (model prog w) A (binaryOp op x y) Q E s:=by
 cases op with
 | Add=>exact zh I ra rb g
 | Sub=>
  refine nq (cZ ra rb g) fun i t j u v zq1 zq2 e g=>?_; subst zq1; subst zq2
  exact PyProof.Rows.sub_int (g.here I (oi e▸.int _ _) _)
 | Mult=>
  refine nq (cZ ra rb g) fun i t j u v zq1 zq2 e g=>?_; subst zq1; subst zq2
  refine ai (aO e) fun h e=>?_
  exact PyProof.Rows.mul_int (g.here I (oi e▸.int _ _) _) (yB (of_decide_eq_true h).1)
 | FloorDiv=>
  refine nq (cZ ra rb g) fun i t j u v zq1 zq2 e g=>?_; subst zq1; subst zq2
  refine ai (aO e) fun h e=>?_
  exact PyProof.Rows.floordiv_int (qt (of_decide_eq_true h)) (g.here I (oi e▸.int _ _) _) (.inl (PyProof.noPylong_small (nJ (of_decide_eq_true h))))
 | Mod=>
  refine nq (cZ ra rb g) fun i t j u v zq1 zq2 e g=>?_; subst zq1; subst zq2
  refine ai (aO e) fun h e=>?_
  exact PyProof.Rows.mod_int (qt (of_decide_eq_true h)) (g.here I (oi e▸.int _ _) _)
 | _=>exact g.elim
theorem tN {op:Operator} {a b:V} {x y:Value} (I:aG prog w P nm base σ ρ xs s.heap) (ra:au P nm s.heap (ρ++xs) ρ a x) (rb:au P nm s.heap (ρ++xs) ρ b y)
  (g:bh prog w base P nm (lj op a b σ) ρ xs Q E s):wpAny (model prog w) A (inplaceOp op x y) Q E s:=by
 unfold lj at g
 cases h1:iO a with
 | some i=>
  rw [h1] at g
  cases dw h1
  cases op with
  | Add=>
   refine ae (dF (o:=(iO b).map fun y=>.int (i + y)) g) fun v e g=>?_
   refine ae (mpd e) fun j h2 zq1=>?_; subst zq1
   refine ay ra fun t zq1=>?_; clear ra; subst zq1
   refine ay (dw h2▸rb) fun u zq1=>?_; subst zq1
   exact PyProof.Rows.iadd_int (g.here I (.int _ _) _)
  | Sub=>
   refine nq (cZ ra rb g) fun i t j u v zq1 zq2 e g=>?_; subst zq1; subst zq2
   exact PySem.P.isub_int (g.here I (oi e▸.int _ _) _)
  | Mult=>
   refine nq (cZ ra rb g) fun i t j u v zq1 zq2 e g=>?_; subst zq1; subst zq2
   refine ai (aO e) fun h e=>?_
   exact PySem.P.imul_int (g.here I (oi e▸.int _ _) _) (yB (of_decide_eq_true h).1)
  | FloorDiv=>
   refine nq (cZ ra rb g) fun i t j u v zq1 zq2 e g=>?_; subst zq1; subst zq2
   refine ai (aO e) fun h e=>?_
   exact PyProof.Rows.ifloordiv_int (qt (of_decide_eq_true h)) (g.here I (oi e▸.int _ _) _) (.inl (PyProof.noPylong_small (nJ (of_decide_eq_true h))))
  | Mod=>
   refine nq (cZ ra rb g) fun i t j u v zq1 zq2 e g=>?_; subst zq1; subst zq2
   refine ai (aO e) fun h e=>?_
   exact PyProof.Rows.imod_int (qt (of_decide_eq_true h)) (g.here I (oi e▸.int _ _) _)
  | _=>exact g.elim
 | none=>
  rw [h1] at g
  cases h1:sO a with
  | none=>rw [h1] at g; exact g.elim
  | some i=>
   rw [h1] at g
   cases d6 h1
   cases op with
   | Add=>
    refine ae (dF (o:=(sO b).bind fun y=>grd (Nat.ble (i.length + y.length) aP) (some (.str (i++y)))) g) fun v e g=>?_
    refine ae (bnd e) fun j h2 e=>?_
    refine ai (aO e) fun hsz e=>?_
    replace e:=oi e; subst e
    refine ay ra fun t zq1=>?_; clear ra; subst zq1
    refine ay (d6 h2▸rb) fun u zq1=>?_; subst zq1
    refine PyProof.Rows.iadd_str (fun t' tk=>?_) (by rw [aL,aL]; exact Nat.le_trans (dG hsz) cq)
    rw [hZ]
    exact g.here I (.str _ _) _
   | _=>exact g.elim
theorem d7:∀ (l:List Nat) (c:Nat),aQ l c=decide (c∈l)
 | [],c=>(decide_eq_false List.not_mem_nil).symm
 | x :: l,c=>by
  show (match Nat.beq x c with | true=>true | false=>aQ l c)=_
  by_cases h:x=c
  ·subst h; rw [Nat.beq_refl]; simp
  ·have:Nat.beq x c=false:=by
    cases q:Nat.beq x c with
    | true=>exact absurd (A4 q) h
    | false=>rfl
   rw [this]; dsimp only; rw [d7 l c]
   simp [Ne.symm h]
theorem tP:∀ a b:List Nat,CI a b=decide (a < b)
 | [],[]=>by show false=_; simp
 | _ :: _,[]=>by show false=_; simp
 | [],_ :: _=>by show true=_; simp
 | x :: l,y :: m=>by
  show (match Nat.beq x y with | true=>CI l m | false=>Nat.blt x y)=_
  by_cases h:x=y
  ·subst h; rw [Nat.beq_refl]; dsimp only; rw [tP l m]; simp
  ·have:Nat.beq x y=false:=by
    cases q:Nat.beq x y with
    | true=>exact absurd (A4 q) h
    | false=>rfl
   rw [this]; dsimp only
   rw [Bool.eq_iff_iff,Nat.blt_eq,decide_eq_true_iff,List.cons_lt_cons_iff]
   simp [h]
theorem lC {α:Type} {f g:α->Bool}:∀ {l:List α},(∀ x∈l,f x=g x)->l.any f=l.any g
 | [],_=>rfl
 | x :: l,h=>by rw [List.any_cons,List.any_cons,h x List.mem_cons_self,lC fun y m=>h y (List.mem_cons_of_mem _ m)]
theorem tQ (I:aG prog w P nm base σ ρ xs s.heap) (hsm:base.get? sysModules≠none) (hu:A.units + 11 < cLine) {x:V} {y:Value} (r:au P nm s.heap (ρ++xs) ρ x y)
  {l:List V} {vs:List Value} {b:Bool} (h1:ak P nm s.heap (ρ++xs) ρ l vs) (h:wq σ x l=some b) :
   ∃ e:Value->Bool,(∀ z,z∈vs->EqAt A.in1 s z y (e z))/\vs.any e=b:=by
 induction l generalizing vs b with
 | nil=>replace h:=oi h; subst h; cases h1; exact (ax (fun HC=>false) (fun z m=>(nomatch m)) rfl)
 | cons v l ih=>
  refine aV h1 fun z vs zq1 hv hvs=>?_; clear h1; subst zq1
  refine ae (bnd h) fun c hc h=>?_
  refine ae (mpd h) fun d hd hb=>?_
  refine ae (ih hvs hd) fun e he ha=>?_
  have hz:EqAt A.in1 s z y c:=(iL I hsm 9 A.in1 v x z y c (Nat.lt_of_le_of_lt (by show A.units + 1 + 9<=A.units + 11; omega) hu) hv r hc).1
  by_cases hzm:c=false/\z∈vs
  ·refine (ax e (fun q m=>(A7 m).elim (fun m=>m▸he z hzm.2) (he q)) ?_)
   rw [<- hb,hzm.1,<- ha,List.any_cons,Bool.false_or]
   cases q:e z with
   | false=>rfl
   | true=>exact (List.any_eq_true.mpr (ax z hzm.2 q)).symm
  ·refine (ax (fun q=>if q=z then c else e q) (fun q m=>?_) ?_)
   ·by_cases hq:q=z
    ·subst hq
     show EqAt A.in1 s q y (if q=q then c else e q)
     rw [if_pos rfl]; exact hz
    ·show EqAt A.in1 s q y (if q=z then c else e q)
     rw [if_neg hq]; exact he q ((A7 m).resolve_left hq)
   ·rw [<- hb,<- ha,List.any_cons,if_pos rfl]
    cases c with
    | true=>rfl
    | false=>
     have hn:∀ q∈vs,(if q=z then false else e q)=e q:=fun q m=>if_neg fun y:q=z=>hzm ⟨rfl,y▸m⟩
     exact congrArg (false || ·) (lC hn)
theorem jo (vs:List Value) (e:Value->Bool):vs.toArray.any e=vs.any e:=by simp
noncomputable def DF (P:cz) (nm:Nat->Str) (h:Heap) (ow ρ:List Addr) (f:Option Value) (r:Option V):Prop:=match r with | none=>f=none | some v=>∃ x,f=some x/\au P nm h ow ρ v x
theorem nK {h:Heap} {ow:List Addr} {a:Addr} {es:List (V × V)} (d:me prog w P nm h ow ρ a es) (z:es=[]->h.DictOf (intKind prog w) a []/\h.DictOf (strKind prog w) a []) {i:Int} {r:Option V} (e:fB es (.int i)=some r) :
  ∃ kvs:List (Int × Value),h.DictOf (intKind prog w) a kvs/\DF P nm h ow ρ (valueAt kvs i) r:=by
 cases d with
 | @ofI l kvs h1 h2 h3=>
  refine ae (nG (P:=P) (nm:=nm) id (fun i=>V.int i) lw h2 h3 i) fun r' hr hm=>?_
  rw [hr] at e; replace e:=oi e; subst e
  exact (ax kvs h1 hm)
 | @ofS l kvs h1 h2 h3=>
  cases l with
  | nil=>replace e:=oi e; subst e; exact (ax [] ((z rfl).1) rfl)
  | cons p l=>exact nomatch e
theorem nL {h:Heap} {ow:List Addr} {a:Addr} {es:List (V × V)} (d:me prog w P nm h ow ρ a es) (z:es=[]->h.DictOf (intKind prog w) a []/\h.DictOf (strKind prog w) a []) {i:List Nat} {r:Option V} (e:fB es (.str i)=some r) :
  ∃ kvs:List (Str × Value),h.DictOf (strKind prog w) a kvs/\DF P nm h ow ρ (valueAt kvs (aA i)) r:=by
 cases d with
 | @ofS l kvs h1 h2 h3=>
  refine ae (nG (P:=P) (nm:=nm) aA (fun i=>V.str i) ly h2 h3 i) fun r' hr hm=>?_
  rw [hr] at e; replace e:=oi e; subst e
  exact (ax kvs h1 hm)
 | @ofI l kvs h1 h2 h3=>
  cases l with
  | nil=>replace e:=oi e; subst e; exact (ax [] ((z rfl).2) rfl)
  | cons p l=>exact nomatch e
theorem DF.isSome {h:Heap} {ow:List Addr} {f:Option Value} {r:Option V} (d:DF P nm h ow ρ f r):f.isSome=r.isSome:=by
 cases r with
 | none=>rw [show f=none from d]; rfl
 | some v=>refine ae d fun x hx HC=>?_; clear d; rw [hx]; rfl
theorem isStr (i:Str) (t:Tok):(PySem.strKind prog w).is i (.str i t)=true:=by simp [PySem.strKind,Value.isStrOf]
theorem isInt (i:Int) (t:Tok):(intKind prog w).is i (.int i t)=true:=by simp [intKind,Value.isInt]
theorem mj (I:aG prog w P nm base σ ρ xs s.heap) (hsm:base.get? sysModules≠none) {k:Nat} {a:Addr} (h:ao ρ k=some a):(a == sysModules)=false:=
 beq_eq_false_iff_ne.mpr fun q=>hsm (q▸(I.new a (A1 (aT h))).1)
inductive AZ (x:V) (s:St):V->Bool->Prop
 | txt (l:List Nat) (c:Nat):x = .str [c]->AZ x s (.str l) (aQ l c)
 | tup {l:List V} {b:Bool}:wq s x l=some b->AZ x s (.tup l) b
 | lst {v:V} {l:List V} {b:Bool}:bX v s=some l->wq s x l=some b->AZ x s v b
 | dict {k:Nat} {es:List (V × V)} {r:Option V}:ao s k=some (.dict es)->hV x=true->fB es x=some r->AZ x s (.obj k) r.isSome
theorem kU (x c:V) (s:St):dA (contains x c s) fun b=>AZ x s c b:=by
 cases c with
 | str l=>exact .bnd fun y h1=>.mpd fun ch h2=>.txt l ch (by rw [d6 h1,ez h2])
 | tup l=>exact .eq fun b e=>.tup e
 | lst l=>exact .eq fun b e=>.lst rfl e
 | obj k=>
  refine .bnd fun o h=>?_
  cases o with
  | list l=>exact .eq fun b e=>.lst (show jk (ao s k)=_ by rw [h]; rfl) e
  | dict es=>exact .grd fun h1=>.mpd fun r e=>.dict h h1 e
  | _=>trivial
 | _=>trivial
theorem pq {k:V} (h:hV k=true):(∃ i,k = .int i)\/∃ x,k = .str x:=by
 have q:match hV k with | true=>(∃ i,k = .int i)\/∃ x,k = .str x | false=>True:=by
  cases k with
  | int i=>exact .inl ⟨i,rfl⟩
  | str i=>exact .inr ⟨i,rfl⟩
  | _=>trivial
 rw [h] at q; exact q
noncomputable def C6 (prog:Program) (w:World) (A:Around) (E:Value->Shared->Prop) (s:Shared) (x y:Value) (b:Bool):Prop:=∀ {Q:Value->Shared->Prop},((∀ t,Q (.bool b) { s with toks:=t })->wpAny (model prog w) A (compareOp .In x y) Q E s)/\((∀ t,Q (.bool !b) { s with toks:=t })->wpAny (model prog w) A (compareOp .NotIn x y) Q E s)
theorem i9 (I:aG prog w P nm base σ ρ xs s.heap) (hsm:base.get? sysModules≠none) (hu:A.units + 11 < cLine) {a c:V} {x y:Value} {b:Bool} (ra:au P nm s.heap (ρ++xs) ρ a x) (rc:au P nm s.heap (ρ++xs) ρ c y)
  (e:contains a c σ = some b):C6 prog w A E s x y b:=by
 intro Q
 cases (kU a c σ).of e with
 | txt l ch ha=>
  refine ay (ha▸ra) fun t zq1=>?_; subst zq1
  refine ay rc fun u zq1=>?_; clear rc; subst zq1
  have f:aQ l ch=_:=(d7 l ch).trans (PySem.StrLaws.found_one (aA l) ch).symm
  rw [f]
  exact ⟨fun h=>PyProof.Rows.in_str (h s.toks),fun h=>PyProof.Rows.notIn_str (h s.toks)⟩
 | tup e=>
  refine cJ rc fun d vs zq1 ht HC hs=>?_; clear rc; subst zq1
  refine ae (tQ I hsm hu ra hs e) fun e he ha=>?_
  exact ⟨fun h=>in_tupleAt e ht (fun z m=>he z (by simpa using m)) (by rw [jo,ha]; exact h s.toks),fun h=>notIn_tupleAt e ht (fun z m=>he z (by simpa using m)) (by rw [jo,ha]; exact h s.toks)⟩
 | lst h1 e=>
  refine aV (b9 I rc h1) fun d vs zq1 hl hs=>?_; subst zq1
  refine ae (tQ I hsm hu ra hs e) fun e he ha=>?_
  exact ⟨fun h=>in_listAt e hl (fun z m=>he z (by simpa using m)) (by rw [jo,ha]; exact h s.toks),fun h=>notIn_listAt e hl (fun z m=>he z (by simpa using m)) (by rw [jo,ha]; exact h s.toks)⟩
 | dict h1 h2 e'=>
  refine ae rc fun d zq1 hk=>?_; clear rc; subst zq1
  refine ai (I.obj _ _ _ h1 hk) fun hd hz=>?_
  rcases pq h2 with ⟨k,rfl⟩ | ⟨k,rfl⟩
  ·refine ay ra fun t zq1=>?_; clear ra; subst zq1
   refine ae (nK hd hz e') fun kvs hk1 hm=>?_
   exact ⟨fun h=>wpAny_in_of (isInt k t) (mj I hsm hk) hk1.mapOf (by rw [hm.isSome]; exact h _),fun h=>wpAny_notIn_of (isInt k t) (mj I hsm hk) hk1.mapOf (by rw [hm.isSome]; exact h _)⟩
  ·refine ay ra fun t zq1=>?_; clear ra; subst zq1
   refine ae (nL hd hz e') fun kvs hk1 hm=>?_
   exact ⟨fun h=>wpAny_in_of (isStr (aA k) t) (mj I hsm hk) hk1.mapOf (by rw [hm.isSome]; exact h _),fun h=>wpAny_notIn_of (isStr (aA k) t) (mj I hsm hk) hk1.mapOf (by rw [hm.isSome]; exact h _)⟩
theorem EB {v:V} {z:Value} {h:Heap} {ow:List Addr} (r:au P nm h ow ρ v z):(z == Value.none)=isNone v:=by
 cases q:isNone v with
 | true=>cases gx q; rw [show z = .none from r]; rfl
 | false=>
  cases r.pl with
  | none=>
   have n:∀ v,au P nm h ow ρ v .none->isNone v=true:=fun v r=>by
    cases v with
    | none=>rfl
    | bool b=>exact nomatch (show Value.none = .bool b from r)
    | int i=>exact r.elim fun HC e=>nomatch e
    | str i=>exact r.elim fun HC e=>nomatch e
    | tup l=>exact r.elim fun HC r=>r.elim fun HC e=>nomatch e.1
    | lst l=>exact r.elim fun HC r=>r.elim fun HC e=>nomatch e.1
    | obj k=>exact r.elim fun HC e=>nomatch e.1
    | fn i=>exact r.elim fun HC e=>nomatch e.1
    | exc c fs=>exact r.elim fun HC r=>r.1.elim fun HC r=>r.elim fun HC r=>r.elim fun HC r=>r.elim fun HC r=>r.elim fun HC r=>r.elim fun HC e=>nomatch e.1
    | rng a b=>exact r.elim fun HC r=>r.elim fun HC r=>r.elim fun HC r=>r.elim fun HC e=>nomatch e.1
    | clo i vs=>exact r.elim fun HC r=>r.elim fun HC r=>r.elim fun HC e=>nomatch e.1
   rw [n v r] at q; exact tF q
  | _=>rfl
theorem gz {a b:V} {x y:Value} (ra:au P nm s.heap (ρ++xs) ρ a x) (rb:au P nm s.heap (ρ++xs) ρ b y) {f:Int->Int->Option Bool} {r:Bool} (e:eF a b f=some r) :
  ∃ i t j u,x = .int i t/\y = .int j u/\f i j=some r:=by
 refine aV (ia e) fun i j h1 h2 e=>?_
 refine ay (h1▸ra) fun t h3=>?_
 refine ay (h2▸rb) fun u h4=>?_
 exact ⟨i,t,j,u,h3,h4,e⟩
theorem ib (I:aG prog w P nm base σ ρ xs s.heap) (hsm:base.get? sysModules≠none) (hu:A.units + 11 < cLine) {op:CmpOp} {a c:V} {x y:Value} {b:Bool} (ra:au P nm s.heap (ρ++xs) ρ a x) (rc:au P nm s.heap (ρ++xs) ρ c y)
  (e:dT op a c σ = some b) {Q:Value->Shared->Prop} (h:∀ t,Q (.bool b) { s with toks:=t }):wpAny (model prog w) A (compareOp op x y) Q E s:=by
 have u9:A.units + 9 < cLine:=Nat.lt_of_le_of_lt (Nat.add_le_add_left (by decide) _) hu
 cases op with
 | Eq=>exact (iL I hsm 9 A a c x y b u9 ra rc e).2.1 prog w E Q (h s.toks)
 | NotEq=>
  refine ae (mpd e) fun r hr zq1=>?_; subst zq1
  exact (iL I hsm 9 A a c x y r u9 ra rc hr).2.2 prog w E Q (h s.toks)
 | Lt=>
  refine nn (gz ra rc e) fun i t j u zq1 zq2 e=>?_; subst zq1; subst zq2
  exact PyProof.Rows.lt_int (oi e▸h s.toks)
 | LtE=>
  unfold dT at e
  cases h1:sO a with
  | some k=>
   rw [h1] at e
   refine ae (mpd e) fun j h2 zq1=>?_; subst zq1
   refine ay (d6 h1▸ra) fun t zq1=>?_; subst zq1
   refine ay (d6 h2▸rc) fun u zq1=>?_; subst zq1
   rw [tP] at h
   exact PySem.P.le_str (h s.toks)
  | none=>
   rw [h1] at e
   refine nn (gz ra rc e) fun i t j u zq1 zq2 e=>?_; subst zq1; subst zq2
   exact PyProof.Rows.le_int (oi e▸h s.toks)
 | Gt=>
  refine nn (gz ra rc e) fun i t j u zq1 zq2 e=>?_; subst zq1; subst zq2
  exact PySem.P.gt_int (oi e▸h s.toks)
 | GtE=>
  refine nn (gz ra rc e) fun i t j u zq1 zq2 e=>?_; subst zq1; subst zq2
  exact PySem.P.ge_int (oi e▸h s.toks)
 | Is=>
  refine ai (aO e) fun h1 e=>?_
  cases gx h1
  rw [show y = .none from rc]
  exact is_none (by rw [EB ra,oi e]; exact h s.toks)
 | IsNot=>
  refine ai (aO e) fun h1 e=>?_
  cases gx h1
  rw [show y = .none from rc]
  exact isNot_none (by rw [EB ra,oi e]; exact h s.toks)
 | In=>exact (i9 I hsm hu ra rc e).1 h
 | NotIn=>
  refine ae (mpd e) fun r hr zq1=>?_; subst zq1
  exact (i9 I hsm hu ra rc hr).2 h
theorem aG.grown {h h':Heap} (I:aG prog w P nm base σ ρ xs h) (k:∀ b o,h.get? b=some o->h'.get? b=some o):bq ρ ρ ρ h h'/\aG prog w P nm base σ ρ xs h':=by
 have:=I.app (new:=[]) (os:=[]) k rfl List.nodup_nil (fun a m=>(nomatch m)) (fun j o a e=>by exact nS e)
 rwa [List.append_nil,List.append_nil] at this
theorem eK (nm':Nat->Str) (vn:Nat->Nat) (i:ME) (x y:Value):subscripted (i.toE nm' vn) false x y=operate [x,y] (getItem x y):=by
 cases i <;> rfl
theorem gA {l:List V} {vs:List Value} {h:Heap} {ow:List Addr} (hs:ak P nm h ow ρ l vs) {i:Int} {v:V} (e:item l i=some v) :
  ∃ z,au P nm h ow ρ v z/\((0<=i/\i < 2 ^ 63/\vs.toArray[i.toNat]? = some z)\/(i < 0/\-(vs.toArray.size:Int)<=i/\-(2 ^ 63)<=i/\vs.toArray[(i + vs.toArray.size).toNat]? = some z)):=by
 unfold item at e
 by_cases h0:0<=i
 ·rw [if_pos h0] at e
  by_cases h1:i<=100000
  ·rw [if_pos h1] at e
   refine ae (hs.at e) fun x hx r=>?_
   exact (ax x r (.inl (cF h0 (Int.lt_of_le_of_lt h1 (by decide)) ((List.getElem?_toArray ..).trans hx))))
  ·rw [if_neg h1] at e; exact nS e
 ·rw [if_neg h0] at e
  by_cases h1:i = -1/\l.length<=aP
  ·rw [if_pos h1] at e
   refine ae (hs.last e) fun x hx r=>?_
   refine ai h1 fun zq1 HC=>?_; clear h1; subst zq1
   cases vs with
   | nil=>exact nS hx
   | cons y ys=>
    rw [List.getLast?_eq_getElem?] at hx
    have hn:(-1 + ((ys.length + 1:Nat):Int)).toNat=ys.length:=tE
    exact (ax x r (.inr ⟨by decide,by show -((ys.length + 1:Nat):Int)<=-1; omega,by decide,(List.getElem?_toArray ..).trans ((congrArg (fun k=>(y :: ys)[k]?) hn).trans hx)⟩))
  ·rw [if_neg h1] at e; exact nS e
theorem ja {k:Int} {n:Nat} (h0:0<=k) (h1:k < n):seqIndex? k n=some k.toNat:=by
 unfold seqIndex?
 have h:¬ k < 0:=by omega
 simp only [h,if_false]
 rw [if_pos (by simp only [Bool.and_eq_true,decide_eq_true_eq]; omega)]
theorem nM {a k:V} {b:Bool} (e:ej a k=some b):hV k=true:=by
 have q:dA (ej a k) fun HC=>hV k=true:=by
  cases a with
  | int i=>exact .mpd fun y h=>dw h▸rfl
  | str i=>exact .mpd fun y h=>d6 h▸rfl
  | _=>trivial
 exact q.of e
theorem rV {es:List (V × V)} {k v:V} (e:fB es k=some (some v)):hV k=true:=by
 cases es with
 | nil=>cases e
 | cons p l=>refine ae (bnd e) fun b h HC=>?_; exact nM h
inductive tR (i:V) (s:St):V->V->Prop
 | tup {l:List V} {j:Int} {v:V}:i = .int j->item l j=some v->tR i s (.tup l) v
 | lst {a:V} {l:List V} {j:Int} {v:V}:i = .int j->bX a s=some l->item l j=some v->tR i s a v
 | str {l:List Nat} {j:Int} {c:Nat}:i = .int j->0<=j/\j<=100000->ao l j.toNat=some c->tR i s (.str l) (.str [c])
 | dict {k:Nat} {es:List (V × V)} {v:V}:ao s k=some (.dict es)->fB es i=some (some v)->tR i s (.obj k) v
theorem tS (a i:V) (s:St):dA (sub a i s) fun v=>tR i s a v:=by
 cases a with
 | tup l=>exact .bnd fun j h=>.eq fun v e=>.tup (dw h) e
 | lst l=>exact .bnd fun j h=>.eq fun v e=>.lst (dw h) rfl e
 | str l=>exact .bnd fun j h=>.grd fun h1=>.mpd fun c h2=>.str (dw h) (of_decide_eq_true h1) h2
 | obj k=>
  refine .bnd fun o h=>?_
  cases o with
  | list l=>exact .bnd fun j h1=>.eq fun v e=>.lst (dw h1) (show jk (ao s k)=_ by rw [h]; rfl) e
  | dict es=>exact .eq fun v e=>.dict h (Option.join_eq_some_iff.mp e)
  | _=>trivial
 | _=>trivial
theorem zi (I:aG prog w P nm base σ ρ xs s.heap) {a i v:V} {x y:Value} (ra:au P nm s.heap (ρ++xs) ρ a x) (ri:au P nm s.heap (ρ++xs) ρ i y) (e:sub a i σ = some v)
  (h:∀ z t,au P nm s.heap (ρ++xs) ρ v z->Q z { s with toks:=t }) {value:Expr} {nm':Nat->Str} {vn:Nat->Nat} {sl:ME}:wpAny (model prog w) A (subscriptTail value (sl.toE nm' vn) x y) Q E s:=by
 cases (tS a i σ).of e with
 | tup hi e=>
  refine cJ ra fun d vs zq1 ht HC hs=>?_; clear ra; subst zq1
  refine ay (hi▸ri) fun t zq1=>?_; subst zq1
  refine ae (gA hs e) fun z hz c=>?_
  refine tail_any ht.typeIs slot_tuple_getitem.lookup ?_ (eK _ _ _ _ _)
  rcases c with ⟨c1,c2,c3⟩ | ⟨c1,c2,c3,c4⟩
  ·refine getItem_tuple ht (Int.le_trans (by decide) c1) c2 ?_ c3 (h z s.toks hz)
   refine ay (Array.getElem?_eq_some_iff.mp c3) fun hlt HC=>?_
   exact ja c1 (by omega)
  ·exact getItem_tuple ht c3 (Int.lt_trans c1 (by decide)) (seqIndex_neg c1 c2) c4 (h z s.toks hz)
 | lst hi hl e=>
  refine aV (b9 I ra hl) fun d vs zq1 hl hs=>?_; subst zq1
  refine ay (hi▸ri) fun t zq1=>?_; subst zq1
  refine ae (gA hs e) fun z hz c=>?_
  refine tail_any hl.typeIs slot_list_getitem.lookup ?_ (eK _ _ _ _ _)
  rcases c with ⟨c1,c2,c3⟩ | ⟨c1,c2,c3,c4⟩
  ·exact wpAny_getItem_list hl c1 c2 c3 (h z s.toks hz)
  ·exact wpAny_getItem_list_neg hl c1 c2 c3 c4 (h z s.toks hz)
 | @str l j c hi h1 hc=>
  refine ay (hi▸ri) fun t zq1=>?_; subst zq1
  refine ay ra fun u zq1=>?_; clear ra; subst zq1
  refine tail_any rfl slot_str_getitem.lookup (PyProof.Rows.getItem_str (c:=c) (by have:=h1.2; simp; omega) ?_ (h _ _ (.str [c] _))) (eK _ _ _ _ _)
  have:=b7 hc
  rw [ja h1.1 (by rw [aL]; omega)]
  rw [aJ] at hc
  exact (List.getElem?_toArray ..).trans hc
 | dict h1 e=>
  refine ae ra fun d zq1 hk=>?_; clear ra; subst zq1
  refine ai (I.obj _ _ _ h1 hk) fun hd hz=>?_
  rcases pq (rV e) with ⟨k,rfl⟩ | ⟨k,rfl⟩
  ·refine ay ri fun t zq1=>?_; clear ri; subst zq1
   refine ae (nK hd hz e) fun kvs hk1 zq1=>?_; refine ae zq1 fun x hx hr=>?_
   exact tail_any hk1.typeIs slot_dict_getitem.lookup (wpAny_getItem_of (isInt k t) hk1.mapOf hx (h _ _ hr)) (eK _ _ _ _ _)
  ·refine ay ri fun t zq1=>?_; clear ri; subst zq1
   refine ae (nL hd hz e) fun kvs hk1 zq1=>?_; refine ae zq1 fun x hx hr=>?_
   exact tail_any hk1.typeIs slot_dict_getitem.lookup (wpAny_getItem_of (isStr (aA k) t) hk1.mapOf hx (h _ _ hr)) (eK _ _ _ _ _)
theorem qv {a:Int} {n:Nat} (h:0<=a):clipAt n a=min a.toNat n:=by
 refine ay (Int.eq_ofNat_of_zero_le h) fun k zq1=>?_; subst zq1
 exact clipAt_nat n k
theorem rW {α:Type} (l:List α):∀ hi:Option Int,CL hi=true->yv l hi=l.take (hi.elim l.length (clipAt l.length))
 | none,_=>(List.take_of_length_le (Nat.le_refl _)).symm
 | some b,h=>by
  show l.take b.toNat=l.take (clipAt l.length b)
  rw [qv (of_decide_eq_true h)]
  exact List.take_eq_take_min
theorem rX {α:Type} (l:List α) (n:Nat):∀ lo:Option Int,CL lo=true->yw (l.take n) lo=(l.drop (lo.elim 0 (clipAt l.length))).take (n - lo.elim 0 (clipAt l.length))
 | none,_=>rfl
 | some a,h=>by
  show (l.take n).drop a.toNat=(l.drop (clipAt l.length a)).take (n - clipAt l.length a)
  rw [qv (of_decide_eq_true h),List.drop_take]
  rcases Nat.le_total a.toNat l.length with h' | h'
  ·rw [Nat.min_eq_left h']
  ·rw [Nat.min_eq_right h',List.drop_of_length_le h',List.drop_of_length_le (Nat.le_refl _),List.take_nil,List.take_nil]
theorem tT {α:Type} {l r:List α} {lo hi:Option Int} (e:nz l lo hi=some r) :
  l.length<=aP/\r=(l.drop (lo.elim 0 (clipAt l.length))).take (hi.elim l.length (clipAt l.length) - lo.elim 0 (clipAt l.length)):=by
 refine ai (aO e) fun h e=>?_
 refine ai (Bool.and_eq_true_iff.mp h) fun h1 h=>?_
 refine ai (Bool.and_eq_true_iff.mp h) fun h2 h3=>?_
 exact ⟨dG h1,by rw [<- oi e,rW l hi h3,rX l _ lo h2]⟩
theorem qw (n:Nat) (a:Int):clipAt n a<=n:=Int.ofNat_le.mp (by rw [clipAt_cast]; exact Int.max_le.mpr ⟨Int.natCast_nonneg _,Int.min_le_right _ _⟩)
theorem rY {a b n:Nat} (h1:a<=n) (h2:b<=n) (h:b - a=n):a=0:=by omega
theorem rZ (l:List Nat) (lo hi:Option Int):Txt.slice (aA l) lo hi=aA ((l.drop (lo.elim 0 (clipAt l.length))).take (hi.elim l.length (clipAt l.length) - lo.elim 0 (clipAt l.length))):=by
 have key:PySem.Builtin.Str.strSliceIndices lo hi 1 l.length=sliceRange ((lo.elim 0 (clipAt l.length):Nat):Int) ((hi.elim l.length (clipAt l.length):Nat):Int) 1:=by
  unfold PySem.Builtin.Str.strSliceIndices
  cases lo <;> cases hi <;> simp [clipAt_cast]
 unfold Txt.slice
 rw [aL,key,sliceRange_one]
 have hp:=pick_run (aA l).cps (lo.elim 0 (clipAt l.length)) (hi.elim l.length (clipAt l.length) - lo.elim 0 (clipAt l.length))
 split
 ·rename_i h
  simp only [List.length_map,List.length_range,beq_self_eq_true,Bool.true_and,beq_iff_eq] at h
  have h0:lo.elim 0 (clipAt l.length)=0:=rY (by cases lo; exact Nat.zero_le _; exact qw _ _) (by cases hi; exact Nat.le_refl _; exact qw _ _) h
  rw [h,h0]
  simp [aA]
 ·rw [hp]; rfl
inductive zj (lo hi:Option Int) (s:St):V->V->Prop
 | str {l r:List Nat}:nz l lo hi=some r->zj lo hi s (.str l) (.str r)
 | lst {a:V} {l r:List V}:bX a s=some l->nz l lo hi=some r->zj lo hi s a (.lst r)
theorem tU (a:V) (lo hi:Option Int) (s:St):dA (wt a lo hi s) fun v=>zj lo hi s a v:=by
 unfold wt
 cases h:sO a with
 | some l=>rw [d6 h]; exact .mpd fun r e=>.str e
 | none=>exact .bnd fun l h=>.mpd fun r e=>.lst h e
noncomputable abbrev mn (vl vu:Value):Obj:={ cls:=.type "slice",data:=.fields #[vl,vu,.none] }
theorem zk (I:aG prog w P nm base σ ρ xs s.heap) {a v:V} {x vl vu:Value} {lo hi:Option Int} (ra:au P nm s.heap (ρ++xs) ρ a x) (pl:IsPart vl lo) (pu:IsPart vu hi) (e:wt a lo hi σ = some v)
  (h:∀ z h' tk',bq ρ ρ ρ s.heap h'->aG prog w P nm base σ ρ xs h'->au P nm h' (ρ++xs) ρ v z->Q z { s with heap:=h',toks:=tk' }) {value:Expr} {el eu:Option Expr} {p:Pos} :
  wpAny (model prog w) A (subscriptTail value (.Slice el eu none p) x (.ref s.heap.objs.size)) Q E { s with heap:=s.heap.push { cls:=.type "slice",data:=.fields #[vl,vu,.none] } }:=by
 have k1:∀ b o,s.heap.get? b=some o->(s.heap.push (mn vl vu)).get? b=some o:=fun b o e=>A8 e
 cases (tU a lo hi σ).of e with
 | @str l r hr=>
  refine ay ra fun t zq1=>?_; clear ra; subst zq1
  refine ai (tT hr) fun hm zq1=>?_; subst zq1
  have hz:(aA l).length<=sizeLine:=by rw [aL]; exact Nat.le_trans hm cq
  have kk:KeptH (fun h'=>∀ b o,s.heap.get? b=some o->h'.get? b=some o):=fun h' ob a1=>fun b o e=>A8 (a1 b o e)
  have k0:∀ b o,s.heap.get? b=some o->s.heap.get? b=some o:=fun HC HC e=>e
  have fin:∀ h' t' k,(∀ b o,s.heap.get? b=some o->h'.get? b=some o)->Q (.str (Txt.slice (aA l) lo hi) t') { s with heap:=h',toks:=k }:=fun h' t' k a1=>by
   refine ai (I.grown a1) fun S I'=>?_
   rw [rZ]
   exact h _ _ _ S I' (.str _ _)
  have go:ItemOn (model prog w) A E (.str (aA l) t) (.ref s.heap.objs.size) Q { s with heap:=s.heap.push (mn vl vu) }:=by
   cases pl with
   | none=>cases pu with
    | none=>exact SBH.sliceItem_nn kk k0 fin hz
    | int j u=>exact SBH.sliceItem_ns kk k0 fin hz
   | int i u'=>cases pu with
    | none=>exact SBH.sliceItem_sn kk k0 fin hz
    | int j u=>exact SBH.sliceItem_ss kk k0 fin hz
  refine aV go fun T id hl hT hg=>?_; clear go
  exact tail_any hT hl hg rfl
 | @lst a l r hl hc=>
  refine aV (b9 I ra hl) fun d vs zq1 hl hs=>?_; subst zq1
  refine ai (tT hc) fun hm hr=>?_
  have hlen:=hs.length
  refine tail_any (Heap.IsList.typeIs (s:={ s with heap:=s.heap.push (mn vl vu) }) (hl.push _)) list_getitem_lookup
   (wpAny_getItem_list_slice (hl.push _) (Heap.IsSliceOf.new ..) pl pu .none (by simp) ?_ (by rw [List.size_toArray,<- hlen]; exact Nat.le_trans hm cq)) rfl
  have k2:∀ b o,s.heap.get? b=some o->((s.heap.push (mn vl vu)).push { cls:=.type "list",data:=.seq (slicePick vs.toArray lo hi none) }).get? b=some o:=fun b o e=>A8 (k1 b o e)
  refine ai (I.grown k2) fun S I'=>?_
  refine h _ _ _ S I' (.lst (vs:=(vs.drop (lo.elim 0 (clipAt l.length))).take (hi.elim l.length (clipAt l.length) - lo.elim 0 (clipAt l.length))) ⟨_,Heap.get?_push_size _ rfl,rfl,0,?_⟩ (fun m=>?_) ?_)
  ·show Data.seq _ _=_
   rw [slicePick_plain,List.size_toArray,hlen]
  ·refine ay ((I.new _ m).2) fun o e=>?_
   have:=k1 _ o e
   rw [aZ] at this
   exact nS this
  ·rw [hr]
   exact ((hs.drop _).take _).grow S.growE
noncomputable def jF:Nat->Value
 | 0=>.builtin "len" | 1=>.type "range" | 2=>.builtin "chr" | 3=>.builtin "ord" | 4=>.builtin "max" | 5=>.type "int" | _=>.builtin "isinstance"
theorem mo {n:Nat} (h:Nat.ble n aP=true):(n:Int) < 2 ^ 63:=Int.lt_of_le_of_lt (Int.ofNat_le.mpr (dG h)) (by decide)
inductive tV (s:St):V->V->Prop
 | str {l:List Nat}:Nat.ble l.length aP=true->tV s (.str l) (.int l.length)
 | lst {a:V} {l:List V}:bX a s=some l->Nat.ble l.length aP=true->tV s a (.int l.length)
 | tup {l:List V}:Nat.ble l.length aP=true->tV s (.tup l) (.int l.length)
 | hid {k:Nat} {v:V} {p l:List V}:ao s k=some (.hid p l)->tV s (.obj k) v
theorem tW (a:V) (s:St):dA (fO a s) fun v=>tV s a v:=by
 cases a with
 | str l=>exact .grd fun h=>.str h
 | lst l=>exact .grd fun h=>.lst rfl h
 | tup l=>exact .grd fun h=>.tup h
 | obj k=>
  refine .bnd fun o h=>?_
  cases o with
  | list l=>exact .grd fun h1=>.lst (show jk (ao s k)=_ by rw [h]; rfl) h1
  | hid p l=>exact .eq fun HC HC=>.hid h
  | _=>trivial
 | _=>trivial
theorem wJ (I:aG prog w P nm base σ ρ xs s.heap) {a v:V} {x:Value} (r:au P nm s.heap (ρ++xs) ρ a x) (e:fO a σ = some v) (h:∀ z t,au P nm s.heap (ρ++xs) ρ v z->Q z { s with toks:=t }) :
  wpAny (model prog w) A (call (.builtin "len") [x]) Q E s:=by
 cases (tW a σ).of e with
 | str hm=>
  refine ay r fun t zq1=>?_; clear r; subst zq1
  refine PyProof.Rows.len_str (by rw [aL]; exact Int.not_le.mpr (mo hm)) ?_
  rw [aL]
  exact h _ _ (.int _ _)
 | lst hl hm=>
  refine aV (b9 I r hl) fun d vs zq1 hl hs=>?_; subst zq1
  rw [hs.length] at hm h
  exact call_len_list hl (mo hm) (h _ _ (.int _ _))
 | tup hm=>
  refine cJ r fun d vs zq1 ht HC hs=>?_; clear r; subst zq1
  rw [hs.length] at hm h
  exact PyProof.Rows.len_tuple ht (mo hm) (h _ _ (.int _ _))
 | hid h1=>
  refine ae r fun d zq1 hk=>?_; clear r; subst zq1
  exact (I.obj _ _ _ h1 hk).elim
theorem qx (I:aG prog w P nm base σ ρ xs s.heap) {a b:Int} {t u v:Tok} (h:∀ z h' tk',bq ρ ρ ρ s.heap h'->aG prog w P nm base σ ρ xs h'->au P nm h' (ρ++xs) ρ (.rng a b) z->Q z { s with heap:=h',toks:=tk' }) {k:Nat} :
  Q (.ref s.heap.objs.size) { s with heap:=s.heap.push { cls:=.type "range",data:=.fields #[.int a t,.int b u,.int 1 v] },toks:=k }:=by
 obtain ⟨S,I'⟩:=I.grown (fun b o e=>A8 e)
 exact h _ _ _ S I' (.rng (IsRange.new ..) fun m=>az (aZ _) (I.new _ m).2)
theorem mq {c k:Nat} (h:wu c=some k):(48<=c/\c<=57)/\k=c - 48:=by
 refine ai (aO h) fun a e=>?_
 exact ⟨⟨A5 (aD a),A5 (al a)⟩,(oi e).symm⟩
theorem sa {x:List Nat} {k:Nat} (h:za x=some k):PySem.intText? (aA x)=some (k:Int)/\(aA x).length<=640:=by
 unfold za at h
 cases h1:one x with
 | some c=>
  rw [h1] at h
  cases ez h1
  refine ai (mq h) fun a zq1=>?_; subst zq1
  have e:=intText_digits (x:=aA [c]) (fun d m=>by rw [A2 m]; exact a) (fun h=>nomatch h) (show _<=4300 by rw [aL]; exact A5 rfl)
  exact ⟨e.trans (congrArg some (congrArg Int.ofNat (by show 0 * 10 + (c - 48)=c - 48; omega))),by rw [aL]; exact A5 rfl⟩
 | none=>
  rw [h1] at h
  refine ae (bnd h) fun q h2 h=>?_
  refine ae (bnd h) fun u h3 h=>?_
  refine ae (mpd h) fun v h4 zq1=>?_; subst zq1
  cases mh h2
  refine ai (mq h3) fun a zq1=>?_; subst zq1
  refine ai (mq h4) fun b zq1=>?_; subst zq1
  have e:=intText_digits (x:=aA [q.1,q.2]) (fun d m=>by
   rcases A7 m with rfl | m
   ·exact a
   ·rw [A2 m]; exact b) (fun h=>nomatch h) (show _<=4300 by rw [aL]; exact A5 rfl)
  exact ⟨e.trans (congrArg some (congrArg Int.ofNat (by show (0 * 10 + (q.1 - 48)) * 10 + (q.2 - 48)=10 * (q.1 - 48) + (q.2 - 48); omega))),by rw [aL]; exact A5 rfl⟩
theorem pr (I:aG prog w P nm base σ ρ xs s.heap) (hh:A.handled=none) {b:Nat} {l:List V} {vs:List Value} {v:V} (rs:ak P nm s.heap (ρ++xs) ρ l vs) (e:builtin b l σ = some v)
  (h:∀ z h' tk',bq ρ ρ ρ s.heap h'->aG prog w P nm base σ ρ xs h'->au P nm h' (ρ++xs) ρ v z->Q z { s with heap:=h',toks:=tk' }) :
  wpAny (model prog w) A (call (jF b) vs) Q E s:=by
 have same:∀ z t,au P nm s.heap (ρ++xs) ρ v z->Q z { s with toks:=t }:=fun z t r=>h z s.heap t (.refl _ _ _) I r
 match b,e with
 | 0,e=>
  refine ae (bnd e) fun a h1 e=>?_
  cases ez h1
  refine ae rs.one fun x zq1 r=>?_; subst zq1
  exact wJ I r e same
 | 1,e=>
  change l7 l=some v at e
  unfold l7 at e
  cases h1:one l with
  | some a=>
   rw [h1] at e
   refine ae (bnd e) fun c h2 e=>?_
   refine ai (aO e) fun HC e=>?_
   replace e:=oi e; subst e
   cases ez h1
   refine ae rs.one fun x zq1 r=>?_; subst zq1
   refine ay (dw h2▸r) fun t zq1=>?_; subst zq1
   exact call_range_1 (qx I h)
  | none=>
   rw [h1] at e
   refine ae (bnd e) fun q h2 e=>?_
   cases mh h2
   refine aV rs.two fun x y zq1 r1 r2=>?_; subst zq1
   refine aV (ia e) fun i j h3 h4 e=>?_
   refine ai (aO e) fun HC e=>?_
   replace e:=oi e; subst e
   refine ay (h3▸r1) fun t zq1=>?_; subst zq1
   refine ay (h4▸r2) fun u zq1=>?_; subst zq1
   exact call_range_2 (qx I h)
 | 2,e=>
  refine ae (bnd e) fun a h1 e=>?_
  refine ae (bnd e) fun c h2 e=>?_
  refine ai (aO e) fun hc e=>?_
  replace e:=oi e; subst e
  cases ez h1
  refine ae rs.one fun x zq1 r=>?_; subst zq1
  refine ay (dw h2▸r) fun t zq1=>?_; subst zq1
  have hc:=of_decide_eq_true hc
  exact PySem.P.chr_of_int (by simp; omega) (same _ _ (.str _ _))
 | 3,e=>
  refine ae (bnd e) fun a h1 e=>?_
  refine ae (bnd e) fun c h2 e=>?_
  refine ae (mpd e) fun d h3 zq1=>?_; subst zq1
  cases ez h1
  cases ez h3
  refine ae rs.one fun x zq1 r=>?_; subst zq1
  refine ay (d6 h2▸r) fun t zq1=>?_; subst zq1
  exact PySem.P.ord_of_char (same _ _ (.int _ _))
 | 4,e=>
  refine ae (bnd e) fun q h2 e=>?_
  cases mh h2
  refine aV rs.two fun x y zq1 r1 r2=>?_; subst zq1
  refine aV (ia e) fun i j h3 h4 e=>?_
  refine ay (h3▸r1) fun t zq1=>?_; subst zq1
  refine ay (h4▸r2) fun u zq1=>?_; subst zq1
  refine max_two_ints hh fun h' tk k=>?_
  refine ai (I.grown k) fun S I'=>?_
  have e:=oi e
  by_cases hc:i < j
  ·rw [if_pos hc] at e ⊢
   exact h _ _ _ S I' (e▸.int _ _)
  ·rw [if_neg hc] at e ⊢
   exact h _ _ _ S I' (e▸.int _ _)
 | 5,e=>
  refine ae (bnd e) fun a h1 e=>?_
  refine ae (bnd e) fun x h2 e=>?_
  refine ae (mpd e) fun k h3 zq1=>?_; subst zq1
  cases ez h1
  refine ae rs.one fun z zq1 r=>?_; subst zq1
  refine ay (d6 h2▸r) fun t zq1=>?_; subst zq1
  refine ai (sa h3) fun h4 h5=>?_
  exact KIN.call_text h4 h5 (same _ _ (.int _ _))
 | _ + 6,e=>exact nS e
structure jp (P:cz) (nm:Nat->Str) (base:Heap) (mg mb:Str->Option Value):Prop where
 g:base.Ns mainGlobals mg
 b:base.Ns builtinsNs mb
 gfn:∀ g i,P.gv g = .fn i->∃ f,P.fns i=some f/\mg (nm g)=some (.ref f.addr)
 gmk:∀ g i j,P.gv g = .mk i j->∃ f,P.fns i=some f/\mg (nm g)=some (.ref f.addr)
 gcl:∀ g i,P.gv g = .cls i->∃ cl,P.cls i=some cl/\mg (nm g)=some (.ref cl.addr)
 gbi:∀ g b,P.gv g = .bi b->mg (nm g)=none/\mb (nm g)=some (jF b)
 gval:∀ g v,P.gv g = .val v->∃ x,mg (nm g)=some x/\au P nm base [] [] v x
 inj:∀ a b,nm a=nm b->a=b
 dbg:∀ a,(nm a == ("__debug__":Str))=false
 cld:∀ a,(nm a == ("__classdict__":Str))=false
 dot:∀ a,(nm a == (".0":Str))=false
 sm:base.get? sysModules≠none
theorem aG.baseGrow (I:aG prog w P nm base σ ρ xs s.heap):cK [] [] (ρ++xs) [] ρ base s.heap:=
 ⟨bw.of_stays I.stay,fun HC m=>(nomatch m),fun a m=>.inr (I.new a m).1,fun HC HC e=>by exact nS e⟩
theorem aG.nsG (G:jp P nm base mg mb) (I:aG prog w P nm base σ ρ xs s.heap):s.heap.Ns mainGlobals mg:=dX (mod:=[]) (bw.of_stays I.stay) G.g fun m=>(nomatch m)
theorem aG.nsB (G:jp P nm base mg mb) (I:aG prog w P nm base σ ρ xs s.heap):s.heap.Ns builtinsNs mb:=dX (mod:=[]) (bw.of_stays I.stay) G.b fun m=>(nomatch m)
theorem jG (I:aG prog w P nm base σ ρ xs s.heap) {l:List V} {vs:List Value} (hs:ak P nm s.heap (ρ++xs) ρ l vs) (g:bh prog w base P nm (.ok (.lst l) σ) ρ xs Q E s) (t:Nat) :
  Q (.ref s.heap.objs.size) { s with heap:=s.heap.push { cls:=.type "list",data:=.seq vs.toArray },toks:=t }:=by
 refine ai (I.grown (h':=s.heap.push { cls:=.type "list",data:=.seq vs.toArray }) fun b o e=>A8 e) fun S I'=>?_
 exact g _ _ t _ S I' (.lst (vs:=vs) ⟨_,Heap.get?_push_size _ rfl,rfl,0,rfl⟩ (fun m=>az (aZ _) (I.new _ m).2) (hs.grow S.growE))
theorem wK {a b:V} {x y:Value} (I:aG prog w P nm base σ ρ xs s.heap) (ra:au P nm s.heap (ρ++xs) ρ a x) (rb:au P nm s.heap (ρ++xs) ρ b y)
  (g:bh prog w base P nm (dN ((jB a b σ).map .lst) σ) ρ xs Q E s):wpAny (model prog w) A (binaryOp .Add x y) Q E s:=
 let ⟨_,e,g⟩:=dF g
 let ⟨_,h,e⟩:=mpd e
 qu I ra rb h fun HC hs=>jG I hs (e▸g) s.toks
theorem wL (G:jp P nm base mg mb) (F:ck nm ev vn vars gs ro ce xs) (R:aH P nm ev fes vars own xs s.heap ρ l) {i:Nat} {v:V} (e:ao l i=some (some v)) {p:Pos}
  (h:∀ x,au P nm s.heap (ρ++xs) ρ v x->Q x s):wpAny (model prog w) A (eval (.Name (nm (vn i)) p) ev) Q E s:=by
 refine ae R.ns fun m hn hm=>?_
 refine de (hm i v e) fun c k x h1 h2 h3=>?_
 rw [F.vn i c k h1]
 refine wpAny_Name ?_ (G.dbg c)
 rcases h3 with ⟨rfl,hx⟩ | ⟨hk,a,ha,hc,_⟩
 ·exact wpAny_loadName_local F.hk (F.loc i c h1) hn hx (h x h2)
 ·match k,hk,h1 with
  | 0,hk,_=>exact absurd rfl hk
  | 1,_,h1=>exact wpAny_loadName_cell F.hk (F.cel i c h1) ha hc (h x h2)
  | k + 2,_,h1=>exact (F.fre i c k h1).elim (fun q=>wpAny_loadName_free F.hk q ha hc (h x h2) (G.cld c)) fun q=>wpAny_loadName_cell F.hk q ha hc (h x h2)
theorem fh (G:jp P nm base mg mb) (F:ck nm ev vn vars gs ro ce xs) (I:aG prog w P nm base σ ρ xs s.heap) {g:Nat} (hg:aQ gs g=true) {p:Pos} {x:Value}
  (hx:mg (nm g)=some x) (h:Q x s):wpAny (model prog w) A (eval (.Name (nm g) p) ev) Q E s:=
 Name_function_global F.hk (F.gl g hg) (loadGlobal_global (by rw [F.glo]; exact I.nsG G) hx h) (G.dbg g)
theorem pt (G:jp P nm base mg mb) (F:ck nm ev vn vars gs ro ce xs) (I:aG prog w P nm base σ ρ xs s.heap) {g:Nat} (hg:aQ gs g=true) {p:Pos} {x:Value}
  (hx:mg (nm g)=none/\mb (nm g)=some x) (h:Q x s):wpAny (model prog w) A (eval (.Name (nm g) p) ev) Q E s:=
 Name_function_global F.hk (F.gl g hg) (loadGlobal_builtin (by rw [F.glo]; exact I.nsG G) hx.1 (by rw [F.blt]; exact I.nsB G) hx.2 h) (G.dbg g)
theorem cf (e:ME) (l:List Expr) (ev:Env):starEach (e.toE nm vn :: l) ev=(false,eval (e.toE nm vn) ev) :: starEach l ev:=by
 cases e <;> rfl
theorem d8 (ev:Env) (pos:Pos):∀ (l:bP),(backTo pos (starEach (l.toE nm vn) ev)).any (·.1)=false
 | .nil=>rfl
 | .cons e l=>by
  show (backTo pos (starEach (e.toE nm vn :: l.toE nm vn) ev)).any (·.1)=false
  rw [cf]
  exact d8 ev pos l
theorem jb (pos:Pos) (t:Sem Value) (l:List (Bool × Sem Value)):backTo pos ((false,t) :: l)=(false,t) :: backTo pos l:=rfl
theorem dE {A:Around} {r:dv} (hE:df prog w base P nm r) {fes:List Env} {pos:Pos}:∀ (l:bP) (c:Ctx) (σ:St) (ρ:List Addr) (s:Shared) (Q:List Value->Shared->Prop) (E:Value->Shared->Prop),1<=s.toks ->
  ck nm ev vn vars c.g c.ro c.ce xs->cV A fes c.d c.hm->aG prog w P nm base σ ρ xs s.heap->aH P nm ev fes vars own xs s.heap ρ c.l ->
  AV prog w base P nm (jm r l c σ) ρ xs (T1 Q) (T1 E) s->wpAny (model prog w) A (spliced (backTo pos (starEach (l.toE nm vn) ev))) Q E s
 | .nil,c,σ,ρ,s,Q,E,ht,F,O,I,R,g=>spliced_nil (g.here I .nil s.toks ht)
 | .cons e l,c,σ,ρ,s,Q,E,ht,F,O,I,R,g=>by
  refine wpAny_with_toks ht ?_
  show wpAny (model prog w) A (spliced (backTo pos (starEach (e.toE nm vn :: l.toE nm vn) ev))) (T1 Q) (T1 E) s
  rw [cf,jb]
  refine spliced_cons (hE e c σ A ev fes vn vars own xs ρ s _ _ ht F O I R (af.bindT g fun v σ₁ x h₁ tk₁ aa aq S aj rv aw=>?_))
  refine dE hE l c σ₁ aa _ _ _ aq F O aj (R.stp I S) (af.bindT aw fun vs aI ys aR bC aW aX bl bf rvs aN=>?_)
  exact aN.here bf (.cons (rv.grow bl.growE) rvs) bC
theorem bv {f:Value} (l:bP) {pos:Pos} {Q:Args->Shared->Prop} (h:wpAny (model prog w) A (spliced (backTo pos (starEach (l.toE nm vn) ev))) (fun vs s'=>Q ⟨vs,[]⟩ s') E s) :
  wpAny (model prog w) A (evalArgs f true (backTo pos (starEach (l.toE nm vn) ev)) []) Q E s:=by
 cases l with
 | nil=>
  have h':wpAny (model prog w) A (spliced []) (fun vs s'=>Q ⟨vs,[]⟩ s') E s:=h
  exact fun Γ p hΓ=>PySem.evalArgs_none (h' Γ p hΓ) Γ p hΓ
 | cons e l=>
  have he:backTo pos (starEach (bP.toE nm vn (.cons e l)) ev)=(false,eval (e.toE nm vn) ev) :: backTo pos (starEach (l.toE nm vn) ev):=by
   show backTo pos (starEach (e.toE nm vn :: l.toE nm vn) ev)=_
   rw [cf,jb]
  rw [he] at h ⊢
  exact evalArgs_plain h
theorem jq {A:Around} {fes:List Env} {d:Nat} {hm:Bool} (O:cV A fes d hm):A.units + 11 < cLine:=by
 have:=O.un
 show A.units + 11 < 9900
 omega
theorem wM {own:List Addr} {o:Option Bool} {Q:Bool->Shared->Prop} {E:Value->Shared->Prop} (g:af prog w base P nm own (gJ o σ) AW ρ xs Q E s):∃ b,o=some b:=by
 cases o with
 | none=>exact g.elim
 | some b=>exact ⟨b,rfl⟩
theorem tX {own:List Addr} {o:Option V} {rel:Heap->List Addr->List Addr->V->Value->Prop} (g:af prog w base P nm own (dN o σ) rel ρ xs Q E s):∃ v,o=some v:=by
 cases o with
 | none=>exact g.elim
 | some b=>exact ⟨b,rfl⟩
section
variable {α β:Type} {own:List Addr} {rel:Heap->List Addr->List Addr->α->β->Prop} {Q:β->Shared->Prop} {E:Value->Shared->Prop}
theorem eA {own:List Addr} {o:Option V} {rel:Heap->List Addr->List Addr->V->Value->Prop} {Q E:Value->Shared->Prop} (g:af prog w base P nm own (dN o σ) rel ρ xs Q E s):∃ v,o=some v/\af prog w base P nm own (.ok v σ) rel ρ xs Q E s:=by
 cases o with
 | none=>exact g.elim
 | some b=>exact (ax b rfl g)
theorem bA {b:Bool} {o:aU α} (g:af prog w base P nm own (chk b o) rel ρ xs Q E s):b=true/\af prog w base P nm own o rel ρ xs Q E s:=by
 cases b with
 | false=>exact g.elim
 | true=>exact ⟨rfl,g⟩
theorem bp {γ:Type} {o:Option γ} {f:γ->aU α} (g:af prog w base P nm own (ofO o f) rel ρ xs Q E s):∃ a,o=some a/\af prog w base P nm own (f a) rel ρ xs Q E s:=by
 cases o with
 | none=>exact g.elim
 | some a=>exact (ax a rfl g)
end
theorem qy {α:Type}:∀ {o:Option (Option α)} {a:α},o.join=some a->o=some (some a)
 | some _,_,e=>congrArg some e
theorem iM {b:Bool} (h:(!b)=true):b=false:=by cases b <;> first | rfl | exact fT h
theorem zl {g:GV} {v:V} (e:Ez g=some v):g = .val v\/∃ i,g = .fn i/\v = .fn i:=by
 cases g with
 | val _=>replace e:=oi e; subst e; exact .inl rfl
 | fn i=>replace e:=oi e; subst e; exact .inr (ax i rfl rfl)
 | _=>exact nS e
theorem fi (op:CmpOp) (b:ME):behindInMarks op (b.toE nm vn)=false:=by
 cases b <;> rfl
theorem ig (G:jp P nm base mg mb) {r:dv} (hE:df prog w base P nm r) (hT:kS prog w base P nm r) {C:aS} {fes:List Env} {e:ME} {c:Ctx} (ht:1<=s.toks)
  (F:ck nm ev vn vars c.g c.ro c.ce xs) (O:cV A fes c.d c.hm) (I:aG prog w P nm base σ ρ xs s.heap) (R:aH P nm ev fes vars own xs s.heap ρ c.l)
  (he:match e with | .const ..=>True | .name ..=>True | .glob ..=>True | .bin ..=>True | .addV ..=>True | .un ..=>True | .cmp ..=>True | .ifx ..=>True | .sub ..=>True | _=>False)
  (g:bh prog w base P nm ((step P C r).e e c σ) ρ xs Q E s):wpAny (model prog w) A (eval (e.toE nm vn) ev) Q E s:=by
 cases e with
 | const v k p=>
  have g':bh prog w base P nm (.ok v.v σ) ρ xs Q E s:=g
  cases v with
  | none=>exact wpAny_Constant_none (g'.here I .none s.toks)
  | bool b=>exact wpAny_Constant_bool (g'.here I (.bool b) s.toks)
  | int i=>exact wpAny_Constant_int (g'.here I (.int i _) _)
  | str i=>exact wpAny_Constant_str (g'.here I (.str i _) _)
 | name i p=>
  refine ae (eA g) fun v hv g=>?_
  exact wL G F R (qy hv) fun x r=>g.here I r s.toks
 | glob i p=>
  refine ae (eA g) fun v hv g=>?_
  refine ai (aO hv) fun hg hv=>?_
  rcases zl hv with hv | ⟨j,hj,rfl⟩
  ·refine ae (G.gval _ _ hv) fun x hx r=>?_
   exact fh G F I hg hx (g.here I (r.grow I.baseGrow) s.toks)
  ·refine ae (G.gfn _ _ hj) fun f hf hx=>?_
   exact fh G F I hg hx (g.here I (.fn hf) s.toks)
 | bin a op b p=>
  refine wpAny_BinOp (hE a c σ A ev fes vn vars own xs ρ s _ _ ht F O I R (af.bindT g fun x σ₁ x' h₁ tk₁ aa aq S aj rx aw=>?_))
  refine hE b c σ₁ A ev fes vn vars own xs aa _ _ _ aq F O aj (R.stp I S) (af.bindT aw fun y aI y' aR bC aW aX bl bf ry aN=>?_)
  exact tM bf (rx.grow bl.growE) ry aN
 | addV a b p=>
  refine wpAny_BinOp (hE a c σ A ev fes vn vars own xs ρ s _ _ ht F O I R (af.bindT g fun x σ₁ x' h₁ tk₁ aa aq S aj rx aw=>?_))
  refine hE b c σ₁ A ev fes vn vars own xs aa _ _ _ aq F O aj (R.stp I S) (af.bindT aw fun y aI y' aR bC aW aX bl bf ry aN=>?_)
  exact wK bf (rx.grow bl.growE) ry aN
 | un op a p=>
  cases op with
  | Not=>
   refine wpAny_UnaryOp (hE a c σ A ev fes vn vars own xs ρ s _ _ ht F O I R (af.bindT g fun x σ₁ x' h₁ tk₁ aa aq S aj rx aw=>?_))
   refine ae (eA aw) fun v hv aw=>?_
   refine ae (mpd hv) fun b hb zq1=>?_; subst zq1
   rw [tI hb] at rx
   obtain rfl:=rx
   exact not_value (wpAny_truthy_bool (aw.here aj (.bool _) _))
  | USub=>
   refine wpAny_UnaryOp (hE a c σ A ev fes vn vars own xs ρ s _ _ ht F O I R (af.bindT g fun x σ₁ x' h₁ tk₁ aa aq S aj rx aw=>?_))
   refine ae (eA aw) fun v hv aw=>?_
   refine ae (mpd hv) fun i hi zq1=>?_; subst zq1
   rw [dw hi] at rx
   refine ay rx fun HC zq1=>?_; clear rx; subst zq1
   exact PyProof.Rows.neg_int (aw.here aj (.int _ _) _)
  | _=>exact g.elim
 | cmp a op b p=>
  refine wpAny_Compare1 (hE a c σ A ev fes vn vars own xs ρ s _ _ ht F O I R (af.bindT g fun x σ₁ x' h₁ tk₁ aa aq S aj rx aw=>?_)) (fi op b)
  refine hE b c σ₁ A ev fes vn vars own xs aa _ _ _ aq F O aj (R.stp I S) (af.bindT aw fun y aI y' aR bC aW aX bl bf ry aN=>?_)
  cases hq:dT op x y aI with
  | none=>rw [hq] at aN; exact aN.elim
  | some q=>
   rw [hq] at aN
   exact ib bf G.sm (jq O) (rx.grow bl.growE) ry hq fun t=>aN.here bf (.bool q) t
 | ifx t a b p=>
  refine wpAny_IfExp (hT t c σ A ev fes vn vars own xs ρ s _ _ ht F O I R (af.bindT g fun q σ₁ q' h₁ tk₁ aa aq S aj rq aw=>?_))
  cases rq
  cases q with
  | true=>exact hE a c σ₁ A ev fes vn vars own xs aa _ _ _ aq F O aj (R.stp I S) aw.t1
  | false=>exact hE b c σ₁ A ev fes vn vars own xs aa _ _ _ aq F O aj (R.stp I S) aw.t1
 | sub a i p=>
  refine Subscript_ (hE a c σ A ev fes vn vars own xs ρ s _ _ ht F O I R (af.bindT g fun x σ₁ x' h₁ tk₁ aa aq S aj rx aw=>?_))
  refine hE i c σ₁ A ev fes vn vars own xs aa _ _ _ aq F O aj (R.stp I S) (af.bindT aw fun y aI y' aR bC aW aX bl bf ry aN=>?_)
  refine ay (tX aN) fun v hv=>?_
  rw [hv] at aN
  exact zi bf (rx.grow bl.growE) ry hv fun z t r=>aN.here bf r t
 | _=>exact he.elim
theorem pv {r:dv} (hE:df prog w base P nm r) {fes:List Env} {op:BoolOp} {p:Pos}:∀ (l:bP) (c:Ctx) (σ:St) (ρ:List Addr) (s:Shared) (Q E:Value->Shared->Prop),1<=s.toks ->
  ck nm ev vn vars c.g c.ro c.ce xs->cV A fes c.d c.hm->aG prog w P nm base σ ρ xs s.heap->aH P nm ev fes vars own xs s.heap ρ c.l ->
  bh prog w base P nm (AF r op l c σ) ρ xs Q E s->wpAny (model prog w) A (eval (.BoolOp op (l.toE nm vn) p) ev) Q E s
 | .nil,c,σ,ρ,s,Q,E,ht,F,O,I,R,g=>g.elim
 | .cons e .nil,c,σ,ρ,s,Q,E,ht,F,O,I,R,g=>BoolOp_one (hE e c σ A ev fes vn vars own xs ρ s _ _ ht F O I R g.t1)
 | .cons e (.cons e' l),c,σ,ρ,s,Q,E,ht,F,O,I,R,g=>by
  cases op with
  | And=>
   refine BoolOp_and (hE e c σ A ev fes vn vars own xs ρ s _ _ ht F O I R (af.bindT g fun v σ₁ x h₁ tk₁ aa aq S aj rv aw=>?_))
   cases v with
   | bool b=>
    cases rv
    cases b with
    | false=>exact wpAny_truthy_bool (aw.here aj (.bool _) _)
    | true=>exact wpAny_truthy_bool (pv hE (.cons e' l) c σ₁ aa _ _ _ aq F O aj (R.stp I S) aw)
   | _=>exact aw.elim
  | Or=>
   refine BoolOp_or (hE e c σ A ev fes vn vars own xs ρ s _ _ ht F O I R (af.bindT g fun v σ₁ x h₁ tk₁ aa aq S aj rv aw=>?_))
   cases v with
   | bool b=>
    cases rv
    cases b with
    | true=>exact wpAny_truthy_bool (aw.here aj (.bool _) _)
    | false=>exact wpAny_truthy_bool (pv hE (.cons e' l) c σ₁ aa _ _ _ aq F O aj (R.stp I S) aw)
   | _=>exact aw.elim
theorem px {r:dv} (hT:kS prog w base P nm r) {fes:List Env} {op:BoolOp}:∀ (l:bP) (c:Ctx) (σ:St) (ρ:List Addr) (s:Shared) (Q:Bool->Shared->Prop) (E:Value->Shared->Prop),1<=s.toks ->
  ck nm ev vn vars c.g c.ro c.ce xs->cV A fes c.d c.hm->aG prog w P nm base σ ρ xs s.heap->aH P nm ev fes vars own xs s.heap ρ c.l ->
  qp prog w base P nm (tv r op l c σ) ρ xs Q E s->wpAny (model prog w) A (allTrue op (l.toE nm vn) ev) Q E s
 | .nil,c,σ,ρ,s,Q,E,ht,F,O,I,R,g=>by
  cases op with
  | And=>exact wpAny_allTrue_And_nil (g.here I rfl s.toks)
  | Or=>exact wpAny_allTrue_Or_nil (g.here I rfl s.toks)
 | .cons e l,c,σ,ρ,s,Q,E,ht,F,O,I,R,g=>by
  cases op with
  | And=>
   refine wpAny_allTrue_And_cons (hT e c σ A ev fes vn vars own xs ρ s _ _ ht F O I R (af.bindT g fun v σ₁ x h₁ tk₁ aa aq S aj rv aw=>?_))
   cases rv
   cases v with
   | true=>exact px hT l c σ₁ aa _ _ _ aq F O aj (R.stp I S) aw
   | false=>exact aw.here aj rfl _
  | Or=>
   refine wpAny_allTrue_Or_cons (hT e c σ A ev fes vn vars own xs ρ s _ _ ht F O I R (af.bindT g fun v σ₁ x h₁ tk₁ aa aq S aj rv aw=>?_))
   cases rv
   cases v with
   | false=>exact px hT l c σ₁ aa _ _ _ aq F O aj (R.stp I S) aw
   | true=>exact aw.here aj rfl _
theorem jH (o1 o2:CmpOp) (b d:ME):lastMarks [o1,o2] [b.toE nm vn,d.toE nm vn]=false:=fi o2 d
theorem jI (G:jp P nm base mg mb) {own:List Addr} {fes:List Env} {d:Nat} {hm:Bool} (O:cV A fes d hm) (ht:1<=s.toks) (I:aG prog w P nm base σ ρ xs s.heap) {op:CmpOp} {a b:V} {x y:Value} (ra:au P nm s.heap (ρ++xs) ρ a x) (rb:au P nm s.heap (ρ++xs) ρ b y)
  {α β:Type} {k:Bool->St->aU α} {rel:Heap->List Addr->List Addr->α->β->Prop} {Q':β->Shared->Prop} (g:af prog w base P nm own ((gJ (dT op a b σ) σ).bind k) rel ρ xs Q' E s)
  (h:∀ q t,1<=t->af prog w base P nm own (k q σ) rel ρ xs Q' E { s with toks:=t }->Q (.bool q) { s with toks:=t }):wpAny (model prog w) A (compareOp op x y) Q E s:=by
 cases hq:dT op a b σ with
 | none=>rw [hq] at g; exact g.elim
 | some q=>
  rw [hq] at g
  exact wpAny_with_toks ht (ib I G.sm (jq O) ra rb hq fun t h1=>h q t h1 (af.shift (t₁:=t) g (.refl _ _ _)))
noncomputable def nN (P:cz) (nm:Nat->Str) (h:Heap) (ow ρ:List Addr):Option V->Value->Prop
 | none,x=>x = .none
 | some v,x=>au P nm h ow ρ v x
theorem nN.grow {mod ow ow' ρ ρ':List Addr} {h h':Heap} (g:cK mod ow ow' ρ ρ' h h') {v:Option V} {x:Value} (r:nN P nm h ow ρ v x):nN P nm h' ow' ρ' v x:=by
 cases v with
 | none=>exact r
 | some v=>exact au.grow g r
theorem tY {r:dv} (hE:df prog w base P nm r) {fes:List Env} (o:MO) (c:Ctx) (ht:1<=s.toks)
  (F:ck nm ev vn vars c.g c.ro c.ce xs) (O:cV A fes c.d c.hm) (I:aG prog w P nm base σ ρ xs s.heap) (R:aH P nm ev fes vars own xs s.heap ρ c.l)
  (g:af prog w base P nm [] (AK r o c σ) (nN P nm) ρ xs (T1 Q) (T1 E) s):wpAny (model prog w) A (evalPart (o.toE nm vn) ev) Q E s:=by
 cases o with
 | none=>exact wpAny_pure (g.here I rfl s.toks ht)
 | some e=>
  refine wpAny_with_toks ht (hE e c σ A ev fes vn vars own xs ρ s _ _ ht F O I R (af.bindT g fun v σ₁ x h₁ tk₁ aa aq S aj rv aw=>?_))
  exact aw.here aj rv tk₁
theorem jc {h':Heap} {ow:List Addr} {v:Option V} {i:Option Int} {x:Value} (e:pg v=some i) (r:nN P nm h' ow ρ v x):IsPart x i:=by
 cases v with
 | none=>replace e:=oi e; subst e; rw [show x = .none from r]; exact .none
 | some v=>
  refine ae (mpd e) fun i h zq1=>?_; subst zq1
  cases dw h
  refine ay ((show au P nm h' ow ρ (.int i) x from r)) fun t zq1=>?_; subst zq1
  exact .int _ _
theorem pz (I:aG prog w P nm base σ ρ xs s.heap) {l:List V} {vs:List Value} (hs:ak P nm s.heap (ρ++xs) ρ l vs) (g:bh prog w base P nm (.ok (.tup l) σ) ρ xs Q E s) (t:Nat) :
  Q (.ref s.heap.objs.size) { s with heap:=s.heap.push { cls:=.type "tuple",data:=.seq vs.toArray },toks:=t }:=by
 refine ai (I.grown (h':=s.heap.push { cls:=.type "tuple",data:=.seq vs.toArray }) fun b o e=>A8 e) fun S I'=>?_
 refine g _ _ t _ S I' (.tup (vs:=vs) ⟨_,Heap.get?_push_size _ rfl,rfl,0,rfl⟩ (fun m=>az (aZ _) (I.new _ m).2) (hs.grow S.growE))
theorem nO (I:aG prog w P nm base σ ρ xs s.heap) :
  bq ρ ρ (ρ++[s.heap.objs.size]) s.heap (s.heap.push { cls:=.type "dict",data:=.dict #[] })/\aG prog w P nm base (σ++[.dict []]) (ρ++[s.heap.objs.size]) xs (s.heap.push { cls:=.type "dict",data:=.dict #[] }):=by
 refine I.app (os:=[.dict []]) (new:=[s.heap.objs.size]) (fun b o e=>A8 e) rfl (by simp) (fun a m=>by rw [A2 m]; exact ⟨aZ _,_,Heap.get?_push_size _ rfl⟩) fun j o a e1 e2=>?_
 cases j with
 | succ j=>exact nS e1
 | zero=>
  replace e1:=oi e1; subst e1; replace e2:=oi e2; subst e2
  exact ⟨.ofI (l:=[]) (Heap.DictOf.new _) rfl .nil,fun HC=>⟨Heap.DictOf.new _,Heap.DictOf.new _⟩⟩
theorem wN {own:List Addr} {o:Option (List V)} {rel:Heap->List Addr->List Addr->V->Value->Prop} {Q E:Value->Shared->Prop} (g:af prog w base P nm own (kR o σ) rel ρ xs Q E s):∃ l,o=some l/\af prog w base P nm own (.ok (.obj σ.length) (σ++[.list l])) rel ρ xs Q E s:=by
 cases o with
 | none=>exact g.elim
 | some l=>exact (ax l rfl g)
theorem lD (G:jp P nm base mg mb) {r:dv} (hE:df prog w base P nm r) {C:aS} {fes:List Env} {e:ME} {c:Ctx} (ht:1<=s.toks)
  (F:ck nm ev vn vars c.g c.ro c.ce xs) (O:cV A fes c.d c.hm) (I:aG prog w P nm base σ ρ xs s.heap) (R:aH P nm ev fes vars own xs s.heap ρ c.l)
  (he:match e with | .bools ..=>True | .cmp2 ..=>True | .tup ..=>True | .list ..=>True | .lstV ..=>True | .slice ..=>True | _=>False)
  (g:bh prog w base P nm ((step P C r).e e c σ) ρ xs Q E s):wpAny (model prog w) A (eval (e.toE nm vn) ev) Q E s:=by
 cases e with
 | bools op l p=>exact pv hE l c σ ρ s Q E ht F O I R g
 | cmp2 a o1 b o2 d p=>
  refine Compare_chain (hE a c σ A ev fes vn vars own xs ρ s _ _ ht F O I R (af.bindT g fun x σ₁ x' h₁ tk₁ aa aq S aj rx aw=>?_)) (jH o1 o2 b d)
  refine chain_link (hE b c σ₁ A ev fes vn vars own xs aa _ _ _ aq F O aj (R.stp I S) (af.bindT aw fun y aI y' aR bC aW aX bl bf ry aN=>?_))
  refine jI G O aX bf (rx.grow bl.growE) ry aN fun q t h1 dq=>wpAny_truthy_bool ?_
  cases q with
  | false=>exact dq.here bf (.bool _) _
  | true=>
   refine chain_last (hE d c aI A ev fes vn vars own xs aW _ _ _ h1 F O bf ((R.stp I S).stp aj bl) (af.bindT dq fun z dU z' cO fX jd cI gV ei rz gW=>?_))
   exact jI G O cI ei (ry.grow gV.growE) rz gW fun q t h1 C7=>C7.here ei (.bool _) _
 | tup l k p=>
  refine wpAny_Tuple (dE hE l c σ ρ s _ _ ht F O I R (af.bindT g fun vs σ₁ ys h₁ tk₁ aa aq S aj rs aw=>?_))
  refine cL fun HC kG=>?_
  refine ae (eA aw) fun v hv aw=>?_
  refine ai (aO hv) fun hz hv=>?_
  replace hv:=oi hv; subst hv
  refine kG ?_
  exact ⟨by rw [<- rs.length]; exact Nat.le_trans (A5 hz) cq,pz aj rs aw _⟩
 | list l p=>
  refine wpAny_List (dE hE l c σ ρ s _ _ ht F O I R (af.bindT g fun vs σ₁ ys h₁ tk₁ aa aq S aj rs aw=>?_))
  refine cL fun HC kG=>?_
  refine ae (wN aw) fun v hv aw=>?_
  refine ai (aO hv) fun hz hv=>?_
  replace hv:=oi hv; subst hv
  refine kG ?_
  exact ⟨by rw [<- rs.length]; exact Nat.le_trans (A5 hz) cq,fW aj rs aw _⟩
 | lstV l p=>
  refine wpAny_List (dE hE l c σ ρ s _ _ ht F O I R (af.bindT g fun vs σ₁ ys h₁ tk₁ aa aq S aj rs aw=>?_))
  refine cL fun HC kG=>?_
  refine ae (eA aw) fun v hv aw=>?_
  refine ai (aO hv) fun hz hv=>?_
  replace hv:=oi hv; subst hv
  refine kG ?_
  exact ⟨by rw [<- rs.length]; exact Nat.le_trans (A5 hz) cq,jG aj rs aw _⟩
 | slice a lo hi sp p=>
  refine Subscript_ (hE a c σ A ev fes vn vars own xs ρ s _ _ ht F O I R (af.bindT g fun x σ₁ x' h₁ tk₁ aa aq S aj rx aw=>?_))
  refine wpAny_Slice (tY hE lo c aq F O aj (R.stp I S) (af.bindT aw fun y aI y' aR bC aW aX bl bf ry aN=>?_))
  refine tY hE hi c aX F O bf ((R.stp I S).stp aj bl) (af.bindT aN fun z dU z' cO fX jd cI gV ei rz dq=>?_)
  refine wpAny_pure ?_
  refine cL fun HC kG=>?_
  refine ae (eA dq) fun v hv dq=>?_
  refine ae (bnd hv) fun l' e1 hv=>?_
  refine ae (bnd hv) fun h' e2 hv=>?_
  refine kG ?_
  exact zk ei ((rx.grow bl.growE).grow gV.growE) (jc e1 (ry.grow gV.growE)) (jc e2 rz) hv fun z h' tk' S' I' r'=>dq z h' tk' _ S' I' r'
 | _=>exact he.elim
structure nP (P:cz) (nm:Nat->Str) (C:aS) (base:Heap) (cl:lg):Prop where
 at_:∃ N mN,ClsAt base cl.addr N mN/\mN "__getattribute__" = none/\mN "__setattr__" = none/\(∀ c,aQ C.attrs c=true->mN (nm c)=none)/\∃ f o,P.fns cl.init=some f/\mN "__init__" = some (.ref f.addr)/\base.get? f.addr=some o/\o.cls = .type "function"
 look:∀ c,aQ C.attrs c=true->typeLookup (.type "object") (nm c)=pure none
structure nQ (nm:Nat->Str) (C:aS):Prop where
 append:nm C.append = "append"
 pop:nm C.pop = "pop"
 find:nm C.find = "find"
 replace:nm C.replace = "replace"
 split:nm C.split = "split"
theorem lE {m:Str->Option Value} {h:Heap} {ow:List Addr}:∀ {fs:List (Nat × V)} {ys:List Value} {c:Nat} {v:V},tD nm m fs ys->ak P nm h ow ρ (fs.map (·.2)) ys->find fs c=some v->∃ x,m (nm c)=some x/\au P nm h ow ρ v x
 | [],_,_,_,_,_,e=>by exact nS e
 | p :: fs,[],_,_,n,_,_=>n.elim
 | p :: fs,y :: ys,c,v,n,r,e=>by
  refine ai n fun n1 n2=>?_; clear n
  replace e:(match Nat.beq p.1 c with | true=>some p.2 | false=>find fs c)=some v:=e
  cases hq:Nat.beq p.1 c with
  | true=>
   rw [hq] at e
   replace e:=oi e; subst e
   rw [A4 hq] at n1
   exact (ax y n1 r.hd)
  | false=>rw [hq] at e; exact lE n2 r.tl e
theorem tZ {h:Heap} {ow:List Addr} {v:V} {x:Value} (r:au P nm h ow ρ v x):handedOut x=pure x:=by
 cases r.pl <;> rfl
theorem wO (a:ME) (attr:Str) (ev:Env) (hb:dZ a=true):attributeBase (a.toE nm vn) attr ev (eval (a.toE nm vn) ev)=eval (a.toE nm vn) ev:=by
 cases a <;> first | rfl | exact fT hb
theorem qz (I:aG prog w P nm base σ ρ xs s.heap) {k:Nat} {x:Addr} (hk:ao ρ k=some x) {c:Nat} {fs:List (Nat × V)} (h1:ao σ k=some (.inst c)) (h2:ao σ (k + 1)=some (.ns fs)) :
  ∃ d cl m,P.cls c=some cl/\cl.kind=0/\ao ρ (k + 1)=some d/\s.heap.Inst x cl.addr m/\(∃ o,s.heap.get? x=some o/\o.dict=some d/\o.cls = .ref cl.addr/\(∀ c,o.data≠.cls c))/\(∀ c v,find fs c=some v->∃ x,m (nm c)=some x/\au P nm s.heap (ρ++xs) ρ v x)/\Within m (fs.map fun p=>nm p.1):=by
 refine nk (I.obj _ _ _ h1 hk) fun o d cl hc h0 ho hcl hdat hdict hn=>?_
 refine bD (I.obj _ _ _ h2 hn) fun m hm hv hw=>?_
 refine (nr d cl m hc h0 hn (jA o ho hcl hdat (.inr (bY d hdict ?_ hm))) (jA o ho hdict hcl hdat) hv hw)
 intro z
 subst z
 exact absurd (iK (List.nodup_append.mp I.nd).1 hk hn) (by omega)
theorem pA {C:aS} (K:∀ c cl,P.cls c=some cl->cl.kind=0->nP P nm C base cl) (I:aG prog w P nm base σ ρ xs s.heap) {k:Nat} {x:Addr} (hk:ao ρ k=some x) {c:Nat} {fs:List (Nat × V)} (h1:ao σ k=some (.inst c)) (h2:ao σ (k + 1)=some (.ns fs))
  {f:Nat} {v:V} (hfa:aQ C.attrs f=true) (e:find fs f=some v) (h:∀ z t,au P nm s.heap (ρ++xs) ρ v z->Q z { s with toks:=t }):wpAny (model prog w) A (getAttr (.ref x) (nm f) true) Q E s:=by
 refine cL fun HC kG=>?_
 refine nk (qz I hk h1 h2) fun d cl m hc h0 hn hI HC hv hw=>?_
 obtain ⟨⟨N,mN,X,g1,g2,g3,_⟩,g4⟩:=K c cl hc h0
 refine ae (hv _ _ e) fun z hz r=>?_
 obtain ⟨hh,g,dr,t,os⟩:=s
 have X':=X.keeps (fun b o e=>I.stay b o e)
 obtain ⟨cn,q,bs,sn,sub,col,dd,k0,k1,k2,k3,k5,hC⟩:=X'.obj
 refine kG ?_
 exact load_attr hC X'.ns g1 (g3 f hfa) (g4 f hfa) hI hz (tZ r) (h z _ r)
theorem CP {a b:Nat} (h:a≠b):Nat.beq a b=false:=Bool.eq_false_iff.mpr fun q=>h (A4 q)
theorem nR {α:Type} {c c':Nat} {v:α}:∀ (fs:List (Nat × α)),find (wm fs c v) c'=if c'=c then some v else find fs c'
 | []=>by
  show (match Nat.beq c c' with | true=>some v | false=>none)=if c'=c then some v else none
  by_cases h:c'=c
  ·subst h; rw [if_pos rfl,Nat.beq_refl]
  ·rw [if_neg h,CP (Ne.symm h)]
 | p :: fs=>by
  show find (match Nat.beq p.1 c with | true=>(c,v) :: fs | false=>p :: wm fs c v) c'=if c'=c then some v else (match Nat.beq p.1 c' with | true=>some p.2 | false=>find fs c')
  by_cases hq:p.1=c
  ·rw [hq,Nat.beq_refl]
   show (match Nat.beq c c' with | true=>some v | false=>find fs c')=_
   by_cases h:c'=c
   ·subst h; rw [if_pos rfl,Nat.beq_refl]
   ·rw [if_neg h,CP (Ne.symm h)]
  ·rw [CP hq]
   show (match Nat.beq p.1 c' with | true=>some p.2 | false=>find (wm fs c v) c')=_
   rw [nR fs]
   by_cases h:p.1=c'
   ·have ne:¬ c'=c:=fun z=>hq (h.trans z)
    rw [h,Nat.beq_refl,if_neg ne,if_neg ne]
   ·rw [CP h]
theorem iN {α:Type} {c:Nat} {v:α} {n:Nat}:∀ {fs:List (Nat × α)},(n∈fs.map (·.1)\/n=c)->n∈(wm fs c v).map (·.1)
 | [],h=>List.mem_singleton.mpr (h.elim nofun id)
 | p :: fs,h=>by
  show n∈(match Nat.beq p.1 c with | true=>(c,v) :: fs | false=>p :: wm fs c v).map (fun q:Nat × α=>q.1)
  cases hq:Nat.beq p.1 c with
  | true=>
   have:=A4 hq
   simp only [List.map_cons,List.mem_cons] at h ⊢
   rcases h with (h | h) | h
   ·exact .inl (h.trans this)
   ·exact .inr h
   ·exact .inl h
  | false=>
   simp only [List.map_cons,List.mem_cons] at h ⊢
   rcases h with (h | h) | h
   ·exact .inl h
   ·exact .inr (iN (.inl h))
   ·exact .inr (iN (.inr h))
theorem pB {C:aS} (K:∀ c cl,P.cls c=some cl->cl.kind=0->nP P nm C base cl) (inj:∀ a b,nm a=nm b->a=b) (I:aG prog w P nm base σ ρ xs s.heap) {k:Nat} {x:Addr} (hk:ao ρ k=some x) {c:Nat} {fs:List (Nat × V)} (h1:ao σ k=some (.inst c)) (h2:ao σ (k + 1)=some (.ns fs))
  {f:Nat} {v:V} {z:Value} (hfa:aQ C.attrs f=true) (rv:au P nm s.heap (ρ++xs) ρ v z) (hn:fs.length<=100) {Q:Unit->Shared->Prop}
  (h:∀ h' t,bq ρ ρ ρ s.heap h'->aG prog w P nm base (bc σ (k + 1) (.ns (wm fs f v))) ρ xs h'->Q () { s with heap:=h',toks:=t }):wpAny (model prog w) A (setAttr (.ref x) (nm f) z) Q E s:=by
 refine cL fun HC kG=>?_
 refine nk (qz I hk h1 h2) fun d cl m hc h0 hd hI zq1 hv hw=>?_; refine y1 zq1 fun ox hox hdict hcls hdat=>?_
 obtain ⟨⟨N,mN,X,g1,g2,g3,_⟩,g4⟩:=K c cl hc h0
 have X':=X.keeps (fun b o e=>I.stay b o e)
 obtain ⟨hh,g,dr,t,os⟩:=s
 obtain ⟨cn,q,bs,sn,sub,col,dd,k0,k1,k2,k3,k5,hC⟩:=X'.obj
 refine kG ?_
 have hxd:x≠d:=fun z=>by
  subst z
  exact absurd (iK (List.nodup_append.mp I.nd).1 hk hd) (by omega)
 have hxC:x≠cl.addr:=fun z=>by
  obtain ⟨_,_,_,_,_,_,_,_,_,_,_,_,e⟩:=X.obj
  have:=(I.new x (A1 (aT hk))).1
  rw [z,e] at this; exact Sn this
 have hsz:=cq
 refine store_attr PySem.F.store_object hC X'.ns g2 (g3 f hfa) (g4 f hfa) hxC hI (fun h' tk' I' hkk hsame=>?_) hw (by rw [List.length_map]; have:aP=100000:=rfl; omega)
 refine tq (hsame ox hox) fun ua jJ A9 Ba s₁ t₁=>?_
 have hox':h'.get? x=some ox:=by
  rw [jJ]
  obtain ⟨oc,odi,oda,osl⟩:=ox
  obtain ⟨oc',odi',oda',osl'⟩:=ua
  simp only at A9 Ba s₁ hdict
  have:=t₁ d hdict
  simp only at this
  subst A9 Ba s₁ this hdict
  rfl
 have kd:∀ b o,b≠d->hh.get? b=some o->h'.get? b=some o:=fun b o nb e=>by
  by_cases hb:b=x
  ·subst hb
   rw [hox] at e; replace e:=oi e; subst e
   exact hox'
  ·refine hkk b o hb (fun tH dx wQ ed=>?_) e
   rw [hox] at wQ; replace wQ:=oi wQ; subst wQ
   rw [hdict] at ed; replace ed:=oi ed; subst ed
   exact nb
 refine y1 I' fun o' ho' hc' hnc' hdd=>?_; clear I'
 rw [hox'] at ho'; replace ho':=oi ho'; subst ho'
 have hm':h'.Ns1 d (fun y=>if y=nm f then some z else m y):=by
  rcases hdd with ⟨hn,_⟩ | ⟨d',hd',_,hns⟩
  ·rw [hdict] at hn; exact Sn hn
  ·rw [hdict] at hd'; replace hd':=oi hd'; subst hd'
   exact hns
 have hl:bZ h' d:=by refine fE hm' fun o HC HC e HC=>?_; clear hm'; exact ⟨o,e⟩
 have G:cK [d] (ρ++xs) (ρ++xs) ρ ρ hh h':=⟨.of_but kd hl,fun a m=>by rw [A2 m]; exact A1 (aT hd),fun HC m=>.inl m,fun HC HC e=>e⟩
 obtain ⟨S,I2⟩:=I.upd (o':=.ns (wm fs f v)) hd h2 kd hl (by
  refine (bY _ hm' (fun c' v' e=>?_) (fun y hy=>?_))
  ·rw [nR] at e
   split at e
   ·rename_i hcc
    replace e:=oi e; subst e
    exact (ax z (by rw [hcc,if_pos rfl]) (rv.grow G))
   ·rename_i hcc
    refine ae (hv _ _ e) fun u hu ru=>?_
    exact (ax u (by rw [if_neg (fun q=>hcc (inj _ _ q))]; exact hu) (ru.grow G))
  ·have hmem:∃ n,(n∈fs.map (·.1)\/n=f)/\nm n=y:=by
    by_cases hyf:y=nm f
    ·exact (ax f (.inr rfl) hyf.symm)
    ·simp only [if_neg hyf] at hy
     have:=hw y hy
     refine ae (List.mem_map.mp this) fun p hp zq1=>?_; subst zq1
     exact (ax p.1 (.inl (List.mem_map.mpr (ax p hp rfl))) rfl)
   refine ae hmem fun n hn' zq1=>?_; clear hmem; subst zq1
   have:=iN (c:=f) (v:=v) hn'
   refine ae (List.mem_map.mp this) fun p hp hpe=>?_
   exact List.mem_map.mpr (ax p hp (by rw [hpe])))
 exact h h' tk' S I2
end
structure zm (nm:Nat->Str) (base:Heap) (f:bu):Prop where
 at_:∃ o fd,base.get? f.addr=some o/\o.data = .func fd/\o.cls = .type "function"
section
variable (prog:Program) (w:World) (base:Heap) (P:cz) (nm:Nat->Str)
noncomputable def pC (r:dv):Prop:=∀ (i:Nat) (f:bu) (vs:List V) (zs:List Value) (d:Nat) (hm:Bool) (σ:St) (A:Around) (fes:List Env) (xs ρ:List Addr) (s:Shared) (Q E:Value->Shared->Prop),P.fns i=some f->1<=s.toks ->
 cV A fes (d + 1) hm->gT fes xs s.heap->aG prog w P nm base σ ρ xs s.heap->ak P nm s.heap (ρ++xs) ρ vs zs ->
 bh prog w base P nm (r.c i vs d hm σ) ρ xs (T1 Q) (T1 E) s->wpAny (model prog w) A (call (.ref f.addr) zs) Q E s
end
section
variable {prog:Program} {w:World} {base:Heap} {P:cz} {nm:Nat->Str} {σ:St} {ρ xs own:List Addr} {s:Shared} {A:Around} {E Q:Value->Shared->Prop} {mg mb:Str->Option Value} {ev:Env} {vn:Nat->Nat} {vars:List (Nat × Nat)} {gs ro ce:List Nat} {l:Loc} {fes:List Env}
theorem qA {h:Heap} {ow ow' ρ':List Addr} (hs:∀ a∈ow',a∈ow):∀ (n:Nat) (v:V) (x:Value),au P nm h ow ρ v x->bj n v=true->au P nm h ow' ρ' v x
 | 0,_,_,_,e=>nomatch e
 | n + 1,v,x,r,e=>by
  have all:∀ (l:List V) (ys:List Value),ak P nm h ow ρ l ys->l.all (bj n)=true->ak P nm h ow' ρ' l ys:=by
   intro l
   induction l with
   | nil=>exact fun ys r HC=>r
   | cons v l ih=>
    intro ys r e
    refine aV r fun y ys zq1 r1 r2=>?_; clear r; subst zq1
    rw [List.all_cons,Bool.and_eq_true] at e
    exact .cons (qA hs n _ _ r1 e.1) (ih _ r2 e.2)
  cases v with
  | tup l=>refine cJ r fun a vs h0 ht na hv=>?_; clear r; exact (dW a vs h0 ht (fun m=>na (hs _ m)) (all _ _ hv e))
  | lst l=>refine cJ r fun a vs h0 ht na hv=>?_; clear r; exact (dW a vs h0 ht (fun m=>na (hs _ m)) (all _ _ hv e))
  | obj k=>exact nomatch e
  | exc c fs=>exact nomatch e
  | rng a b=>exact nomatch e
  | clo i vs=>exact nomatch e
  | _=>exact r
theorem mapM_cons {α β:Type} {f:α->Option β} {v:α} {l:List α} {m:List β} (e:(v :: l).mapM f=some m):∃ u m',m=u :: m'/\f v=some u/\l.mapM f=some m':=by
 rw [List.mapM_cons] at e
 refine ae (bnd e) fun u h1 e=>?_
 refine ae (bnd e) fun m' h2 e=>?_
 exact (db u m' ((oi e).symm) h1 h2)
theorem pD {h:Heap} {jK ρ':List Addr} {σ':St} (I:aG prog w P nm base σ' ρ' jK h) {bF:List Addr}:∀ (n:Nat) (v v':V) (x:Value),au P nm h (ρ'++jK) ρ' v x->d4 σ' n v=some v'->au P nm h jK bF v' x
 | 0,_,_,_,_,e=>nomatch e
 | n + 1,v,v',x,r,e=>by
  have all:∀ (l m:List V) (ys:List Value),ak P nm h (ρ'++jK) ρ' l ys->l.mapM (d4 σ' n)=some m->ak P nm h jK bF m ys:=by
   intro l
   induction l with
   | nil=>exact fun m ys r e=>oi e▸r
   | cons v l ih=>
    intro m ys r e
    refine aV r fun y ys zq1 r1 r2=>?_; clear r; subst zq1
    refine aV (mapM_cons e) fun u m' zq1 e1 e2=>?_; subst zq1
    exact .cons (pD I n _ _ _ r1 e1) (ih _ _ r2 e2)
  have hsub:∀ {a},a∉ρ'++jK->a∉jK:=fun h m=>h (A0 m)
  cases v with
  | tup l=>
   refine cJ r fun a vs h0 ht na hv=>?_; clear r
   refine ae (mpd e) fun m h1 zq1=>?_; subst zq1
   exact (dW a vs h0 ht (hsub na) (all _ _ _ hv h1))
  | lst l=>
   refine cJ r fun a vs h0 ht na hv=>?_; clear r
   refine ae (mpd e) fun m h1 zq1=>?_; subst zq1
   exact (dW a vs h0 ht (hsub na) (all _ _ _ hv h1))
  | obj k=>
   refine ae r fun a h0 hk=>?_; clear r
   refine ae (bnd e) fun l hl e=>?_
   refine ae (mpd e) fun m h1 zq1=>?_; subst zq1
   refine ae (I.obj _ _ _ (gU hl) hk) fun ys hp hv=>?_
   exact (dW a ys h0 hp.isList (fun m=>(List.nodup_append.mp I.nd).2.2 a (aT hk) a m rfl) (all _ _ _ hv h1))
  | exc c fs=>exact nomatch e
  | rng a b=>exact nomatch e
  | clo i vs=>exact nomatch e
  | _=>exact oi e▸r
theorem aG.kept {h h':Heap} (I:aG prog w P nm base σ ρ xs h) (k:bw [] h h') (st:base.StaysIn h'):bq ρ ρ ρ h h'/\aG prog w P nm base σ ρ xs h':=by
 have G:cK [] (ρ++xs) (ρ++xs) ρ ρ h h':=⟨k,fun HC m=>(nomatch m),fun HC m=>.inl m,fun HC HC e=>e⟩
 refine ⟨⟨k.mono (m':=ρ) fun HC m=>(nomatch m),fun HC HC e=>e,fun HC m=>.inl m,k.ff fun HC m=>(nomatch m)⟩,⟨st,I.len,I.nd,fun a m=>⟨(I.new a m).1,k.live a (I.new a m).2⟩,fun j o a e1 e2=>?_⟩⟩
 exact (I.obj j o a e1 e2).grow G (fun m=>(nomatch m)) fun HC e=>e
theorem ii {h:Heap} {ow ow' ρ':List Addr} (hs:∀ a∈ow',a∈ow) (n:Nat) {l:List V} {ys:List Value} (r:ak P nm h ow ρ l ys) (e:l.all (bj n)=true):ak P nm h ow' ρ' l ys:=by
 induction l generalizing ys with
 | nil=>exact r
 | cons v l ih=>
  refine aV r fun y ys zq1 r1 r2=>?_; clear r; subst zq1
  rw [List.all_cons,Bool.and_eq_true] at e
  exact .cons (qA hs n _ _ r1 e.1) (ih r2 e.2)
noncomputable def mr (prog:Program) (w:World) (base:Heap) (P:cz) (nm:Nat->Str) (C:aS):Prop:=∀ (i:Nat) (f:bu) (vs:List V) (d:Nat) (v:V),P.fns i=some f->C.memo i vs d=some v->∀ (σ:St) (A:Around) (fes:List Env) (xs ρ:List Addr) (s:Shared) (zs:List Value) (Q E:Value->Shared->Prop),1<=s.toks ->
 cV A fes (d + 1) false->gT fes xs s.heap->aG prog w P nm base σ ρ xs s.heap->ak P nm s.heap (ρ++xs) ρ vs zs->bh prog w base P nm (.ok v σ) ρ xs Q E s->wpAny (model prog w) A (call (.ref f.addr) zs) Q E s
section
variable {h:Heap} {ow ow2 ρ' aW:List Addr} {z m:Nat}
theorem jr (hs:∀ a∈ow2,a∈ow):iJ ow ow2 ρ' ρ' h h:=
 ⟨fun e HC HC HC n=>⟨e,fun m=>n (hs _ m)⟩,fun e HC d n=>(pf _ _ e rfl rfl d (fun m=>n (hs _ m))),fun x HC=>x,fun HC HC e=>e⟩
theorem moved (hm:∀ j a,z<=j->ao ρ' j=some a->ao aW (m + j)=some a) (hs:∀ a∈ow2,a∈ow):∀ (n:Nat) (v v':V) (x:Value),au P nm h ow ρ' v x->lq z m n v=some v'->au P nm h ow2 aW v' x
 | 0,_,_,_,_,e=>nomatch e
 | n + 1,v,v',x,r,e=>by
  have all:∀ (l l':List V) (ys:List Value),ak P nm h ow ρ' l ys->l.mapM (lq z m n)=some l'->ak P nm h ow2 aW l' ys:=by
   intro l
   induction l with
   | nil=>exact fun l' ys r e=>oi e▸r
   | cons v l ih=>
    intro l' ys r e
    refine aV r fun y ys zq1 r1 r2=>?_; clear r; subst zq1
    refine aV (mapM_cons e) fun u m' zq1 e1 e2=>?_; subst zq1
    exact .cons (moved hm hs n _ _ _ r1 e1) (ih _ _ r2 e2)
  cases v with
  | tup l=>
   refine cJ r fun a vs h0 ht na hv=>?_; clear r
   refine ae (mpd e) fun l' h1 zq1=>?_; subst zq1
   exact (dW a vs h0 ht (fun m=>na (hs _ m)) (all _ _ _ hv h1))
  | lst l=>
   refine cJ r fun a vs h0 ht na hv=>?_; clear r
   refine ae (mpd e) fun l' h1 zq1=>?_; subst zq1
   exact (dW a vs h0 ht (fun m=>na (hs _ m)) (all _ _ _ hv h1))
  | clo i l=>
   refine eS r fun a as ys h0 hc hv hr=>?_; clear r
   refine ae (mpd e) fun l' h1 zq1=>?_; subst zq1
   exact (fF a as ys h0 (hc.map (jr (ρ':=ρ') hs)) (hv.map (jr (ρ':=ρ') hs)) (all _ _ _ hr h1))
  | obj k=>
   refine ae r fun a h0 hk=>?_; clear r
   refine ai (aO e) fun hz e=>?_
   replace e:=oi e; subst e
   exact (ax a h0 (hm _ _ (A5 hz) hk))
  | exc c fs=>exact nomatch e
  | rng a b=>exact nomatch e
  | _=>exact oi e▸r
theorem mw (hm:∀ j a,z<=j->ao ρ' j=some a->ao aW (m + j)=some a) (hs:∀ a∈ow2,a∈ow) (n:Nat):∀ {l l':List V} {ys:List Value},ak P nm h ow ρ' l ys->l.mapM (lq z m n)=some l'->ak P nm h ow2 aW l' ys
 | [],_,_,r,e=>oi e▸r
 | _ :: _,_,_,r,e=>by
  refine aV r fun HC HC zq1 r1 r2=>?_; clear r; subst zq1
  refine aV (mapM_cons e) fun u m' zq1 e1 e2=>?_; subst zq1
  exact .cons (moved hm hs n _ _ _ r1 e1) (mw hm hs n r2 e2)
theorem nT:∀ {l:List (Int × V)} {es:List (V × V)},(l.map fun p=>((.int p.1:V),p.2)).mapM (zb z m)=some es->∃ l':List (Int × V),es=l'.map (fun p=>(.int p.1,p.2))/\l'.map (·.1)=l.map (·.1)/\(l.map (·.2)).mapM (lq z m 9)=some (l'.map (·.2))
 | [],_,e=>(bY [] ((oi e).symm) rfl rfl)
 | p :: l,es,e=>by
  refine aV (mapM_cons (show ((V.int p.1,p.2) :: l.map fun p=>((.int p.1:V),p.2)).mapM (zb z m)=_ from e)) fun u es' zq1 e1 e2=>?_; subst zq1
  refine bD (nT e2) fun l' zq1 h1 h2=>?_; subst zq1
  refine ae (bnd e1) fun a ha e1=>?_
  replace ha:=oi ha; subst ha
  refine ae (mpd e1) fun b hb zq1=>?_; subst zq1
  exact (bY ((p.1,b) :: l') rfl (congrArg (p.1 :: ·) h1) (by rw [List.map_cons,List.mapM_cons,hb,h2]; rfl))
theorem nU:∀ {l:List (List Nat × V)} {es:List (V × V)},(l.map fun p=>((.str p.1:V),p.2)).mapM (zb z m)=some es->∃ l':List (List Nat × V),es=l'.map (fun p=>(.str p.1,p.2))/\l'.map (·.1)=l.map (·.1)/\(l.map (·.2)).mapM (lq z m 9)=some (l'.map (·.2))
 | [],_,e=>(bY [] ((oi e).symm) rfl rfl)
 | p :: l,es,e=>by
  refine aV (mapM_cons (show ((V.str p.1,p.2) :: l.map fun p=>((.str p.1:V),p.2)).mapM (zb z m)=_ from e)) fun u es' zq1 e1 e2=>?_; subst zq1
  refine bD (nU e2) fun l' zq1 h1 h2=>?_; subst zq1
  refine ae (bnd e1) fun a ha e1=>?_
  replace ha:=oi ha; subst ha
  refine ae (mpd e1) fun b hb zq1=>?_; subst zq1
  exact (bY ((p.1,b) :: l') rfl (congrArg (p.1 :: ·) h1) (by rw [List.map_cons,List.mapM_cons,hb,h2]; rfl))
theorem nV:∀ {fs fs':List (Nat × V)},fs.mapM (AO z m)=some fs'->fs'.map (·.1)=fs.map (·.1)/\∀ c v',find fs' c=some v'->∃ v,find fs c=some v/\lq z m 9 v=some v'
 | [],_,e=>oi e▸⟨rfl,fun HC HC e=>nomatch e⟩
 | p :: fs,fs',e=>by
  refine aV (mapM_cons e) fun u g zq1 e1 e2=>?_; subst zq1
  refine ae (mpd e1) fun b hb zq1=>?_; subst zq1
  refine ai (nV e2) fun h1 h2=>?_
  refine ⟨congrArg (p.1 :: ·) h1,fun c v' k=>?_⟩
  replace k:(match Nat.beq p.1 c with | true=>some b | false=>find g c)=some v':=k
  show ∃ v,(match Nat.beq p.1 c with | true=>some p.2 | false=>find fs c)=some v/\_
  cases q:Nat.beq p.1 c with
  | true=>rw [q] at k; exact (ax p.2 rfl (hb.trans k))
  | false=>rw [q] at k; exact h2 c v' k
theorem qB {α β γ δ:Type} {g:α->δ} {l:List (α × β)} {l':List (α × γ)} (h:l'.map (·.1)=l.map (·.1)):l'.map (fun p=>g p.1)=l.map fun p=>g p.1:=by
 have:=congrArg (List.map g) h
 rwa [List.map_map,List.map_map] at this
theorem gL.moved (hm:∀ j a,z<=j->ao ρ' j=some a->ao aW (m + j)=some a) (hs:∀ a∈ow2,a∈ow) {a:Addr} {next next':Option Addr} (hn:∀ d,next=some d->next'=some d) {o o':O} (r:gL prog w P nm h ow ρ' a next o) (e:wv z m o=some o'):gL prog w P nm h ow2 aW a next' o':=by
 cases o with
 | list l=>
  refine ae (mpd e) fun l' e1 zq1=>?_; subst zq1
  refine ae r fun vs h1 h2=>?_; clear r
  exact (ax vs h1 (mw hm hs 9 h2 e1))
 | dict es=>
  refine ae (mpd e) fun es' e1 zq1=>?_; subst zq1
  refine ai r fun d z=>?_; clear r
  refine ⟨?_,fun q=>z ?_⟩
  ·cases d with
   | ofI d1 d2 d3=>
    refine bD (nT e1) fun l' zq1 k1 k2=>?_; subst zq1
    exact .ofI d1 (d2.trans k1.symm) (mw hm hs 9 d3 k2)
   | ofS d1 d2 d3=>
    refine bD (nU e1) fun l' zq1 k1 k2=>?_; subst zq1
    exact .ofS d1 (d2.trans (qB k1).symm) (mw hm hs 9 d3 k2)
  ·cases es with
   | nil=>rfl
   | cons p es=>
    refine aV (mapM_cons e1) fun u g zq1 HC HC=>?_; subst zq1
    cases q
 | inst c=>
  replace e:=oi e; subst e
  refine nk r fun o d cl h1 h2 h3 h4 h5 h6 h7=>?_; clear r
  exact (nr o d cl h1 h2 h3 h4 h5 h6 (hn d h7))
 | ns fs=>
  refine ae (mpd e) fun fs' e1 zq1=>?_; subst zq1
  refine bD r fun mm h1 h2 h3=>?_; clear r
  refine ai (nV e1) fun k1 k2=>?_
  refine (bY mm h1 (fun c v' q=>?_) ?_)
  ·refine ae (k2 c v' q) fun v q1 q2=>?_
   refine ae (h2 c v q1) fun x q3 q4=>?_
   exact (ax x q3 (Mine.moved hm hs 9 _ _ _ q4 q2))
  ·rw [qB k1]; exact h3
 | hid p l=>exact nomatch e
 | wild j=>exact nomatch e
end
theorem nW {α β:Type} {f:α->Option β}:∀ {l:List α} {m:List β},l.mapM f=some m->m.length=l.length
 | [],_,e=>oi e▸rfl
 | _ :: _,_,e=>by
  refine aV (mapM_cons e) fun u m' zq1 HC e2=>?_; subst zq1
  exact congrArg (· + 1) (nW e2)
theorem dH {α β:Type} {f:α->Option β}:∀ {l:List α} {m:List β},l.mapM f=some m->∀ {j:Nat} {y:β},ao m j=some y->∃ x,ao l j=some x/\f x=some y
 | [],_,e,_,_,k=>by cases oi e; exact nS k
 | x :: l,_,e,j,y,k=>by
  refine aV (mapM_cons e) fun u m' zq1 e1 e2=>?_; subst zq1
  cases j with
  | zero=>replace k:=oi k; subst k; exact (ax x rfl e1)
  | succ j=>exact dH e2 (j:=j) k
theorem wR {l l':List Addr} (h:∀ j b,ao l j=some b->ao l' j=some b):l'=l++l'.drop l.length:=by
 have:l'.take l.length=l:=by
  refine List.ext_getElem? fun j=>?_
  by_cases hj:j < l.length
  ·rw [List.getElem?_take_of_lt hj,List.getElem?_eq_getElem hj,<- aJ]
   exact h j _ (by rw [aJ]; exact List.getElem?_eq_getElem hj)
  ·rw [List.getElem?_eq_none (Nat.not_lt.mp hj),List.getElem?_eq_none (by rw [List.length_take]; omega)]
 exact (List.take_append_drop l.length l').symm.trans (congrArg (·++_) this)
theorem sb {o:O} (h:dP o=true):∃ j,o = .wild j:=by
 cases o with
 | wild j=>exact ⟨j,rfl⟩
 | _=>exact fT h
theorem qC {s:St} {z:Nat} (h:(s.take z).all dP=true) {j:Nat} {o:O} (hj:j < z) (e:ao s j=some o):∃ k,o = .wild k:=by
 refine sb (A6 h o ?_)
 rw [aJ] at e
 exact List.mem_of_getElem? (i:=j) (by rw [List.getElem?_take_of_lt hj]; exact e)
theorem qD {L X Y:List Addr} (h:∀ i b,ao X i=some b->ao Y i=some b):∀ i b,ao (L++X) i=some b->ao (L++Y) i=some b:=fun i b e=>by
 by_cases hi:i < L.length
 ·rw [cN hi] at e ⊢; exact e
 ·have hi:=Nat.not_lt.mp hi
  rw [aK hi] at e ⊢; exact h _ _ e
theorem wU {L X Y:List Addr} (h:∀ i b,ao (L++X) i=some b->ao (L++Y) i=some b):∀ i b,ao X i=some b->ao Y i=some b:=fun i b e=>by
 have:=h (L.length + i) b (by rw [aK (Nat.le_add_right _ _),Nat.add_sub_cancel_left]; exact e)
 rwa [aK (Nat.le_add_right _ _),Nat.add_sub_cancel_left] at this
theorem nX {α:Type} {l:List α} {z k:Nat} {a:α} (hl:z + k + 1=l.length) (ha:ao l (z + k)=some a):l=l.take z++((l.drop z).take k++[a]):=by
 have h1:(l.drop z).drop k=[a]:=by
  rw [List.drop_drop]
  have hd:(l.drop (z + k)).length=1:=by rw [List.length_drop,<- hl,Nat.add_sub_cancel_left]
  refine ay (List.length_eq_one_iff.mp hd) fun b hb=>?_
  rw [hb]
  have:(l.drop (z + k))[0]? = some a:=by rw [List.getElem?_drop,Nat.add_zero,<- aJ]; exact ha
  rw [hb] at this
  exact congrArg (fun x=>[x]) (oi this)
 rw [<- h1,List.take_append_drop,List.take_append_drop]
theorem mx {r:dv} (hC:pC prog w base P nm r) {fes:List Env} {i:Nat} {f:bu} (hf:P.fns i=some f) {vs:List V} {zs:List Value} {d:Nat} (ht:1<=s.toks) (O:cV A fes (d + 1) false) (ff:gT fes xs s.heap) (I:aG prog w P nm base σ ρ xs s.heap) {q:Nat × List V × List V} (hq:i7 P.wn vs σ = some q)
  (rs:ak P nm s.heap (ρ++xs) ρ vs zs) (g:bh prog w base P nm ((r.c i (.obj P.wn :: q.2.2) d false (σ.take P.wn++[.list q.2.1])).calm fun v s'=>chk ((s'.take P.wn).all dP) (ofO (lq P.wn q.1 9 v) fun v=>ofO ((s'.drop P.wn).mapM (wv P.wn q.1)) fun t=>.ok v (s'.take P.wn++((σ.drop P.wn).take q.1++t)))) ρ xs Q E s):wpAny (model prog w) A (call (.ref f.addr) zs) Q E s:=by
 cases vs with
 | nil=>exact nS hq
 | cons x rest=>
 obtain ⟨k,h1,hq⟩:=bnd hq
 obtain ⟨l,h2,hq⟩:=bnd hq
 obtain ⟨h3,hq⟩:=aO hq
 replace hq:=oi hq; subst hq
 generalize P.wn=z at g h3
 obtain ⟨m,rfl⟩:=Nat.exists_eq_add_of_le (A5 (aD (aD h3)))
 have hk:z + m + 1 = σ.length:=A4 (al (aD h3))
 have hw:=aD (al h3)
 have hrest:=aD (al (al h3))
 have hl:=al (al (al h3))
 cases nE h1
 have h2:=gU h2
 rw [show z + m - z=m from Nat.add_sub_cancel_left z m] at g
 obtain ⟨y,zs,rfl,⟨a,rfl,ha⟩,rs⟩:=rs
 have hkr:z + m + 1 = ρ.length:=hk.trans I.len.symm
 have hρ:=nX hkr ha
 have lW:(ρ.take z).length=z:=List.length_take_of_le (hkr▸Nat.le_trans (Nat.le_add_right z m) (Nat.le_add_right _ 1))
 have lM:((ρ.drop z).take m).length=m:=List.length_take_of_le (by rw [List.length_drop]; exact Nat.le_sub_of_add_le (hkr▸Nat.add_comm m z▸Nat.le_add_right _ 1))
 have lσW:(σ.take z).length=z:=List.length_take_of_le (hk▸Nat.le_trans (Nat.le_add_right z m) (Nat.le_add_right _ 1))
 have lσM:((σ.drop z).take m).length=m:=List.length_take_of_le (by rw [List.length_drop]; exact Nat.le_sub_of_add_le (hk▸Nat.add_comm m z▸Nat.le_add_right _ 1))
 have hσ:=nX hk h2
 generalize ρ.take z=W at hρ lW
 generalize (ρ.drop z).take m=M at hρ lM
 subst hρ
 generalize (σ.drop z).take m=N at hσ lσM g
 have wild:∀ j o,j < z->ao σ j=some o->∃ k,o = .wild k:=fun j o hj e=>qC hw hj e
 have perm:∀ {ρ':List Addr},List.Perm ((W++(M++ρ'))++xs) ((W++ρ')++(M++xs)):=by
  intro ρ'
  simp only [List.append_assoc]
  refine List.Perm.append_left W ?_
  rw [<- List.append_assoc,<- List.append_assoc]
  exact List.Perm.append_right xs List.perm_append_comm
 have sub:∀ {ρ':List Addr},∀ b∈(W++(M++ρ'))++xs,b∈(W++ρ')++(M++xs):=fun b m=>perm.mem_iff.mp m
 have bus:∀ {ρ':List Addr},∀ b∈(W++ρ')++(M++xs),b∈(W++(M++ρ'))++xs:=fun b m=>perm.mem_iff.mpr m
 have I0:aG prog w P nm base (σ.take z++[.list l]) (W++[a]) (M++xs) s.heap:=by
  refine ⟨I.stay,by rw [List.length_append,List.length_append,lW,lσW]; rfl,perm.nodup_iff.mp I.nd,fun b m=>I.new b (bus b m),fun j o b e1 e2=>?_⟩
  by_cases hj:j < z
  ·rw [cN (by rw [lσW]; exact hj)] at e1
   rw [cN (by rw [lW]; exact hj)] at e2
   have e3:ao σ j=some o:=by rw [hσ]; exact bz e1
   obtain ⟨k,rfl⟩:=wild j o hj e3
   obtain ⟨tab,t1,t2⟩:=I.obj j _ b e3 (bz e2)
   exact (ax tab t1 (t2.map (jr (ρ':=[]) bus) fun HC e HC=>e))
  ·have hj:=Nat.not_lt.mp hj
   rw [aK (by rw [lσW]; exact hj),lσW] at e1
   rw [aK (by rw [lW]; exact hj),lW] at e2
   cases hq:j - z with
   | succ i=>rw [hq] at e1; exact nS e1
   | zero=>
    rw [hq] at e1 e2
    replace e1:=oi e1; subst e1; replace e2:=oi e2; subst e2
    obtain ⟨us,hp,hu⟩:=I.obj _ _ _ h2 ha
    exact (ax us hp (ii bus 9 hu hl))
 have rs0:ak P nm s.heap ((W++[a])++(M++xs)) (W++[a]) (.obj z :: rest) (.ref a :: zs):=.cons (ax a rfl (by rw [aK (Nat.le_of_eq lW),lW,Nat.sub_self]; rfl)) (ii bus 9 rs hrest)
 have km:∀ b∈W++[a],b∈W++(M++[a]):=fun b m=>(A3 m).elim (fun m=>A1 m) fun m=>A0 (A0 m)
 refine hC i f (.obj z :: rest) (.ref a :: zs) d false (σ.take z++[.list l]) A fes (M++xs) (W++[a]) s Q E hf ht O (fun e he=>let ⟨h0,L,o,h1,h2,h3⟩:=ff e he; ⟨h0,L,o,h1,A0 h2,h3⟩) I0 rs0 ?_
 dsimp only at g
 cases ho:r.c i (.obj z :: rest) d false (σ.take z++[.list l]) with
 | stuck=>rw [ho] at g; exact g.elim
 | exc c fs σ'=>rw [ho] at g; exact g.elim
 | ok v σ'=>
  rw [ho] at g
  obtain ⟨hw',g⟩:=bA g
  obtain ⟨v',hv,g⟩:=bp g
  obtain ⟨t,ht',g⟩:=bp g
  intro x h' tk' ρ' S' I' r' _
  obtain ⟨R,rfl⟩:∃ R,ρ'=W++R:=⟨[a]++ρ'.drop (W++[a]).length,by rw [<- List.append_assoc]; exact wR S'.pre⟩
  have hlen:=I'.len
  rw [List.length_append,lW] at hlen
  have lσ':(σ'.take z).length=z:=by rw [List.length_take,<- hlen]; exact Nat.min_eq_left (Nat.le_add_right _ _)
  have hR:∀ i b,ao [a] i=some b->ao R i=some b:=wU S'.pre
  have hpre:∀ j b,ao (W++(M++[a])) j=some b->ao (W++(M++R)) j=some b:=qD (qD hR)
  have hmov:∀ j b,z<=j->ao (W++R) j=some b->ao (W++(M++R)) (m + j)=some b:=fun j b hj e=>by
   obtain ⟨i,rfl⟩:=Nat.exists_eq_add_of_le hj
   rw [aK (by rw [lW]; exact hj),lW,Nat.add_sub_cancel_left] at e
   rw [Nat.add_left_comm,aK (by rw [lW]; exact Nat.le_add_right _ _),lW,Nat.add_sub_cancel_left,aK (by rw [lM]; exact Nat.le_add_right _ _),lM,Nat.add_sub_cancel_left]
   exact e
  have hnew:∀ b∈W++(M++R),b∈W++(M++[a])\/s.heap.get? b=none:=fun b mm=>by
   rcases A3 mm with mm | mm
   ·exact .inl (A1 mm)
   rcases A3 mm with mm | mm
   ·exact .inl (A0 (A1 mm))
   ·exact (S'.new b (A0 mm)).imp (km b) id
  have G:cK (W++[a]) ((W++(M++[a]))++xs) ((W++(M++R))++xs) (W++(M++[a])) (W++(M++R)) s.heap h':=
   ⟨S'.keep,fun b m=>A1 (km b m),fun b m=>(A3 m).elim (fun m=>(hnew b m).imp (List.mem_append_left _) id) fun m=>.inl (A0 m),hpre⟩
  refine g x h' tk' (W++(M++R)) ⟨S'.keep.mono km,hpre,hnew,fun L o hL=>S'.ff L o fun m=>hL (km L m)⟩ ⟨I'.stay,?_,perm.nodup_iff.mpr I'.nd,fun b m=>I'.new b (sub b m),fun j o b e1 e2=>?_⟩ (moved hmov sub 9 _ _ _ r' hv)
  ·rw [List.length_append,List.length_append,List.length_append,List.length_append,lW,lM,lσ',lσM,nW ht',List.length_drop,<- hlen,Nat.add_sub_cancel_left]
  ·by_cases hj:j < z
   ·rw [cN (by rw [lσ']; exact hj)] at e1
    rw [cN (by rw [lW]; exact hj)] at e2
    have e3:ao σ' j=some o:=(congrArg (ao · j) (List.take_append_drop z σ')).symm.trans (bz e1)
    obtain ⟨k,rfl⟩:=qC hw' hj e3
    obtain ⟨tab,t1,t2⟩:=I'.obj j _ b e3 (bz e2)
    exact (ax tab t1 (t2.map (jr (ρ':=[]) sub) fun HC e HC=>e))
   ·obtain ⟨i,rfl⟩:=Nat.exists_eq_add_of_le (Nat.not_lt.mp hj)
    rw [aK (by rw [lσ']; exact Nat.le_add_right _ _),lσ',Nat.add_sub_cancel_left] at e1
    rw [aK (by rw [lW]; exact Nat.le_add_right _ _),lW,Nat.add_sub_cancel_left] at e2
    by_cases hi:i < m
    ·rw [cN (by rw [lσM]; exact hi)] at e1
     rw [cN (by rw [lM]; exact hi)] at e2
     have e3:ao σ (z + i)=some o:=by
      rw [hσ,aK (by rw [lσW]; exact Nat.le_add_right _ _),lσW,Nat.add_sub_cancel_left]; exact bz e1
     have e4:ao (W++(M++[a])) (z + i)=some b:=by
      rw [aK (by rw [lW]; exact Nat.le_add_right _ _),lW,Nat.add_sub_cancel_left]; exact bz e2
     have na:b∉W++[a]:=fun mm=>by
      have hn:=List.nodup_append.mp (List.nodup_append.mp I.nd).1
      rcases A3 mm with mm | mm
      ·exact hn.2.2 b mm b (A1 (aT e2)) rfl
      ·exact (List.nodup_append.mp hn.2.1).2.2 b (aT e2) b mm rfl
     exact (I.obj _ o b e3 e4).grow G na fun d e=>hpre _ _ e
    ·obtain ⟨n,rfl⟩:=Nat.exists_eq_add_of_le (Nat.not_lt.mp hi)
     rw [aK (by rw [lσM]; exact Nat.le_add_right _ _),lσM,Nat.add_sub_cancel_left] at e1
     rw [aK (by rw [lM]; exact Nat.le_add_right _ _),lM,Nat.add_sub_cancel_left] at e2
     obtain ⟨tH,k1,k2⟩:=dH ht' e1
     have k1':ao σ' (z + n)=some tH:=by rw [aJ] at k1 ⊢; rwa [List.getElem?_drop] at k1
     have e2':ao (W++R) (z + n)=some b:=by rw [aK (by rw [lW]; exact Nat.le_add_right _ _),lW,Nat.add_sub_cancel_left]; exact e2
     refine (I'.obj (z + n) tH b k1' e2').moved hmov sub (fun d e=>?_) k2
     have:=hmov (z + n + 1) d (Nat.le_add_right_of_le (Nat.le_add_right _ _)) e
     rwa [show m + (z + n + 1)=z + (m + n) + 1 by rw [<- Nat.add_assoc,<- Nat.add_assoc,Nat.add_comm m z,Nat.add_assoc z m n]] at this
theorem sd {C:aS} (MO:mr prog w base P nm C) {r:dv} (hC:pC prog w base P nm r) {fes:List Env} {i:Nat} {f:bu} (hf:P.fns i=some f) {vs:List V} {zs:List Value} {c:Ctx} (ht:1<=s.toks) (O:cV A fes c.d c.hm) (ff:gT fes xs s.heap) (I:aG prog w P nm base σ ρ xs s.heap)
  (rs:ak P nm s.heap (ρ++xs) ρ vs zs) (g:bh prog w base P nm (cS P C r i vs c σ) ρ xs Q E s):wpAny (model prog w) A (call (.ref f.addr) zs) Q E s:=by
 unfold cS at g
 rw [hf] at g
 dsimp only at g
 cases hd:c.d with
 | zero=>rw [hd] at g; exact g.elim
 | succ d=>
 rw [hd] at O g
 dsimp only at g
 cases hu:f.pure with
 | false=>
  rw [hu] at g
  dsimp only at g
  cases hi:f.iso with
  | false=>rw [hi] at g; exact hC i f vs zs d c.hm σ A fes xs ρ s Q E hf ht O ff I rs g.t1
  | true=>
   rw [hi] at g
   refine ai (bA g) fun hh g=>?_
   refine ae (bp g) fun q hq g=>?_
   exact mx hC hf ht (iM hh▸O) ff I hq rs g
 | true=>
 rw [hu] at g
 dsimp only at g
 cases hp:c.hm || !(vs.all (bj 9)) with
 | true=>rw [hp] at g; exact g.elim
 | false=>
 rw [hp] at g
 dsimp only at g
 rw [Bool.or_eq_false_iff,Bool.not_eq_false'] at hp
 rw [hp.1] at O
 cases hv:C.memo i vs d with
 | some v=>rw [hv] at g; exact MO i f vs d v hf hv σ A fes xs ρ s zs Q E ht O ff I rs g
 | none=>
 rw [hv] at g
 dsimp only at g
 cases hv:r.c i vs d false [] with
 | exc _ _ _=>rw [hv] at g; exact g.elim
 | stuck=>rw [hv] at g; exact g.elim
 | ok v s'=>
  rw [hv] at g
  refine ay (tX g) fun v' hv'=>?_
  replace g:bh prog w base P nm (dN (d4 s' 9 v) σ) ρ xs Q E s:=g
  rw [hv'] at g
  have I0:aG prog w P nm base [] [] (ρ++xs) s.heap:=⟨I.stay,rfl,I.nd,I.new,fun j o a e=>by exact nS e⟩
  have rs':ak P nm s.heap ([]++(ρ++xs)) [] vs zs:=ii (fun HC m=>m) 9 rs hp.2
  refine hC i f vs zs d false [] A fes (ρ++xs) [] s Q E hf ht O (fun e he=>let ⟨h0,L,o,h1,h2,h3⟩:=ff e he; ⟨h0,L,o,h1,A0 h2,h3⟩) I0 rs' ?_
  rw [hv]
  intro x h' tk' ρ' S' I' r' _
  refine ai (I.kept S'.keep I'.stay) fun S I2=>?_
  exact g x h' tk' ρ S I2 (pD I' 9 _ _ _ r' hv')
theorem wV (G:jp P nm base mg mb) {r:dv} (hE:df prog w base P nm r) {C:aS} {fes:List Env} {ks vs:bP} {p:Pos} {c:Ctx} (ht:1<=s.toks)
  (F:ck nm ev vn vars c.g c.ro c.ce xs) (O:cV A fes c.d c.hm) (I:aG prog w P nm base σ ρ xs s.heap) (R:aH P nm ev fes vars own xs s.heap ρ c.l)
  (g:bh prog w base P nm ((step P C r).e (.dict ks vs p) c σ) ρ xs Q E s):wpAny (model prog w) A (eval ((ME.dict ks vs p).toE nm vn) ev) Q E s:=by
 refine ai (nO I) fun S0 I0=>?_
 have hidx:ao (ρ++[s.heap.objs.size]) σ.length=some s.heap.objs.size:=by
  rw [<- I.len,aK (Nat.le_refl _),Nat.sub_self]; rfl
 cases ks with
 | nil=>cases vs with
  | nil=>
   refine wpAny_Dict_empty ?_
   exact g (.ref s.heap.objs.size) _ s.toks _ S0 I0 (.obj hidx)
  | cons _ _=>exact g.elim
 | cons k0 ks0=>
  exact g.elim
theorem jL (e:ME) (p:Pos) (ev:Env):backTo p (starEach [e.toE nm vn] ev)=[(false,eval (e.toE nm vn) ev)]:=by
 rw [cf]; rfl
theorem ik {h:Heap} {a:Addr} {its:Array Value} (x:h.PlainList a its):∀ b,Value.ref a = .ref b->∃ ob,h.get? b=some ob/\ob.dict=none:=fun b e=>by
 cases e; refine ay x fun n ho=>?_; clear x; exact (ax _ ho rfl)
theorem zn (p:Pos) (ev:Env) (l:bP) (h:l9 l=true):((backTo p (starEach (l.toE nm vn) ev)).all (fun x=>!x.1) && (backToKw p (keywordEach [] ev)).all (fun x=>x.1.isSome)
   && decide ((l.toE nm vn).length + ([]:List Keyword).length + (if ([]:List Keyword).isEmpty then 0 else 1) < 30))=true:=by
 cases l with
 | nil=>rfl
 | cons e l=>cases l with
  | nil=>
   show ((backTo p (starEach [e.toE nm vn] ev)).all (fun x=>!x.1) && _ && _)=true
   rw [cf]; rfl
  | cons e' l=>cases l with
   | nil=>
    show ((backTo p (starEach [e.toE nm vn,e'.toE nm vn] ev)).all (fun x=>!x.1) && _ && _)=true
    rw [cf,cf]; rfl
   | cons _ _=>exact fT h
theorem il (I:aG prog w P nm base σ ρ xs s.heap) {k:Nat} {a:Addr} (hk:ao ρ k=some a) {l₀ l:List V} {vs:List Value} (h0:ao σ k=some (.list l₀)) {h':Heap} (hp:h'.PlainList a vs.toArray) (hsb:∀ b,b≠a->h'.get? b=s.heap.get? b)
  (hs:ak P nm s.heap (ρ++xs) ρ l vs):bq ρ ρ ρ s.heap h'/\aG prog w P nm base (bc σ k (.list l)) ρ xs h':=by
 have kd:∀ b o,b≠a->s.heap.get? b=some o->h'.get? b=some o:=fun b o hb e=>(hsb b hb).trans e
 have hl:bZ h' a:=by refine ay hp fun n e=>?_; clear hp; exact ⟨_,e⟩
 have G:cK [a] (ρ++xs) (ρ++xs) ρ ρ s.heap h':=⟨.of_but kd hl,fun b m=>by rw [A2 m]; exact A1 (aT hk),fun HC m=>.inl m,fun HC HC e=>e⟩
 exact I.upd (o':=.list l) hk h0 kd hl (ax vs hp (hs.grow G))
theorem se (CO:nQ nm C) {r:dv} (hE:df prog w base P nm r) {fes:List Env} {f:Nat} {p:Pos} {l:bP} {c:Ctx} (ht:1<=s.toks)
  (F:ck nm ev vn vars c.g c.ro c.ce xs) (O:cV A fes c.d c.hm) (I:aG prog w P nm base σ ρ xs s.heap) (R:aH P nm ev fes vars own xs s.heap ρ c.l)
  {k:Nat} {a:Addr} (hk:ao ρ k=some a) {ys:List V} (hy:ao σ k=some (.list ys))
  (g:bh prog w base P nm (match Nat.beq f C.append with
    | true=>match fQ l with
     | some e=>(r.e e c σ).bind fun v s=>jE k v s
     | none=>.stuck
    | false=>match Nat.beq f C.pop && (ww l && AP (.list ys)) with
     | true=>wz k ys σ
     | false=>.stuck) ρ xs Q E s):MethodOnS prog w A E (nm f) (.ref a) p (backTo p (starEach (l.toE nm vn) ev)) Q s:=by
 refine ae (I.obj _ _ _ hy hk) fun us hp hs=>?_
 cases e1:Nat.beq f C.append with
 | true=>
  rw [e1] at g
  rw [A4 e1,CO.append]
  cases e2:fQ l with
  | none=>rw [e2] at g; exact g.elim
  | some e=>
   rw [e2] at g
   rw [jn e2]
   refine ⟨"list","list.append",PySem.F.plainAttrs_list,PySem.F.slot_list_append,PySem.F.type_list_append,hp.isList.typeIs,ik hp,?_⟩
   show wpAny _ _ (callWith p _ _ (backTo p (starEach [ME.toE nm vn e] ev)) []) _ _ _
   rw [jL]
   refine Calls.callWith_builtin rfl (Calls.evalArgs_plain (spliced_cons (hE e c σ A ev fes vn vars own xs ρ _ _ _ ht F O I R (af.bindT g fun v aI v' aR bC aW aX bl bf rv aN=>spliced_nil ?_))))
   have ub:=bl.pre _ _ hk
   unfold jE at aN
   cases hz:ao aI k with
   | none=>rw [hz] at aN; exact aN.elim
   | some o=>
    rw [hz] at aN
    cases o with
    | list zs=>
     have aN:bh prog w base P nm (match Nat.ble zs.length aP with
      | true=>.ok .none (bc aI k (.list (zs++[v])))
      | false=>.stuck) aW xs Q E _:=aN
     cases hsz:Nat.ble zs.length aP with
     | false=>rw [hsz] at aN; exact aN.elim
     | true=>
      rw [hsz] at aN
      refine ae (bf.obj _ _ _ hz ub) fun us' hp' hs'=>?_
      refine wpAny_list_append_plain hp' (fun h' hp2 hsb=>?_) (by rw [List.size_toArray,<- hs'.length]; have:=dG hsz; have:=cq; omega)
      rw [List.push_toArray] at hp2
      refine ai (il bf ub hz (l:=zs++[v]) (vs:=us'++[v']) hp2 hsb.2 (hs'.append (.cons rv .nil))) fun S3 I3=>?_
      exact aN _ _ _ _ S3 I3 .none
    | hid q zs=>exact (bf.obj _ _ _ hz ub).elim
    | _=>exact aN.elim
 | false=>
  rw [e1] at g
  cases e2:Nat.beq f C.pop && (ww l && AP (.list ys)) with
  | false=>rw [e2] at g; exact g.elim
  | true=>
   rw [e2] at g
   refine ai (Bool.and_eq_true_iff.mp e2) fun e3 e4=>?_
   rw [A4 e3,CO.pop,tK (Bool.and_eq_true_iff.mp e4).1]
   refine ⟨"list","list.pop",PySem.F.plainAttrs_list,PySem.F.slot_list_pop,PySem.F.type_list_pop,hp.isList.typeIs,ik hp,?_⟩
   unfold wz at g
   cases hv:grd (Nat.ble ys.length aP) ys.getLast? with
   | none=>rw [hv] at g; exact g.elim
   | some v=>
    rw [hv] at g
    refine ai (aO hv) fun hsz hv=>?_
    refine ae (hs.last hv) fun z hz rz=>?_
    refine ay hp fun n hn=>?_; clear hp
    rw [List.getLast?_eq_getElem?] at hz
    have hne:us≠[]:=fun q=>by rw [q] at hz; exact nS hz
    have hsu:us.length<=aP:=hs.length▸dG hsz
    refine PySem.P.pop_list (n:=n) hn (y:=z) (by simpa using hz) ?_ (by rw [List.size_toArray]; have:=cq; omega)
    have hpop:(us.toArray).eraseIdxIfInBounds (us.toArray.size - 1)=us.dropLast.toArray:=by
     simp
    have hp2:Heap.PlainList (s.heap.update _ (Obj.mapSeq fun xs=>xs.eraseIdxIfInBounds (us.toArray.size - 1))) _ us.dropLast.toArray:=⟨_,by rw [<- hpop]; exact IsL.update hn (fun xs=>xs.eraseIdxIfInBounds (us.toArray.size - 1))⟩
    refine ai (il I hk hy (l:=ys.dropLast) (vs:=us.dropLast) hp2 (fun b hb=>Heap.get?_update_other _ _ (Ne.symm hb)) hs.dropLast) fun S3 I3=>?_
    exact g _ _ _ _ S3 I3 (rz.grow S3.growE)
theorem sf {x y:Str} {t:Tok} {p:Pos} (hy:(y.length == 0)=false) (hx:x.length<=sizeLine) (hn:(Txt.split x y).length<=sizeLine) {a:Sem Value} (ha:∀ {Q:Value->Shared->Prop},(∀ k,Q (.str y k) { s with toks:=s.toks + 1 })->wpAny (model prog w) A a Q E s)
  (h:∀ l:List (Str × Tok),l.map (·.1)=Txt.split x y->∀ k,Q (.ref s.heap.objs.size) { s with heap:=s.heap.push { cls:=.type "list",data:=.seq (strValues l).toArray },toks:=k }):MethodOnS prog w A E "split" (.str x t) p [(false,a)] Q s:=by
 refine ⟨"str",_,F.plainAttrs_str,F.slot_str_split,F.type_str_split,typeIs_str _ _ _,(fun HC e=>nomatch e),method1_meets F.slot_str_split F.entry_str_split (ha fun u=>(cF (typeIs_str _ _ _) (F.args_str_split_2 _ _) ?_))⟩
 cases h1:(decide (x.length < y.length) || decide (Builtin.Str.strKind x < Builtin.Str.strKind y)) with
 | true=>exact (ax _ (meets_str_split_cannot_occur x y t u h1) (h [(x,t)] (if_pos h1).symm _))
 | false=>
  cases hf:(Builtin.Str.occurrences x y 0 x.length (x.length + 1)).isEmpty with
  | true=>exact (ax _ (meets_str_split_not_found x y t u h1 hy hf) (h [(x,t)] ((if_neg (ne_true_of_eq_false h1)).trans (if_pos hf)).symm _))
  | false=>
   have e:Txt.split x y=Builtin.Str.partsBetween x (Builtin.Str.occurrences x y 0 x.length (x.length + 1)) y.length:=(if_neg (ne_true_of_eq_false h1)).trans (if_neg (ne_true_of_eq_false hf))
   refine (ax _ (meets_str_split_sep x y t u h1 hy hf hx (e▸hn)) ?_)
   have:=h (numbered (s.toks + 1) (Builtin.Str.partsBetween x (Builtin.Str.occurrences x y 0 x.length (x.length + 1)) y.length)) ((numbered_texts _ _).trans e.symm) (s.toks + 1 + (Builtin.Str.partsBetween x (Builtin.Str.occurrences x y 0 x.length (x.length + 1)) y.length).length)
   rw [<- strsFrom_eq] at this
   exact this
theorem nY {h:Heap} {ow:List Addr} {zs:List Str}:∀ (l:List (Str × Tok)),l.map (·.1)=zs->ak P nm h ow ρ (zs.map fun z=>.str z.cps.toList) (strValues l)
 | [],e=>e▸.nil
 | p :: l,e=>e▸.cons (.str p.1.cps.toList p.2) (nY l rfl)
theorem uc (CO:nQ nm C) {r:dv} (hE:df prog w base P nm r) {fes:List Env} {f:Nat} {p:Pos} {l:bP} {c:Ctx} (ht:1<=s.toks)
  (F:ck nm ev vn vars c.g c.ro c.ce xs) (O:cV A fes c.d c.hm) (I:aG prog w P nm base σ ρ xs s.heap) (R:aH P nm ev fes vars own xs s.heap ρ c.l) {x:List Nat} {t:Tok}
  (g:bh prog w base P nm (match Nat.beq f C.find with
   | true=>match fQ l with
    | some e=>(r.e e c σ).bind fun v s=>dN (meth 0 (.str x) [v]) s
    | none=>.stuck
   | false=>match Nat.beq f C.replace with
    | true=>match tB l with
     | some q=>dN (meth 1 (.str x) [.str q.1,.str q.2]) σ
     | none=>.stuck
    | false=>match Nat.beq f C.split with
     | true=>match (fQ l).bind nA with
      | some q=>kR (grd (Nat.ble x.length aP && Nat.beq q.length 1) (some ((Txt.split (aA x) (aA q)).map fun z=>.str z.cps.toList))) σ
      | none=>.stuck
     | false=>.stuck) ρ xs Q E s):MethodOnS prog w A E (nm f) (.str (aA x) t) p (backTo p (starEach (l.toE nm vn) ev)) Q s:=by
 cases e1:Nat.beq f C.find with
 | true=>
  rw [e1] at g
  rw [A4 e1,CO.find]
  cases e2:fQ l with
  | none=>rw [e2] at g; exact g.elim
  | some e=>
   rw [e2] at g
   rw [jn e2]
   show MethodOnS _ _ _ _ _ _ _ (backTo p (starEach [ME.toE nm vn e] ev)) _ _
   rw [jL]
   refine PySem.SB.find (hE e c σ A ev fes vn vars own xs ρ _ _ _ ht F O I R (af.bindT g fun v aI v' aR bC aW aX bl bf rv aN=>?_))
   refine cL fun HC kG=>?_
   refine ae (dF aN) fun u hu aN=>?_
   refine ae (bnd hu) fun x' hx hu=>?_
   replace hx:=oi hx; subst hx
   refine ae (bnd hu) fun v0 h1 hu=>?_
   replace h1:=oi h1; subst h1
   refine ae (mpd hu) fun q h2 zq1=>?_; subst zq1
   refine ay (d6 h2▸rv) fun u' zq1=>?_; subst zq1
   refine kG ?_
   exact (rP _ _ rfl (aN.here bf (.int _ _) _))
 | false=>
  rw [e1] at g
  cases e2:Nat.beq f C.replace with
  | true=>
   rw [e2] at g
   rw [A4 e2,CO.replace]
   cases e3:tB l with
   | none=>rw [e3] at g; exact g.elim
   | some q=>
    rw [e3] at g
    refine cL fun HC kG=>?_
    obtain ⟨a,b⟩:=q
    obtain ⟨ka,pa,kb,pb,e4,hab⟩:=(wH e3)
    refine kG ?_
    rw [e4]
    dsimp only at g hab ⊢
    refine cL fun HC kG=>?_
    refine ae (dF g) fun u hu g=>?_
    refine ae (bnd hu) fun x' hx hu=>?_
    replace hx:=oi hx; subst hx
    refine ae (bnd hu) fun v0 h1 hu=>?_
    replace h1:=oi h1; subst h1
    refine ae (bnd hu) fun a' h1 hu=>?_
    replace h1:=oi h1; subst h1
    refine ae (bnd hu) fun b' h1 hu=>?_
    replace h1:=oi h1; subst h1
    refine ai (aO hu) fun hsz hu=>?_
    replace hu:=oi hu; subst hu
    refine kG ?_
    have hsz:=of_decide_eq_true hsz
    refine ⟨"str","str.replace",PySem.F.plainAttrs_str,PySem.F.slot_str_replace,PySem.F.type_str_replace,typeIs_str _ _ _,(fun HC e=>nomatch e),?_⟩
    refine Calls.callWith_builtin rfl (Calls.evalArgs_plain (spliced_cons (wpAny_Constant_str (k:=ka) (pos:=pa) (spliced_cons (wpAny_Constant_str (k:=kb) (pos:=pb) (spliced_nil ?_))))))
    refine PySem.SC.replace (by show s.toks≠0; omega) (Nat.succ_ne_zero _) (by show s.toks≠s.toks + 1; omega) (by rw [qq]; exact hab) ?_ fun t' k=>g.here I (.str (Txt.replace (aA x) (aA a) (aA b)).cps.toList t') k
    rw [aL,aL]
    have h1:aP=100000:=rfl
    have h2:(x.length + 1) * b.length<=(x.length + 1) * 10:=Nat.mul_le_mul_left _ hsz.2
    have h3:x.length<=aP:=hsz.1
    clear hsz
    omega
  | false=>
   rw [e2] at g
   cases e4:Nat.beq f C.split with
   | false=>rw [e4] at g; exact g.elim
   | true=>
    rw [e4] at g
    dsimp only at g
    rw [A4 e4,CO.split]
    cases e5:(fQ l).bind nA with
    | none=>rw [e5] at g; exact g.elim
    | some q=>
     rw [e5] at g
     refine ae (bnd e5) fun e he hc=>?_
     refine eE (mi hc) fun k pc zq1=>?_; subst zq1
     rw [jn he]
     show MethodOnS _ _ _ _ _ _ _ (backTo p (starEach [ME.toE nm vn (.const (.str q) k pc)] ev)) _ _
     rw [jL]
     refine cL fun HC kG=>?_
     refine ae (lB g) fun l' hl g=>?_
     refine ai (aO hl) fun hsz hl=>?_
     replace hl:=oi hl; subst hl
     refine kG ?_
     have hx:(aA x).length<=aP:=by rw [aL]; exact dG (aD hsz)
     exact sf (by rw [aL,A4 (al hsz)]; rfl) (Nat.le_trans hx cq) (Nat.le_trans (PyProof.Rows.split_le _ _) (Nat.le_trans (Nat.add_le_add_right hx 2) (by rw [sizeLine_eq]; decide))) (fun h=>wpAny_Constant_str (h _))
      fun ls hls k=>fW I (nY ls hls) g k
theorem wW (CO:nQ nm C) {r:dv} (hE:df prog w base P nm r) {fes:List Env} {o:ME} {f:Nat} {ap p:Pos} {l:bP} {c:Ctx} (ht:1<=s.toks)
  (F:ck nm ev vn vars c.g c.ro c.ce xs) (O:cV A fes c.d c.hm) (I:aG prog w P nm base σ ρ xs s.heap) (R:aH P nm ev fes vars own xs s.heap ρ c.l)
  (g:bh prog w base P nm ((step P C r).e (.meth o f ap l p) c σ) ρ xs Q E s):wpAny (model prog w) A (eval ((ME.meth o f ap l p).toE nm vn) ev) Q E s:=by
 refine ai (bA g) fun hb g=>?_
 have hline:(ap.endLine == p.line)=true:=by rw [A4 (al (aD hb))]; exact beq_self_eq_true _
 refine wpAny_Call_method_lateS (wO o _ ev (aD (aD hb))) (zn p ev l (al hb)) hline ?_
 refine hE o c σ A ev fes vn vars own xs ρ s (fun ov s₁=>MethodOnS prog w A E (nm f) ov p (backTo p (starEach (l.toE nm vn) ev)) Q s₁) E ht F O I R (af.bindT g fun x σ₁ x' h₁ tk₁ aa aq S aj rx aw=>?_)
 unfold lr at aw
 cases h1:oO x with
 | some k=>
  rw [h1] at aw
  refine ae (nE h1▸rx) fun a zq1 hk=>?_; subst zq1
  dsimp only at aw
  cases hy:ao σ₁ k with
  | none=>rw [hy] at aw; exact aw.elim
  | some o=>
   rw [hy] at aw
   cases o with
   | list ys=>exact se CO hE aq F O aj (R.stp I S) hk hy aw
   | hid q ys=>exact (aj.obj _ _ _ hy hk).elim
   | _=>exact aw.elim
 | none=>
  rw [h1] at aw
  dsimp only at aw
  cases h1:sO x with
  | none=>rw [h1] at aw; exact aw.elim
  | some y=>
   rw [h1] at aw
   refine ay (d6 h1▸rx) fun t zq1=>?_; subst zq1
   exact uc CO hE aq F O aj (R.stp I S) aw
theorem je {C:aS} (MO:mr prog w base P nm C) (FO:∀ i f,P.fns i=some f->zm nm base f) {r:dv} (hE:df prog w base P nm r) (hC:pC prog w base P nm r) {fes:List Env} {i:Nat} {f:bu} (hf:P.fns i=some f) {l:bP} {p:Pos} {c:Ctx} (ht:1<=s.toks)
  (F:ck nm ev vn vars c.g c.ro c.ce xs) (O:cV A fes c.d c.hm) (I:aG prog w P nm base σ ρ xs s.heap) (R:aH P nm ev fes vars own xs s.heap ρ c.l)
  (g:bh prog w base P nm ((jm r l c σ).bind fun vs s=>cS P C r i vs c s) ρ xs Q E s):wpAny (model prog w) A (callWith p (.ref f.addr) [] (backTo p (starEach (l.toE nm vn) ev)) []) Q E s:=by
 refine aV ((FO i f hf).at_) fun o fd ho hd hc=>?_
 refine Calls.callWith_function (o:=o) (fd:=fd) (bv l (dE hE l c σ ρ s _ _ ht F O I R (af.bindT g fun vs σ₁ ys h₁ tk₁ aa aq S aj rs aw=>?_)))
 exact ⟨⟨aj.stay _ _ ho,hd⟩,sd MO hC hf aq O (R.stp I S).fr aj rs aw⟩
theorem Bb {b:Nat} {l:bP} {p:Pos} (h:wpAny (model prog w) A (spliced (backTo p (starEach (l.toE nm vn) ev))) (fun vs s'=>wpAny (model prog w) A (call (jF b) vs) Q E s') E s) :
  wpAny (model prog w) A (callWith p (jF b) [] (backTo p (starEach (l.toE nm vn) ev)) []) Q E s:=by
 have hp:=d8 (nm:=nm) (vn:=vn) ev p l
 match b,h with
 | 0,h=>exact Calls.callWith_builtin hp (bv l h)
 | 1,h=>exact PySem.callWith_type hp (bv l h)
 | 2,h=>exact Calls.callWith_builtin hp (bv l h)
 | 3,h=>exact Calls.callWith_builtin hp (bv l h)
 | 4,h=>exact Calls.callWith_builtin hp (bv l h)
 | 5,h=>exact PySem.callWith_type hp (bv l h)
 | b + 6,h=>exact Calls.callWith_builtin hp (bv l h)
theorem wX (I:aG prog w P nm base σ ρ xs s.heap) {i:Nat} {cl:lg} (hcl:P.cls i=some cl) (h0:cl.kind=0) {h':Heap} {x dx:Addr} (Mk:Heap.MadeObj s.heap h' x dx cl.addr) :
  bq ρ ρ (ρ++[x,dx]) s.heap h'/\aG prog w P nm base (σ++[.inst i,.ns []]) (ρ++[x,dx]) xs h':=by
 refine y1 Mk.inst fun ox hx hcx hncx hdx=>?_
 have hdd:=Mk.dict ox hx
 have hns:dx≠x/\h'.Ns1 dx (fun HC=>none):=by
  rcases hdx with ⟨hn,_⟩ | ⟨d,hd,hne,hns⟩
  ·rw [hdd] at hn; exact Sn hn
  ·rw [hdd] at hd; replace hd:=oi hd; subst hd; exact ⟨hne,hns⟩
 have lx:bZ h' x:=⟨_,hx⟩
 have ld:bZ h' dx:=by refine fE (hns.2) fun o HC HC e HC=>?_; exact ⟨o,e⟩
 refine I.app Mk.keeps rfl (by simp [Ne.symm hns.1]) (fun a m=>?_) fun j o a e1 e2=>?_
 ·rcases A7 m with rfl | m
  ·exact ⟨Mk.newX,lx⟩
  ·rw [A2 m]; exact ⟨Mk.newD,ld⟩
 ·match j,e1,e2 with
  | 0,e1,e2=>
   replace e1:=oi e1; subst e1; replace e2:=oi e2; subst e2
   exact (nr ox dx cl hcl h0 hx hcx hncx hdd rfl)
  | 1,e1,e2=>
   replace e1:=oi e1; subst e1; replace e2:=oi e2; subst e2
   exact (bY _ hns.2 (fun c v (e:none=some v)=>nomatch e) (fun y hy=>absurd rfl hy))
  | j + 2,e1,e2=>exact nS e1
end
section
variable (prog:Program) (w:World) (base:Heap) (P:cz) (nm:Nat->Str)
noncomputable def ud (C:aS):Prop:=∀ (c:Nat) (fs:List (Nat × V)) (x:Value) (f:Nat) (v:V) (A:Around) (s:Shared) (ow ρ:List Addr) (Q E:Value->Shared->Prop),base.StaysIn s.heap->au P nm s.heap ow ρ (.exc c fs) x->(f=C.text\/f=C.line)->find fs f=some v ->
 (∀ z t,au P nm s.heap ow ρ v z->Q z { s with toks:=t })->wpAny (model prog w) A (getAttr x (nm f) true) Q E s
noncomputable def qE:Prop:=∀ (g i j:Nat) (f:bu) (v:V) (z:Value) (d:Nat) (hm:Bool) (σ:St) (A:Around) (fes:List Env) (xs ρ:List Addr) (s:Shared) (Q E:Value->Shared->Prop),P.gv g = .mk i j->P.fns i=some f->1<=s.toks->cV A fes d hm->gT fes xs s.heap ->
 aG prog w P nm base σ ρ xs s.heap->au P nm s.heap (ρ++xs) ρ v z->bj 9 v=true->eX 0 σ = true->bh prog w base P nm (.ok (.clo j [v]) σ) ρ xs Q E s->wpAny (model prog w) A (call (.ref f.addr) [z]) Q E s
structure aY (C:aS) (mg mb:Str->Option Value):Prop where
 G:jp P nm base mg mb
 CO:nQ nm C
 K:∀ c cl,P.cls c=some cl->cl.kind=0->nP P nm C base cl
 FO:∀ i f,P.fns i=some f->zm nm base f
 X:ud prog w base P nm C
 NL:base.NoLimit
 MO:mr prog w base P nm C
 MK:qE prog w base P nm
 BA:∃ bm o,mg "__builtins__" = some (.ref bm)/\bm≠builtinsNs/\bm≠mainGlobals/\base.get? bm=some o/\o.cls = .type "module"/\o.dict=some builtinsNs/\o.data = .plain
noncomputable def Bc (r:dv):Prop:=∀ (i:Nat) (f:bu) (fv vs:List V) (x:Value) (zs:List Value) (d:Nat) (hm:Bool) (σ:St) (A:Around) (fes:List Env) (xs ρ:List Addr) (s:Shared) (Q E:Value->Shared->Prop),P.fns i=some f->1<=s.toks ->
 cV A fes (d + 1) hm->gT fes xs s.heap->aG prog w P nm base σ ρ xs s.heap->au P nm s.heap (ρ++xs) ρ (.clo i fv) x->ak P nm s.heap (ρ++xs) ρ vs zs->vs.length + fv.length=f.np ->
 bh prog w base P nm ((r.b f.body ⟨(vs++fv).map some++List.replicate (f.nv - f.np) none,d,hm,f.gl,lm 0 f.vars,jl 0 f.vars⟩ σ).bind fC) ρ xs (T1 Q) (T1 E) s->wpAny (model prog w) A (call x zs) Q E s
end
section
variable {prog:Program} {w:World} {base:Heap} {P:cz} {nm:Nat->Str} {σ:St} {ρ xs own:List Addr} {s:Shared} {A:Around} {E Q:Value->Shared->Prop} {mg mb:Str->Option Value} {ev:Env} {vn:Nat->Nat} {vars:List (Nat × Nat)} {gs ro ce:List Nat} {l:Loc} {fes:List Env} {C:aS}
theorem si (a:ME) (at_:Str) (p:Pos) (ev:Env) (hb:dZ a=true):eval (.Attribute (a.toE nm vn) at_ p) ev=(do
   let o <- eval (a.toE nm vn) ev
   standAt p.atName
   let r <- holding [o] (getAttr o at_ true)
   letTemporaryGo (a.toE nm vn) o r
   pure r):=by
 cases a <;> first | rfl | exact fT hb
theorem ue {fes:List Env} {d:Nat} {hm:Bool} (O:cV A fes (d + 2) hm) (a:Addr) (v:List Value):cV (A.under (.builtin "type.__call__" ⟨.ref a :: v,[]⟩)) fes (d + 1) hm:=by
 have h1:=O.dep
 have h2:=O.un
 refine ⟨O.fr,?_,?_,O.hd⟩
 ·exact tG (d:=d + 1) h1
 ·have:(A.under (.builtin "type.__call__" ⟨.ref a :: v,[]⟩)).units<=A.units + 10:=by
   show A.units + (Code.builtin "type.__call__" ⟨.ref a :: v,[]⟩).cUnits<=A.units + 10
   have:(Code.builtin "type.__call__" ⟨.ref a :: v,[]⟩).cUnits<=10:=by
    first
     | exact (show 1<=10 by decide)
     | exact (show 4<=10 by decide)
     | exact (show 7<=10 by decide)
   exact Nat.add_le_add_left this _
  exact Nat.le_trans (Nat.add_le_add_right (Nat.add_le_add_right this _) _) (yz (d:=d + 1) (k:=10) h2 (by decide))
theorem zo {v:V} {i:Nat} (e:Ey v=some i):v = .fn i:=by
 cases v with
 | fn _=>replace e:=oi e; subst e; rfl
 | _=>exact nS e
theorem sj {o:O} (e:tx o=true):∃ i,o = .inst i:=by
 cases o with
 | inst i=>exact ⟨i,rfl⟩
 | _=>exact fT e
theorem zp {o:O} {fs:List (Nat × V)} (e:EA o=some fs):o = .ns fs:=by
 cases o with
 | ns _=>replace e:=oi e; subst e; rfl
 | _=>exact nS e
theorem fj {k:Nat} {fs:List (Nat × V)} (e:bW k σ = some fs):∃ i,ao σ k=some (.inst i)/\ao σ (k + 1)=some (.ns fs):=by
 refine ae (bnd e) fun o h1 e=>?_
 refine ae (bnd e) fun n h2 e=>?_
 refine ai (aO e) fun hi e=>?_
 refine ay (sj hi) fun i zq1=>?_; subst zq1
 exact (ax i h1 (zp e▸h2))
theorem pE {h:Heap} {ow ρ:List Addr} {v:V} {z:Value} (e:isNone v=true) (r:au P nm h ow ρ v z):z = .none:=by
 cases v with
 | none=>exact r
 | _=>exact fT e
theorem wY:∀ {l:bP},jD l=true->∃ e l',l = .cons e l'
 | .cons e l,_=>(gP e l rfl)
theorem uf (W:aY prog w base P nm C mg mb) {r:dv} (hE:df prog w base P nm r) (hC:pC prog w base P nm r) {fes:List Env} {gl i:Nat} {gp p:Pos} {l:bP} {c:Ctx} (ht:1<=s.toks)
  (F:ck nm ev vn vars c.g c.ro c.ce xs) (O:cV A fes c.d c.hm) (I:aG prog w P nm base σ ρ xs s.heap) (R:aH P nm ev fes vars own xs s.heap ρ c.l) (hg:aQ c.g gl=true) (hi:P.gv gl = .cls i)
  (g:bh prog w base P nm (ofO (P.cls i) fun cl=>chk (Nat.beq cl.kind 0 && jD l) ((jm r l c σ).bind fun vs s=>match c.d with
    | d + 2=>(r.c cl.init (.obj s.length :: vs) d c.hm (s++[.inst i,.ns []])).bind fun v s'=>chk (isNone v) (.ok (.obj s.length) s')
    | _=>.stuck)) ρ xs Q E s):wpAny (model prog w) A (eval (.Name (nm gl) gp) ev) (fun f s₁=>wpAny (model prog w) A (callWith p f [] (backTo p (starEach (l.toE nm vn) ev)) []) Q E s₁) E s:=by
 refine cL fun HC kG=>?_
 refine ae (W.G.gcl _ _ hi) fun cl hcl hx=>?_
 refine ae (bp g) fun cl' hcl' g=>?_
 refine kG ?_
 rw [hcl] at hcl'; replace hcl':=oi hcl'; subst hcl'
 refine cL fun HC kG=>?_
 refine ai (bA g) fun h0 g=>?_
 refine eE (wY (al h0)) fun e l zq1=>?_; subst zq1
 have h0:=A4 (aD h0)
 obtain ⟨⟨N,mN,X,g1,g2,g3,fI,oI,hfI,hin,hoI,hfc⟩,g4⟩:=W.K i cl hcl h0
 refine kG ?_
 refine fh W.G F I hg hx ?_
 refine callWith_cls (e:=e.toE nm vn) (rest:=l.toE nm vn) X ?_ (cf e _ ev) (d8 ev p l)
 refine dE hE (.cons e l) c σ ρ s _ _ ht F O I R (af.bindT g fun vs σ₁ ys h₁ tk₁ aa aq S aj rs aw=>?_)
 refine ⟨fun b o e=>aj.stay b o e,?_⟩
 have fr:=(R.stp I S).fr
 obtain ⟨cl_,cd,chm,cg,cro,cce⟩:=c
 cases cd with
 | zero=>exact aw.elim
 | succ d=>
 cases d with
 | zero=>exact aw.elim
 | succ d=>
  have X':=X.keeps (fun b o e=>aj.stay b o e)
  refine cL fun HC kG=>?_
  obtain ⟨cn,q,bs,sn,sub,col,dd,k0,k1,k2,k3,k5,hCo⟩:=X'.obj
  refine kG ?_
  refine wpAny_call_obj_init PySem.F.objNew hCo X'.ns hin (aj.stay _ _ hoI) hfc fun h' x dx Mk=>?_
  refine ai (wX (s:={ s with heap:=h₁,toks:=tk₁ }) aj hcl h0 Mk) fun S2 I2=>?_
  have hidx:ao (aa++[x,dx]) σ₁.length=some x:=by
   rw [<- aj.len,aK (Nat.le_refl _),Nat.sub_self]; rfl
  have aw:bh prog w base P nm ((r.c cl.init (.obj σ₁.length :: vs) d chm (σ₁++[.inst i,.ns []])).bind fun v s'=>chk (isNone v) (.ok (.obj σ₁.length) s')) aa xs Q E { s with heap:=h₁,toks:=tk₁ }:=aw
  have g2:=af.shift (t₁:=tk₁) aw S2
  refine hC cl.init fI _ _ d chm _ _ fes xs (aa++[x,dx]) { s with heap:=h',toks:=tk₁ } _ _ hfI aq (ue O _ _) (fr.stp aj S2) I2 (.cons (.obj hidx) (rs.grow S2.growE)) (af.bindT g2 fun v aI z aR bC aW aX S3 I3 rz aN=>?_)
  refine ai (bA aN) fun hn aN=>?_
  exact ⟨pE hn rz,aN.here I3 (.obj (S3.pre _ _ hidx)) bC⟩
theorem wZ {v:V} {q:Nat × List V} (h:wy v=some q):v = .clo q.1 q.2:=by
 cases v with
 | clo i l=>replace h:=oi h; subst h; rfl
 | _=>exact nS h
theorem w0 {c:Ctx} {e:ME} (h:pj P e=true) (k:zf c e=true):∃ g p,e = .glob g p/\P.gv g = .bi 5/\aQ c.g g=true:=by
 cases e with
 | glob g p=>
  refine (db g p rfl ?_ k)
  replace h:(match P.gv g with | .bi b=>Nat.beq b 5 | _=>false)=true:=h
  cases hg:P.gv g with
  | bi b=>rw [hg] at h; rw [A4 h]
  | _=>rw [hg] at h; exact fT h
 | _=>exact fT h
theorem ug (I:aG prog w P nm base σ ρ xs s.heap) {v:V} {x:Value} (r:au P nm s.heap (ρ++xs) ρ v x) {b:Bool} (e:fR v σ = some b) (h:∀ t,Q (.bool b) { s with toks:=t }):wpAny (model prog w) A (call (jF 6) [x,jF 5]) Q E s:=by
 unfold fR at e
 cases h1:iO v with
 | some i=>
  rw [h1] at e
  replace e:=oi e; subst e
  refine ay (dw h1▸r) fun t zq1=>?_; subst zq1
  exact PySem.IsiPair.int_int (h s.toks)
 | none=>
  rw [h1] at e
  refine ae (bnd e) fun k h2 e=>?_
  refine ae (mpd e) fun l h3 zq1=>?_; subst zq1
  refine ae (nE h2▸r) fun a zq1 hk=>?_; subst zq1
  refine ae (I.obj _ _ _ (gU h3) hk) fun us zq1 HC=>?_; refine ay zq1 fun n hp=>?_
  exact PySem.IsiPair.list_int hp rfl (h _)
theorem uh (W:aY prog w base P nm C mg mb) {r:dv} (hE:df prog w base P nm r) (hC:pC prog w base P nm r) (hK:Bc prog w base P nm r) {fes:List Env} {e:ME} {c:Ctx} (ht:1<=s.toks)
  (F:ck nm ev vn vars c.g c.ro c.ce xs) (O:cV A fes c.d c.hm) (I:aG prog w P nm base σ ρ xs s.heap) (R:aH P nm ev fes vars own xs s.heap ρ c.l)
  (he:match e with | .attr ..=>True | .callg ..=>True | .calle ..=>True | _=>False)
  (g:bh prog w base P nm ((step P C r).e e c σ) ρ xs Q E s):wpAny (model prog w) A (eval (e.toE nm vn) ev) Q E s:=by
 cases e with
 | attr a f p=>
  refine ai (bA g) fun hb g=>?_
  refine Attribute_any_ (hE a c σ A ev fes vn vars own xs ρ s _ _ ht F O I R (af.bindT g fun x σ₁ x' h₁ tk₁ aa aq S aj rx aw=>?_)) (si a _ p ev hb)
  refine ae (eA aw) fun v hv aN=>?_
  clear aw
  cases x with
  | obj k=>
   refine cL fun HC kG=>?_
   refine ae rx fun HC zq1 hk=>?_; clear rx; subst zq1
   refine ae (bnd hv) fun fs ha hv=>?_
   refine ai (aO hv) fun hfa hv=>?_
   refine ae (fj ha) fun i h1 h2=>?_
   refine kG ?_
   exact pA W.K aj hk h1 h2 hfa hv fun z t r=>aN.here aj r t
  | exc k fs=>
   refine ai (aO hv) fun hf hv=>?_
   exact W.X _ _ _ _ _ _ _ _ _ _ _ aj.stay rx (((Bool.or_eq_true _ _).mp hf).imp A4 Nat.eq_of_beq_eq_true) hv fun z t r=>aN.here aj r t
  | _=>exact nS hv
 | callg gl gp l p=>
  refine ai (bA g) fun hg g=>?_
  refine Call_Name rfl ?_
  cases hi:P.gv gl with
  | fn i=>
   rw [hi] at g
   refine ae (W.G.gfn _ _ hi) fun f hf hx=>?_
   exact fh W.G F I hg hx (je W.MO W.FO hE hC hf ht F O I R g)
  | cls i=>
   rw [hi] at g
   exact uf W hE hC ht F O I R hg hi g
  | bi b=>
   rw [hi] at g
   refine ai (bA g) fun hhm g=>?_
   cases h6:Nat.beq b 6 with
   | true=>
    rw [h6] at g
    refine cL fun HC kG=>?_
    refine ae (bp g) fun q hq g=>?_
    refine ai (bA g) fun hq2 g=>?_
    refine aV (w0 (aD hq2) (al hq2)) fun g' p' e2 hv hg'=>?_
    refine kG ?_
    refine pt W.G F I hg (W.G.gbi _ _ hi) ?_
    rw [A4 h6,qs hq,e2]
    refine Calls.callWith_builtin (d8 ev p _) (bv (.cons q.1 (.cons (.glob g' p') .nil)) ?_)
    show wpAny (model prog w) A (spliced (backTo p (starEach (ME.toE nm vn q.1 :: (bP.cons (.glob g' p') .nil).toE nm vn) ev))) _ E s
    rw [cf]
    refine Calls.spliced_cons (hE q.1 c σ A ev fes vn vars own xs ρ s _ _ ht F O I R (af.bindT g fun v σ₁ x' h₁ tk₁ aa aq S aj rv aw=>?_))
    show wpAny (model prog w) A (spliced (backTo p (starEach (ME.toE nm vn (.glob g' p') :: (bP.nil).toE nm vn) ev))) _ E _
    rw [cf]
    refine Calls.spliced_cons (pt (s:={ s with heap:=h₁,toks:=tk₁ }) W.G F aj hg' (W.G.gbi _ _ hv) (Calls.spliced_nil ?_))
    refine cL fun HC kG=>?_
    refine ae (eA aw) fun b' hb' aw=>?_
    refine ae (mpd hb') fun b'' hb'' zq1=>?_; subst zq1
    refine kG ?_
    exact ug aj rv hb'' fun t=>aw.here aj (.bool _) t
   | false=>
   rw [h6] at g
   refine pt W.G F I hg (W.G.gbi _ _ hi) (Bb (dE hE l c σ ρ s _ _ ht F O I R (af.bindT g fun vs σ₁ ys h₁ tk₁ aa aq S aj rs aw=>?_)))
   refine ae (eA aw) fun v hv aw=>?_
   exact pr aj (O.hd (iM hhm)) rs hv fun z h' tk' S' I' r'=>aw z h' tk' _ S' I' r'
  | mk i j=>
   rw [hi] at g
   refine cL fun HC kG=>?_
   refine ae (W.G.gmk _ _ _ hi) fun f hf hx=>?_
   refine aV ((W.FO i f hf).at_) fun o fd ho hd hc=>?_
   refine kG ?_
   refine fh W.G F I hg hx (Calls.callWith_function (o:=o) (fd:=fd) (bv l (dE hE l c σ ρ s _ _ ht F O I R (af.bindT g fun vs σ₁ ys h₁ tk₁ aa aq S aj rs aw=>?_))))
   refine ai (bA aw) fun hck aw=>?_
   match vs,hck with
   | [v],hck=>
    refine ae rs.one fun z zq1 rz=>?_; subst zq1
    exact ⟨⟨aj.stay _ _ ho,hd⟩,W.MK _ _ _ _ _ _ _ _ _ _ _ _ _ _ _ _ hi hf aq O (R.stp I S).fr aj rz (aD (aD (aD hck))) (al hck) aw⟩
   | [],hck=>cases (al (aD hck))
   | _ :: _ :: _,hck=>cases (al (aD hck))
  | _=>rw [hi] at g; exact g.elim
 | calle f l p=>
  refine ai (bA g) fun hb g=>?_
  have he:eval (.Call (f.toE nm vn) (l.toE nm vn) [] p) ev=(do callWith p (<- eval (f.toE nm vn) ev) [] (backTo p (starEach (l.toE nm vn) ev)) (backToKw p (keywordEach [] ev))):=by
   cases f <;> first | rfl | exact fT hb
  refine Call_ (hE f c σ A ev fes vn vars own xs ρ s _ _ ht F O I R (af.bindT g fun x σ₁ x' h₁ tk₁ aa aq S aj rx aw=>?_)) he
  cases hq:wy x with
  | none=>
   rw [hq] at aw
   refine cL fun HC kG=>?_
   refine ae (bp aw) fun i hi aw=>?_
   rw [zo hi] at rx
   refine ae rx fun HC zq1 hf=>?_; clear rx; subst zq1
   refine kG ?_
   exact je W.MO W.FO hE hC hf aq F O aj (R.stp I S) aw
  | some q=>
   rw [hq] at aw
   refine cL fun HC kG=>?_
   refine ae (bp aw) fun f' hf' aw=>?_
   rw [wZ hq] at rx
   refine de (id rx) fun a as ys zq1 zq2 hcells=>?_; subst zq1; obtain ⟨o,fd,f'',cc,oc,ws,t,k1,k2,k3,kr⟩:=zq2
   refine kG ?_
   refine Calls.callWith_function (o:=o) (fd:=fd) (bv l (dE hE l c σ₁ aa _ _ _ aq F O aj (R.stp I S) (af.bindT aw fun vs aI zs aR bC aW aX bl bf rs aN=>?_)))
   refine ⟨⟨(bl.growE.map.has k1 k2 (by decide) (by decide) kr.1).1,k3⟩,?_⟩
   cases hd:c.d with
   | zero=>rw [hd] at aN; exact aN.elim
   | succ d=>
    rw [hd] at aN
    refine ai (bA aN) fun hl aN=>?_
    exact hK q.1 f' q.2 vs (.ref a) zs d c.hm aI A fes xs aW _ Q E hf' aX (hd▸O) ((R.stp I S).stp aj bl).fr bf (rx.grow bl.growE) rs (A4 hl) aN.t1
 | _=>exact he.elim
end
section
variable {prog:Program} {w:World} {base:Heap} {P:cz} {nm:Nat->Str} {σ:St} {ρ xs own:List Addr} {s:Shared} {A:Around} {E:Value->Shared->Prop} {Q:Bool->Shared->Prop} {mg mb:Str->Option Value} {ev:Env} {vn:Nat->Nat} {vars:List (Nat × Nat)} {gs ro ce:List Nat} {l:Loc} {fes:List Env} {C:aS}
theorem xd (W:aY prog w base P nm C mg mb) {r:dv} (hE:df prog w base P nm r) (hT:kS prog w base P nm r) {fes:List Env} {e:ME} {c:Ctx} (ht:1<=s.toks)
  (F:ck nm ev vn vars c.g c.ro c.ce xs) (O:cV A fes c.d c.hm) (I:aG prog w P nm base σ ρ xs s.heap) (R:aH P nm ev fes vars own xs s.heap ρ c.l)
  (g:qp prog w base P nm ((step P C r).t e c σ) ρ xs Q E s):wpAny (model prog w) A (isTrue (e.toE nm vn) ev (eval (e.toE nm vn) ev)) Q E s:=by
 have gen:∀ (g:qp prog w base P nm ((r.e e c σ).bind fun x s=>gJ (bO x) s) ρ xs Q E s)
   (he:isTrue (e.toE nm vn) ev (eval (e.toE nm vn) ev)=(do let v <- eval (e.toE nm vn) ev; standAt (e.toE nm vn).pos; holding [v] (truthy v))),
   wpAny (model prog w) A (isTrue (e.toE nm vn) ev (eval (e.toE nm vn) ev)) Q E s:=fun g he=>by
  refine wpAny_isTrue_value (hE e c σ A ev fes vn vars own xs ρ s _ _ ht F O I R (af.bindT g fun x σ₁ x' h₁ tk₁ aa aq S aj rx aw=>?_)) he
  refine ay (wM aw) fun b hb=>?_
  rw [hb] at aw
  rw [tI hb] at rx
  obtain rfl:=rx
  exact wpAny_truthy_bool (aw.here aj rfl _)
 cases e with
 | un op a p=>
  cases op with
  | Not=>
   refine wpAny_isTrue_Not (hT a c σ A ev fes vn vars own xs ρ s _ _ ht F O I R (af.bindT g fun q σ₁ q' h₁ tk₁ aa aq S aj rq aw=>?_))
   cases rq
   exact aw.here aj rfl _
  | _=>exact gen g rfl
 | bools op l p=>exact wpAny_isTrue_BoolOp (px hT l c σ ρ s Q E ht F O I R g)
 | ifx t a b p=>
  refine isTrue_IfExp (hT t c σ A ev fes vn vars own xs ρ s _ _ ht F O I R (af.bindT g fun q σ₁ q' h₁ tk₁ aa aq S aj rq aw=>?_))
  cases rq
  cases q with
  | true=>exact hT a c σ₁ A ev fes vn vars own xs aa _ _ _ aq F O aj (R.stp I S) aw.t1
  | false=>exact hT b c σ₁ A ev fes vn vars own xs aa _ _ _ aq F O aj (R.stp I S) aw.t1
 | cmp a op b p=>
  refine wpAny_isTrue_Compare1 (hE a c σ A ev fes vn vars own xs ρ s _ _ ht F O I R (af.bindT g fun x σ₁ x' h₁ tk₁ aa aq S aj rx aw=>?_)) (fi op b)
  refine hE b c σ₁ A ev fes vn vars own xs aa _ _ _ aq F O aj (R.stp I S) (af.bindT aw fun y aI y' aR bC aW aX bl bf ry aN=>?_)
  cases hq:dT op x y aI with
  | none=>rw [hq] at aN; exact aN.elim
  | some q=>
   rw [hq] at aN
   exact ib bf W.G.sm (jq O) (rx.grow bl.growE) ry hq fun t=>wpAny_truthy_bool (aN.here bf rfl t)
 | cmp2 a o1 b o2 d p=>
  refine isTrue_chain (hE a c σ A ev fes vn vars own xs ρ s _ _ ht F O I R (af.bindT g fun x σ₁ x' h₁ tk₁ aa aq S aj rx aw=>?_)) (jH o1 o2 b d)
  refine test_link (hE b c σ₁ A ev fes vn vars own xs aa _ _ _ aq F O aj (R.stp I S) (af.bindT aw fun y aI y' aR bC aW aX bl bf ry aN=>?_))
  refine jI W.G O aX bf (rx.grow bl.growE) ry aN fun q t h1 dq=>wpAny_truthy_bool ?_
  cases q with
  | false=>exact dq.here bf rfl _
  | true=>
   refine test_last (hE d c aI A ev fes vn vars own xs aW _ _ _ h1 F O bf ((R.stp I S).stp aj bl) (af.bindT dq fun z dU z' cO fX jd cI gV ei rz gW=>?_))
   cases hq:dT o2 y z dU with
   | none=>rw [hq] at gW; exact gW.elim
   | some q=>
    rw [hq] at gW
    exact ib ei W.G.sm (jq O) (ry.grow gV.growE) rz hq fun t=>wpAny_truthy_bool (gW.here ei rfl t)
 | _=>exact gen g rfl
theorem aG.ownCh {h h':Heap} (I:aG prog w P nm base σ ρ xs h) {a:Addr} (ha:a∈xs) (hk:∀ b o,b≠a->h.get? b=some o->h'.get? b=some o) (hl:bZ h' a) (hff:∀ o,h.get? a=some o->o.cls = .type "frame"->(∃ es ep,o.data = .dict es ep)->∃ o',h'.get? a=some o'/\o'.cls = .type "frame"/\∃ es ep,o'.data = .dict es ep):bq (a :: ρ) ρ ρ h h'/\aG prog w P nm base σ ρ xs h':=by
 have K:bw [a] h h':=.of_but hk hl
 have G:cK [a] (ρ++xs) (ρ++xs) ρ ρ h h':=⟨K,fun b m=>by rw [A2 m]; exact A0 ha,fun HC m=>.inl m,fun HC HC e=>e⟩
 refine ⟨⟨K.mono fun b m=>by rw [A2 m]; exact .head _,fun HC HC e=>e,fun HC m=>.inl m,fun L o HC ho hc hd=>by
  by_cases q:L=a
  ·subst q; exact hff o ho hc hd
  ·exact (bY o (hk L o q ho) hc hd)⟩,⟨fun b o e=>?_,I.len,I.nd,fun b m=>⟨(I.new b m).1,K.live b (I.new b m).2⟩,fun j o b e1 e2=>?_⟩⟩
 ·refine hk b o (fun z=>?_) (I.stay b o e)
  have:=(I.new a (A0 ha)).1
  rw [z,this] at e; exact nS e
 ·exact (I.obj j o b e1 e2).grow G (fun m=>by rw [A2 m] at e2; exact I.disj (aT e2) ha) fun HC e=>e
theorem ui {ro:List Nat} {i:Nat} {v:V} {l:Loc} {o:Option V} (h:aQ ro i=false) (e:ao l i=some o):bk ro i v l=some (bc l i (some v)):=by
 unfold bk
 rw [h,e]
theorem iq {ro:List Nat} {i:Nat} {v:V} {l l':Loc} (e:bk ro i v l=some l'):aQ ro i=false/\(∃ o,ao l i=some o)/\l'=bc l i (some v):=by
 unfold bk at e
 cases h:aQ ro i with
 | true=>rw [h] at e; exact nS e
 | false=>
  rw [h] at e
  dsimp only at e
  cases ho:ao l i with
  | none=>rw [ho] at e; exact nS e
  | some o=>rw [ho] at e; replace e:=oi e; subst e; exact (cF rfl ⟨o,rfl⟩ rfl)
theorem bG {h h':Heap} {a b:Addr} {v:Option Value} (hk:∀ b o,b≠a->h.get? b=some o->h'.get? b=some o) (hb:b≠a) (x:h.IsCell b v):h'.IsCell b v:=by
 refine ae x fun o ho hd=>?_; clear x
 exact (ax o (hk b o hb ho) hd)
theorem fY {h:Heap} {a:Addr} {v:Option Value} (x:h.IsCell a v):bZ h a:=let ⟨o,e,_⟩:=x; ⟨o,e⟩
theorem gC {h:Heap} {a:Addr} {m:Str->Option Value} (x:h.Ns a m):bZ h a:=let ⟨o,_,_,e,_⟩:=x; ⟨o,e⟩
theorem gX {h h':Heap} {a b:Addr} {m:Str->Option Value} (hk:∀ b o,b≠a->h.get? b=some o->h'.get? b=some o) (hb:b≠a) (x:h.Ns b m):h'.Ns b m:=by
 refine fE x fun o es ep ho r=>?_; clear x
 exact (hM o es ep (hk b o hb ho) r)
theorem pF {fes:List Env} {xs:List Addr} {h h':Heap} {a:Addr} (x:gT fes xs h) (hk:∀ b o,b≠a->h.get? b=some o->h'.get? b=some o) (ha:∀ o,h.get? a=some o->o.cls = .type "frame"->(∃ es ep,o.data = .dict es ep)->∃ o',h'.get? a=some o'/\o'.cls = .type "frame"/\∃ es ep,o'.data = .dict es ep):gT fes xs h':=fun e he=>by
 refine ai (x e he) fun k zq1=>?_; refine jz zq1 fun L o h1 h2 h3 h4 h5=>?_
 by_cases q:L=a
 ·subst q
  refine bD (ha o h3 h4 h5) fun o' e1 e2 e3=>?_
  exact ⟨k,L,o',h1,h2,e1,e2,e3⟩
 ·exact ⟨k,L,o,h1,h2,hk L o q h3,h4,h5⟩
theorem lF {a:Addr} {m:Str->Option Value} {name:Str} {v:Value} {M:Model} {A:Around} {E:Value->Shared->Prop} {Q:Unit->Shared->Prop} {s:Shared} (hn:s.heap.Ns a m)
  (hQ:∀ h',h'.Ns a (fun x=>if x=name then some v else m x)->Heap.SameBut a s.heap h'->(∀ o,s.heap.get? a=some o->∃ o',h'.get? a=some o'/\o'.cls=o.cls)->Q () { s with heap:=h',toks:=s.toks + 1 }) :
  wpAny M A (nsSet a name v) Q E s:=fun Γ p hΓ=>by
 have lib:=Sem.wp_nsSet M Γ (fun e HC s'=>E e s') p s hn name v (fun HC HC s'=>s'.heap.Ns a (fun x=>if x=name then some v else m x)) (fun h' x HC=>x)
 refine eS hn fun o es ep ho hd hk hm=>?_; clear hn
 have hany:es.any (·.refKey)=false:=by
  rw [Array.any_eq_false']; intro e he; refine eE (hk e he) fun n t h=>?_; simp [DictEntry.refKey,h]
 simp only [nsSet,strHash,Sem.wp_bind',Sem.wp_cmd_ask,Sem.wp_pure',Sem.wp_cmd_mkText] at lib ⊢
 rw [Sem.wp_loadPart_of M Γ _ p { s with toks:=s.toks + 1 } (o:=o) _ ho] at lib ⊢
 simp only [hd,aRefKeyMayBeTheName_eq,aRefKeyMayBeTheNameByArray,hany,Bool.and_false,Bool.false_eq_true,if_false,Sem.wp_cmd_updatePart] at lib ⊢
 refine ⟨by rw [ho]; rfl,hQ _ lib.2 (Heap.SameBut.update ..) fun ua jJ=>?_⟩
 have hn':Heap.Ns _ a _:=lib.2
 refine fE hn' fun nZ HC HC fH HC=>?_; clear hn'
 refine (ax nZ fH ?_)
 rw [ho] at jJ; replace jJ:=oi jJ; subst jJ
 have hfr:∀ (h:Int) (key:Value),((Obj.putName name h key v) o).isFreed=false:=fun h key=>by
  obtain ⟨c,d,dt,sl⟩:=o
  subst hd
  simp only [Obj.putName_eq,Obj.putNameByArray]
  split <;> rfl
 rw [Heap.get?_update_self _ ho (hfr _ _)] at fH
 replace fH:=oi fH; subst fH
 obtain ⟨c,d,dt,sl⟩:=o
 subst hd
 simp only [Obj.putName_eq,Obj.putNameByArray]
 split <;> rfl
theorem iP (G:jp P nm base mg mb) (F:ck nm ev vn vars gs ro ce xs) (I:aG prog w P nm base σ ρ xs s.heap) (R:aH P nm ev fes vars own xs s.heap ρ l) {i:Nat} {v:V} {x:Value} {l':Loc} (e:bk ro i v l=some l') (rv:au P nm s.heap (ρ++xs) ρ v x)
  {Q:Unit->Shared->Prop} (h:∀ h' t,s.toks<=t->bw own s.heap h'->bq (own++ρ) ρ ρ s.heap h'->aG prog w P nm base σ ρ xs h'->aH P nm ev fes vars own xs h' ρ l'->Q () { s with heap:=h',toks:=t }) :
  wpAny (model prog w) A (storeName ev (nm (vn i)) x) Q E s:=by
 refine jy (iq e) fun hro zq1 zq2=>?_; refine ay zq1 fun o ho=>?_; subst zq2
 refine ae R.ns fun m hn hm=>?_
 have hlt:i < vars.length:=by rw [<- R.len]; exact b7 ho
 obtain ⟨⟨c,k⟩,hck⟩:=dh hlt
 rw [F.vn i c k hck]
 have sub:∀ {a},a∈own->∀ b∈a :: ρ,b∈own++ρ:=fun ha b m=>by
  rcases A7 m with rfl | m
  ·exact A1 ha
  ·exact A0 m
 match k,hck with
 | k + 2,hck=>rw [F.ro i c k hck] at hro; exact tF hro
 | 0,hck=>
  rw [storeName_local (F.loc i c hck) (by rw [F.hk]; rfl)]
  refine lF hn fun h' hn' hs hcls=>?_
  have kd:∀ b o,b≠ev.locals->s.heap.get? b=some o->h'.get? b=some o:=fun b o hb e=>(hs.2 b hb).trans e
  have hfr:∀ o,s.heap.get? ev.locals=some o->o.cls = .type "frame"->(∃ es ep,o.data = .dict es ep)->∃ o',h'.get? ev.locals=some o'/\o'.cls = .type "frame"/\∃ es ep,o'.data = .dict es ep:=fun o eo hc HC=>by refine ae (hcls o eo) fun o' eo' hc'=>?_; refine de hn' fun o2 es ep h1 h2 HC=>?_; clear hn'; rw [eo'] at h1; replace h1:=oi h1; subst h1; exact ⟨o',eo',hc'.trans hc,es,ep,h2⟩
  refine ai (I.ownCh F.lin kd (gC hn') hfr) fun S I'=>?_
  have Gr:cK [ev.locals] (ρ++xs) (ρ++xs) ρ ρ s.heap h':=⟨.of_but kd (gC hn'),fun b m=>by rw [A2 m]; exact A0 F.lin,fun HC m=>.inl m,fun HC HC e=>e⟩
  refine h h' _ (Nat.le_succ _) ((bw.of_but kd (gC hn')).mono fun b m=>by rw [A2 m]; exact R.own.1) (S.mono (sub R.own.1)) I' ⟨by rw [cY]; exact R.len,(ax _ hn' (fun j u hj=>?_)),fun j c' hj=>?_,R.own,pF R.fr kd hfr⟩
  ·rw [eJ] at hj
   by_cases hji:j=i
   ·subst hji
    rw [if_pos rfl,ho] at hj
    cases hj
    exact (dz c 0 x hck (rv.grow Gr) (.inl ⟨rfl,if_pos rfl⟩))
   ·rw [if_neg hji] at hj
    refine de (hm j u hj) fun c' k' y h1 h2 h3=>?_
    refine (dz c' k' y h1 (h2.grow Gr) (h3.imp (fun ⟨hk0,hy⟩=>⟨hk0,?_⟩) fun ⟨hk0,a,ha,hc,hx⟩=>⟨hk0,a,ha,bG kd (F.cloc _ _ ha) hc,hx⟩))
    rw [if_neg (fun z=>hji ?_)]
    ·exact hy
    ·have:=G.inj _ _ z
     subst this
     exact F.nd _ _ _ _ _ h1 hck
  ·refine aV (R.un j c' hj) fun a cC h1 h2 h3=>?_
   exact (db a cC h1 (bG kd (F.cloc _ _ h1) h2) h3)
 | 1,hck=>
  refine aV (R.un i c hck) fun a cC ha hc hao=>?_
  refine wpAny_storeName_cell F.hk (F.cel i c hck) ha hc fun h' hc' hs=>?_
  have kd:∀ b o,b≠a->s.heap.get? b=some o->h'.get? b=some o:=fun b o hb e=>(hs.2 b hb).trans e
  have hax:=R.own.2 a hao
  have hfr:∀ o,s.heap.get? a=some o->o.cls = .type "frame"->(∃ es ep,o.data = .dict es ep)->∃ o',h'.get? a=some o'/\o'.cls = .type "frame"/\∃ es ep,o'.data = .dict es ep:=fun o eo _ ⟨es,ep,hd⟩=>by refine ae hc fun o2 e2 d2=>?_; clear hc; rw [eo] at e2; replace e2:=oi e2; subst e2; rw [hd] at d2; cases d2
  refine ai (I.ownCh hax kd (fY hc') hfr) fun S I'=>?_
  have Gr:cK [a] (ρ++xs) (ρ++xs) ρ ρ s.heap h':=⟨.of_but kd (fY hc'),fun b m=>by rw [A2 m]; exact A0 hax,fun HC m=>.inl m,fun HC HC e=>e⟩
  refine h h' s.toks (Nat.le_refl _) ((bw.of_but kd (fY hc')).mono fun b m=>by rw [A2 m]; exact hao) (S.mono (sub hao)) I' ⟨by rw [cY]; exact R.len,(ax m (gX kd (Ne.symm (F.cloc _ _ ha)) hn) (fun j u hj=>?_)),fun j c' hj=>?_,R.own,pF R.fr kd hfr⟩
  ·rw [eJ] at hj
   by_cases hji:j=i
   ·subst hji
    rw [if_pos rfl,ho] at hj
    cases hj
    exact (dz c 1 x hck (rv.grow Gr) (.inr ⟨Nat.one_ne_zero,a,ha,hc',hax⟩))
   ·rw [if_neg hji] at hj
    refine de (hm j u hj) fun c' k' y h1 h2 h3=>?_
    refine (dz c' k' y h1 (h2.grow Gr) (h3.imp id fun ⟨hk0,b,hb,hcb,hx⟩=>⟨hk0,b,hb,bG kd (fun z=>hji ?_) hcb,hx⟩))
    subst z
    have:=F.cinj _ _ _ hb ha
    subst this
    exact F.nd _ _ _ _ _ h1 hck
  ·refine aV (R.un j c' hj) fun b Bd h1 h2 h3=>?_
   by_cases hba:b=a
   ·subst hba; exact (db b _ h1 hc' h3)
   ·exact (db b Bd h1 (bG kd hba h2) h3)
theorem dJ (G:jp P nm base mg mb) (F:ck nm ev vn vars gs ro ce xs) (I:aG prog w P nm base σ ρ xs s.heap) (R:aH P nm ev fes vars own xs s.heap ρ l) {i:Nat} {v:V} {x:Value} {l':Loc} (e:bk ro i v l=some l') (rv:au P nm s.heap (ρ++xs) ρ v x)
  {Q:Unit->Shared->Prop} (h:∀ h' t,s.toks<=t->bq (own++ρ) ρ ρ s.heap h'->aG prog w P nm base σ ρ xs h'->aH P nm ev fes vars own xs h' ρ l'->Q () { s with heap:=h',toks:=t }) :
  wpAny (model prog w) A (storeName ev (nm (vn i)) x) Q E s:=iP G F I R e rv fun h' t ht HC=>h h' t ht
noncomputable def d9 (P:cz) (nm:Nat->Str) (ev:Env) (fes:List Env) (vars:List (Nat × Nat)) (own xs:List Addr) (h:Heap) (ow ρ:List Addr) (fl:Flow × Loc) (f:PySem.Flow):Prop:=
 aH P nm ev fes vars own xs h ρ fl.2/\match fl.1,f with
  | .next,.next=>True
  | .brk,.brk=>True
  | .cont,.cont=>True
  | .ret v,.ret x=>au P nm h ow ρ v x
  | _,_=>False
noncomputable def LR (P:cz) (nm:Nat->Str) (ev:Env) (fes:List Env) (vars:List (Nat × Nat)) (own xs:List Addr) (h:Heap) (_ ρ:List Addr) (l:Loc) (_:Unit):Prop:=aH P nm ev fes vars own xs h ρ l
theorem ir {ro:List Nat} {p:Nat × Pos} {ps:List (Nat × Pos)} {v:V} {vs:List V} {l l':Loc} (e:eV ro (p :: ps) (v :: vs) l=some l'):∃ l₁,bk ro p.1 v l=some l₁/\eV ro ps vs l₁=some l':=by
 have e:(match bk ro p.1 v l with
  | some l=>eV ro ps vs l
  | none=>none)=some l':=e
 cases q:bk ro p.1 v l with
 | none=>rw [q] at e; exact nS e
 | some l₁=>rw [q] at e; exact (ax l₁ rfl e)
theorem jM (G:jp P nm base mg mb) (F:ck nm ev vn vars gs ro ce xs):∀ (ps:List (Nat × Pos)) (vs:List V) (zs:List Value) (l l':Loc) (s:Shared) (Q:Unit->Shared->Prop),1<=s.toks->aG prog w P nm base σ ρ xs s.heap->aH P nm ev fes vars own xs s.heap ρ l ->
  eV ro ps vs l=some l'->ak P nm s.heap (ρ++xs) ρ vs zs ->
  (∀ h' t,1<=t->bq (own++ρ) ρ ρ s.heap h'->aG prog w P nm base σ ρ xs h'->aH P nm ev fes vars own xs h' ρ l'->Q () { s with heap:=h',toks:=t }) ->
  wpAny (model prog w) A (assignInOrder ((assignEach (ps.map fun x=>Expr.Name (nm (vn x.1)) x.2) ev).map (·.2)) zs) Q E s
 | [],vs,zs,l,l',s,Q,ht,I,R,e,r,h=>by
  cases vs with
  | nil=>replace e:=oi e; subst e; exact wpAny_pure (h s.heap s.toks ht (.refl _ _ _) I R)
  | cons _ _=>exact nS e
 | p :: ps,vs,zs,l,l',s,Q,ht,I,R,e,r,h=>by
  cases vs with
  | nil=>exact nS e
  | cons v vs=>
   refine aV r fun z zs zq1 r1 r2=>?_; clear r; subst zq1
   focus
    refine ae (ir e) fun l₁ hl e=>?_
    focus
     show wpAny (model prog w) A (assignInOrder (PySem.assign (Expr.Name (nm (vn p.1)) p.2) ev :: (assignEach (ps.map fun x=>Expr.Name (nm (vn x.1)) x.2) ev).map (·.2)) _) Q E s
     refine wpAny_bind (wpAny_holding (wpAny_assign_Name (dJ G F I R hl r1 fun h₁ t₁ aq S aj bM=>?_)))
     have Gr:cK (own++ρ) (ρ++xs) (ρ++xs) ρ ρ s.heap h₁:=S.grow fun a m=>by
      rcases A3 m with m | m
      ·exact A0 (R.own.2 a m)
      ·exact A1 m
     exact jM G F ps vs _ l₁ l' { s with heap:=h₁,toks:=t₁ } Q (Nat.le_trans ht aq) aj bM e (r2.grow Gr) fun aR iQ aX bl bf kW=>h aR iQ aX (S.trans bl) bf kW
theorem xf (es:List (V × V)) (k v:V):fG es k v≠[]:=by
 cases es with
 | nil=>exact nofun
 | cons p l=>
  show (match CJ (ej p.1 k) with
   | true=>(p.1,v) :: l
   | false=>p :: fG l k v)≠[]
  cases CJ (ej p.1 k) <;> exact nofun
theorem pG {j:V} {es:List (V × V)} (h:ey j es=true):hV j=true:=by
 cases es with
 | nil=>exact h
 | cons p l=>
  have h:(match ej p.1 j with
   | some _=>ey j l
   | none=>false)=true:=h
  cases q:ej p.1 j with
  | none=>rw [q] at h; exact fT h
  | some b=>exact nM q
noncomputable def Be (prog:Program) (w:World) (A:Around) (E:Value->Shared->Prop) (s:Shared) (a:Addr) (y z:Value) (Q:Unit->Shared->Prop) (X:Sem Unit):Prop:=
 ∀ {K:Type} [DecidableEq K] {knd:PySem.KeyKind prog w K} {kvs:List (K × Value)} {k:K},knd.is k y=true->s.heap.DictOf knd a kvs->(∀ h',h'.DictOf knd a (stored kvs k z)->Heap.SameBut a s.heap h'->Q () { s with heap:=h',toks:=s.toks + 1 })->kvs.length<=sizeLine->wpAny (model prog w) A X Q E s
theorem yD {a:Addr} (I:aG prog w P nm base σ ρ xs s.heap) {k:Nat} (hk:ao ρ k=some a) {J K:Type} [DecidableEq K] {knd:PySem.KeyKind prog w K} (g:J->K) (en:J->V) (hg:∀ a b,ej (en a) (en b)=some (decide (g a=g b))) {l:List (J × V)} {es:List (V × V)}
  (he:es=l.map fun p=>(en p.1,p.2)) (h1:ao σ k=some (.dict es)) {j:J} {v:V} {y z:Value} (hy:knd.is (g j) y=true) (rv:au P nm s.heap (ρ++xs) ρ v z) {kvs:List (K × Value)}
  (hdo:s.heap.DictOf knd a kvs) (hks:kvs.map (·.1)=l.map fun p=>g p.1) (hvs:ak P nm s.heap (ρ++xs) ρ (l.map (·.2)) (kvs.map (·.2))) (hsz:es.length<=aP)
  (mk:∀ {h':Heap} {l':List (J × V)} {kvs':List (K × Value)},h'.DictOf knd a kvs'->kvs'.map (·.1)=l'.map (fun p=>g p.1)->ak P nm h' (ρ++xs) ρ (l'.map (·.2)) (kvs'.map (·.2))->me prog w P nm h' (ρ++xs) ρ a (l'.map fun p=>(en p.1,p.2)))
  {Q:Unit->Shared->Prop} {A:Around} {E:Value->Shared->Prop} {X:Sem Unit} (hX:Be prog w A E s a y z Q X)
  (hq:∀ h' t,bq ρ ρ ρ s.heap h'->aG prog w P nm base (bc σ k (.dict (fG es (en j) v))) ρ xs h'->Q () { s with heap:=h',toks:=t }):wpAny (model prog w) A X Q E s:=by
 obtain ⟨l',a1,a2,a3⟩:=wI (P:=P) (nm:=nm) g en hg rv j hks (by obtain ⟨_,_,_,_,_,_,_,_,e⟩:=hdo; exact e) hvs
 have hlen:=congrArg List.length hks
 rw [List.length_map,List.length_map] at hlen
 refine hX hy hdo (fun h' hd' hs=>?_) (by rw [he,List.length_map] at hsz; rw [hlen]; exact Nat.le_trans hsz cq)
 have hl:bZ h' a:=by obtain ⟨o,_,_,e,_⟩:=hd'; exact ⟨o,e⟩
 have kd:∀ b o,b≠a->s.heap.get? b=some o->h'.get? b=some o:=fun b o hb e=>(hs.2 b hb).trans e
 have G:cK [a] (ρ++xs) (ρ++xs) ρ ρ s.heap h':=⟨.of_but kd hl,fun b m=>by rw [A2 m]; exact A1 (aT hk),fun HC m=>.inl m,fun HC HC e=>e⟩
 rw [<- he] at a1
 obtain ⟨S,I'⟩:=I.upd (o':=.dict (fG es (en j) v)) hk h1 kd hl ⟨a1▸mk hd' a2 (a3.grow G),fun q=>absurd q (xf _ _ _)⟩
 exact hq h' _ S I'
theorem n0 {a:Addr} (I:aG prog w P nm base σ ρ xs s.heap) {k:Nat} (hk:ao ρ k=some a) {es:List (V × V)} (h1:ao σ k=some (.dict es)) {j v:V} {y z:Value} (rj:au P nm s.heap (ρ++xs) ρ j y) (rv:au P nm s.heap (ρ++xs) ρ v z)
  (hkey:ey j es=true) (hsz:es.length<=aP) {Q:Unit->Shared->Prop} {A:Around} {E:Value->Shared->Prop} {X:Sem Unit} (hX:Be prog w A E s a y z Q X)
  (hq:∀ h' t,bq ρ ρ ρ s.heap h'->aG prog w P nm base (bc σ k (.dict (fG es j v))) ρ xs h'->Q () { s with heap:=h',toks:=t }):wpAny (model prog w) A X Q E s:=by
 refine ai (I.obj _ _ _ h1 hk) fun hd hz=>?_
 rcases pq (pG hkey) with ⟨i,rfl⟩ | ⟨i,rfl⟩
 ·refine ay rj fun t zq1=>?_; clear rj; subst zq1
  have go:=fun l kvs (he:es=List.map _ l) hdo hks hvs=>yD I hk (id:Int->Int) (fun i=>V.int i) lw (l:=l) he h1 (kvs:=kvs) (isInt i t) rv hdo hks hvs hsz (fun a b c=>.ofI a b c) hX hq
  cases hd with
  | ofI d1 d2 d3=>exact go _ _ rfl d1 d2 d3
  | @ofS l _ d1 d2 d3=>cases l with
   | nil=>exact go [] [] rfl (hz rfl).1 rfl .nil
   | cons x l=>exact fT hkey
 ·refine ay rj fun t zq1=>?_; clear rj; subst zq1
  have go:=fun l kvs (he:es=List.map _ l) hdo hks hvs=>yD I hk aA (fun i=>V.str i) ly (l:=l) he h1 (kvs:=kvs) (isStr (aA i) t) rv hdo hks hvs hsz (fun a b c=>.ofS a b c) hX hq
  cases hd with
  | ofS d1 d2 d3=>exact go _ _ rfl d1 d2 d3
  | @ofI l _ d1 d2 d3=>cases l with
   | nil=>exact go [] [] rfl (hz rfl).2 rfl .nil
   | cons x l=>exact fT hkey
theorem uj {a:Addr} (I:aG prog w P nm base σ ρ xs s.heap) {k:Nat} (hk:ao ρ k=some a) {es:List (V × V)} (h1:ao σ k=some (.dict es)) {j v:V} {y z:Value} (rj:au P nm s.heap (ρ++xs) ρ j y) (rv:au P nm s.heap (ρ++xs) ρ v z)
  (hkey:ey j es=true) (hsz:es.length<=aP) {Q:Unit->Shared->Prop} {A:Around} {E:Value->Shared->Prop}
  (hq:∀ h' t,bq ρ ρ ρ s.heap h'->aG prog w P nm base (bc σ k (.dict (fG es j v))) ρ xs h'->Q () { s with heap:=h',toks:=t }):wpAny (model prog w) A (setItem (.ref a) y z) Q E s:=
 n0 I hk h1 rj rv hkey hsz (fun a b c d=>wpAny_setItem_pairs a b c d) hq
theorem uk {a:Addr} (I:aG prog w P nm base σ ρ xs s.heap) {k:Nat} (hk:ao ρ k=some a) {es:List (V × V)} (h1:ao σ k=some (.dict es)) {j v:V} {y z:Value} (rj:au P nm s.heap (ρ++xs) ρ j y) (rv:au P nm s.heap (ρ++xs) ρ v z)
  (hkey:ey j es=true) (hsz:es.length<=aP) {Q:Unit->Shared->Prop} {A:Around} {E:Value->Shared->Prop}
  (hq:∀ h' t,bq ρ ρ ρ s.heap h'->aG prog w P nm base (bc σ k (.dict (fG es j v))) ρ xs h'->Q () { s with heap:=h',toks:=t }):wpAny (model prog w) A (dictSet a y z) Q E s:=
 n0 I hk h1 rj rv hkey hsz (fun a b c d=>wpAny_dictSet_pairs a b c d) hq
theorem um (ps:List (Nat × Pos)) (ev:Env):(assignEach (ps.map fun x=>Expr.Name (nm (vn x.1)) x.2) ev).length=ps.length:=by
 induction ps with
 | nil=>rfl
 | cons p ps ih=>
  show (assignEach (ps.map fun x=>Expr.Name (nm (vn x.1)) x.2) ev).length + 1=ps.length + 1
  rw [ih]
theorem sk (ps:List (Nat × Pos)) (ev:Env):(assignEach (ps.map fun x=>Expr.Name (nm (vn x.1)) x.2) ev).findIdx? (·.1)=none:=by
 rw [List.findIdx?_eq_none_iff]
 intro x hx
 induction ps with
 | nil=>cases hx
 | cons p ps ih=>
  rcases A7 (show x∈(false,PySem.assign (Expr.Name (nm (vn p.1)) p.2) ev) :: assignEach (ps.map fun x=>Expr.Name (nm (vn x.1)) x.2) ev from hx) with h | h
  ·rw [h]
  ·exact ih h
theorem oa {ro:List Nat} {ps:List (Nat × Pos)} {vs:List V} {l l':Loc} (e:eV ro ps vs l=some l'):ps.length=vs.length:=by
 induction ps generalizing vs l with
 | nil=>cases vs with
  | nil=>rfl
  | cons _ _=>exact nS e
 | cons p ps ih=>cases vs with
  | nil=>exact nS e
  | cons v vs=>refine ae (ir e) fun HC HC e=>?_; exact congrArg Nat.succ (ih e)
theorem pH {v:V} {hm:Bool} {vs:List V} (e:qm v hm=some vs):v = .tup vs/\hm=false:=by
 cases v with
 | tup l=>cases hm <;> cases e; exact ⟨rfl,rfl⟩
 | _=>exact nS e
theorem uo {o o':O} {j v:V} (e:qn o j v=some o'):(∃ es,o = .dict es/\ey j es=true/\Nat.ble es.length aP=true/\o' = .dict (fG es j v)) \/
  ∃ l i,o = .list l/\j = .int i/\(0<=i\/i = -1)/\i < (l.length:Int)/\0 < l.length/\l.length<=aP/\o' = .list (bc l (if i = -1 then l.length - 1 else i.toNat) v):=by
 cases o with
 | dict es=>
  refine ai (aO e) fun h e=>?_
  replace e:=oi e; subst e
  exact .inl (jA es rfl (aD h) (al h) rfl)
 | list l=>
  refine ae (bnd e) fun i hi e=>?_
  refine ai (aO e) fun h e=>?_
  replace e:=oi e; subst e
  refine jy (of_decide_eq_true (aD h)) fun h1 h2 h3=>?_
  exact .inr (⟨l,i,rfl,dw hi,h1,h2,h3,A5 (al h),rfl⟩)
 | _=>exact nS e
theorem uq {a:Addr} {vs:List Value} (hl:s.heap.PlainList a vs.toArray) {i:Int} {t:Tok} {x:Value} (h1:0<=i\/i = -1) (h2:i < (vs.length:Int)) (h3:0 < vs.length) (h4:vs.length<=aP) {Q:Unit->Shared->Prop}
  (h:∀ h',h'.PlainList a (vs.set (if i = -1 then vs.length - 1 else i.toNat) x).toArray->(∀ b,b≠a->h'.get? b=s.heap.get? b)->Q () { s with heap:=h' }):wpAny (model prog w) A (setItem (.ref a) (.int i t) x) Q E s:=by
 refine ay hl fun n hn=>?_; clear hl
 have hm:aP < 2 ^ 63:=by decide
 have fin:∀ j:Nat,j=(if i = -1 then vs.length - 1 else i.toNat)->Q () { s with heap:=s.heap.update a (Obj.mapSeq (·.setIfInBounds j x)) }:=fun j e=>by
  subst e
  refine h _ ⟨_,by rw [<- List.setIfInBounds_toArray]; exact IsL.update hn (·.setIfInBounds _ x)⟩ fun b hb=>Heap.get?_update_other _ _ (Ne.symm hb)
 have hz:s.heap.IsList a vs.toArray:=IsL.isList hn
 unfold setItem
 try with_reducible refine wpAny_holding ?_
 first | refine wpAny_bind (wpAny_pure ?_) | skip
 refine wpAny_bind (wpAny_sequenceKey hz.typeIs (by decide) ?_)
 refine wpAny_bind (wpAny_callSpecial?_slot (name:=Str.ofString "__setitem__") hz.typeIs slot_list_setitem
  (wpAny_call_entry slot_list_setitem hz.typeIs entry_list_setitem ?_ (args_list_setitem _ _ _)))
 show wpAny _ _ (Builtin.List.listSubscript? (.int i t) >>= _) _ _ s
 rcases h1 with h1 | h1
 ·refine wpAny_bind (wpAny_listSubscript_int (fitsIndex_of h1 (by omega)) ?_)
  refine ay (Int.eq_ofNat_of_zero_le h1) fun j zq1=>?_; subst zq1
  have hj:j < vs.toArray.size:=by rw [List.size_toArray]; omega
  show wpAny _ _ ((seqItemAt a j >>= fun r=>pure (r.map (j,·))) >>= _) _ _ s
  refine wpAny_bind (wpAny_bind (wpAny_seqItemAt hn rfl (wpAny_pure ?_)))
  rw [Array.getElem?_eq_getElem hj]
  show wpAny _ _ (setSeqItemAt a j x >>= _) _ _ s
  refine wpAny_bind (wpAny_setSeqItemAt hn rfl ?_)
  have q:=fin j (by rw [if_neg (by omega)]; rfl)
  first
   | exact wpAny_bind (wpAny_pure (wpAny_pure (ax .none rfl (wpAny_pure q))))
   | exact wpAny_pure ⟨.none,rfl,wpAny_pure q⟩
 ·subst h1
  refine wpAny_bind (wpAny_listSubscript_int (fitsIndex_neg (by decide) (by decide)) ?_)
  have hj:vs.length - 1 < vs.toArray.size:=by rw [List.size_toArray]; omega
  have hidx:seqIndex? (-1) vs.toArray.size=some (vs.length - 1):=by
   rw [seqIndex_neg (by decide) (by rw [List.size_toArray]; omega),List.size_toArray]
   exact congrArg some (wA h3)
  show wpAny _ _ ((Builtin.List.listItems (.ref a) >>= fun xs=>pure ((seqIndex? (-1) xs.size).bind fun i=>xs[i]?.map (i,·))) >>= _) _ _ s
  refine wpAny_bind (wpAny_bind ?_)
  show wpAny _ _ (seqItems? (.ref a) >>= _) _ _ s
  refine wpAny_bind (wpAny_seqItems hn rfl (wpAny_pure (wpAny_pure ?_)))
  rw [hidx,Option.bind_some,Array.getElem?_eq_getElem hj]
  show wpAny _ _ (setSeqItemAt a (vs.length - 1) x >>= _) _ _ s
  refine wpAny_bind (wpAny_setSeqItemAt hn rfl ?_)
  have q:=fin (vs.length - 1) (if_pos rfl).symm
  first
   | exact wpAny_bind (wpAny_pure (wpAny_pure (ax .none rfl (wpAny_pure q))))
   | exact wpAny_pure ⟨.none,rfl,wpAny_pure q⟩
theorem iR (W:aY prog w base P nm C mg mb) {r:dv} (hE:df prog w base P nm r) {fes:List Env} (t:MT) {v:V} {x:Value} {c:Ctx} {Q:Unit->Shared->Prop} (ht:1<=s.toks)
  (F:ck nm ev vn vars c.g c.ro c.ce xs) (O:cV A fes c.d c.hm) (I:aG prog w P nm base σ ρ xs s.heap) (R:aH P nm ev fes vars own xs s.heap ρ c.l) (rv:au P nm s.heap (ρ++xs) ρ v x)
  (g:af prog w base P nm own (Mine.assign C r t v c σ) (LR P nm ev fes vars own xs) ρ xs (T1 Q) (T1 E) s):wpAny (model prog w) A (PySem.assign (t.toE nm vn) ev x) Q E s:=by
 cases t with
 | name i p=>
  refine ae (bp g) fun l' hl g=>?_
  exact wpAny_assign_Name (dJ W.G F I R hl rv fun h' t ht' S I' R'=>g () h' t ρ S I' R' (Nat.le_trans ht ht'))
 | tup ps k p=>
  refine ae (bp g) fun vs hvs g=>?_
  refine ae (bp g) fun l' hl g=>?_
  refine ai (pH hvs) fun hv hh=>?_
  rw [hv] at rv
  refine cJ rv fun HC HC zq1 htup HC hs=>?_; clear rv; subst zq1
  refine wpAny_assign_Tuple (O.hd hh) htup (by rw [um,List.size_toArray,oa hl,hs.length]) (sk ps ev) fun h₁ hx=>?_
  have k1:∀ b o,s.heap.get? b=some o->h₁.get? b=some o:=fun b o e=>hx b o (Nat.ne_of_lt (Heap.lt_size e)) e
  refine ai (I.grown k1) fun S1 I1=>?_
  refine jM W.G F ps vs _ c.l l' { s with heap:=h₁ } Q ht I1 (R.stp I S1) hl (hs.grow S1.growE) fun aR iQ aX bl bf kW=>?_
  exact g () aR iQ ρ ((S1.mono fun b m=>A0 m).trans bl) bf kW aX
 | attr o a p=>
  show wpAny (model prog w) A (do
   let ov <- holding [x] (eval (o.toE nm vn) ev)
   standAt p.atName
   holding [x,ov] (setAttr ov (nm a) x)
   release [x,ov] []) Q E s
  refine wpAny_bind (wpAny_holding (wpAny_with_toks ht (hE o c σ A ev fes vn vars own xs ρ s _ _ ht F O I R (af.bindT (Q:=T1 Q) (E:=T1 E) g fun y σ₁ y' h₁ tk₁ aa aq S aj ry aw=>fun HC=>?_))))
  refine wpAny_bind (wpAny_standAt (wpAny_bind (wpAny_holding ?_)))
  refine ae (bp aw) fun k hk aw=>?_
  refine ae (bp aw) fun fs hfs aw=>?_
  refine ai (bA aw) fun hle aw=>?_
  rw [nE hk] at ry
  refine ae ry fun HC zq1 hk=>?_; clear ry; subst zq1
  refine ae (fj hfs) fun i h1 h2=>?_
  refine wpAny_with_toks aq (pB W.K W.G.inj aj hk h1 h2 (al hle) (rv.grow S.growE) (A5 (aD hle)) fun aR iQ bl bf aX=>wpAny_release' ?_)
  exact aw () aR iQ aa (bl.mono fun b m=>A0 m) bf ((R.stp I S).stp aj bl) aX
 | sub o i p=>
  show wpAny (model prog w) A (PySem.assign (.Subscript (o.toE nm vn) (i.toE nm vn) p) ev x) Q E s
  rw [assign_Subscript]
  refine wpAny_bind (wpAny_holding (wpAny_with_toks ht (hE o c σ A ev fes vn vars own xs ρ s _ _ ht F O I R (af.bindT (Q:=T1 Q) (E:=T1 E) g fun y σ₁ y' h₁ tk₁ aa aq S aj ry aw=>fun HC=>?_))))
  refine wpAny_bind (wpAny_holding (wpAny_with_toks aq (hE i c σ₁ A ev fes vn vars own xs aa _ _ _ aq F O aj (R.stp I S) (af.bindT (Q:=T1 Q) (E:=T1 E) aw fun z aI z' aR bC aW aX bl bf rz aN=>fun HC=>?_))))
  refine wpAny_bind (wpAny_standAt (wpAny_bind (wpAny_holding ?_)))
  refine ae (bp aN) fun k hk aN=>?_
  refine ae (bp aN) fun o h1 aN=>?_
  refine ae (bp aN) fun o' h2 aN=>?_
  rw [nE hk] at ry
  refine ae ry fun HC zq1 hk=>?_; clear ry; subst zq1
  rcases uo h2 with ⟨es,rfl,a1,a2,rfl⟩ | ⟨l,j,rfl,rfl,a1,a2,a3,a4,rfl⟩
  ·refine wpAny_with_toks aX (uj bf (bl.pre _ _ hk) h1 rz ((rv.grow S.growE).grow bl.growE) a1 (A5 a2) fun cO my gV ei cI=>wpAny_release' ?_)
   exact aN () cO my aW (gV.mono fun b m=>A0 m) ei (((R.stp I S).stp aj bl).stp bf gV) cI
  ·refine ay rz fun u zq1=>?_; clear rz; subst zq1
   refine ae (bf.obj _ _ _ h1 (bl.pre _ _ hk)) fun us hp hs=>?_
   have hn:=hs.length
   refine wpAny_with_toks aX (uq hp a1 (hn▸a2) (hn▸a3) (hn▸a4) fun cO Bf hsb cI=>wpAny_release' ?_)
   refine ai (il bf (bl.pre _ _ hk) h1 (l:=bc l (if j = -1 then l.length - 1 else j.toNat) v) Bf hsb (hn▸hs.set ((rv.grow S.growE).grow bl.growE) _)) fun gV ei=>?_
   exact aN () cO _ aW (gV.mono fun b m=>A0 m) ei (((R.stp I S).stp aj bl).stp bf gV) cI
end
section
variable (prog:Program) (w:World) (base:Heap) (P:cz) (nm:Nat->Str)
noncomputable def iS (r:dv):Prop:=∀ (b:bL) (c:Ctx) (σ:St) (A:Around) (ev:Env) (fes:List Env) (vn:Nat->Nat) (vars:List (Nat × Nat)) (own xs ρ:List Addr) (s:Shared) (Q:PySem.Flow->Shared->Prop) (E:Value->Shared->Prop),1<=s.toks ->
 ck nm ev vn vars c.g c.ro c.ce xs->cV A (ev :: fes) c.d c.hm->aG prog w P nm base σ ρ xs s.heap->aH P nm ev (ev :: fes) vars own xs s.heap ρ c.l ->
 af prog w base P nm own (r.b b c σ) (d9 P nm ev (ev :: fes) vars own xs) ρ xs (T1 Q) (T1 E) s->wpAny (model prog w) A (execs (b.toS nm vn) ev) Q E s
end
section
variable {prog:Program} {w:World} {base h h' h₀ h₁ aR:Heap} {P:cz} {nm:Nat->Str} {σ σ':St} {ρ xs own ρ' ow Ts ow' N:List Addr} {s:Shared} {A:Around} {E:Value->Shared->Prop} {mg mb:Str->Option Value} {ev:Env} {vn:Nat->Nat} {vars:List (Nat × Nat)} {gs ro ce:List Nat} {l l':Loc} {fes:List Env} {C:aS} {e:Addr} {c:Nat} {fs:List (Nat × V)} {M:Model}
theorem iu {r:dv} (hB:iS prog w base P nm r) {fes:List Env} {c:Ctx} (F:ck nm ev vn vars c.g c.ro c.ce xs) (O:cV A (ev :: fes) c.d c.hm) {rest:bL} {Q:PySem.Flow->Shared->Prop} (ht:1<=s.toks) (I:aG prog w P nm base σ ρ xs s.heap)
  {fl:Flow × Loc} {f:PySem.Flow} (rf:d9 P nm ev (ev :: fes) vars own xs s.heap (ρ++xs) ρ fl f)
  (g:af prog w base P nm own (match fl.1 with | .next=>r.b rest ⟨fl.2,c.d,c.hm,c.g,c.ro,c.ce⟩ σ | _=>.ok fl σ) (d9 P nm ev (ev :: fes) vars own xs) ρ xs Q E s) :
  match f with | .next=>wpAny (model prog w) A (execs (rest.toS nm vn) ev) Q E s | f=>Q f s:=by
 obtain ⟨fl1,fl2⟩:=fl
 obtain ⟨bM,hf⟩:=rf
 cases fl1 <;> cases f <;> first | exact hf.elim | skip
 ·exact hB rest ⟨fl2,c.d,c.hm,c.g,c.ro,c.ce⟩ σ A ev fes vn vars own xs ρ _ _ _ ht F O I bM g.t1
 ·exact g.here I ⟨bM,trivial⟩ _
 ·exact g.here I ⟨bM,trivial⟩ _
 ·exact g.here I ⟨bM,hf⟩ _
theorem ur (t:MT) (ev:Env):(assignEach [t.toE nm vn] ev).map (·.2)=[PySem.assign (t.toE nm vn) ev]:=by
 cases t <;> rfl
theorem js {t:MT} {value:Expr} {p:Pos} {Q:PySem.Flow->Shared->Prop} (hs:swapsWith value (some (t.toE nm vn)) p.line ev=pure false) (hw:swappedStores [t.toE nm vn] value ev=pure none)
  (h:wpAny (model prog w) A (eval value ev) (fun v s₁=>wpAny (model prog w) A (PySem.assign (t.toE nm vn) ev v) (fun HC=>Q .next) E s₁) E s):wpAny (model prog w) A (exec (.Assign [t.toE nm vn] value p) ev) Q E s:=by
 rw [exec_Assign]
 refine wpAny_bind (wpAny_standAt ?_)
 rw [show swapsWithSole [t.toE nm vn] value p.line ev=swapsWith value (some (t.toE nm vn)) p.line ev from rfl,hs]
 refine wpAny_bind (wpAny_pure ?_)
 rw [if_neg (by decide)]
 refine wpAny_bind (wpAny_mono h (fun v s₁ h₁=>?_) fun HC HC x=>x)
 rw [hw,ur]
 refine wpAny_bind (wpAny_pure ?_)
 show wpAny (model prog w) A (do assignAll v [PySem.assign (t.toE nm vn) ev]; pure .next) Q E s₁
 exact wpAny_bind (wpAny_mono h₁ (fun HC HC x=>wpAny_pure x) fun HC HC x=>x)
theorem gY {t:MT} {e:ME} (h:cM t e=true) (ev:Env):swappedStores [t.toE nm vn] (e.toE nm vn) ev=pure none:=by
 cases t <;> cases e <;> first | rfl | exact fT h
theorem xg (G:jp P nm base mg mb) (F:ck nm ev vn vars gs ro ce xs) (R:aH P nm ev (ev :: fes) vars own xs s.heap ρ l) {i:Nat} {v:V} (e:ao l i=some (some v)) {Q:Value->Shared->Prop}
  (h:∀ x,au P nm s.heap (ρ++xs) ρ v x->Q x s):wpAny (model prog w) A (loadName ev (nm (vn i))) Q E s:=by
 refine ae R.ns fun m hn hm=>?_
 refine de (hm i v e) fun c k x h1 h2 h3=>?_
 rw [F.vn i c k h1]
 rcases h3 with ⟨rfl,hx⟩ | ⟨hk,a,ha,hc,_⟩
 ·exact wpAny_loadName_local F.hk (F.loc i c h1) hn hx (h x h2)
 ·match k,hk,h1 with
  | 0,hk,_=>exact absurd rfl hk
  | 1,_,h1=>exact wpAny_loadName_cell F.hk (F.cel i c h1) ha hc (h x h2)
  | k + 2,_,h1=>exact (F.fre i c k h1).elim (fun q=>wpAny_loadName_free F.hk q ha hc (h x h2) (G.cld c)) fun q=>wpAny_loadName_cell F.hk q ha hc (h x h2)
theorem jN (e:ME) (t:Option Expr) (ln:Nat) (ev:Env) (h:bT e=true):swapsWith (e.toE nm vn) t ln ev=pure false:=by
 cases e <;> first | rfl | exact fT h
theorem sr (W:aY prog w base P nm C mg mb) {r:dv} (hE:df prog w base P nm r) (hT:kS prog w base P nm r) (hB:iS prog w base P nm r) {fes:List Env} {c:Ctx} (ht:1<=s.toks) (F:ck nm ev vn vars c.g c.ro c.ce xs) (O:cV A (ev :: fes) c.d c.hm)
  (hint:interactive ev=false) (I:aG prog w P nm base σ ρ xs s.heap) (R:aH P nm ev (ev :: fes) vars own xs s.heap ρ c.l) {st:MS} {rest:bL} {Q:PySem.Flow->Shared->Prop}
  (hs:match st with | .expr ..=>True | .asg t e _=>cM t e=true/\bT e=true | .aug ..=>True | .ife ..=>True | .ret ..=>True | .ret0 ..=>True | .pass ..=>True | .brk ..=>True | .cont ..=>True | _=>False)
  (g:af prog w base P nm own ((step P C r).b (.cons st rest) c σ) (d9 P nm ev (ev :: fes) vars own xs) ρ xs (T1 Q) (T1 E) s) :
  wpAny (model prog w) A (execs ((bL.cons st rest).toS nm vn) ev) Q E s:=by
 have nosub:∀ {b:Addr},b∈([]:List Addr)->b∈own:=fun m=>(nomatch m)
 have more:∀ {l:Loc} {σ₁:St} {h₁:Heap} {tk₁:Nat} {aa:List Addr} {Q:PySem.Flow->Shared->Prop} {E:Value->Shared->Prop},1<=tk₁->aG prog w P nm base σ₁ aa xs h₁->aH P nm ev (ev :: fes) vars own xs h₁ aa l ->
   af prog w base P nm own (r.b rest ⟨l,c.d,c.hm,c.g,c.ro,c.ce⟩ σ₁) (d9 P nm ev (ev :: fes) vars own xs) aa xs Q E { s with heap:=h₁,toks:=tk₁ }->wpAny (model prog w) A (execs (rest.toS nm vn) ev) Q E { s with heap:=h₁,toks:=tk₁ }:=
  fun {l σ₁ h₁ tk₁ aa Q E} aq aj bM aw=>hB rest ⟨l,c.d,c.hm,c.g,c.ro,c.ce⟩ σ₁ A ev fes vn vars own xs aa _ _ _ aq F O aj bM aw.t1
 refine wpAny_with_toks ht ?_
 show wpAny (model prog w) A (execs (st.toS nm vn :: rest.toS nm vn) ev) (T1 Q) (T1 E) s
 cases st with
 | expr e p=>
  refine ai (bA g) fun hc g=>?_
  refine wpAny_execs_cons (wpAny_Expr_any (hE e c σ A ev (ev :: fes) vn vars own xs ρ s _ _ ht F O I R (af.bindT g fun v σ₁ x h₁ tk₁ aa aq S aj rv aw=>?_)) hint (jN e _ _ ev hc))
  exact more aq aj (R.stp I S) aw
 | asg t e p=>
  have hok:cM t e=true:=hs.1
  have g:af prog w base P nm own (match cM t e with
   | false=>.stuck
   | true=>(r.e e c σ).bind fun v s=>(Mine.assign C r t v c s).bind fun l s=>r.b rest ⟨l,c.d,c.hm,c.g,c.ro,c.ce⟩ s) (d9 P nm ev (ev :: fes) vars own xs) ρ xs (T1 Q) (T1 E) s:=g
  rw [hok] at g
  refine wpAny_execs_cons (js (jN e _ _ ev hs.2) (gY hok ev) (hE e c σ A ev (ev :: fes) vn vars own xs ρ s _ _ ht F O I R (af.bindT g fun v σ₁ x h₁ tk₁ aa aq S aj rv aw=>?_)))
  refine iR W hE t aq F O aj (R.stp I S) rv (af.bindOT (own₁:=own) (fun HC m=>m) aw fun C8 aI HC aR bC aW aX bl bf kW aN=>?_)
  exact more (h₁:=aR) (tk₁:=bC) aX bf kW aN
 | aug i ip op e p=>
  refine ae (bp g) fun x hx g=>?_
  refine wpAny_execs_cons (wpAny_AugAssign_Name (xg W.G F R (qy hx) fun x' rx=>?_))
  refine hE e c σ A ev (ev :: fes) vn vars own xs ρ s _ _ ht F O I R (af.bindT g fun y σ₁ y' h₁ tk₁ aa aq S aj ry aw=>?_)
  refine wpAny_with_toks aq (tN aj (rx.grow S.growE) ry (af.bindT aw fun z aI z' aR bC aW aX bl bf rz aN=>?_))
  refine ae (bp aN) fun l' hl aN=>?_
  refine dJ W.G F bf ((R.stp I S).stp aj bl) hl rz fun cO my cI gV ei su=>?_
  exact more (h₁:=cO) (tk₁:=my) (Nat.le_trans aX cI) ei su (af.shift (s:={ s with heap:=aR,toks:=bC }) aN gV)
 | ife t a b p=>
  refine wpAny_execs_cons (wpAny_If (hT t c σ A ev (ev :: fes) vn vars own xs ρ s _ _ ht F O I R (af.bindT g fun q σ₁ q' h₁ tk₁ aa aq S aj rq aw=>?_)))
  cases rq
  cases q with
  | true=>exact hB a c σ₁ A ev fes vn vars own xs aa _ _ _ aq F O aj (R.stp I S) (af.bindOT (own₁:=own) (fun HC m=>m) aw fun fl aI f aR bC aW aX bl bf rf aN=>by have:=iu hB F O aX bf rf aN; cases f <;> exact this)
  | false=>exact hB b c σ₁ A ev fes vn vars own xs aa _ _ _ aq F O aj (R.stp I S) (af.bindOT (own₁:=own) (fun HC m=>m) aw fun fl aI f aR bC aW aX bl bf rf aN=>by have:=iu hB F O aX bf rf aN; cases f <;> exact this)
 | ret e p=>
  refine wpAny_execs_cons (wpAny_Return_some (hE e c σ A ev (ev :: fes) vn vars own xs ρ s _ _ ht F O I R (af.bindT g fun v σ₁ x h₁ tk₁ aa aq S aj rv aw=>?_)))
  exact aw.here aj ⟨R.stp I S,rv⟩ _
 | ret0 p=>
  refine wpAny_execs_cons (wpAny_Return_none ?_)
  exact af.here (own:=own) g I ⟨R,(au.none:au P nm s.heap (ρ++xs) ρ V.none Value.none)⟩ s.toks
 | pass p=>
  refine wpAny_execs_cons (wpAny_Pass ?_)
  exact more (h₁:=s.heap) (tk₁:=s.toks) ht I R g
 | brk p=>
  refine wpAny_execs_cons (wpAny_Break ?_)
  exact af.here (own:=own) g I ⟨R,trivial⟩ s.toks
 | cont p=>
  refine wpAny_execs_cons (wpAny_Continue ?_)
  exact af.here (own:=own) g I ⟨R,trivial⟩ s.toks
 | _=>exact hs.elim
structure Note0 (e:Addr) (Ts:List Addr) (h h':Heap):Prop where
 live:∀ b,bZ h b->bZ h' b
 obj:∀ b o,h.get? b=some o->b≠e->b∉Ts->cG o (h'.get? b)
 exc:∃ o ws ws',h.get? e=some o/\o.data = .fields ws/\(∃ a,o.cls = .ref a)/\h'.get? e=some { o with data:=.fields ws' }
 tsc:∀ T∈Ts,∃ o,h.get? T=some o/\o.cls = .type "traceback"/\∃ ts,o.data = .fields ts
structure gM (e:Addr) (Ts:List Addr) (h h':Heap):Prop extends Note0 e Ts h h' where
 c2:∀ o ws o' ws',h.get? e=some o->o.data = .fields ws->h'.get? e=some o'->o'.data = .fields ws'->ws'[2]? = ws[2]?
theorem Note0.at (N:Note0 e Ts h h') {b:Addr} {o:Obj} (ho:h.get? b=some o) {T:String} (hc:o.cls = .type T) (hT:T≠"traceback") (hF:T≠"frame"):h'.get? b=some o:=by
 refine eS N.exc fun oe ws ws' e1 e2 zq1 e4=>?_; refine ay zq1 fun a e3=>?_
 have hb:b≠e:=fun q=>by
  subst q; rw [ho] at e1; replace e1:=oi e1; subst e1; rw [hc] at e3; cases e3
 have ht:b∉Ts:=fun m=>by
  refine bD (N.tsc b m) fun o' q1 q2 HC=>?_
  rw [ho] at q1; replace q1:=oi q1; subst q1; rw [hc] at q2
  exact hT (by injection q2)
 rcases N.obj b o ho hb ht with y | ⟨hfr,_⟩
 ·exact y
 ·rw [hc] at hfr; exact absurd (by injection hfr) hF
theorem Note0.ref (N:Note0 e Ts h h') {b:Addr} {o:Obj} (ho:h.get? b=some o) {a:Addr} (hc:o.cls = .ref a):∃ o',h'.get? b=some o'/\o'.cls=o.cls/\o'.dict=o.dict/\((∃ ws,o.data = .fields ws)->∃ ws,o'.data = .fields ws)/\((∀ ws,o.data≠.fields ws)->o'.data=o.data):=by
 by_cases hb:b=e
 ·refine eS N.exc fun oe ws ws' e1 e2 HC e4=>?_
  subst hb
  rw [ho] at e1; replace e1:=oi e1; subst e1
  exact ⟨_,e4,rfl,rfl,fun HC=>⟨ws',rfl⟩,fun q=>absurd e2 (q ws)⟩
 ·have ht:b∉Ts:=fun m=>by
   refine bD (N.tsc b m) fun o' q1 q2 HC=>?_
   rw [ho] at q1; replace q1:=oi q1; subst q1; rw [hc] at q2; cases q2
  rcases N.obj b o ho hb ht with y | ⟨hfr,_⟩
  ·exact ⟨o,y,rfl,rfl,id,fun HC=>rfl⟩
  ·rw [hc] at hfr; cases hfr
theorem Note0.non (N:Note0 e Ts h h') {b:Addr} {o:Obj} (ho:h.get? b=some o) (hc:o.cls = .none):h'.get? b=some o:=by
 refine eS N.exc fun oe ws ws' e1 e2 zq1 e4=>?_; refine ay zq1 fun a e3=>?_
 have hb:b≠e:=fun q=>by
  subst q; rw [ho] at e1; replace e1:=oi e1; subst e1; rw [hc] at e3; cases e3
 have ht:b∉Ts:=fun m=>by
  refine bD (N.tsc b m) fun o' q1 q2 HC=>?_
  rw [ho] at q1; replace q1:=oi q1; subst q1; rw [hc] at q2; cases q2
 rcases N.obj b o ho hb ht with y | ⟨hfr,_⟩
 ·exact y
 ·rw [hc] at hfr; cases hfr
theorem Note0.dict (N:Note0 e Ts h h') {b:Addr} {o:Obj} (ho:h.get? b=some o) {es:Array DictEntry} {ep:Nat} (hd:o.data = .dict es ep):cG o (h'.get? b):=by
 refine eS N.exc fun oe ws ws' e1 e2 HC e4=>?_
 have hb:b≠e:=fun q=>by
  subst q; rw [ho] at e1; replace e1:=oi e1; subst e1; rw [hd] at e2; cases e2
 have ht:b∉Ts:=fun m=>by
  refine bD (N.tsc b m) fun o' q1 q2 zq1=>?_; refine ay zq1 fun ts q3=>?_
  rw [ho] at q1; replace q1:=oi q1; subst q1; rw [hd] at q3; cases q3
 exact N.obj b o ho hb ht
theorem Note0.ns1 (N:Note0 e Ts h h') {b:Addr} {m:Str->Option Value} (x:h.Ns1 b m):h'.Ns1 b m:=by
 refine de x fun o es ep ho hd r=>?_; clear x
 rcases N.dict ho hd with y | ⟨_,sl,y⟩
 ·exact (dz o es ep y hd r)
 ·exact (dz _ es ep y hd r)
theorem Note0.map (N:Note0 e Ts h h'):iJ ow ow ρ ρ h h' where
 has ho hc h1 h2 na:=⟨N.at ho hc h2 h1,na⟩
 ex ho hc hd na:=by
  refine tq (N.ref ho hc) fun o' e1 e2 e3 e4 HC=>?_
  refine ay (e4 ⟨_,hd⟩) fun ws' e5=>?_
  exact (pf o' ws' e1 e2 e3 e5 na)
 ns x _:=N.ns1 x
 pre _ _ k:=k
theorem au.note (N:Note0 e Ts h h') {v:V} {x:Value} (r:au P nm h ow ρ v x):au P nm h' ow ρ v x:=r.map N.map
theorem ak.note (N:Note0 e Ts h h') {l:List V} {xs:List Value} (r:ak P nm h ow ρ l xs):ak P nm h' ow ρ l xs:=r.map N.map
theorem gL.note (N:Note0 e Ts h h') {a:Addr} {nx:Option Addr}:∀ {o:O},gL prog w P nm h ow ρ a nx o->gL prog w P nm h' ow ρ a nx o
 | .list _,r=>by
  obtain ⟨vs,⟨n,hp⟩,hs⟩:=r
  exact ax vs ⟨n,N.at hp rfl (by decide) (by decide)⟩ (hs.note N)
 | .dict _,r=>by
  obtain ⟨hd,he⟩:=r
  have go:∀ {K:Type} [DecidableEq K] {knd:KeyKind prog w K} {kvs:List (K × Value)},h.DictOf knd a kvs->h'.DictOf knd a kvs:=by
   intro K _ knd kvs ⟨o,es,ep,ho,hc,r⟩
   exact (dz o es ep (N.at ho hc.1 (by decide) (by decide)) hc r)
  refine ⟨?_,fun q=>⟨go (he q).1,go (he q).2⟩⟩
  cases hd with
  | ofI d1 d2 d3=>exact .ofI (go d1) d2 (d3.note N)
  | ofS d1 d2 d3=>exact .ofS (go d1) d2 (d3.note N)
 | .inst _,r=>by
  refine nk r fun o d cl h1 h0 h2 h3 h4 h5 h6=>?_; clear r
  refine tq (N.ref h2 h3) fun o' e1 e2 e3 e4 e5=>?_
  refine (nr o' d cl h1 h0 e1 (e2.trans h3) (fun c q=>?_) (e3.trans h5) h6)
  by_cases hf:∃ ws,o.data = .fields ws
  ·refine ay (e4 hf) fun ws e6=>?_
   rw [e6] at q; cases q
  ·rw [e5 (fun ws z=>hf ⟨ws,z⟩)] at q
   exact h4 c q
 | .ns _,r=>by
  refine bD r fun m h1 h3 h5=>?_
  exact bY m (N.ns1 h1) (fun c v e=>ae (h3 c v e) fun x h6 h7=>ax x h6 (h7.note N)) h5
 | .hid ..,h=>h.elim
 | .wild _,r=>ae r fun tab h0 h1=>ax tab h0 (h1.map (ρ:=ρ) N.map fun HC e q=>N.non e q)
theorem Note0.stp (N:Note0 e Ts h h') (S:bq (own++ρ) ρ ρ' h₀ h) (he:h₀.get? e=none) (hT:∀ T∈Ts,h₀.get? T=none):bq (own++ρ) ρ ρ' h₀ h':=by
 refine ⟨⟨fun b l=>N.live b (S.keep.live b l),fun b o hb nb=>?_⟩,S.pre,S.new,fun L o hL ho hc hd=>?_⟩
 have hbe:b≠e:=fun q=>by subst q; rw [he] at hb; exact nS hb
 have hbT:b∉Ts:=fun m=>by rw [hT b m] at hb; exact nS hb
 exact (S.keep.obj b o hb nb).trans rfl fun o' e'=>N.obj b o' e' hbe hbT
 refine bD (S.ff L o hL ho hc hd) fun o' e1 e2 zq1=>?_; refine eE zq1 fun es ep e3=>?_
 exact (N.dict e1 e3).ff e2 (gP es ep e3)
theorem Note0.inv (N:Note0 e Ts h h') (I:aG prog w P nm base σ ρ xs h) (st:base.StaysIn h'):aG prog w P nm base σ ρ xs h':=
 ⟨st,I.len,I.nd,fun a m=>⟨(I.new a m).1,N.live a (I.new a m).2⟩,fun j o a e1 e2=>(I.obj j o a e1 e2).note N⟩
theorem Note0.ff (N:Note0 e Ts h h') {fes:List Env} (x:gT fes xs h):gT fes xs h':=fun ev he=>by
 refine ai (x ev he) fun k zq1=>?_; refine jz zq1 fun L o h1 h2 h3 h4 zq2=>?_; refine eE zq2 fun es ep h5=>?_
 rcases N.dict h3 h5 with y | ⟨_,sl,y⟩
 ·exact ⟨k,L,o,h1,h2,y,h4,es,ep,h5⟩
 ·exact ⟨k,L,_,h1,h2,y,h4,es,ep,h5⟩
theorem gM.mk' (live:∀ b,bZ h b->bZ h' b) (obj:∀ b o,h.get? b=some o->b≠e->b∉Ts->cG o (h'.get? b)) {o:Obj} {ws:Array Value} (e1:h.get? e=some o) (e2:o.data = .fields ws) (e3:∃ a,o.cls = .ref a) (ws':Array Value) (e4:h'.get? e=some { o with data:=.fields ws' }) (e5:ws'[2]? = ws[2]?)
  (tsc:∀ T∈Ts,∃ o,h.get? T=some o/\o.cls = .type "traceback"/\∃ ts,o.data = .fields ts):gM e Ts h h':=
 ⟨⟨live,obj,(fF o ws ws' e1 e2 e3 e4),tsc⟩,fun ua EC nZ ED f1 f2 f3 f4=>by
  rw [e1] at f1; replace f1:=oi f1; subst f1
  rw [e2] at f2; cases f2
  rw [e4] at f3; replace f3:=oi f3; subst f3
  cases f4
  exact e5⟩
theorem gM.trans (x:gM e Ts h h₁) {Ts':List Addr} (y:gM e Ts' h₁ aR) (hs:∀ T∈Ts',T∈Ts):gM e Ts h aR:=by
 refine ⟨⟨fun b l=>y.live b (x.live b l),fun b o ho hb ht=>(x.obj b o ho hb ht).trans rfl fun o' e'=>y.obj b o' e' hb fun m=>ht (hs b m),?_,x.tsc⟩,fun o ws o' ws' f1 f2 f3 f4=>?_⟩
 case refine_2=>
  refine eS x.exc fun o2 vs vs' e1 e2 e3 e4=>?_
  exact (y.c2 _ _ _ _ e4 rfl f3 f4).trans (x.c2 _ _ _ _ f1 f2 e4 rfl)
 refine eS x.exc fun o ws ws' e1 e2 e3 e4=>?_
 refine eS y.exc fun o' vs vs' f1 f2 f3 f4=>?_
 rw [e4] at f1; replace f1:=oi f1; subst f1
 exact (fF o ws vs' e1 e2 e3 f4)
theorem jO (X:d5 P nm h₀ h ow ρ c fs e):∃ oe ws a,h.get? e=some oe/\oe.data = .fields ws/\oe.cls = .ref a/\5<=ws.size/\(ws[1]? = some .none\/∃ T oT ts,ws[1]? = some (.ref T)/\h₀.get? T=none/\T≠e/\h.get? T=some oT/\oT.cls = .type "traceback"/\oT.data = .fields ts/\4<=ts.size):=by
 refine cL fun HC kG=>?_
 refine cJ X.tb fun oe ws h1 h2 h3 h4=>?_
 refine ae X.val fun HC zq1 HC=>?_; obtain ⟨e',_,cl,_,_,_,q,_,he,a1,_⟩:=zq1
 cases q
 rw [h1] at he
 replace he:=oi he; subst he
 refine kG ?_
 exact ⟨oe,ws,_,h1,h2,a1,h3,h4⟩
theorem pI (X:d5 P nm h₀ h ow ρ c fs e):e∉ow:=by
 refine ae X.val fun HC zq1 HC=>?_; obtain ⟨e',_,_,_,_,_,q,_,_,_,_,_,ne,_⟩:=zq1
 cases q
 exact ne
theorem jf {T:Addr} {oe oT:Obj} {ws ts:Array Value} {a:Addr} (he:h.get? e=some oe) (hd:oe.data = .fields ws) (hc:oe.cls = .ref a) (hT:h.get? T=some oT) (hTc:oT.cls = .type "traceback") (hTd:oT.data = .fields ts) (hTe:T≠e) (x:Value) :
  gM e [T] h (h.update T (Obj.mapFields (·.setIfInBounds 3 x))):=by
 have other:∀ b,b≠T->(h.update T (Obj.mapFields (·.setIfInBounds 3 x))).get? b=h.get? b:=fun b hb=>Heap.get?_update_other _ _ (Ne.symm hb)
 have hself:=Heap.get?_update_self (Obj.mapFields (·.setIfInBounds 3 x)) hT (Obj.isFreed_of_fields (Obj.data_mapFields hTd _))
 refine gM.mk' (fun b ⟨o,ho⟩=>?_) (fun b o ho HC ht=>.inl ((other b fun q=>ht (by rw [q]; exact List.mem_singleton.mpr rfl)).trans ho)) he hd ⟨a,hc⟩ (ws) ?_ rfl (fun T' m=>by rw [A2 m]; exact ⟨oT,hT,hTc,ts,hTd⟩)
 ·by_cases q:b=T
  ·subst q; exact ⟨_,hself⟩
  ·exact ⟨o,(other b q).trans ho⟩
 ·rw [other e (Ne.symm hTe),he]
  obtain ⟨c',d',da,sl⟩:=oe
  simp only at hd; subst hd; rfl
theorem og {fes:List Env} (ff:gT fes xs h) {oe:Obj} {ws:Array Value} {a:Addr} (he:h.get? e=some oe) (hd:oe.data = .fields ws) (hc:oe.cls = .ref a) (x:Heap.SlotsOnly (fes.filterMap (·.frame)) h h'):gM e [] h h':=by
 have key:∀ b o,h.get? b=some o->cG o (h'.get? b):=fun b o ho=>by
  by_cases m:b∈fes.filterMap (·.frame)
  ·refine ae (List.mem_filterMap.mp m) fun ev hev hf=>?_
   refine ai (ff ev hev) fun HC zq1=>?_; refine jz zq1 fun L o' h1 HC h3 h4 HC=>?_
   rw [hf] at h1; replace h1:=oi h1; subst h1
   rw [ho] at h3; replace h3:=oi h3; subst h3
   refine ay (x.2.2 b o ho) fun sl hs=>?_
   exact .inr ⟨h4,sl,hs⟩
  ·exact .inl ((x.2.1 b m).trans ho)
 refine gM.mk' (fun b ⟨o,ho⟩=>(key b o ho).live) (fun b o ho HC HC=>key b o ho) he hd ⟨a,hc⟩ (ws) ?_ rfl (fun T m=>(nomatch m))
 rcases key e oe he with y | ⟨q,_⟩
 ·rw [y]
  obtain ⟨c',d',da,sl⟩:=oe
  simp only at hd; subst hd; rfl
 ·rw [hc] at q; cases q
theorem sv {oe:Obj} {ws:Array Value} {a:Addr} (he:h.get? e=some oe) (hd:oe.data = .fields ws) (hc:oe.cls = .ref a) (o:Obj):gM e [] h (h.push o):=by
 refine gM.mk' (fun b ⟨o',ho⟩=>⟨o',A8 ho⟩) (fun b o' ho HC HC=>.inl (A8 ho)) he hd ⟨a,hc⟩ (ws) ?_ rfl (fun T m=>(nomatch m))
 rw [A8 he]
 obtain ⟨c',d',da,sl⟩:=oe
 simp only at hd; subst hd; rfl
theorem uv {oe:Obj} {ws:Array Value} {a:Addr} (he:h.get? e=some oe) (hd:oe.data = .fields ws) (hc:oe.cls = .ref a) {i:Nat} (hi:i≠2) (x:Value):gM e [] h (h.update e (Obj.mapFields (·.setIfInBounds i x))):=by
 have hself:=Heap.get?_update_self (Obj.mapFields (·.setIfInBounds i x)) he (Obj.isFreed_of_fields (Obj.data_mapFields hd _))
 refine gM.mk' (fun b ⟨o,ho⟩=>?_) (fun b o ho hb HC=>.inl ((Heap.get?_update_other _ _ (Ne.symm hb)).trans ho)) he hd ⟨a,hc⟩ (ws.setIfInBounds i x) ?_ (Array.getElem?_setIfInBounds_ne hi) (fun T m=>(nomatch m))
 ·by_cases q:b=e
  ·subst q; exact ⟨_,hself⟩
  ·exact ⟨o,(Heap.get?_update_other _ _ (Ne.symm q)).trans ho⟩
 ·rw [hself]
  obtain ⟨c',d',da,sl⟩:=oe
  simp only at hd; subst hd; rfl
theorem xh {fes:List Env} (ff:gT fes xs h):h.FunFrames {} fes:=by
 induction fes with
 | nil=>exact trivial
 | cons ev fes ih=>
  refine ai (ff ev (.head _)) fun k zq1=>?_; refine jz zq1 fun L o h1 HC h3 HC zq2=>?_; refine eE zq2 fun es ep h5=>?_
  exact (cF k (dW L o h1 (by rfl) h3 (fun vs q=>by rw [h5] at q; cases q)) (ih fun x m=>ff x (.tail _ m)))
structure jP (prog:Program) (w:World) (base:Heap) (P:cz) (nm:Nat->Str) (own ρ xs:List Addr) (fes:List Env) (h₀:Heap) (σ:St) (ρ':List Addr) (c:Nat) (fs:List (Nat × V)) (e:Addr) (h:Heap):Prop where
 S:bq (own++ρ) ρ ρ' h₀ h
 I:aG prog w P nm base σ ρ' xs h
 X:d5 P nm h₀ h (ρ'++xs) ρ' c fs e
 F:gT fes xs h
theorem jP.note {fes:List Env} (Y:jP prog w base P nm own ρ xs fes h₀ σ ρ' c fs e h) (N:gM e Ts h h') (hT:∀ T∈Ts,h₀.get? T=none) (st:base.StaysIn h')
  (tb:∃ oe ws,h'.get? e=some oe/\oe.data = .fields ws/\5<=ws.size/\(ws[1]? = some .none\/∃ T oT ts,ws[1]? = some (.ref T)/\h₀.get? T=none/\T≠e/\h'.get? T=some oT/\oT.cls = .type "traceback"/\oT.data = .fields ts/\4<=ts.size)) :
  jP prog w base P nm own ρ xs fes h₀ σ ρ' c fs e h':=
 ⟨N.stp Y.S Y.X.new hT,N.inv Y.I st,⟨Y.X.val.note N.toNote0,Y.X.new,fun cl h1 h2=>by
  refine aV (Y.X.bare cl h1 h2) fun oe ws e1 e2 e3=>?_
  refine eS N.exc fun o' vs vs' f1 f2 f3 f4=>?_
  rw [f1] at e1; replace e1:=oi e1; subst e1
  exact (db _ vs' f4 rfl ((N.c2 _ _ _ _ f1 e2 f4 rfl).trans e3)),tb⟩,N.ff Y.F⟩
noncomputable def qF (h:Heap) (e:Addr):Prop:=∃ oe ws T,h.get? e=some oe/\oe.data = .fields ws/\ws[1]? = some (.ref T)
theorem cH {ev:Env} {outer:List Env} (hfr:A.frames=some (ev :: outer)) {L:Addr} (hf:ev.frame=some L) (hb:base.StaysIn h₀) (Y:jP prog w base P nm own ρ xs (ev :: outer) h₀ σ ρ' c fs e s.heap) {Q:Unit->Shared->Prop}
  (hQ:∀ h',jP prog w base P nm own ρ xs (ev :: outer) h₀ σ ρ' c fs e h'->qF h' e->Q () { s with heap:=h' }):wpAny (model prog w) A (noteFrame (.ref e) ev) Q E s:=by
 refine nj (jO Y.X) fun oe ws a he hd hc hsz htb=>?_
 have dead:∀ b,h₀.get? b=none->base.get? b=none:=fun b q=>by
  cases z:base.get? b with
  | none=>rfl
  | some o=>rw [hb _ _ z] at q; exact Sn q
 have entry:∀ (h1:Heap) (head:Value) (hn:Bool),jP prog w base P nm own ρ xs (ev :: outer) h₀ σ ρ' c fs e h1->(∃ o1 ws1 a1,h1.get? e=some o1/\o1.data = .fields ws1/\o1.cls = .ref a1/\5<=ws1.size) ->
   wpAny (model prog w) A (do let a <- frameOf ev; let pl <- entryPlaceOf L hn; let b <- EntryCells.newEntry head a .none (rawInt L) .none pl; setField (.ref e) 1 b) Q E { s with heap:=h1 }:=by
  intro h1 head hn Y1 ⟨o1,ws1,a1,he1,hd1,hc1,hs1⟩
  refine wpAny_bind (wpAny_frameOf_fun hfr (xh Y1.F) hf fun h2 hs2=>?_)
  have N2:=og (e:=e) Y1.F he1 hd1 hc1 hs2
  have st2:base.StaysIn h2:=fun b o ho=>by
   have hm:b∉(ev :: outer).filterMap (·.frame):=fun m=>by
    refine ae (List.mem_filterMap.mp m) fun ev' hev hf'=>?_
    refine ai (Y1.F ev' hev) fun HC zq1=>?_; refine aV zq1 fun L' o' q1 q2 HC=>?_
    rw [hf'] at q1; replace q1:=oi q1; subst q1
    have:=(Y1.I.new _ (A0 q2)).1
    rw [this] at ho; exact nS ho
   exact (hs2.2.1 b hm).trans (Y1.I.stay b o ho)
  have he2:h2.get? e=some o1:=by
   refine eS N2.exc fun o u u' q1 q2 q3 q4=>?_
   rw [he1] at q1; replace q1:=oi q1; subst q1
   have hm:e∉(ev :: outer).filterMap (·.frame):=fun m=>by
    refine ae (List.mem_filterMap.mp m) fun ev' hev hf'=>?_
    refine ai (Y1.F ev' hev) fun HC zq1=>?_; refine jz zq1 fun L' o' r1 HC r3 r4 HC=>?_
    rw [hf'] at r1; replace r1:=oi r1; subst r1
    rw [he1] at r3; replace r3:=oi r3; subst r3
    rw [hc1] at r4; cases r4
   exact (hs2.2.1 e hm).trans he1
  refine wpAny_bind (wpAny_entryPlaceOf fun pl hpl=>?_)
  unfold EntryCells.newEntry newFields
  refine wpAny_bind (wpAny_newObj_type ?_ (hpl.sizeOk5 _ _ _ _ _))
  have N3:=sv (e:=e) he2 hd1 hc1 ({ cls:=.type "traceback",dict:=none,data:=.fields ([head,.ref L,.none,rawInt L,.none]++(if pl.isEmpty then List.replicate 6 Value.none else pl)).toArray }:Obj)
  have he3:=Heap.get?_push_of_some (h:=h2) { cls:=.type "traceback",dict:=none,data:=.fields ([head,.ref L,.none,rawInt L,.none]++(if pl.isEmpty then List.replicate 6 Value.none else pl)).toArray } he2
  refine wpAny_setField he3 hd1 (by omega) ?_
  have N4:=uv (e:=e) he3 hd1 hc1 (i:=1) (by decide) (.ref h2.objs.size)
  have N:gM e [] h1 _:=(N2.trans N3 (fun HC m=>m)).trans N4 (fun HC m=>m)
  have hTe:h2.objs.size≠e:=Nat.ne_of_gt (Heap.lt_size he2)
  have he4:=Heap.get?_update_self (Obj.mapFields (·.setIfInBounds 1 (Value.ref h2.objs.size))) he3 (Obj.isFreed_of_fields (Obj.data_mapFields hd1 _))
  have hnewT:h₀.get? h2.objs.size=none:=by
   cases q:h₀.get? h2.objs.size with
   | none=>rfl
   | some o=>
    have:=N2.live _ (Y1.S.keep.live _ ⟨o,q⟩)
    exact (az (aZ h2) this).elim
  have hT4:=(Heap.get?_update_other (h2.push { cls:=.type "traceback",dict:=none,data:=.fields ([head,.ref L,.none,rawInt L,.none]++(if pl.isEmpty then List.replicate 6 Value.none else pl)).toArray })
   (Obj.mapFields (·.setIfInBounds 1 (Value.ref h2.objs.size))) (Ne.symm hTe)).trans (Heap.get?_push_size h2 rfl)
  have hz:5<=(ws1.setIfInBounds 1 (Value.ref h2.objs.size)).size:=by rw [Array.size_setIfInBounds]; exact hs1
  have h1':(ws1.setIfInBounds 1 (Value.ref h2.objs.size))[1]? = some (Value.ref h2.objs.size):=by
   have:1 < ws1.size:=by omega
   simp [this]
  refine hQ _ (Y1.note N (fun HC m=>(nomatch m)) (fun b o ho=>?_) (dW _ _ he4 (Obj.data_mapFields hd1 _) hz (.inr (nr h2.objs.size _ _ h1' hnewT hTe hT4 rfl rfl (by simp))))) (dz _ _ h2.objs.size he4 (Obj.data_mapFields hd1 _) h1')
  have hbe:b≠e:=fun q=>by subst q; rw [dead _ Y.X.new] at ho; exact nS ho
  exact (Heap.get?_update_other _ _ (Ne.symm hbe)).trans (A8 (st2 b o ho))
 unfold noteFrame
 simp only [hf]
 rcases htb with h1 | ⟨T,oT,ts,h1,hTn,hTe,hT,hTc,hTd,hTs⟩
 ·refine wpAny_bind (wpAny_field he hd h1 ?_)
  rw [if_neg (by decide)]
  exact entry s.heap .none _ Y (fF oe ws a he hd hc hsz)
 ·refine wpAny_bind (wpAny_field he hd h1 ?_)
  rw [if_pos (show (Value.ref T != Value.none)=true from by simp)]
  obtain ⟨x,hx⟩:∃ x,ts[3]? = some x:=⟨ts[3],Array.getElem?_eq_getElem (by omega)⟩
  refine wpAny_bind (wpAny_field hT hTd hx ?_)
  by_cases hL:(x == rawInt L)=true
  ·rw [if_pos hL]
   exact wpAny_pure (hQ s.heap Y (dz oe ws T he hd h1))
  ·rw [if_neg hL]
   refine wpAny_bind (wpAny_setField hT hTd (by omega) ?_)
   have N1:=jf (e:=e) he hd hc hT hTc hTd hTe Value.none
   have he1:(s.heap.update T (Obj.mapFields (·.setIfInBounds 3 Value.none))).get? e=some oe:=(Heap.get?_update_other _ _ hTe).trans he
   have hT1:=Heap.get?_update_self (Obj.mapFields (·.setIfInBounds 3 Value.none)) hT (Obj.isFreed_of_fields (Obj.data_mapFields hTd _))
   refine entry _ (.ref T) _ (Y.note N1 (fun T' m=>by rw [A2 m]; exact hTn) (fun b o ho=>?_) (dW oe ws he1 hd hsz (.inr (nr T _ _ h1 hTn hTe hT1 ((Obj.cls_mapFields _ _).trans hTc) (Obj.data_mapFields hTd _) (by simp; omega))))) (fF oe ws a he1 hd hc hsz)
   have hbT:b≠T:=fun q=>by subst q; rw [dead _ hTn] at ho; exact nS ho
   exact (Heap.get?_update_other _ _ (Ne.symm hbT)).trans (Y.I.stay b o ho)
theorem bN {fes:List Env} {f:Option Addr} (hb:base.StaysIn h₀) (Y:jP prog w base P nm own ρ xs fes h₀ σ ρ' c fs e s.heap) {Q:Unit->Shared->Prop}
  (hQ:∀ h',jP prog w base P nm own ρ xs fes h₀ σ ρ' c fs e h'->Q () { s with heap:=h' }):wpAny (model prog w) A (setFlight (.ref e) f) Q E s:=by
 refine nj (jO Y.X) fun oe ws a he hd hc hsz htb=>?_
 have dead:∀ b,h₀.get? b=none->base.get? b=none:=fun b q=>by
  cases z:base.get? b with
  | none=>rfl
  | some o=>rw [hb _ _ z] at q; exact Sn q
 unfold setFlight
 rcases htb with h1 | ⟨T,oT,ts,h1,hTn,hTe,hT,hTc,hTd,hTs⟩
 ·refine wpAny_bind (wpAny_field he hd h1 ?_)
  rw [if_neg (by decide)]
  exact wpAny_pure (hQ s.heap Y)
 ·refine wpAny_bind (wpAny_field he hd h1 ?_)
  rw [if_pos (show (Value.ref T != Value.none)=true from by simp)]
  refine wpAny_setField hT hTd (by omega) ?_
  have N1:=jf (e:=e) he hd hc hT hTc hTd hTe (f.elim Value.none fun f=>rawInt f)
  have he1:(s.heap.update T (Obj.mapFields (·.setIfInBounds 3 (f.elim Value.none fun f=>rawInt f)))).get? e=some oe:=(Heap.get?_update_other _ _ hTe).trans he
  have hT1:=Heap.get?_update_self (Obj.mapFields (·.setIfInBounds 3 (f.elim Value.none fun f=>rawInt f))) hT (Obj.isFreed_of_fields (Obj.data_mapFields hTd _))
  refine hQ _ (Y.note N1 (fun T' m=>by rw [A2 m]; exact hTn) (fun b o ho=>?_) (dW oe ws he1 hd hsz (.inr (nr T _ _ h1 hTn hTe hT1 ((Obj.cls_mapFields _ _).trans hTc) (Obj.data_mapFields hTd _) (by simp; omega)))))
  have hbT:b≠T:=fun q=>by subst q; rw [dead _ hTn] at ho; exact nS ho
  exact (Heap.get?_update_other _ _ (Ne.symm hbT)).trans (Y.I.stay b o ho)
theorem gT.step (x:gT fes xs h) (I:aG prog w P nm base σ ρ xs h) (S:bq (own++ρ) ρ ρ' h h'):gT fes xs h':=fun ev he=>by
 refine ai (x ev he) fun k zq1=>?_; refine jz zq1 fun L o h1 h2 h3 h4 h5=>?_
 refine bD (S.ff L o (fun m=>I.disj m h2) h3 h4 h5) fun o' e1 e2 e3=>?_
 exact ⟨k,L,o',h1,h2,e1,e2,e3⟩
theorem oj {outer:List Env} (hfr:A.frames=some (ev :: outer)) (hb:base.StaysIn h₀) (Y:jP prog w base P nm own ρ xs (ev :: outer) h₀ σ ρ' c fs e s.heap)
  (hE:∀ h',jP prog w base P nm own ρ xs (ev :: outer) h₀ σ ρ' c fs e h'->E (.ref e) { s with heap:=h' }):notedBy (model prog w) A ev (fun x s'=>cameBackBy (model prog w) A ev E x s') (.ref e) s:=by
 refine ai (Y.F ev (.head _)) fun HC zq1=>?_; refine fL zq1 fun L HC hf HC=>?_
 refine cH hfr hf hb Y fun h1 Y1 ⟨oe,ws,T,he,hd,hw⟩=>?_
 show wpAny (model prog w) A (do
  if (<- field (.ref e) 1) == .none then unsupported "frame.own-activation:exception-without-traceback"
  setFlight (.ref e) ev.frame) _ _ _
 refine wpAny_bind (wpAny_field he hd hw ?_)
 rw [if_neg (show ¬ ((Value.ref T == Value.none)=true) from by simp)]
 exact bN (s:={ s with heap:=h1 }) hb Y1 fun h2 Y2=>hE h2 Y2
noncomputable abbrev NB (prog:Program) (w:World) (A:Around) (ev:Env) (E:Value->Shared->Prop):Value->Shared->Prop:=notedBy (model prog w) A ev fun x s'=>cameBackBy (model prog w) A ev E x s'
theorem af.bindX {α β γ δ:Type} {own₁:List Addr} (hs:∀ a∈own₁,a∈own) {outer:List Env} (hfr:A.frames=some (ev :: outer)) (ff:gT (ev :: outer) xs s.heap) (I:aG prog w P nm base σ ρ xs s.heap)
  {out:aU α} {k:α->St->aU γ} {rel:Heap->List Addr->List Addr->α->β->Prop} {rel':Heap->List Addr->List Addr->γ->δ->Prop}
  {Q:δ->Shared->Prop} {Q':β->Shared->Prop} (g:af prog w base P nm own (out.bind k) rel' ρ xs Q (T1 E) s)
  (hk:∀ v σ₁ x h₁ tk₁ aa,1<=tk₁->bq (own₁++ρ) ρ aa s.heap h₁->aG prog w P nm base σ₁ aa xs h₁->rel h₁ (aa++xs) aa v x->af prog w base P nm own (k v σ₁) rel' aa xs Q (T1 E) { s with heap:=h₁,toks:=tk₁ }->Q' x { s with heap:=h₁,toks:=tk₁ }) :
  af prog w base P nm own₁ out rel ρ xs (T1 Q') (T1 (NB prog w A ev E)) s:=by
 cases out with
 | stuck=>exact g
 | ok v σ'=>exact fun x h' tk' ρ' S I' r ht=>hk v σ' x h' tk' ρ' ht S I' r (af.shift g (S.mono (fc hs)))
 | exc c fs σ'=>
  intro e h' tk' ρ' S I' X ht
  exact oj (own:=own₁) (s:={ s with heap:=h',toks:=tk' }) hfr I.stay ⟨S,I',X,ff.step I S⟩ fun h'' Y=>g e h'' tk' ρ' (Y.S.mono (fc hs)) Y.I Y.X ht
noncomputable def C9 (prog:Program) (w:World) (base:Heap) (P:cz) (nm:Nat->Str) (C:aS) (ev:Env) (outer:List Env) (vars:List (Nat × Nat)) (own xs:List Addr) (t:ME) (a:bL) (jQ:Ctx) (Q:PySem.Flow->Shared->Prop) (E:Value->Shared->Prop) (k:Nat) (s:Shared):Prop:=
 ∃ l σ ρ,1<=s.toks/\aG prog w P nm base σ ρ xs s.heap/\aH P nm ev (ev :: outer) vars own xs s.heap ρ l/\af prog w base P nm own ((run P C k).w t a ⟨l,jQ.d,jQ.hm,jQ.g,jQ.ro,jQ.ce⟩ σ) (d9 P nm ev (ev :: outer) vars own xs) ρ xs (T1 Q) (T1 E) s
theorem uw {n:Nat} (H:∀ k,k < n->kS prog w base P nm (run P C k)/\iS prog w base P nm (run P C k)) {outer:List Env} {t:ME} {a:bL} {c:Ctx} (F:ck nm ev vn vars c.g c.ro c.ce xs) (O:cV A (ev :: outer) c.d c.hm) (ht:1<=s.toks)
  (I:aG prog w P nm base σ ρ xs s.heap) (R:aH P nm ev (ev :: outer) vars own xs s.heap ρ c.l) {Q:PySem.Flow->Shared->Prop}
  (g:af prog w base P nm own ((run P C n).w t a c σ) (d9 P nm ev (ev :: outer) vars own xs) ρ xs (T1 Q) (T1 E) s) :
  codeAny (model prog w) A (.whileLoop (t.toE nm vn) (a.toS nm vn) [] ev) (fun r s'=>match r with | .ok f=>Q f s' | .error e=>cameBackBy (model prog w) A ev E e s') s:=by
 refine codeAny_whileLoop (fun k s'=>k<=n/\C9 prog w base P nm C ev outer vars own xs t a c Q E k s') ?_ n ⟨Nat.le_refl _,c.l,σ,ρ,ht,I,R,g⟩
 rintro k s₁ ⟨hk,l₁,σ₁,aa,aq,aj,bM,aw⟩
 cases k with
 | zero=>exact aw.elim
 | succ k=>
  refine ai (H k hk) fun hT hB=>?_
  refine hT t ⟨l₁,c.d,c.hm,c.g,c.ro,c.ce⟩ σ₁ A ev (ev :: outer) vn vars own xs aa s₁ _ _ aq F O aj bM (af.bindX (own₁:=[]) (fun HC m=>(nomatch m)) O.fr bM.fr aj aw fun q aI q' aR bC aW aX bl bf rq aN=>?_)
  cases rq
  cases q with
  | false=>
   refine wpAny_execs_nil ?_
   exact af.here (own:=own) aN bf ⟨bM.stp aj bl,trivial⟩ bC aX
  | true=>
   refine hB a ⟨l₁,c.d,c.hm,c.g,c.ro,c.ce⟩ aI A ev outer vn vars own xs aW _ _ _ aX F O bf (bM.stp aj bl) (af.bindX (own₁:=own) (fun HC m=>m) O.fr (bM.stp aj bl).fr bf aN fun fl dU f cO fX jd cI gV ei rf dq=>?_)
   obtain ⟨fl1,fl2⟩:=fl
   refine ai rf fun su hf=>?_; clear rf
   cases fl1 <;> cases f <;> first | exact hf.elim | skip
   ·exact ⟨k,Nat.lt_succ_self k,Nat.le_of_succ_le hk,fl2,dU,jd,cI,ei,su,dq⟩
   ·exact af.here (own:=own) dq ei ⟨su,trivial⟩ fX cI
   ·exact ⟨k,Nat.lt_succ_self k,Nat.le_of_succ_le hk,fl2,dU,jd,cI,ei,su,dq⟩
   ·exact af.here (own:=own) dq ei ⟨su,hf⟩ fX cI
noncomputable def jR (base:Heap) (c Pl:Addr):Prop:=∃ o vs file tf flags tg inF text tt,base.get? c=some o/\o.cls = .type "code"/\o.data = .fields vs/\vs[11]? = some (.ref Pl)/\vs.getD 18 .none = .str file tf/\vs.getD 7 .none = .int flags tg/\vs.getD 9 .none = .bool inF/\vs.getD 10 .none = .int text tt
noncomputable def lG (nm:Nat->Str) (fk:bu) (st:Stmt) (name:Str) (pos:Pos) (q:Str):Prop:=∃ args body scope,st = .FunctionDef name args body [] none [] scope none name pos/\PlainDefTree name args body scope pos/\docOf body=none/\(∀ x∈scope.names,x.2≠.free) /\
 ∀ pm c,tC nm fk { name,qualname:=q,params:=args,body:=.stmts body,scope,globals:=mainGlobals,closure:=[],defaults:=.none,kwdefaults:=.none,pyModule:=pm,code:=c,builtins:=builtinsNs } 0
theorem iv {p:Pos} {a b:Int} {c v:Value} (l:List Value) (h:TriplesOk l) (e:codeAmong p (l++[rawInt a,rawInt b,c])=some v):codeAmong p l=some v\/(a=p.line/\b=p.col/\v=c):=by
 fun_induction TriplesOk l with
 | case1=>
  simp only [List.nil_append,codeAmong,rawInt] at e
  split at e
  ·rename_i hc
   rw [Bool.and_eq_true,beq_iff_eq,beq_iff_eq] at hc
   exact .inr (cF hc.1 hc.2 ((oi e).symm))
  ·exact nS e
 | case2 a' t b' u x rest ih=>
  simp only [List.cons_append,codeAmong] at e ⊢
  split at e
  ·rename_i hc; rw [if_pos hc]; exact .inl e
  ·rename_i hc; rw [if_neg hc]; exact ih h e
 | case3 l h1 h2=>exact h.elim
theorem ux {name qualname:Str} {params:Arguments} {body:List Stmt} {scope:Scope} {env:Env} {mg} {pos:Pos} {firstLine:Nat} {Pl:Addr} {Q:Value->Shared->Prop} (hfree:∀ x∈scope.names,x.2≠.free)
  (hdoc:docOf body=none) (h:wpAny M A (functionCode env pos firstLine name qualname params scope (.stmts body)) (fun cv s'=>s'.heap.Ns env.globals mg/\s'.heap.BuiltinsAt mg Pl /\
   Q (.ref s'.heap.objs.size) { s' with heap:=s'.heap.push { cls:=.type "function",data:=.func { name,qualname,params,body:=.stmts body,scope,globals:=env.globals,closure:=[],defaults:=.none,kwdefaults:=.none,pyModule:=(mg "__name__").getD .none,code:=cv,builtins:=builtinsNs } } }) E s) :
  wpAny M A (makeFunction name qualname params (.stmts body) scope env [] [] [] pos firstLine) Q E s:=by
 have hc:closureFor scope env=pure []:=by
  simp only [closureFor]
  rw [forIn_yield_id [] (fun x hx c=>by
   obtain ⟨n,kind⟩:=x
   have:(kind == NameKind.free)=false:=by simpa using hfree _ hx
   simp only [this,Bool.false_eq_true,if_false])]
  rfl
 simp only [makeFunction,List.zip_nil_right,List.filterMap_nil,List.isEmpty_nil,if_true,pure_bind,hc,hdoc]
 refine wpAny_bind (wpAny_mono h (fun cv s' ⟨hg,hb,hq⟩=>?_) fun HC HC x=>x)
 obtain ⟨bm,o,hbm,hne0,_,hneP,hbo,hcls,hdict,hdata⟩:=hb
 refine wpAny_bind (wpAny_builtinsFor hg hbm hne0 hbo hcls hdict hdata ?_)
 refine wpAny_bind (wpAny_nsGet hg ?_)
 simp only [newObj]
 exact wpAny_bind (wpAny_alloc (wpAny_pure hq))
theorem iT {α:Type}:∀ {l:List α} {k:Nat} {a:α},ao l k=some a->bc l k a=l
 | _ :: _,0,_,e=>congrArg (· :: _) (oi e).symm
 | x :: _,k + 1,_,e=>congrArg (x :: ·) (iT (k:=k) e)
theorem zq (W:aY prog w base P nm C mg mb) (ht:1<=s.toks) (F:ck nm ev vn vars gs ro ce xs) (I:aG prog w P nm base σ ρ xs s.heap) (R:aH P nm ev fes vars own xs s.heap ρ l) {i k j:Nat} {fk:bu} {st:Stmt} {pos:Pos} {q:Str} {c Pl:Addr} {tab:List (Pos × List Nat)}
  (hk:P.fns k=some fk) (D:lG nm fk st (nm (vn i)) pos q) (hq:qualnameIn ev (nm (vn i)) (nm (vn i))=q) (hcode:ev.code = .ref c) (hc:jR base c Pl) (hw:ao σ j=some (.wild j)) (hl:P.wl j=some (Pl,tab))
  (htab:∀ p∈tab,p.1.line=pos.line->p.1.col=pos.col->aA p.2=q) (hmem:∃ p∈tab,p.1=pos) (hb:bk ro i (.clo k []) l=some l') {Q:PySem.Flow->Shared->Prop}
  (h:∀ h' t,1<=t->bq (own++ρ) ρ ρ s.heap h'->aG prog w P nm base σ ρ xs h'->aH P nm ev fes vars own xs h' ρ l'->Q .next { s with heap:=h',toks:=t }):wpAny (model prog w) A (exec st ev) Q E s:=by
 refine wpAny_with_toks ht ?_
 show wpAny (model prog w) A _ (T1 Q) (T1 E) s
 refine cL fun HC kG=>?_
 refine nj D fun args body scope zq1 hex hdoc hfree hclo=>?_; clear D; subst zq1
 refine ay (dh (l:=ρ) (k:=j) (by rw [I.len]; exact b7 hw)) fun a ha=>?_
 refine ae (I.obj _ _ _ hw ha) fun tab' hl' zq1=>?_; refine bD zq1 fun ps hps htr hcs=>?_
 refine kG ?_
 rw [hl] at hl'; cases hl'
 have hPm:Pl∈ρ++xs:=A1 (aT ha)
 have hPb:=(I.new Pl hPm).1
 refine cL fun HC kG=>?_
 obtain ⟨o,vs,file,tf,flags,tg,inF,text,tt,ho,hcls,hd,h11,h18,h7,h9,h10⟩:=hc
 refine kG ?_
 have hcP:c≠Pl:=fun e=>by rw [e,hPb] at ho; exact nS ho
 have hok:s.heap.IsCode c Pl ps:=⟨o,vs,file,tf,flags,tg,inF,text,tt,_,I.stay _ _ ho,hd,by rw [Array.getD_eq_getD_getElem?,h11]; rfl,h18,h7,h9,h10,hps,rfl,htr,hcP⟩
 have htb:s.heap.TableAt c Pl ps:=⟨(dW o vs (I.stay _ _ ho) hcls hd h11),hps⟩
 have top:∀ {h₁:Heap},base.StaysIn h₁->h₁.Ns ev.globals mg/\h₁.BuiltinsAt mg Pl:=fun {h₁} st=>by
  refine jz W.BA fun bm ob b1 b2 b3 b4 b5=>?_
  exact ⟨F.glo▸W.G.g.keeps st,bm,ob,b1,b2,b3,(fun e=>by rw [e,hPb] at b4; exact nS b4),st _ _ b4,b5⟩
 let fo:Value->Obj:=fun cv=>{ cls:=.type "function",data:=.func { name:=nm (vn i),qualname:=q,params:=args,body:=.stmts body,scope,globals:=ev.globals,closure:=[],defaults:=.none,kwdefaults:=.none,pyModule:=(mg "__name__").getD .none,code:=cv,builtins:=builtinsNs } }
 have fin:∀ (h₁:Heap) (tk:Nat) (cv:Value),bq (own++ρ) ρ ρ s.heap h₁->aG prog w P nm base σ ρ xs h₁->aH P nm ev fes vars own xs h₁ ρ l->fU h₁ (ρ++xs) q cv ->
   wpAny (model prog w) A (do standAt pos; bindName ev (nm (vn i)) (.ref h₁.objs.size); pure PySem.Flow.next) (T1 Q) (T1 E) { s with heap:=h₁.push (fo cv),toks:=tk }:=fun h₁ tk cv dQ aj bM hcw=>by
  have k1:∀ b o',h₁.get? b=some o'->(h₁.push (fo cv)).get? b=some o':=fun b o' e=>A8 e
  refine cL fun HC kG=>?_
  refine ai (aj.grown k1) fun bl bf=>?_
  refine pd hcw fun cc oc ws t zq1 g1 g2 g3 g4 g5=>?_; clear hcw; subst zq1
  refine kG ?_
  refine wpAny_bind (wpAny_standAt (wpAny_bind (wpAny_bindName (dJ (s:={ s with heap:=h₁.push (fo (.ref cc)),toks:=tk }) W.G F bf (bM.stp aj bl) hb (v:=.clo k []) (x:=.ref h₁.objs.size) ?_ fun h' t' ht' S' I' R'=>wpAny_pure fun t1=>
   h h' t' t1 ((dQ.trans (bl.mono fun b m=>A0 m)).trans S') I' R'))))
  refine (fF h₁.objs.size [] [] rfl ⟨_,_,fk,cc,oc,ws,t,Heap.get?_push_size _ rfl,rfl,rfl,fun m=>az (aZ _) (aj.new _ m).2,hk,F.glo▸hclo _ _,rfl,rfl,k1 _ _ g1,g2,g3,g4,g5⟩ rfl rfl)
 rw [hex,hq]
 refine wpAny_bind (wpAny_standAt (wpAny_bind (wpAny_holding (ux (mg:=mg) (Pl:=Pl) hfree hdoc ?_))))
 cases hf:codeAmong pos ps.toList with
 | some cv=>
  refine cL fun HC kG=>?_
  refine ae hmem fun p hp zq1=>?_; clear hmem; subst zq1
  refine kG ?_
  refine wpAny_functionCode_hit hcode hok hf (cF ((top I.stay).1) ((top I.stay).2) (fin s.heap s.toks cv (bq.refl _ _ _) I R (htab p hp rfl rfl▸hcs p hp cv hf)))
 | none=>
  refine wpAny_functionCodeX hcode hok htb hf fun c' h' tk hx hge hlt hok' hrec htb' ⟨P',_,hi',ht'⟩=>?_
  have hc':c'∉ρ++xs:=fun m=>by
   refine ay ((I.new c' m).2) fun o' e=>?_
   exact absurd (Heap.lt_size e) (Nat.not_lt.mpr hge)
  have hcw:fU h' (ρ++xs) q (.ref c'):=by
   refine cL fun HC kG=>?_
   obtain ⟨Dc,nZ,uy,iQ,fH,aN,zr,zt⟩:=hrec
   cases fH
   refine ai ht' fun zq1 HC=>?_; clear ht'; refine aV zq1 fun Dd Bg dq gW HC=>?_
   refine kG ?_
   rw [aN] at dq; replace dq:=oi dq; subst dq
   exact (rO c' nZ uy iQ rfl aN gW zr zt hc')
  obtain ⟨S',I'⟩:=I.upd (o':=.wild j) ha hw hx ⟨_,htb'.2⟩ ⟨tab,hl,_,htb'.2,by
   have:=TriplesOk_snoc (pos.line:Int) (pos.col:Int) (.ref c') _ htr
   simpa using this,fun p hp v e=>by
   rcases iv (a:=pos.line) (b:=pos.col) (c:=.ref c') ps.toList htr (by simpa using e) with e | ⟨e1,e2,rfl⟩
   ·refine pd (hcs p hp v e) fun c2 oc ws t zq1 g1 g2 g3 g4 n=>?_; subst zq1
    exact (rO c2 oc ws t rfl (hx _ _ (fun z=>n (z▸hPm)) g1) g2 g3 g4 n)
   ·exact htab p hp (Int.ofNat.inj e1).symm (Int.ofNat.inj e2).symm▸hcw⟩
  rw [iT hw] at I'
  exact (cF ((top I'.stay).1) ((top I'.stay).2) (fin h' tk (.ref c') (S'.mono fun b m=>A0 m) I' (R.stp I S') hcw))
theorem fZ (hs:∀ a∈ow',a∈ow):cK [] ow ow' ρ ρ h h:=⟨.refl _ _,fun HC m=>(nomatch m),fun a m=>.inl (hs a m),fun HC HC e=>e⟩
theorem di (hs:∀ a∈xs,a∈N++xs):∀ a∈ρ++xs,a∈ρ++(N++xs):=fun a m=>(A3 m).elim (fun m=>A1 m) fun m=>A0 (hs a m)
theorem aG.drop (I:aG prog w P nm base σ ρ (N++xs) h):aG prog w P nm base σ ρ xs h:=by
 have hsub:∀ a∈xs,a∈N++xs:=fun a m=>A0 m
 have hd:=List.nodup_append.mp I.nd
 have hd2:=List.nodup_append.mp hd.2.1
 refine ⟨I.stay,I.len,List.nodup_append.mpr (cF hd.1 hd2.2.1 (fun a ha b hb=>hd.2.2 a ha b (A0 hb))),fun a m=>I.new a (di hsub a m),fun j o a e1 e2=>?_⟩
 exact (I.obj j o a e1 e2).grow (fZ (di hsub)) (fun m=>(nomatch m)) fun HC e=>e
theorem aG.push (I:aG prog w P nm base σ ρ xs h) (k:∀ b o,h.get? b=some o->h₁.get? b=some o) (hn:N.Nodup) (hN:∀ a∈N,h.get? a=none/\bZ h₁ a):aG prog w P nm base σ ρ (N++xs) h₁:=by
 refine ai (I.grown k) fun S aj=>?_
 have fr:∀ a∈N,a∉ρ++xs:=fun a m q=>az (hN a m).1 (I.new a q).2
 have hd:=List.nodup_append.mp I.nd
 have bn:∀ a∈N,base.get? a=none:=fun a m=>by
  cases q:base.get? a with
  | none=>rfl
  | some o=>have:=I.stay a o q; rw [(hN a m).1] at this; exact nS this
 refine ⟨aj.stay,aj.len,List.nodup_append.mpr (cF hd.1 (List.nodup_append.mpr (cF hn hd.2.1 (fun a ha b hb q=>fr a ha (q▸A0 hb)))) (fun a ha b hb q=>?_)),fun a m=>?_,fun j o a e1 e2=>?_⟩
 ·subst q
  rcases A3 hb with m | m
  ·exact fr a m (A1 ha)
  ·exact hd.2.2 a ha a m rfl
 ·rcases A3 m with m | m
  ·exact aj.new a (A1 m)
  ·rcases A3 m with m | m
   ·exact ⟨bn a m,(hN a m).2⟩
   ·exact aj.new a (A0 m)
 ·refine (I.obj j o a e1 e2).grow (mod:=[]) (ow':=ρ++(N++xs)) ⟨bw.of_stays k,fun HC m=>(nomatch m),fun b m=>?_,fun HC HC e=>e⟩ (fun m=>(nomatch m)) fun HC e=>e
  rcases A3 m with m | m
  ·exact .inl (A1 m)
  ·rcases A3 m with m | m
   ·exact .inr (hN b m).1
   ·exact .inl (A0 m)
theorem jS (k:∀ b o,h.get? b=some o->h₁.get? b=some o) (hN:∀ a∈N,h.get? a=none):cK [] (ρ++xs) (ρ++(N++xs)) ρ ρ h h₁:=by
 refine ⟨bw.of_stays k,fun HC m=>(nomatch m),fun b m=>?_,fun HC HC e=>e⟩
 rcases A3 m with m | m
 ·exact .inl (A1 m)
 ·rcases A3 m with m | m
  ·exact .inr (hN b m)
  ·exact .inl (A0 m)
theorem bq.drop (k:∀ b o,h₀.get? b=some o->h₁.get? b=some o) (hN:∀ a∈N,h₀.get? a=none) (S:bq ((N++own)++ρ) ρ ρ' h₁ h'):bq (own++ρ) ρ ρ' h₀ h':=by
 refine ⟨⟨fun b ⟨o,ho⟩=>S.keep.live b ⟨o,k b o ho⟩,fun b o ho nb=>S.keep.obj b o (k b o ho) fun m=>?_⟩,S.pre,fun a m=>?_,fun L o hL ho hc hd=>S.ff L o hL (k L o ho) hc hd⟩
 ·rcases A3 m with m | m
  ·rcases A3 m with m | m
   ·rw [hN b m] at ho; exact nS ho
   ·exact nb (A1 m)
  ·exact nb (A0 m)
 ·rcases S.new a m with m | m
  ·exact .inl m
  ·right
   cases q:h₀.get? a with
   | none=>rfl
   | some o=>rw [k a o q] at m; exact Sn m
theorem d5.drop (k:∀ b o,h₀.get? b=some o->h₁.get? b=some o) (X:d5 P nm h₁ h' (ρ'++(N++xs)) ρ' c fs e):d5 P nm h₀ h' (ρ'++xs) ρ' c fs e:=by
 have X':=X.shift (h₀:=h₀) fun b ⟨o,ho⟩=>⟨o,k b o ho⟩
 exact ⟨X'.val.grow (fZ (di fun a m=>A0 m)),X'.new,X'.bare,X'.tb⟩
theorem af.enter {α β γ:Type} {out:aU α} {rel:Heap->List Addr->List Addr->α->γ->Prop} {rel':Heap->List Addr->List Addr->α->β->Prop} {Q:γ->Shared->Prop} {Q':β->Shared->Prop} {E':Value->Shared->Prop} {t₁:Nat}
  (k:∀ b o,s.heap.get? b=some o->h₁.get? b=some o) (hN:∀ a∈N,s.heap.get? a=none) (g:af prog w base P nm own out rel ρ xs Q E s)
  (hok:∀ v x h' tk' ρ' σ',bq ((N++own)++ρ) ρ ρ' h₁ h'->aG prog w P nm base σ' ρ' (N++xs) h'->rel' h' (ρ'++(N++xs)) ρ' v x->∃ y,rel h' (ρ'++xs) ρ' v y/\(Q y { s with heap:=h',toks:=tk' }->Q' x { s with heap:=h',toks:=tk' }))
  (hex:∀ e h' tk' ρ' σ' c fs,bq ((N++own)++ρ) ρ ρ' h₁ h'->aG prog w P nm base σ' ρ' (N++xs) h'->d5 P nm h₁ h' (ρ'++(N++xs)) ρ' c fs e->(∀ h'' tk'',bq (own++ρ) ρ ρ' s.heap h''->aG prog w P nm base σ' ρ' xs h''->d5 P nm s.heap h'' (ρ'++xs) ρ' c fs e->E (.ref e) { s with heap:=h'',toks:=tk'' })->E' (.ref e) { s with heap:=h',toks:=tk' }) :
  af prog w base P nm (N++own) out rel' ρ (N++xs) Q' E' { s with heap:=h₁,toks:=t₁ }:=by
 cases out with
 | stuck=>exact g
 | ok v σ'=>
  intro x h' tk' ρ' S I r
  refine ae (hok v x h' tk' ρ' σ' S I r) fun y hy hq=>?_
  exact hq (g y h' tk' ρ' (S.drop k hN) I.drop hy)
 | exc c fs σ'=>exact fun e h' tk' ρ' S I X=>hex e h' tk' ρ' σ' c fs S I X fun h'' tk'' S'' I'' X''=>g e h'' tk'' ρ' S'' I'' X''
end
end Mine
end
section
set_option backward.match.sparseCases true
open PySem PySem.Calls PyProof.Rows PySem.W PySem.SeqAt
namespace Mine
section
variable {prog:Program} {w:World} {A:Around} {s:Shared}
theorem mz {M:Model} {E:Value->Shared->Prop} {scope:Scope} {globals:Addr} {binds:List (Str × Value)} {qual:Str} {func:Option Addr} {code:Value} {builtins:Addr} {Q:Env->Shared->Prop}
  (hl:∀ x∈binds,scope.names.lookup x.1=some .local)
  (hQ:∀ h',h'.Ns s.heap.objs.size (fun x=>binds.reverse.lookup x)->(∀ b o,s.heap.get? b=some o->h'.get? b=some o)->(∃ o,h'.get? s.heap.objs.size=some o/\o.cls = .type "frame")->CellsOk h' (s.heap.objs.size + 1) (cellsFrom (s.heap.objs.size + 1) scope.names []) ->
   Q (newEnv scope s.heap.objs.size globals (cellsFrom (s.heap.objs.size + 1) scope.names []) qual func code none builtins) { s with heap:=h',toks:=s.toks + binds.length })
  (hk:scope.kind = .function) :
  wpAny M A (newFunctionEnv scope globals [] binds qual func code none builtins) Q E s:=by
 simp only [newFunctionEnv,Option.isSome_none,Bool.false_eq_true,if_false]
 simp only [newEnv] at hQ
 refine wpAny_bind (wpAny_alloc ?_)
 refine wpAny_bind (wpAny_layCells _ (fun name kind cells=>by cases hkc:kind == NameKind.cell <;> simp [hkc]) _ _ _ _ ?_)
 have ok:=cellsFrom_ok scope.names (s.heap.push { cls:=.type "frame",data:=.dict #[] }) (s.heap.objs.size + 1) [] ⟨fun HC HC hm=>(nomatch hm),List.Pairwise.nil⟩ (by rw [Heap.size_push]; exact Nat.le_refl _)
 rw [Heap.size_push] at ok
 rw [show ({ s with heap:=s.heap.push { cls:=.type "frame",data:=.dict #[] } }:Shared).heap.objs.size=s.heap.objs.size + 1 from Heap.size_push ..]
 have hfr:(pushCells (s.heap.push { cls:=.type "frame",data:=.dict #[] }) scope.names).get? s.heap.objs.size=some { cls:=.type "frame",data:=.dict #[] }:=pushCells_keeps _ _ _ _ (Heap.get?_push_size _ rfl)
 have kp:∀ b o,s.heap.get? b=some o->(pushCells (s.heap.push { cls:=.type "frame",data:=.dict #[] }) scope.names).get? b=some o:=fun b o e=>pushCells_keeps _ _ b o (A8 e)
 have hns0:(pushCells (s.heap.push { cls:=.type "frame",data:=.dict #[] }) scope.names).Ns s.heap.objs.size (fun HC=>none):=(Heap.Ns.new s.heap (.type "frame")).keeps (pushCells_keeps _ _)
 dsimp only
 generalize pushCells (s.heap.push { cls:=.type "frame",data:=.dict #[] }) scope.names=h0 at ok hfr kp hns0
 refine wpAny_bind ?_
 refine wpAny_forIn_list _
  (fun rest HC s'=>∃ done h',binds=done++rest/\s' = { s with heap:=h',toks:=s.toks + done.length } /\
   h'.Ns s.heap.objs.size (fun x=>done.reverse.lookup x) /\
   Heap.SameBut s.heap.objs.size h0 h'/\(∃ o,h'.get? s.heap.objs.size=some o/\o.cls = .type "frame")) _ ?_ ?_ binds _
  ⟨[],_,rfl,rfl,hns0,Heap.SameBut.refl ..,_,hfr,rfl⟩
 ·rintro ⟨name,v⟩ rest _ s' ⟨done,h',hb,rfl,hns,hsb,o,ho,hoc⟩
  have hk':Env.kindOf { scope,locals:=s.heap.objs.size,globals,cells:=cellsFrom (s.heap.objs.size + 1) scope.names [],qual,func,code,frame:=some s.heap.objs.size,builtins } name=some .local:=
   hl (name,v) (by rw [hb]; simp)
  have hp:(({ scope,locals:=s.heap.objs.size,globals,cells:=cellsFrom (s.heap.objs.size + 1) scope.names [],qual,func,code,frame:=some s.heap.objs.size,builtins }:Env).scope.kind == .class || (({ scope,locals:=s.heap.objs.size,globals,cells:=cellsFrom (s.heap.objs.size + 1) scope.names [],qual,func,code,frame:=some s.heap.objs.size,builtins }:Env).scope.kind == .module &&
    ({ scope,locals:=s.heap.objs.size,globals,cells:=cellsFrom (s.heap.objs.size + 1) scope.names [],qual,func,code,frame:=some s.heap.objs.size,builtins }:Env).locals != ({ scope,locals:=s.heap.objs.size,globals,cells:=cellsFrom (s.heap.objs.size + 1) scope.names [],qual,func,code,frame:=some s.heap.objs.size,builtins }:Env).globals))=false:=by
   show (scope.kind == .class || (scope.kind == .module && _))=false
   rw [hk]; rfl
  simp only [storeName_local hk' hp]
  refine wpAny_bind (lF hns fun h'' hns' hsb' hcl=>wpAny_pure (pf (done++[(name,v)]) h'' (by simp [hb]) ?_ ?_ (hsb.trans hsb') ?_))
  ·simp [Nat.add_assoc]
  ·rw [lookup_reverse_snoc]; exact hns'
  ·refine ae (hcl o ho) fun o' e1 e2=>?_
   exact (ax o' e1 (e2.trans hoc))
 ·rintro _ s' ⟨done,h',hb,rfl,hns,hsb,hcl⟩
  rw [List.append_nil] at hb; subst hb
  refine wpAny_pure (hQ h' hns (fun b o e=>(hsb.2 b (Nat.ne_of_lt (Heap.lt_size e))).trans (kp b o e)) hcl ⟨fun n c hm=>?_,ok.apart⟩)
  refine ai (ok.empty n c hm) fun h1 h2=>?_
  exact ⟨h1.sameBut hsb (Nat.ne_of_gt h2),h2⟩
theorem lH {R:Result->Shared->Prop} {a:Addr} {o:Obj} {fd:FuncData} {body:List Stmt} {args:Args} {binds:List (Str × Value)}
  (hroom:A.depth < recursionLimit) (ho:s.heap.get? a=some o) (hdata:o.data = .func fd) (hlim:s.heap.NoLimit) (hcd:s.heap.CodeRec fd.code fd.qualname)
  (hbody:fd.body = .stmts body) (hbind:bindArgs fd args=pure binds) (hclo:fd.closure=[])
  (hloc:∀ x∈binds,fd.scope.names.lookup x.1=some .local)
  (h:∀ h₀,h₀.Ns s.heap.objs.size (fun x=>binds.reverse.lookup x)->(∀ b o,s.heap.get? b=some o->h₀.get? b=some o)->(∃ o,h₀.get? s.heap.objs.size=some o/\o.cls = .type "frame")->CellsOk h₀ (s.heap.objs.size + 1) (cellsFrom (s.heap.objs.size + 1) fd.scope.names []) ->
   wpAny (model prog w) (A.deeper (callEnvC fd s.heap.objs.size a)) (execs body (callEnvC fd s.heap.objs.size a)) (fun f s'=>R (.ok (.ret (match f with | .ret v=>v | _=>.none))) s')
    (fun e s'=>wpAny (model prog w) (A.deeper (callEnvC fd s.heap.objs.size a)) (leaving (callEnvC fd s.heap.objs.size a) e) (fun HC s''=>R (.error e) s'') (fun e' s''=>R (.error e') s'') s') { s with heap:=h₀,toks:=s.toks + binds.length })
  (hco:fd.scope.isCoroutine=false) (hgen:fd.scope.isGenerator=false) (hk:fd.scope.kind = .function) :
  codeAny (model prog w) A (.call (.ref a) args) R s:=by
 refine codeAny_call_function hroom ho hdata hco hgen hbody hcd (BindsTo.of_eq hbind _ _ _ _ ?_)
 rw [hclo]
 refine mz hloc (fun h₀ zu kk hcl hce=>?_) hk
 exact ⟨hlim.keeps kk,codeAny_func (h h₀ zu kk hcl hce)⟩
end
theorem eB:∀ (names:List (Str × NameKind)) (n:Nat) (acc:List (Str × Addr)) (x:Str),((x,NameKind.cell)∈names\/(acc.lookup x).isSome=true)->((cellsFrom n names acc).lookup x).isSome=true
 | [],n,acc,x,h=>by
  rcases h with h | h
  ·cases h
  ·exact h
 | (y,k) :: r,n,acc,x,h=>by
  unfold cellsFrom
  split
  ·rename_i hk
   refine eB r _ _ x ?_
   rcases h with h | h
   ·rcases A7 h with q | q
    ·cases q
     right
     simp [List.lookup_cons]
    ·exact .inl q
   ·right
    rw [List.lookup_cons]
    split
    ·rfl
    ·exact h
  ·rename_i hk
   refine eB r _ _ x ?_
   rcases h with h | h
   ·rcases A7 h with q | q
    ·cases q
     exact absurd rfl hk
    ·exact .inl q
   ·exact .inr h
noncomputable def uz (P:cz) (nm:Nat->Str) (f:bu) (qual:Str) (tab:List (Pos × List Nat)):List (Nat × Nat)->List Stmt->Prop
 | [],sts=>sts=[]
 | p :: ps,sts=>∃ n st sts' fk pos,sts=st :: sts'/\P.fns p.2=some fk/\(∃ k,ao f.vars p.1=some (n,k)/\k<=1)/\aQ (lm 0 f.vars) p.1=false/\lG nm fk st (nm n) pos (qual++nm n) /\
  (∀ t∈tab,t.1.line=pos.line->t.1.col=pos.col->aA t.2=qual++nm n)/\(∃ t∈tab,t.1=pos)/\uz P nm f qual tab ps sts'
noncomputable def pJ (P:cz) (nm:Nat->Str) (base:Heap) (f:bu) (fd:FuncData) (sts:List Stmt):Prop:=
 (f.pre=[]/\sts=[])\/(f.pre≠[]/\∃ c Pl tab,fd.code = .ref c/\jR base c Pl/\P.wl f.home=some (Pl,tab)/\uz P nm f (fd.qualname++".<locals>.") tab f.pre sts)
structure cy (P:cz) (nm:Nat->Str) (base:Heap) (f:bu):Prop where
 at_:∃ o fd sts,base.get? f.addr=some o/\o.data = .func fd/\o.cls = .type "function"/\base.CodeRec fd.code fd.qualname/\fd.body = .stmts (sts++f.body.toS nm fun i=>(f.vars.getD i (0,0)).1)/\CloS0 nm f fd 0/\pJ P nm base f fd sts
theorem CloS0.kinds {nm:Nat->Str} {f:bu} {fd:FuncData} (S:CloS0 nm f fd 0) (i c k:Nat) (e:ao f.vars i=some (c,k)):(k=0/\fd.scope.names.lookup (nm c)=some .local)\/(k=1/\fd.scope.names.lookup (nm c)=some .cell/\f.np<=i):=by
 rcases S.var i c k e with h | h | ⟨_,_,h1,h2⟩
 ·exact .inl ⟨h.1,h.2.1⟩
 ·exact .inr h
 ·exact absurd h2 (Nat.not_lt.mpr h1)
theorem CloS0.par {nm:Nat->Str} {f:bu} {fd:FuncData} (S:CloS0 nm f fd 0) {i c k:Nat} (e:ao f.vars i=some (c,k)) (h:i < f.np):k=0/\fd.scope.names.lookup (nm c)=some .local:=by
 rcases S.kinds i c k e with q | ⟨_,_,q⟩
 ·exact q
 ·exact absurd h (Nat.not_lt.mpr q)
theorem CloS0.no2 {nm:Nat->Str} {f:bu} {fd:FuncData} (S:CloS0 nm f fd 0) {i c k:Nat} {G:Prop} (e:ao f.vars i=some (c,k + 2)):G:=by
 rcases S.kinds i c _ e with q | ⟨q,_⟩
 ·exact absurd q.1 (Nat.succ_ne_zero _)
 ·exact absurd (Nat.succ.inj q) (Nat.succ_ne_zero _)
theorem iw {l:List Nat} {i:Nat} (h:i∈l):aQ l i=true:=(d7 l i).trans (decide_eq_true h)
theorem iy {l:List Nat} {i:Nat} (h:aQ l i=true):i∈l:=of_decide_eq_true ((d7 l i).symm.trans h)
theorem qG:∀ {vs:List (Nat × Nat)} {n y:Nat},y∈jl n vs->∃ i c k,ao vs i=some (c,k + 1)/\(y=n + i\/(k=0/\y=wc (n + i) c))
 | [],_,_,h=>nomatch h
 | (c,k) :: vs,n,y,h=>by
  have rr:y∈jl (n + 1) vs->∃ i c' k',ao ((c,k) :: vs) i=some (c',k' + 1)/\(y=n + i\/(k'=0/\y=wc (n + i) c')):=fun h=>by
   refine fE (qG h) fun i c' k' h1 h2=>?_
   rw [show n + 1 + i=n + (i + 1) by omega] at h2
   exact (hM (i + 1) c' k' h1 h2)
  cases k with
  | zero=>exact rr h
  | succ k=>
   cases k with
   | zero=>
    rcases A7 h with rfl | h
    ·exact (hM 0 c 0 rfl (.inl rfl))
    ·rcases A7 h with rfl | h
     ·exact (hM 0 c 0 rfl (.inr ⟨rfl,rfl⟩))
     ·exact rr h
   | succ k=>
    rcases A7 h with rfl | h
    ·exact (hM 0 c (k + 1) rfl (.inl rfl))
    ·exact rr h
theorem qH:∀ {vs:List (Nat × Nat)} {i n c k:Nat},ao vs i=some (c,k + 1)->n + i∈jl n vs
 | [],_,_,_,_,e=>by exact nS e
 | (c,k) :: vs,i,n,c',k',e=>by
  cases i with
  | zero=>
   cases e
   cases k' with
   | zero=>exact .head _
   | succ k=>exact .head _
  | succ i=>
   have:=qH (vs:=vs) (i:=i) (n:=n + 1) e
   rw [show n + (i + 1)=n + 1 + i from by omega]
   cases k with
   | zero=>exact this
   | succ k=>cases k with
    | zero=>exact .tail _ (.tail _ this)
    | succ _=>exact .tail _ this
theorem xi {i c j c':Nat} (h1:c < 1000) (h2:c' < 1000) (e:wc i c=wc j c'):i=j/\c=c':=by
 have e:1000 * i + c=1000 * j + c':=Nat.add_left_cancel e
 have t:∀ x y,y < 1000->(1000 * x + y) / 1000=x:=fun x y h=>by rw [Nat.mul_add_div (by decide),Nat.div_eq_of_lt h,Nat.add_zero]
 have q:i=j:=(t i c h1).symm.trans ((congrArg (· / 1000) e).trans (t j c' h2))
 subst q
 exact ⟨rfl,Nat.add_left_cancel e⟩
theorem CloS0.cec {nm:Nat->Str} {f:bu} {fd:FuncData} {k:Nat} (S:CloS0 nm f fd k) (i c:Nat) (hc:c < 1000) (h:aQ (jl 0 f.vars) (wc i c)=true):ao f.vars i=some (c,1):=by
 refine fE (qG (iy h)) fun j c' k' h1 h2=>?_
 have hj:=S.few
 rw [S.nv] at hj
 have hl:=b7 h1
 rcases h2 with e | ⟨rfl,e⟩
 ·have e:1000000 + (1000 * i + c)=j:=e.trans (Nat.zero_add j)
  exact absurd (Nat.le_trans (e▸Nat.le_add_right 1000000 _) (Nat.le_of_lt (Nat.lt_of_lt_of_le hl hj))) (by decide)
 ·rw [Nat.zero_add] at e
  refine ai (xi hc (S.sm _ _ _ h1) e) fun zq1 zq2=>?_; subst zq1; subst zq2
  exact h1
theorem CloS0.noclo {nm:Nat->Str} {f:bu} {fd:FuncData} (S:CloS0 nm f fd 0):fd.closure=[]:=List.map_eq_nil_iff.mp (S.clo.trans (by rw [List.take_zero,List.map_nil]))
section
variable {prog:Program} {w:World} {base:Heap} {P:cz} {nm:Nat->Str} {σ:St} {ρ xs:List Addr} {s:Shared} {A:Around} {E Q:Value->Shared->Prop} {mg mb:Str->Option Value} {C:aS} {fes:List Env}
theorem jT {names:List Str} {zs:List Value} (hn:names.Nodup) {i:Nat} {n:Str} {z:Value} (h1:names[i]? = some n) (h2:zs[i]? = some z):(names.zip zs).reverse.lookup n=some z:=by
 induction names generalizing zs i with
 | nil=>exact nS h1
 | cons m names ih=>
  cases zs with
  | nil=>exact nS h2
  | cons y zs=>
   rw [List.zip_cons_cons,List.reverse_cons,List.lookup_append]
   rw [List.nodup_cons] at hn
   cases i with
   | zero=>
    simp only [List.getElem?_cons_zero,Option.some.injEq] at h1 h2
    subst h1 h2
    have:(names.zip zs).reverse.lookup m=none:=by
     rw [List.lookup_eq_none_iff]
     intro p hp
     have hp':=List.of_mem_zip (List.mem_reverse.mp hp)
     simp only [bne_iff_ne,ne_eq,beq_eq_false_iff_ne]
     first
      | exact fun q=>hn.1 (q▸hp'.1)
      | simpa using fun q=>hn.1 (q▸hp'.1)
    rw [this]; simp
   | succ i=>
    rw [ih hn.2 h1 h2]; rfl
theorem gb (inj:∀ a b,nm a=nm b->a=b):∀ {vars:List (Nat × Nat)},(∀ i j c k k',ao vars i=some (c,k)->ao vars j=some (c,k')->i=j)->(vars.map fun p=>nm p.1).Nodup
 | [],_=>List.nodup_nil
 | p :: l,hn=>by
  rw [List.map_cons,List.nodup_cons]
  refine ⟨fun m=>?_,gb inj fun i j c k k' h1 h2=>?_⟩
  ·refine ae (List.mem_map.mp m) fun q hq he=>?_
   refine ay (List.mem_iff_getElem?.mp hq) fun j hj=>?_
   have:=hn 0 (j + 1) p.1 p.2 q.2 rfl (by show ao l j=_; rw [aJ,hj,<- inj _ _ he])
   cases this
  ·exact Nat.succ.inj (hn (i + 1) (j + 1) c k k' h1 h2)
noncomputable def De (P:cz) (nm:Nat->Str) (h:Heap) (ow ρ:List Addr) (fl:Flow × Loc) (f:PySem.Flow):Prop:=match fl.1,f with
 | .next,.next=>True
 | .brk,.brk=>True
 | .cont,.cont=>True
 | .ret v,.ret x=>au P nm h ow ρ v x
 | _,_=>False
theorem pK {own ρ':List Addr} {h₀:Heap} {ev:Env} {outer:List Env} {c:Nat} {fs:List (Nat × V)} {e:Addr} (hfr:A.frames=some (ev :: outer)) (hb:base.StaysIn h₀) (Y:jP prog w base P nm own ρ xs (ev :: outer) h₀ σ ρ' c fs e s.heap) {Q:Unit->Shared->Prop}
  (hQ:∀ h',jP prog w base P nm own ρ xs (ev :: outer) h₀ σ ρ' c fs e h'->Q () { s with heap:=h' }):wpAny (model prog w) A (leaving ev (.ref e)) Q E s:=by
 refine ai (Y.F ev (.head _)) fun HC zq1=>?_; refine fL zq1 fun L HC hf HC=>?_
 unfold leaving
 exact wpAny_bind (cH hfr hf hb Y fun h1 Y1 HC=>bN (s:={ s with heap:=h1 }) hb Y1 fun h2 Y2=>hQ h2 Y2)
theorem uA (W:aY prog w base P nm C mg mb) {own gs ce:List Nat} {vn:Nat->Nat} {ev:Env} {f:bu} {c Pl:Addr} {tab:List (Pos × List Nat)} {j:Nat} {rest:List Stmt} {E:Value->Shared->Prop} {Q:PySem.Flow->Shared->Prop} (F:ck nm ev vn f.vars gs (lm 0 f.vars) ce xs) (hcode:ev.code = .ref c) (hc:jR base c Pl) (hl:P.wl j=some (Pl,tab)) (hw:ao σ j=some (.wild j)) :
  ∀ (ps:List (Nat × Nat)) (sts:List Stmt) (l:Loc) (s:Shared),uz P nm f ev.qual tab ps sts->1<=s.toks->aG prog w P nm base σ ρ xs s.heap->aH P nm ev fes f.vars own xs s.heap ρ l ->
   (∀ h' t,1<=t->bq (own++ρ) ρ ρ s.heap h'->aG prog w P nm base σ ρ xs h'->aH P nm ev fes f.vars own xs h' ρ (l8 ps l)->wpAny (model prog w) A (execs rest ev) Q E { s with heap:=h',toks:=t }) ->
   wpAny (model prog w) A (execs (sts++rest) ev) Q E s
 | [],_,_,s,hp,ht,I,R,h=>by
  cases (show _=_ from hp)
  exact h s.heap s.toks ht (bq.refl _ _ _) I R
 | p :: ps,_,l,s,hp,ht,I,R,h=>by
  obtain ⟨n,st,sts',fk,pos,zq1,hk,zq2,hro,D,ht1,ht2,hr⟩:=hp; subst zq1; refine ae zq2 fun kv hv hkv=>?_
  refine ay (dh (l:=l) (k:=p.1) (by rw [R.len]; exact b7 hv)) fun o ho=>?_
  have hvn:=F.vn _ _ _ hv
  refine wpAny_execs_cons (zq (k:=p.2) (q:=ev.qual++nm n) (tab:=tab) W ht F I R hk (by rw [hvn]; exact D) ?_ hcode hc hw hl ht1 ht2 (ui hro ho) fun h' t ht' S I' R'=>?_)
  ·rw [hvn]
   unfold qualnameIn
   have:ev.kindOf (nm n)=some .local\/ev.kindOf (nm n)=some .cell:=by
    cases kv with
    | zero=>exact .inl (F.loc _ _ hv)
    | succ kv=>cases kv with
     | zero=>exact .inr (F.cel _ _ hv)
     | succ kv=>exact absurd hkv (by omega)
   rcases this with q | q
   ·rw [q]; rfl
   ·rw [q]; rfl
  ·exact uA W F hcode hc hl hw ps sts' _ { s with heap:=h',toks:=t } hr ht' I' R' fun h'' t'' ht'' S'' I'' R''=>h h'' t'' ht'' (S.trans S'') I'' R''
theorem sx (W:aY prog w base P nm C mg mb) {f:bu} {a:Addr} {o:Obj} {fd:FuncData} {body:List Stmt} (ho:s.heap.get? a=some o) (hdata:o.data = .func fd) (hcd:s.heap.CodeRec fd.code fd.qualname)
  (hbody:fd.body = .stmts body) (S:CloS0 nm f fd 0) {vs:List V} {zs:List Value} {d:Nat} {hm:Bool} (ht:1<=s.toks + zs.length) (hv:vs.length=f.np)
  (O:cV A fes (d + 1) hm) (ff:gT fes xs s.heap) (I:aG prog w P nm base σ ρ xs s.heap) (rs:ak P nm s.heap (ρ++xs) ρ vs zs)
  (h:∀ ev h₁ t₁ N,ev.qual=fd.qualname++".<locals>."->ev.code=fd.code->1<=t₁->(∀ b o,s.heap.get? b=some o->h₁.get? b=some o)->(∀ x∈N,s.heap.get? x=none)->ck nm ev (fun i=>(f.vars.getD i (0,0)).1) f.vars f.gl (lm 0 f.vars) (jl 0 f.vars) (N++xs)->cV (A.deeper ev) (ev :: fes) d hm ->
   aG prog w P nm base σ ρ (N++xs) h₁->aH P nm ev (ev :: fes) f.vars N (N++xs) h₁ ρ (vs.map some++List.replicate (f.nv - f.np) none) ->
   wpAny (model prog w) (A.deeper ev) (execs body ev) (fun fl s'=>Q (match fl with | .ret v=>v | _=>.none) s') (fun e s'=>wpAny (model prog w) (A.deeper ev) (leaving ev e) (fun HC s''=>E e s'') (fun e' s''=>E e' s'') s') { s with heap:=h₁,toks:=t₁ }) :
  wpAny (model prog w) A (call (.ref a) zs) Q E s:=by
 have hlen:zs.length=f.np:=by rw [<- rs.length]; exact hv
 refine wpAny_call (lH (fd:=fd) (body:=body) (pn O.dep) ho hdata (W.NL.keeps I.stay) hcd hbody (S.bind zs hlen) S.noclo (fun x hx=>?_) (fun h₁ hns hkp ⟨oL,hoL,hcL⟩ hce=>?_) S.co S.gen S.kind)
 ·obtain ⟨n,z⟩:=x
  have:=(List.of_mem_zip hx).1
  refine ae (List.mem_map.mp this) fun p hp zq1=>?_; subst zq1
  refine ay (List.mem_iff_getElem?.mp hp) fun j hj=>?_
  have hjl:j < f.np:=Nat.lt_of_lt_of_le (List.getElem?_eq_some_iff.mp hj).1 (by rw [List.length_take]; exact Nat.min_le_left _ _)
  rw [List.getElem?_take_of_lt (show j < f.np - 0 from hjl)] at hj
  exact (S.par (k:=p.2) (by rw [aJ]; exact hj) hjl).2
 have hdict:∃ es ep,oL.data = .dict es ep:=by
  refine de hns fun o2 es ep e1 e2 HC=>?_; clear hns
  rw [hoL] at e1; replace e1:=oi e1; subst e1
  exact (gP es ep e2)
 let cells:=cellsFrom (s.heap.objs.size + 1) fd.scope.names []
 let N:List Addr:=s.heap.objs.size :: cells.map (·.2)
 have cell_at:∀ {n:Str} {a:Addr},cells.lookup n=some a->h₁.IsCell a none/\s.heap.objs.size + 1<=a/\a∈N:=fun {n a} e=>by
  have m:=mem_of_lookup e
  exact (cF ((hce.empty n a m).1) ((hce.empty n a m).2) (List.mem_cons_of_mem _ (List.mem_map.mpr (ax _ m rfl))))
 have dead:∀ a∈N,s.heap.get? a=none/\bZ h₁ a:=fun a m=>by
  rcases A7 m with rfl | m
  ·exact ⟨aZ _,_,hoL⟩
  ·refine ae (List.mem_map.mp m) fun p hp zq1=>?_; subst zq1
   refine ai (hce.empty p.1 p.2 hp) fun zq1 e2=>?_; refine ae zq1 fun oc e1 HC=>?_
   exact ⟨Heap.get?_none_of_le (Nat.le_trans (Nat.le_succ _) e2),oc,e1⟩
 have nodup:N.Nodup:=by
  refine List.nodup_cons.mpr ⟨fun m=>?_,?_⟩
  ·refine ae (List.mem_map.mp m) fun p hp q=>?_
   have:=(hce.empty p.1 p.2 hp).2
   exact absurd q (Nat.ne_of_gt this)
  ·exact List.pairwise_map.mpr hce.apart
 have hlt:1<=s.toks + (((f.vars.take f.np).map fun p=>nm p.1).zip zs).length:=by
  rw [List.length_zip,List.length_map,List.length_take,<- S.nv,Nat.min_eq_left S.np,hlen,Nat.min_self,<- hlen]; exact ht
 refine h (callEnvC fd s.heap.objs.size a) h₁ _ N rfl rfl hlt hkp (fun x m=>(dead x m).1) ?_ ⟨?_,tG O.dep,yz O.un (by decide),O.hd⟩ (I.push hkp nodup dead) ?_
 ·refine ⟨S.kind,S.glo,S.blt,fun i c k e=>?_,fun i c e=>?_,fun i c e=>?_,fun i c k e=>S.no2 e,S.nd,S.gl,.head _,fun i c k e=>S.no2 e,S.cec,fun i c k e=>?_,fun c c' a h1 h2=>?_,fun c a h1=>?_,fun c a h1=>A1 (cell_at h1).2.2⟩
  ·rw [aJ] at e
   show (f.vars.getD i (0,0)).1=c
   rw [List.getD_eq_getElem?_getD,e]; rfl
  ·rcases S.kinds i c 0 e with q | q
   ·exact q.2
   ·cases q.1
  ·rcases S.kinds i c 1 e with q | q
   ·cases q.1
   ·exact q.2.1
  ·exact iw (by have:=qH (n:=0) e; rwa [Nat.zero_add] at this)
  ·exact W.G.inj _ _ (name_of_addr hce.apart (mem_of_lookup h1) (mem_of_lookup h2))
  ·exact Nat.ne_of_gt (cell_at h1).2.1
 ·show A.frames.map _=_; rw [O.fr]; rfl
 ·have Df:cK [] (ρ++xs) (ρ++(N++xs)) ρ ρ s.heap h₁:=jS hkp fun a m=>(dead a m).1
  refine ⟨?_,(ax _ hns (fun i v hv'=>?_)),fun i c e=>?_,⟨.head _,fun a m=>A1 m⟩,fun ev' he=>?_⟩
  ·rw [List.length_append,List.length_map,List.length_replicate,<- S.nv,hv]
   exact Nat.add_sub_of_le S.np
  ·have hi:i < vs.length:=by
    refine Nat.lt_of_not_le fun q=>?_
    rw [aK (by rw [List.length_map]; exact q),aJ,List.getElem?_replicate] at hv'
    split at hv' <;> cases hv'
   rw [cN (by rw [List.length_map]; exact hi),aJ,List.getElem?_map] at hv'
   obtain ⟨u,hu⟩:∃ u,vs[i]? = some u:=⟨vs[i],List.getElem?_eq_getElem hi⟩
   rw [hu] at hv'; cases hv'
   refine cL fun HC kG=>?_
   refine ae (rs.at (i:=i) (v:=v) (by rw [aJ]; exact hu)) fun x hx rx=>?_
   have hnp:=S.np
   have hnv:=S.nv
   obtain ⟨⟨c,k⟩,hck⟩:=dh (l:=f.vars) (k:=i) (by omega)
   have hk0:=(S.par hck (by omega)).1
   subst hk0
   refine kG ?_
   refine (dz c 0 x hck (rx.grow Df) (.inl ⟨rfl,?_⟩))
   refine jT (i:=i) ?_ ?_ hx
   ·rw [List.map_take]
    exact (gb W.G.inj S.nd).sublist (List.take_sublist _ _)
   ·rw [aJ] at hck
    rw [List.getElem?_map,List.getElem?_take_of_lt (by omega),hck]; rfl
  ·rcases S.kinds i c 1 e with q | q
   ·cases q.1
   ·have hm:=mem_of_lookup q.2.1
    refine ay (Option.isSome_iff_exists.mp (eB fd.scope.names (s.heap.objs.size + 1) [] (nm c) (.inl hm))) fun a ha=>?_
    refine jy (cell_at ha) fun h1 HC h3=>?_
    exact (db a none ha h1 h3)
  ·rcases A7 he with rfl | he
   ·exact ⟨by show fd.scope.kind≠_; rw [S.kind]; decide,_,oL,rfl,.head _,hoL,hcL,hdict⟩
   ·refine ai (ff ev' he) fun k zq1=>?_; refine cJ zq1 fun L o' h1 h2 h3 h4=>?_
    exact ⟨k,L,o',h1,A0 h2,hkp _ _ h3,h4⟩
theorem jU (W:aY prog w base P nm C mg mb) {r:dv} (hB:iS prog w base P nm r) {f:bu} {a:Addr} {o:Obj} {fd:FuncData} {sts:List Stmt} (ho:s.heap.get? a=some o) (hdata:o.data = .func fd) (hcd:s.heap.CodeRec fd.code fd.qualname)
  (hbody:fd.body = .stmts (sts++f.body.toS nm fun i=>(f.vars.getD i (0,0)).1)) (S:CloS0 nm f fd 0) (hH:pJ P nm base f fd sts) (hhome:eY f σ = true) {vs:List V} {zs:List Value} {d:Nat} {hm:Bool} (ht:1<=s.toks + zs.length) (hv:vs.length=f.np)
  (O:cV A fes (d + 1) hm) (ff:gT fes xs s.heap) (I:aG prog w P nm base σ ρ xs s.heap) (rs:ak P nm s.heap (ρ++xs) ρ vs zs) (g:bh prog w base P nm ((r.b f.body ⟨l8 f.pre (vs.map some++List.replicate (f.nv - f.np) none),d,hm,f.gl,lm 0 f.vars,jl 0 f.vars⟩ σ).bind fC) ρ xs Q E s) :
  wpAny (model prog w) A (call (.ref a) zs) Q E s:=by
 refine sx W ho hdata hcd hbody S ht hv O ff I rs fun ev h₁ t₁ N hqual hcode aq hkp hN zv zx aj bM=>?_
 have gB:af prog w base P nm [] (r.b f.body ⟨l8 f.pre (vs.map some++List.replicate (f.nv - f.np) none),d,hm,f.gl,lm 0 f.vars,jl 0 f.vars⟩ σ) (De P nm) ρ xs (T1 fun fl s'=>Q (match fl with | .ret v=>v | _=>.none) s') (T1 E) s:=
  af.bindT g fun fl σ₁ fl' aR bC aW aX bl bf rf aN=>by
   obtain ⟨fl1,fl2⟩:=fl
   cases fl1 <;> cases fl' <;> first | exact rf.elim | skip
   ·exact aN.here bf .none bC
   ·exact aN.elim
   ·exact aN.elim
   ·exact aN.here bf rf bC
 have gE:af prog w base P nm (N++[]) (r.b f.body ⟨l8 f.pre (vs.map some++List.replicate (f.nv - f.np) none),d,hm,f.gl,lm 0 f.vars,jl 0 f.vars⟩ σ) (d9 P nm ev (ev :: fes) f.vars N (N++xs)) ρ (N++xs) (T1 fun fl s'=>Q (match fl with | .ret v=>v | _=>.none) s')
   (T1 fun e s'=>wpAny (model prog w) (A.deeper ev) (leaving ev e) (fun HC s''=>E e s'') (fun e' s''=>E e' s'') s') { s with heap:=h₁,toks:=t₁ }:=by
  refine af.enter (own:=[]) (N:=N) hkp hN gB (fun fl f' h' tk' ρ' σ' S I' rf=>(ax f' ?_ (fun q ht'=>?_))) fun e h' tk' ρ' σ' c fs S' I' X k ht'=>?_
  ·obtain ⟨fl1,fl2⟩:=fl
   refine ai rf fun HC rf=>?_
   cases fl1 <;> cases f' <;> first | exact rf.elim | trivial | skip
   exact au.grow (fZ (di fun a m=>A0 m)) rf
  ·exact q ht'
  ·refine pK (s:={ s with heap:=h',toks:=tk' }) zx.fr (h₀:=h₁) aj.stay (own:=N++[]) ⟨S',I',X,bM.fr.step aj S'⟩ fun h'' Y=>?_
   exact k h'' tk' (Y.S.drop (N:=N) (own:=[]) hkp hN) Y.I.drop (Y.X.drop hkp) ht'
 rw [List.append_nil] at gE
 rcases hH with ⟨hp,rfl⟩ | ⟨hp,c,Pl,tab,hcode',hc,hl,hpre⟩
 ·rw [hp] at gE
  exact hB f.body ⟨vs.map some++List.replicate (f.nv - f.np) none,d,hm,f.gl,lm 0 f.vars,jl 0 f.vars⟩ σ (A.deeper ev) ev fes _ f.vars N (N++xs) ρ _ _ _ aq zv zx aj bM gE
 ·have hw:ao σ f.home=some (.wild f.home):=by
   unfold eY at hhome
   cases hq:f.pre with
   | nil=>exact absurd hq hp
   | cons p ps=>
    rw [hq] at hhome
    cases hn:ao σ f.home with
    | none=>rw [hn] at hhome; exact fT hhome
    | some o=>
     rw [hn] at hhome
     cases o with
     | wild j=>rw [A4 hhome]
     | _=>exact fT hhome
  exact uA W zv (hcode.trans hcode') hc hl hw f.pre sts _ _ (hqual▸hpre) aq aj bM fun h' t ht' S' I' R'=>
   hB f.body ⟨l8 f.pre (vs.map some++List.replicate (f.nv - f.np) none),d,hm,f.gl,lm 0 f.vars,jl 0 f.vars⟩ σ (A.deeper ev) ev fes _ f.vars N (N++xs) ρ _ _ _ ht' zv zx I' R' (af.shift gE S')
theorem xj (W:aY prog w base P nm C mg mb) {r:dv} (hB:iS prog w base P nm r) {i:Nat} {f:bu} (hf:P.fns i=some f) (FC:yx f=true->cy P nm base f) {vs:List V} {zs:List Value} {d:Nat} {hm:Bool} (ht:1<=s.toks)
  (O:cV A fes (d + 1) hm) (ff:gT fes xs s.heap) (I:aG prog w P nm base σ ρ xs s.heap) (rs:ak P nm s.heap (ρ++xs) ρ vs zs) (g:bh prog w base P nm ((step P C r).c i vs d hm σ) ρ xs Q E s) :
  wpAny (model prog w) A (call (.ref f.addr) zs) Q E s:=by
 refine ae (bp g) fun f' hf' g=>?_
 rw [hf] at hf'; replace hf':=oi hf'; subst hf'
 refine ai (bA g) fun hck g=>?_
 refine nk ((FC (aD (al hck))).at_) fun o fd sts ho hdata hcls hcd hbody S hH=>?_
 exact jU W hB (I.stay _ _ ho) hdata (hcd.keeps I.stay) hbody S hH (al (al hck)) (Nat.le_trans ht (Nat.le_add_right _ _)) (A4 (aD hck)) O ff I rs g
end
end Mine
end
section
open PySem PySem.Calls PyProof.Rows PySem.W PySem.SeqAt
namespace Mine
section
variable {prog:Program} {w:World} {base h h' h₀ h₁:Heap} {P:cz} {nm:Nat->Str} {σ fD:St} {ρ bF ρ' xs own N:List Addr} {s s₀:Shared} {A:Around} {E:Value->Shared->Prop} {mg mb:Str->Option Value} {ev:Env} {vn:Nat->Nat} {vars:List (Nat × Nat)} {gs ro ce:List Nat} {l:Loc} {fes outer:List Env} {C:aS}
theorem bq.more (x:bq (own++bF) bF ρ h₀ h) (y:bq ((N++own)++ρ) ρ ρ' h h') (hN:∀ a∈N,h₀.get? a=none):bq (own++bF) bF ρ' h₀ h':=by
 refine ⟨⟨fun b z=>y.keep.live b (x.keep.live b z),fun b o e nb=>?_⟩,fun k a e=>y.pre k a (x.pre k a e),fun a m=>?_,fun L o hL ho hc hd=>?_⟩
 ·refine (x.keep.obj b o e nb).trans rfl fun o' e'=>y.keep.obj b o' e' fun hm=>?_
  rcases A3 hm with hm | hm
  ·rcases A3 hm with hm | hm
   ·rw [hN b hm] at e; exact nS e
   ·exact nb (A1 hm)
  ·rcases x.new b hm with hm | hm
   ·exact nb (A0 hm)
   ·exact az hm ⟨_,e⟩
 ·rcases y.new a m with m | m
  ·exact x.new a m
  ·right
   cases q:h₀.get? a with
   | none=>rfl
   | some o=>exact (az m (x.keep.live a ⟨o,q⟩)).elim
 ·refine bD (x.ff L o hL ho hc hd) fun o' e1 e2 e3=>?_
  exact y.ff L o' (fun m=>(x.new L m).elim hL fun q=>az q ⟨o,ho⟩) e1 e2 e3
theorem af.fix {α β γ δ:Type} {own₁:List Addr} (hs:∀ a∈own₁,a∈N++own) (hfr:A.frames=some (ev :: outer)) (ff:gT (ev :: outer) xs s₀.heap) (iz:aG prog w P nm base fD bF xs s₀.heap) (Bh:bq (own++bF) bF ρ s₀.heap s.heap) (hN:∀ a∈N,s₀.heap.get? a=none) (hss:s = { s₀ with heap:=s.heap,toks:=s.toks })
  {out:aU α} {k:α->St->aU γ} {rel:Heap->List Addr->List Addr->α->β->Prop} {rel':Heap->List Addr->List Addr->γ->δ->Prop}
  {Q:δ->Shared->Prop} {Q':β->Shared->Prop} (g:af prog w base P nm own (out.bind k) rel' bF xs Q (T1 E) s₀)
  (hk:∀ v σ₁ x h₁ tk₁ aa,1<=tk₁->bq (own₁++ρ) ρ aa s.heap h₁->bq (own++bF) bF aa s₀.heap h₁->aG prog w P nm base σ₁ aa (N++xs) h₁->rel h₁ (aa++(N++xs)) aa v x->af prog w base P nm own (k v σ₁) rel' bF xs Q (T1 E) s₀->Q' x { s with heap:=h₁,toks:=tk₁ }) :
  af prog w base P nm own₁ out rel ρ (N++xs) (T1 Q') (T1 (NB prog w A ev E)) s:=by
 have more:∀ {ρ' h'},bq (own₁++ρ) ρ ρ' s.heap h'->bq (own++bF) bF ρ' s₀.heap h':=fun S=>Bh.more (N:=N) (S.mono (fc hs)) hN
 cases out with
 | stuck=>exact g
 | ok v σ'=>exact fun x h' tk' ρ' S I' r ht=>hk v σ' x h' tk' ρ' ht S (more S) I' r g
 | exc c fs σ'=>
  intro e h' tk' ρ' S I' X ht
  have S':=more S
  have X':d5 P nm s₀.heap h' (ρ'++xs) ρ' c fs e:=by
   have X1:=X.shift (h₀:=s₀.heap) Bh.keep.live
   exact ⟨X1.val.grow (fZ (di fun a m=>A0 m)),X1.new,X1.bare,X1.tb⟩
  refine oj (own:=own) (ρ:=bF) (h₀:=s₀.heap) (s:={ s with heap:=h',toks:=tk' }) hfr iz.stay ⟨S',I'.drop,X',ff.step iz S'⟩ fun h'' Y=>?_
  have:=g e h'' tk' ρ' Y.S Y.I Y.X ht
  rw [hss]
  exact this
inductive cP (prog:Program) (w:World) (P:cz) (nm:Nat->Str) (h:Heap) (ow ρ:List Addr) (I:Addr):eh->Prop
 | tup {t:Addr} {i:Nat} {l:List V} {vs:List Value}:h.IsTupleIter I t i->IsTup h t vs.toArray->t∉ow->ak P nm h ow ρ l (vs.drop i)->cP prog w P nm h ow ρ I (.seq 0 l)
 | lst {t:Addr} {i:Nat} {l:List V} {vs:List Value}:h.IsListIter I t i->h.IsList t vs.toArray->t∉ow->ak P nm h ow ρ l (vs.drop i)->cP prog w P nm h ow ρ I (.seq 1 l)
 | str {x:List Nat} {t:Tok} {T:String} {i:Nat}:(T = "str_ascii_iterator"\/T = "str_iterator")->(∀ A':Around,A'.handled=none->Walks prog w A' I [I] [I] (aA x).cps.size (SignAt (aA x)) (fun i h=>h.IsStrIter I T (aA x) t i))->h.IsStrIter I T (aA x) t i->i<=x.length ->
   cP prog w P nm h ow ρ I (.seq 2 ((x.drop i).map fun c=>.str [c]))
 | rng {a:Int} {n:Nat}:IsRangeIter h I a n 1->cP prog w P nm h ow ρ I (.seq 3 ((List.range n).map fun (i:Nat)=>.int (a + i)))
 | obj {k i:Nat} {a:Addr}:h.IsListIter I a i->ao ρ k=some a->cP prog w P nm h ow ρ I (.obj k i)
theorem iA {h:Heap} {I l:Addr} {i:Nat} (x:h.IsListIter I l i) {mod:List Addr} {h':Heap} (k:bw mod h h') (hI:I∉mod):h'.IsListIter I l i:=by
 refine bD x fun o ho hc hd=>?_; clear x
 exact (bY o (k.exact ho hI (by rw [hc]; decide)) hc hd)
theorem ol {h:Heap} {I l:Addr} {i:Nat} (x:h.IsTupleIter I l i) {mod:List Addr} {h':Heap} (k:bw mod h h') (hI:I∉mod):h'.IsTupleIter I l i:=by
 refine bD x fun o ho hc hd=>?_; clear x
 exact (bY o (k.exact ho hI (by rw [hc]; decide)) hc hd)
theorem cP.grow {mod ow ow':List Addr} {I:Addr} {q:eh} (g:cK mod ow ow' ρ ρ' h h') (hI:I∉mod) (X:cP prog w P nm h ow ρ I q):cP prog w P nm h' ow' ρ' I q:=by
 cases X with
 | tup h1 h2 h3 h4=>exact .tup (ol h1 g.keep hI) (gR g.keep h2 fun m=>h3 (g.sub _ m)) (fun m=>(g.new _ m).elim h3 fun q=>az q (nD h2)) (h4.grow g)
 | lst h1 h2 h3 h4=>exact .lst (iA h1 g.keep hI) (fS g.keep h2 fun m=>h3 (g.sub _ m)) (fun m=>(g.new _ m).elim h3 fun q=>az q (lu h2)) (h4.grow g)
 | str hT W h1 h2=>
  refine bD h1 fun o ho hc hd=>?_; clear h1
  exact .str hT W (bY o (g.keep.exact ho hI (by rw [hc]; rcases hT with rfl | rfl <;> decide)) hc hd) h2
 | rng h1=>exact .rng (g.keep.exact h1 hI (by show Value.type "range_iterator"≠_; decide))
 | obj h1 h2=>exact .obj (iA h1 g.keep hI) (g.pre _ _ h2)
theorem cP.live {ow:List Addr} {I:Addr} {q:eh} (X:cP prog w P nm h ow ρ I q):∃ o,h.get? I=some o/\o.cls≠.type "frame":=by
 cases X with
 | tup h1=>refine bD h1 fun o ho hc HC=>?_; clear h1; exact (ax o ho (by rw [hc]; decide))
 | lst h1=>refine bD h1 fun o ho hc HC=>?_; clear h1; exact (ax o ho (by rw [hc]; decide))
 | str hT W h1=>refine bD h1 fun o ho hc HC=>?_; clear h1; exact (ax o ho (by rw [hc]; rcases hT with rfl | rfl <;> decide))
 | rng h1=>exact (ax _ h1 (by show Value.type "range_iterator"≠_; decide))
 | obj h1=>refine bD h1 fun o ho hc HC=>?_; clear h1; exact (ax o ho (by rw [hc]; decide))
theorem ak.head {ow:List Addr} {v:V} {l:List V} {vs:List Value} {i:Nat} (r:ak P nm h ow ρ (v :: l) (vs.drop i)):∃ x,vs.toArray[i]? = some x/\au P nm h ow ρ v x/\ak P nm h ow ρ l (vs.drop (i + 1)):=by
 refine aV r fun x ys hq r1 r2=>?_; clear r
 have h1:=congrArg List.head? hq
 rw [List.head?_drop] at h1
 have h2:=congrArg List.tail hq
 rw [List.tail_drop] at h2
 exact (bY x ((List.getElem?_toArray ..).trans h1) r1 (h2▸r2))
theorem ak.stop {ow:List Addr} {vs:List Value} {i:Nat} (r:ak P nm h ow ρ [] (vs.drop i)):vs.toArray[i]? = none:=by
 have h1:=congrArg List.head? (ak.of_nil r)
 rw [List.head?_drop] at h1
 exact (List.getElem?_toArray ..).trans h1
theorem qI {xs:List Addr} {I:Addr} (hh:A.handled=none) (Iv:aG prog w P nm base σ ρ ([I]++xs) s.heap) {q:eh} (X:cP prog w P nm s.heap (ρ++([I]++xs)) ρ I q) {r:Option (V × eh)} (e:bx q σ = some r) {Q:Option Value->Shared->Prop}
  (hitem:∀ v q' x h' tk',r=some (v,q')->(∀ b o,b≠I->s.heap.get? b=some o->h'.get? b=some o)->bZ h' I->cP prog w P nm h' (ρ++([I]++xs)) ρ I q'->au P nm h' (ρ++([I]++xs)) ρ v x->Q (some x) { s with heap:=h',toks:=tk' })
  (hend:∀ h' tk',r=none->(∀ b o,b≠I->s.heap.get? b=some o->h'.get? b=some o)->Q none { s with heap:=h',toks:=tk' }):wpAny (model prog w) A (pyNext (.ref I)) Q E s:=by
 have hIm:I∈ρ++([I]++xs):=A0 (A1 (.head _))
 have gr:∀ {h'},(∀ b o,b≠I->s.heap.get? b=some o->h'.get? b=some o)->bZ h' I->cK [I] (ρ++([I]++xs)) (ρ++([I]++xs)) ρ ρ s.heap h':=fun k l=>⟨.of_but k l,fun a m=>by rw [A2 m]; exact hIm,fun HC m=>.inl m,fun HC HC e=>e⟩
 have ne:∀ {a:Addr},a∉ρ++([I]++xs)->a∉[I]:=fun h m=>h (by rw [A2 m]; exact hIm)
 cases X with
 | @tup t i l vs h1 h2 h3 h4=>
  cases l with
  | nil=>
   replace e:=oi e; subst e
   exact wpAny_pyNext_tuple_end hh h1 h2 h4.stop fun h' hx=>hend h' s.toks rfl hx
  | cons v l=>
   replace e:=oi e; subst e
   refine bD h4.head fun x hx rx rl=>?_
   refine wpAny_pyNext_tuple_item h1 h2 hx fun h' hit hsb=>?_
   have k:∀ b o,b≠I->s.heap.get? b=some o->h'.get? b=some o:=fun b o hb e=>(hsb.2 b hb).trans e
   have lv:bZ h' I:=let ⟨o,ho,_⟩:=hit; ⟨o,ho⟩
   have G:=gr k lv
   exact hitem _ _ x h' s.toks rfl k lv (.tup hit (gR G.keep h2 (ne h3)) h3 (rl.grow G)) (rx.grow G)
 | @lst t i l vs h1 h2 h3 h4=>
  cases l with
  | nil=>
   replace e:=oi e; subst e
   exact wpAny_pyNext_list_end hh h1 h2 h4.stop fun h' hx=>hend h' s.toks rfl hx
  | cons v l=>
   replace e:=oi e; subst e
   refine bD h4.head fun x hx rx rl=>?_
   refine wpAny_pyNext_list_item h1 h2 hx fun h' hit hsb=>?_
   have k:∀ b o,b≠I->s.heap.get? b=some o->h'.get? b=some o:=fun b o hb e=>(hsb.2 b hb).trans e
   have lv:bZ h' I:=let ⟨o,ho,_⟩:=hit; ⟨o,ho⟩
   have G:=gr k lv
   exact hitem _ _ x h' s.toks rfl k lv (.lst hit (fS G.keep h2 (ne h3)) h3 (rl.grow G)) (rx.grow G)
 | @obj k' i a h1 h2=>
  refine ae (mpd e) fun l hl zq1=>?_; subst zq1
  refine ae (Iv.obj _ _ _ (gU hl) h2) fun vs hp hs=>?_
  cases hv:ao l i with
  | some v=>
   refine ae (hs.at hv) fun x hx rx=>?_
   refine wpAny_pyNext_list_item h1 hp.isList (by rw [List.getElem?_toArray]; exact hx) fun h' hit hsb=>?_
   have k:∀ b o,b≠I->s.heap.get? b=some o->h'.get? b=some o:=fun b o hb e=>(hsb.2 b hb).trans e
   have lv:bZ h' I:=let ⟨o,ho,_⟩:=hit; ⟨o,ho⟩
   exact hitem _ _ x h' s.toks (by rw [hv]; rfl) k lv (.obj hit h2) (rx.grow (gr k lv))
  | none=>
   rw [aJ,List.getElem?_eq_none_iff,hs.length] at hv
   exact wpAny_pyNext_list_end hh h1 hp.isList (by rw [List.getElem?_toArray,List.getElem?_eq_none_iff]; exact hv) fun h' hx=>hend h' s.toks (by rw [aJ,List.getElem?_eq_none_iff.mpr (by rw [hs.length]; exact hv)]; rfl) hx
 | @str x t T i hT W h1 h2=>
  generalize hq:(x.drop i).map (fun c=>V.str [c])=q at e
  have hsz:(aA x).cps.size=x.length:=by simp [aA]
  by_cases hi:i < x.length
  ·have hd:x.drop i=x[i] :: x.drop (i + 1):=List.drop_eq_getElem_cons hi
   rw [hd,List.map_cons] at hq
   subst hq
   replace e:=oi e; subst e
   refine (W A hh).item i s _ _ (by rw [hsz]; exact hi) h1 fun v h' tk hP hst hk=>?_
   refine fL hP fun c u hc zq1=>?_; clear hP; subst zq1
   have k:∀ b o,b≠I->s.heap.get? b=some o->h'.get? b=some o:=fun b o hb e=>hk b o (by simpa using hb) e
   have lv:bZ h' I:=let ⟨o,ho,_⟩:=hst; ⟨o,ho⟩
   have:c=x[i]:=by
    have:x[i]? = some c:=by simpa [aA] using hc
    rw [List.getElem?_eq_getElem hi] at this
    exact (oi this).symm
   subst this
   exact hitem _ _ _ h' tk rfl k lv (.str hT W hst hi) (.str [x[i]] u)
  ·have hd:x.drop i=[]:=List.drop_of_length_le (by omega)
   rw [hd] at hq
   subst hq
   replace e:=oi e; subst e
   have hie:i=x.length:=by omega
   refine (W A hh).done s _ _ (by rw [hsz,<- hie]; exact h1) fun h' tk hk=>hend h' tk rfl fun b o hb e=>hk b o (by simpa using hb) e
 | @rng a n h1=>
  cases n with
  | zero=>
   replace e:=oi e; subst e
   exact wpAny_pyNext_range_end hh h1 (by omega) fun h' hx=>hend h' s.toks rfl hx
  | succ n=>
   rw [List.range_succ_eq_map,List.map_cons,List.map_map] at e
   replace e:=oi e; subst e
   refine wpAny_pyNext_range_item h1 (by omega) fun h' hit hsb=>?_
   have k:∀ b o,b≠I->s.heap.get? b=some o->h'.get? b=some o:=fun b o hb e=>(hsb.2 b hb).trans e
   have lv:bZ h' I:=⟨_,hit⟩
   have hit':IsRangeIter h' I (a + 1) (n:Int) 1:=by
    have:((n + 1:Nat):Int) - 1=n:=by omega
    rw [this] at hit; exact hit
   have hfun:((fun (i:Nat)=>V.int (a + i)) ∘ Nat.succ)=fun (i:Nat)=>V.int ((a + 1) + i):=by
    funext i
    simp only [Function.comp]
    congr 1
    omega
   rw [hfun] at hitem
   have h0:(V.int (a + ((0:Nat):Int)))=V.int a:=by simp
   rw [h0] at hitem
   exact hitem _ _ _ h' _ rfl k lv (.rng hit') (.int a _)
end
end Mine
end
section
set_option backward.match.sparseCases true
open PySem PySem.Calls PyProof.Rows PySem.W PySem.SeqAt
namespace Mine
section
variable {prog:Program} {w:World} {base:Heap} {P:cz} {nm:Nat->Str} {σ fD:St} {ρ bF ρ' xs own N:List Addr} {s s₀:Shared} {A:Around} {E:Value->Shared->Prop} {h h' h₀ h₁:Heap} {mg mb:Str->Option Value} {ev:Env} {vn:Nat->Nat} {vars:List (Nat × Nat)} {gs ro ce:List Nat} {l:Loc} {fes outer:List Env} {C:aS}
theorem om (a b:Int):Builtin.Range.rangeSize a b 1=((b - a).toNat:Int):=by
 unfold Builtin.Range.rangeSize
 rw [if_pos (by decide),Int.ediv_one]
 split <;> omega
theorem sy {a b:Int} (h:0<=a/\a<=100000/\-1000<=b/\b<=100000):Builtin.Range.small a b 1=true:=by
 obtain ⟨h1,h2,h3,h4⟩:=h
 unfold Builtin.Range.small Builtin.Range.rangeFitsLong
 rw [om,if_pos (by decide)]
 simp only [Bool.and_eq_true,Bool.or_eq_true,decide_eq_true_eq]
 refine ⟨(cF (cF (cF ⟨?_,?_⟩ ?_ ?_) ?_ ?_) ?_ ?_),.inr ⟨?_,?_⟩⟩ <;> omega
theorem qJ (I:aG prog w P nm base σ ρ xs s.heap) {v:V} {x:Value} (rv:au P nm s.heap (ρ++xs) ρ v x) {q:eh} (e:fN v σ = some q) {Q:Value->Shared->Prop}
  (h:∀ (o:Obj),o.isFreed=false->cP prog w P nm (s.heap.push o) (ρ++([s.heap.objs.size]++xs)) ρ s.heap.objs.size q->Q (.ref s.heap.objs.size) { s with heap:=s.heap.push o }):wpAny (model prog w) A (pyIter x) Q E s:=by
 have G:∀ o:Obj,cK [] (ρ++xs) (ρ++([s.heap.objs.size]++xs)) ρ ρ s.heap (s.heap.push o):=fun o=>jS (N:=[s.heap.objs.size]) (fun b o' e=>A8 e) fun a m=>by rw [A2 m]; exact aZ _
 have nm':∀ {a:Addr},a∉ρ++xs->bZ s.heap a->a∉ρ++([s.heap.objs.size]++xs):=fun {a} h l m=>by
  rcases A3 m with m | m
  ·exact h (A1 m)
  ·rcases A3 m with m | m
   ·rw [A2 m] at l; exact az (aZ _) l
   ·exact h (A0 m)
 cases v with
 | tup l=>
  refine cJ rv fun a vs zq1 ht na hs=>?_; clear rv; subst zq1
  replace e:=oi e; subst e
  exact wpAny_pyIter_tuple ht (h _ rfl (.tup (i:=0) (bY _ (Heap.get?_push_size _ rfl) rfl rfl) (gR (G _).keep ht fun m=>(nomatch m)) (nm' na (nD ht)) (hs.grow (G _))))
 | lst l=>
  refine cJ rv fun a vs zq1 ht na hs=>?_; clear rv; subst zq1
  replace e:=oi e; subst e
  exact wpAny_pyIter_list ht (h _ rfl (.lst (i:=0) (bY _ (Heap.get?_push_size _ rfl) rfl rfl) (fS (G _).keep ht fun m=>(nomatch m)) (nm' na (lu ht)) (hs.grow (G _))))
 | str i=>
  refine ay rv fun t zq1=>?_; clear rv; subst zq1
  replace e:=oi e; subst e
  cases ha:(aA i).cps.all (· < 128)
  ·exact wpAny_pyIter_wide ha (h _ rfl (cP.str (i:=0) (.inr rfl) (fun A' hA=>Walks.strWide hA _ (aA i) t) (bY _ (Heap.get?_push_size _ rfl) rfl rfl) (Nat.zero_le _)))
  ·exact wpAny_pyIter_ascii ha (h _ rfl (cP.str (i:=0) (.inl rfl) (fun A' hA=>Walks.strAscii hA _ (aA i) t) (bY _ (Heap.get?_push_size _ rfl) rfl rfl) (Nat.zero_le _)))
 | rng a b=>
  refine nn rv fun r t u v zq1 hr na=>?_; clear rv; subst zq1
  refine ai (aO e) fun hb e=>?_
  replace e:=oi e; subst e
  refine wpAny_pyIter_range hr (sy (of_decide_eq_true hb)) (h _ rfl ?_)
  rw [om]
  exact .rng (Heap.get?_push_size _ rfl)
 | obj k=>
  refine ae rv fun a zq1 hk=>?_; clear rv; subst zq1
  refine ae (mpd e) fun l hl zq1=>?_; subst zq1
  refine ae (I.obj _ _ _ (gU hl) hk) fun vs hp hs=>?_
  exact wpAny_pyIter_list hp.isList (h _ rfl (.obj (i:=0) (bY _ (Heap.get?_push_size _ rfl) rfl rfl) hk))
 | _=>exact nomatch e
noncomputable def Bi (prog:Program) (w:World) (base:Heap) (P:cz) (nm:Nat->Str) (C:aS) (ev:Env) (outer:List Env) (vars:List (Nat × Nat)) (own xs bF:List Addr) (t:MT) (a:bL) (jQ:Ctx) (Q:PySem.Flow->Shared->Prop) (E:Value->Shared->Prop) (s₀:Shared) (I:Addr) (k:Nat) (s:Shared):Prop:=
 ∃ q l σ ρ,s = { s₀ with heap:=s.heap,toks:=s.toks }/\1<=s.toks/\bq (own++bF) bF ρ s₀.heap s.heap/\aG prog w P nm base σ ρ ([I]++xs) s.heap/\aH P nm ev (ev :: outer) vars own ([I]++xs) s.heap ρ l/\cP prog w P nm s.heap (ρ++([I]++xs)) ρ I q /\
  af prog w base P nm own ((run P C k).f t q a ⟨l,jQ.d,jQ.hm,jQ.g,jQ.ro,jQ.ce⟩ σ) (d9 P nm ev (ev :: outer) vars own xs) bF xs (T1 Q) (T1 E) s₀
theorem ck.push (F:ck nm ev vn vars gs ro ce xs) (I:Addr):ck nm ev vn vars gs ro ce ([I]++xs):=⟨F.hk,F.glo,F.blt,F.vn,F.loc,F.cel,F.fre,F.nd,F.gl,A0 F.lin,F.ro,F.cec,F.ce,F.cinj,F.cloc,fun c a h=>A0 (F.cx c a h)⟩
theorem aH.drop {I:Addr} (F:ck nm ev vn vars gs ro ce xs) (R:aH P nm ev fes vars own ([I]++xs) h ρ l) (ho:∀ a∈own,a∈xs) (hf:∀ e∈fes,∀ L,e.frame=some L->L∈xs):aH P nm ev fes vars own xs h ρ l:=by
 refine ae R.ns fun m hn hm=>?_
 refine ⟨R.len,(ax m hn (fun i v e=>?_)),R.un,⟨R.own.1,ho⟩,fun e he=>?_⟩
 ·refine de (hm i v e) fun c k x h1 h2 h3=>?_
  exact (dz c k x h1 (h2.grow (fZ (di fun a m=>A0 m))) (h3.imp id fun ⟨hk,a,ha,hc,_⟩=>⟨hk,a,ha,hc,F.cx _ _ ha⟩))
 ·refine ai (R.fr e he) fun k zq1=>?_; refine aV zq1 fun L o h1 h2 h3=>?_
  exact ⟨k,L,o,h1,hf e he L h1,h3⟩
theorem aH.but {I:Addr} (R:aH P nm ev fes vars own ([I]++xs) h ρ l) (hI:I∉own) (k:∀ b o,b≠I->h.get? b=some o->h'.get? b=some o) (g:cK [I] (ρ++([I]++xs)) (ρ++([I]++xs)) ρ ρ h h') (hc:∀ c a,ev.cells.lookup (nm c)=some a->a≠I) (hf:∀ e∈fes,e.frame≠some I):aH P nm ev fes vars own ([I]++xs) h' ρ l:=by
 refine ae R.ns fun m hn hm=>?_
 have hL:ev.locals≠I:=fun q=>hI (q▸R.own.1)
 refine ⟨R.len,(ax m (gX k hL hn) (fun i v e=>?_)),fun i c e=>?_,R.own,fun e he=>?_⟩
 ·refine de (hm i v e) fun c kk x h1 h2 h3=>?_
  exact (dz c kk x h1 (h2.grow g) (h3.imp id fun ⟨hk,a,ha,hcl,hx⟩=>⟨hk,a,ha,bG k (hc _ _ ha) hcl,hx⟩))
 ·refine aV (R.un i c e) fun a cC h1 h2 h3=>?_
  exact (db a cC h1 (bG k (hc _ _ h1) h2) h3)
 ·refine ai (R.fr e he) fun kk zq1=>?_; refine cJ zq1 fun L o h1 h2 h3 h4=>?_
  exact ⟨kk,L,o,h1,h2,k L o (fun q=>hf e he (q▸h1)) h3,h4⟩
structure jV (I:Addr) (ow ow':List Addr) (h h':Heap):Prop where
 obj:∀ b o,h.get? b=some o->b≠I->h'.get? b=some o
 own:I∈ow
 new:∀ a∈ow',a∈ow
theorem jV.map {I:Addr} {ow ow':List Addr} (g:jV I ow ow' h h'):iJ ow ow' ρ ρ h h' where
 has ho _ _ _ na:=⟨g.obj _ _ ho fun q=>na (q▸g.own),fun m=>na (g.new _ m)⟩
 ex ho _ hd na:=(pf _ _ (g.obj _ _ ho fun q=>na (q▸g.own)) rfl rfl hd (fun m=>na (g.new _ m)))
 ns x na:=let ⟨o,es,ep,ho,r⟩:=x; (hM o es ep (g.obj _ _ ho (fun q=>na (q▸g.own))) r)
 pre _ _ k:=k
theorem au.growO {I:Addr} {ow ow':List Addr} (g:jV I ow ow' h h') {v:V} {x:Value} (r:au P nm h ow ρ v x):au P nm h' ow' ρ v x:=r.map g.map
theorem ak.growO {I:Addr} {ow ow':List Addr} (g:jV I ow ow' h h') {l:List V} {xs:List Value} (r:ak P nm h ow ρ l xs):ak P nm h' ow' ρ l xs:=r.map g.map
theorem aG.gone {I:Addr} (Iv:aG prog w P nm base σ ρ ([I]++xs) h) (k:∀ b o,b≠I->h.get? b=some o->h'.get? b=some o):aG prog w P nm base σ ρ xs h':=by
 have d:=Iv.drop
 have nI:∀ a∈ρ++xs,a≠I:=fun a m q=>by
  subst q
  rcases A3 m with m | m
  ·exact Iv.disj m (A1 (.head _))
  ·have hd:=(List.nodup_append.mp (List.nodup_append.mp Iv.nd).2.1).2.2
   exact hd a (.head _) a m rfl
 have bI:base.get? I=none:=(Iv.new I (A0 (A1 (.head _)))).1
 have G:jV I (ρ++([I]++xs)) (ρ++xs) h h':=⟨fun b o ho hb=>k b o hb ho,A0 (A1 (.head _)),di fun a m=>A0 m⟩
 refine ⟨fun b o ho=>k b o (fun q=>by subst q; rw [bI] at ho; exact nS ho) (Iv.stay b o ho),d.len,d.nd,fun a m=>⟨(d.new a m).1,?_⟩,fun j o a e1 e2=>?_⟩
 ·refine ay ((d.new a m).2) fun o ho=>?_
  exact ⟨o,k a o (nI a m) ho⟩
 ·have ha:a≠I:=nI a (A1 (aT e2))
  have:=Iv.obj j o a e1 e2
  cases o with
  | list l=>
   refine ae this fun vs zq1 hs=>?_; clear this; refine ay zq1 fun n hp=>?_
   exact (ax vs ⟨n,k a _ ha hp⟩ (hs.growO G))
  | dict es=>
   refine ai this fun hd he=>?_; clear this
   have go:∀ {K:Type} [DecidableEq K] {knd:PySem.KeyKind prog w K} {kvs:List (K × Value)},h.DictOf knd a kvs->h'.DictOf knd a kvs:=by
    intro K _ knd kvs ⟨o,es,ep,ho,r⟩
    exact (hM o es ep (k a _ ha ho) r)
   refine ⟨?_,fun q=>⟨go (he q).1,go (he q).2⟩⟩
   cases hd with
   | ofI d1 d2 d3=>exact .ofI (go d1) d2 (d3.growO G)
   | ofS d1 d2 d3=>exact .ofS (go d1) d2 (d3.growO G)
  | inst c=>
   refine eS this fun o d cl h1 h0 h2 r=>?_; clear this
   exact (fF o d cl h1 h0 (k a _ ha h2) r)
  | ns fs=>
   refine bD this fun m zq1 h3 h5=>?_; clear this; refine fE zq1 fun o es ep ho r=>?_
   exact (bY m (hM o es ep (k a _ ha ho) r) (fun c v e=>let ⟨x,h6,h7⟩:=h3 c v e; (ax x h6 (h7.growO G))) h5)
  | hid p l=>exact this.elim
  | wild j=>
   refine ae this fun tab h1 zq1=>?_; clear this; refine bD zq1 fun ps h2 h3 h4=>?_
   refine ⟨tab,h1,ps,k a _ ha h2,h3,fun p m v e=>?_⟩
   refine pd (h4 p m v e) fun c oc vs t q g1 g2 g3 g4 n=>?_
   exact (rO c oc vs t q (k c _ (fun z=>n (z▸A0 (A1 (.head _)))) g1) g2 g3 g4 (fun m=>n (di (fun a m=>A0 m) c m)))
set_option tactic.hygienic true in
theorem uB {A:Around} {E:Value->Shared->Prop} {Q:Unit->Shared->Prop} {s:Shared} {I:Addr} {t:MT} {v:Value} (hI:∃ o,s.heap.get? I=some o/\∀ T,T∈["enumerate","zip","dict_itemiterator","dict_reverseitemiterator","odict_iterator","itertools.zip_longest","itertools.pairwise"]->o.cls≠.type T) (h:Q () s) :
  wpAny (model prog w) A (letOwnedTupleGo (t.toE nm vn) (.ref I) v) Q E s:=by
 refine ae hI fun o ho hc=>?_; clear hI
 cases t with
 | tup ps k p=>
  cases v with
  | ref a=>
   show wpAny (model prog w) A (do
    let o <- load I
    match o.cls,o.data with
    | .type n,.fields vs=>
     if ["enumerate","zip","dict_itemiterator","dict_reverseitemiterator","odict_iterator","itertools.zip_longest","itertools.pairwise"].contains n && vs[0]? == some (rawInt a) then
      rule "for.unpacks-the-owned-tuple"
      updateField I 0 .none
    | _,_=>pure ()) Q E s
   refine wpAny_bind (wpAny_load ho ?_)
   split
   ·rename_i n vs hcl _
    rw [if_neg ?_]
    ·exact wpAny_pure h
    ·intro q
     rw [Bool.and_eq_true] at q
     exact hc n (by simpa using q.1) hcl
   ·exact wpAny_pure h
  | _=>exact wpAny_pure h
 | _=>exact wpAny_pure h
theorem cP.ownd {ow:List Addr} {I:Addr} {q:eh} (X:cP prog w P nm h ow ρ I q):∃ o,h.get? I=some o/\∀ T,T∈["enumerate","zip","dict_itemiterator","dict_reverseitemiterator","odict_iterator","itertools.zip_longest","itertools.pairwise"]->o.cls≠.type T:=by
 have go:∀ {T':String} {o:Obj},o.cls = .type T'->T'∉["enumerate","zip","dict_itemiterator","dict_reverseitemiterator","odict_iterator","itertools.zip_longest","itertools.pairwise"]->∀ T,T∈["enumerate","zip","dict_itemiterator","dict_reverseitemiterator","odict_iterator","itertools.zip_longest","itertools.pairwise"]->o.cls≠.type T:=fun h1 h2 T h3 h4=>by
  rw [h1] at h4
  injection h4 with h5
  exact h2 (h5▸h3)
 cases X with
 | tup h1=>refine bD h1 fun o ho hc HC=>?_; clear h1; exact (ax o ho (go hc (by decide)))
 | lst h1=>refine bD h1 fun o ho hc HC=>?_; clear h1; exact (ax o ho (go hc (by decide)))
 | str hT W h1=>refine bD h1 fun o ho hc HC=>?_; clear h1; exact (ax o ho (go hc (by rcases hT with rfl | rfl <;> decide)))
 | rng h1=>exact (ax _ h1 (go rfl (by decide)))
 | obj h1=>refine bD h1 fun o ho hc HC=>?_; clear h1; exact (ax o ho (go hc (by decide)))
set_option tactic.hygienic true in
theorem zy (W:aY prog w base P nm C mg mb) {n:Nat} (H:∀ k,k < n->df prog w base P nm (run P C k)/\iS prog w base P nm (run P C k)) {t:MT} {a:bL} {c:Ctx} (F:ck nm ev vn vars c.g c.ro c.ce xs) (O:cV A (ev :: outer) c.d c.hm) (hh:c.hm=false) {I:Addr}
  (iz:aG prog w P nm base fD bF xs s₀.heap) (uC:gT (ev :: outer) xs s₀.heap) (hI:s₀.heap.get? I=none) (ho:∀ a∈own,a∈xs) {Q:PySem.Flow->Shared->Prop}
  (hs:Bi prog w base P nm C ev outer vars own xs bF t a c Q E s₀ I n s) :
  codeAny (model prog w) A (.forLoop (t.toE nm vn) (.ref I) (a.toS nm vn) [] ev) (fun r s'=>match r with | .ok f=>Q f s' | .error e=>cameBackBy (model prog w) A ev E e s') s:=by
 have hN:∀ b∈[I],s₀.heap.get? b=none:=fun b m=>by rw [A2 m]; exact hI
 have hIx:I∉xs:=fun m=>az hI (iz.new I (A0 m)).2
 have hIo:I∉own:=fun m=>hIx (ho I m)
 have hcell:∀ c a,ev.cells.lookup (nm c)=some a->a≠I:=fun c a h q=>hIx (q▸F.cx c a h)
 have hfr:∀ e∈ev :: outer,∀ L,e.frame=some L->L∈xs:=fun e he L h=>by
  refine ai (uC e he) fun HC zq1=>?_; refine aV zq1 fun L' HC h1 h2 HC=>?_
  rw [h] at h1; replace h1:=oi h1; subst h1; exact h2
 have hfI:∀ e∈ev :: outer,e.frame≠some I:=fun e he h=>hIx (hfr e he I h)
 have F':=F.push I
 refine codeAny_forLoop_any (fun k s'=>k<=n/\Bi prog w base P nm C ev outer vars own xs bF t a c Q E s₀ I k s') ?_ n ⟨Nat.le_refl _,hs⟩
 rintro k s₁ ⟨hk,FY,l₁,σ₁,aa,hss,aq,dQ,aj,bM,uD,aw⟩
 cases k with
 | zero=>exact aw.elim
 | succ k=>
  refine ai (H k hk) fun hE hB=>?_
  refine ae (bp aw) fun r hn qK=>?_
  clear aw
  focus
   refine wpAny_with_toks aq (qI (O.hd hh) aj uD hn (fun v q' x aR bC hr k2 lv Bj rx aX=>?_) fun aR bC hr k2 aX=>?_)
   ·subst hr
    dsimp only at qK ⊢
    have Gr:cK [I] (aa++([I]++xs)) (aa++([I]++xs)) aa aa s₁.heap aR:=⟨.of_but k2 lv,fun b m=>by rw [A2 m]; exact A0 (A1 (.head _)),fun HC m=>.inl m,fun HC HC e=>e⟩
    have hff:∀ o,s₁.heap.get? I=some o->o.cls = .type "frame"->(∃ es ep,o.data = .dict es ep)->∃ o',aR.get? I=some o'/\o'.cls = .type "frame"/\∃ es ep,o'.data = .dict es ep:=fun o e1 e2 HC=>by
     refine ae uD.live fun o' e3 e4=>?_
     rw [e1] at e3; replace e3:=oi e3; subst e3; exact absurd e2 e4
    refine ai (aj.ownCh (A1 (.head _)) k2 lv hff) fun S2 I2=>?_
    have S12:bq (own++bF) bF aa s₀.heap aR:=dQ.more (N:=[I]) (S2.mono fun b m=>by
     rcases A7 m with rfl | m
     ·exact A1 (A1 (.head _))
     ·exact A0 m) hN
    have R2:=bM.but hIo k2 Gr hcell hfI
    have hs2:({ s₁ with heap:=aR,toks:=bC }:Shared) = { s₀ with heap:=aR,toks:=bC }:=by rw [hss]
    refine uB Bj.ownd ?_
    refine iR (c:=⟨l₁,c.d,c.hm,c.g,c.ro,c.ce⟩) W hE t aX F' O I2 R2 rx (af.fix (N:=[I]) (own₁:=own) (fun HC m=>A0 m) O.fr uC iz (s:={ s₁ with heap:=aR,toks:=bC }) S12 hN hs2 qK fun Dg dU HC cO fX jd cI S3 S13 I3 R3 dq=>?_)
    have hIm:∀ {ρ:List Addr} {σ:St} {h:Heap},aG prog w P nm base σ ρ ([I]++xs) h->I∉own++ρ:=fun Iv m=>(A3 m).elim hIo fun m=>Iv.disj m (A1 (.head _))
    have sub:∀ {ρ:List Addr},∀ b∈own++ρ,b∈ρ++([I]++xs):=fun b m=>(A3 m).elim (fun m=>A0 (A0 (ho b m))) fun m=>A1 m
    have X3:=Bj.grow (S3.grow sub) (hIm I2)
    have hs3:({ s₁ with heap:=cO,toks:=fX }:Shared) = { s₀ with heap:=cO,toks:=fX }:=by rw [hss]
    refine hB a ⟨Dg,c.d,c.hm,c.g,c.ro,c.ce⟩ dU A ev outer vn vars own ([I]++xs) jd { s₁ with heap:=cO,toks:=fX } _ _ cI F' O I3 R3 (af.fix (N:=[I]) (own₁:=own) (fun HC m=>A0 m) O.fr uC iz (s:={ s₁ with heap:=cO,toks:=fX }) S13 hN hs3 dq fun fl lI f jW qL oo qM S4 S14 I4 rf gW=>?_)
    obtain ⟨fl1,fl2⟩:=fl
    refine ai rf fun R4 hf=>?_; clear rf
    have X4:=X3.grow (S4.grow sub) (hIm I3)
    have hs4:({ s₁ with heap:=jW,toks:=qL }:Shared) = { s₀ with heap:=jW,toks:=qL }:=by rw [hss]
    have R4':aH P nm ev (ev :: outer) vars own xs jW oo fl2:=R4.drop F ho hfr
    cases fl1 <;> cases f <;> first | exact hf.elim | skip
    ·exact ⟨k,Nat.lt_succ_self k,Nat.le_of_succ_le hk,q',fl2,lI,oo,hs4,qM,S14,I4,R4,X4,gW⟩
    ·show Q .next _
     have:=gW .next jW qL oo S14 I4.drop ⟨R4',trivial⟩ qM
     rw [hss]; exact this
    ·exact ⟨k,Nat.lt_succ_self k,Nat.le_of_succ_le hk,q',fl2,lI,oo,hs4,qM,S14,I4,R4,X4,gW⟩
    ·rename_i v' x'
     have:=gW (.ret x') jW qL oo S14 I4.drop ⟨R4',au.grow (fZ (di fun a m=>A0 m)) hf⟩ qM
     show Q (.ret x') _
     rw [hss]; exact this
   ·subst hr
    dsimp only at qK ⊢
    refine wpAny_execs_nil ?_
    have S2:bq (own++bF) bF aa s₀.heap aR:=by
     refine ⟨⟨fun b l=>?_,fun b o hb nb=>?_⟩,dQ.pre,dQ.new,fun L o hL hLo hc hd=>?_⟩
     ·refine ay (dQ.keep.live b l) fun o e=>?_
      exact ⟨o,k2 b o (fun q=>by subst q; exact az hI l) e⟩
     ·have hbI:b≠I:=fun q=>by subst q; rw [hI] at hb; exact nS hb
      exact (dQ.keep.obj b o hb nb).trans rfl fun o' e'=>.inl (k2 b o' hbI e')
     ·have hbI:L≠I:=fun q=>by subst q; rw [hI] at hLo; exact nS hLo
      refine ae (dQ.ff L o hL hLo hc hd) fun o' e1 e2=>?_
      exact (ax o' (k2 L o' hbI e1) e2)
    have I2:aG prog w P nm base σ₁ aa xs aR:=aj.gone k2
    have G:jV I (aa++([I]++xs)) (aa++xs) s₁.heap aR:=⟨fun b o ho hb=>k2 b o hb ho,A0 (A1 (.head _)),di fun a m=>A0 m⟩
    have R2:aH P nm ev (ev :: outer) vars own xs aR aa l₁:=by
     refine ae bM.ns fun m hn' hm=>?_
     have hL:ev.locals≠I:=fun q=>hIo (q▸bM.own.1)
     refine ⟨bM.len,(ax m (gX k2 hL hn') (fun i v e=>?_)),fun i c e=>?_,⟨bM.own.1,ho⟩,fun e he=>?_⟩
     ·refine de (hm i v e) fun c kk x h1 h2 h3=>?_
      exact (dz c kk x h1 (h2.growO G) (h3.imp id fun ⟨hk',a,ha,hcl,_⟩=>⟨hk',a,ha,bG k2 (hcell _ _ ha) hcl,F.cx _ _ ha⟩))
     ·refine aV (bM.un i c e) fun a cC h1 h2 h3=>?_
      exact (db a cC h1 (bG k2 (hcell _ _ h1) h2) h3)
     ·refine ai (bM.fr e he) fun kk zq1=>?_; refine cJ zq1 fun L o h1 h2 h3 h4=>?_
      exact ⟨kk,L,o,h1,hfr e he L h1,k2 L o (fun q=>hfI e he (q▸h1)) h3,h4⟩
    have:=qK .next aR bC aa S2 I2 ⟨R2,trivial⟩ aX
    rw [hss]; exact this
end
end Mine
end
section
open PySem PySem.Calls PyProof.Rows PySem.W PySem.SeqAt
namespace Mine
section
variable {prog:Program} {w:World} {base h h' h₀ h₁:Heap} {P:cz} {nm:Nat->Str} {σ fD σ₁ aI:St} {ρ bF ρ' xs own N:List Addr} {s s₀:Shared} {A A':Around} {E:Value->Shared->Prop} {mg mb:Str->Option Value} {ev env:Env} {vn:Nat->Nat} {vars:List (Nat × Nat)} {gs ro ce:List Nat} {l:Loc} {fes outer:List Env} {C:aS} {M:Model} {e:Addr} {k c:Nat} {fs:List (Nat × V)}
theorem aH.enter (R:aH P nm ev fes vars own xs h ρ l) (k:∀ b o,h.get? b=some o->h₁.get? b=some o) (hN:∀ a∈N,h.get? a=none):aH P nm ev fes vars own (N++xs) h₁ ρ l:=by
 have G:=jS (ρ:=ρ) (xs:=xs) k hN
 have K:bw [] h h₁:=bw.of_stays k
 refine ae R.ns fun m hn hm=>?_
 refine ⟨R.len,(ax m (dX K hn fun m=>(nomatch m)) (fun i v e=>?_)),fun i c e=>?_,⟨R.own.1,fun a m=>A0 (R.own.2 a m)⟩,fun e he=>?_⟩
 ·refine de (hm i v e) fun c kk x h1 h2 h3=>?_
  exact (dz c kk x h1 (h2.grow G) (h3.imp id fun ⟨hk,a,ha,hc,hx⟩=>⟨hk,a,ha,cW K hc fun m=>(nomatch m),A0 hx⟩))
 ·refine aV (R.un i c e) fun a cC h1 h2 h3=>?_
  exact (db a cC h1 (cW K h2 fun m=>(nomatch m)) h3)
 ·refine ai (R.fr e he) fun kk zq1=>?_; refine cJ zq1 fun L o h1 h2 h3 h4=>?_
  exact ⟨kk,L,o,h1,A0 h2,k L o h3,h4⟩
theorem lJ (e:ME) (x:Value) (ev:Env):foldedSetIterable (e.toE nm vn) ev x=pure x:=by
 cases e <;> rfl
theorem uE (W:aY prog w base P nm C mg mb) {n:Nat} (H:∀ k,k < n->df prog w base P nm (run P C k)/\kS prog w base P nm (run P C k)/\iS prog w base P nm (run P C k)) (hE:df prog w base P nm (run P C n)) (hB:iS prog w base P nm (run P C n))
  {c:Ctx} (ht:1<=s.toks) (F:ck nm ev vn vars c.g c.ro c.ce xs) (O:cV A (ev :: outer) c.d c.hm) (I:aG prog w P nm base σ ρ xs s.heap) (R:aH P nm ev (ev :: outer) vars own xs s.heap ρ c.l) {st:MS} {rest:bL} {Q:PySem.Flow->Shared->Prop}
  (hs:match st with | .whl ..=>True | .forr ..=>True | _=>False)
  (g:af prog w base P nm own ((step P C (run P C n)).b (.cons st rest) c σ) (d9 P nm ev (ev :: outer) vars own xs) ρ xs (T1 Q) (T1 E) s) :
  wpAny (model prog w) A (execs ((bL.cons st rest).toS nm vn) ev) Q E s:=by
 refine wpAny_with_toks ht ?_
 show wpAny (model prog w) A (execs (st.toS nm vn :: rest.toS nm vn) ev) (T1 Q) (T1 E) s
 cases st with
 | whl t a p=>
  refine ai (bA g) fun HC g=>?_
  focus
   refine wpAny_execs_cons (wpAny_While (uw (fun k hk=>⟨(H k hk).2.1,(H k hk).2.2⟩) F O ht I R (af.bindOT (own₁:=own) (fun HC m=>m) g fun fl σ₁ f h₁ tk₁ aa aq S aj rf aw=>?_)))
   have:=iu hB F O aq aj rf aw
   cases f <;> exact this
 | forr t it a p=>
  refine ai (bA g) fun hh g=>?_
  have hh:=iM hh
  focus
   refine wpAny_execs_cons (wpAny_For (hE it c σ A ev (ev :: outer) vn vars own xs ρ s _ _ ht F O I R (af.bindT g fun v σ₁ x h₁ tk₁ aa aq S aj rv aw=>?_)) (fun x=>lJ it x ev))
   refine ae (bp aw) fun q hq aw=>?_
   focus
    refine qJ aj rv hq fun o hof X=>?_
    have k2:∀ b o',h₁.get? b=some o'->(h₁.push o).get? b=some o':=fun b o' e=>A8 e
    refine ai (aj.grown k2) fun S2 I2=>?_
    have R1:=R.stp I S
    have hN:∀ a∈[h₁.objs.size],h₁.get? a=none:=fun a m=>by rw [A2 m]; exact aZ _
    refine zy (s₀:={ s with heap:=h₁,toks:=tk₁ }) W (fun k hk=>⟨(H k hk).1,(H k hk).2.2⟩) F O hh aj R1.fr (aZ h₁) R.own.2 (n:=n) ⟨q,c.l,σ₁,aa,rfl,aq,S2.mono fun b m=>A0 m,aj.push k2 (by simp) fun a m=>by rw [A2 m]; exact ⟨aZ _,o,Heap.get?_push_size _ hof⟩,R1.enter k2 hN,X,?_⟩
    refine af.bindOT (own₁:=own) (fun HC m=>m) aw fun fl dU f cO fX jd cI S3 ei rf dq=>?_
    have:=iu hB F O cI ei rf dq
    cases f <;> exact this
 | _=>exact hs.elim
noncomputable def zz (prog:Program) (w:World) (base:Heap) (P:cz) (nm:Nat->Str) (C:aS) (n:Nat):Prop:=∀ (st:MS) (rest:bL) (c:Ctx) (σ:St) (A:Around) (ev:Env) (fes:List Env) (vn:Nat->Nat) (vars:List (Nat × Nat)) (own xs ρ:List Addr) (s:Shared) (Q:PySem.Flow->Shared->Prop) (E:Value->Shared->Prop),1<=s.toks ->
 (match st with | .asg t e _=>(cM t e && bT e)=false | .rais ..=>True | .tryx ..=>True | .tryr ..=>True | _=>False) ->
 ck nm ev vn vars c.g c.ro c.ce xs->cV A (ev :: fes) c.d c.hm->aG prog w P nm base σ ρ xs s.heap->aH P nm ev (ev :: fes) vars own xs s.heap ρ c.l ->
 af prog w base P nm own ((step P C (run P C n)).b (.cons st rest) c σ) (d9 P nm ev (ev :: fes) vars own xs) ρ xs (T1 Q) (T1 E) s->wpAny (model prog w) A (execs ((bL.cons st rest).toS nm vn) ev) Q E s
noncomputable def zA (prog:Program) (w:World) (base:Heap) (P:cz) (nm:Nat->Str) (C:aS) (n:Nat):Prop:=∀ (e:ME) (c:Ctx) (σ:St) (A:Around) (ev:Env) (fes:List Env) (vn:Nat->Nat) (vars:List (Nat × Nat)) (own xs ρ:List Addr) (s:Shared) (Q E:Value->Shared->Prop),1<=s.toks->bT e=false ->
 ck nm ev vn vars c.g c.ro c.ce xs->cV A fes c.d c.hm->aG prog w P nm base σ ρ xs s.heap->aH P nm ev fes vars own xs s.heap ρ c.l ->
 bh prog w base P nm ((step P C (run P C n)).e e c σ) ρ xs (T1 Q) (T1 E) s->wpAny (model prog w) A (eval (e.toE nm vn) ev) Q E s
noncomputable def sz (prog:Program) (w:World) (base:Heap) (P:cz) (nm:Nat->Str) (r:dv):Prop:=∀ (i:Nat) (f:bu) (v:V) (fv vs:List V) (x:Value) (zs:List Value) (d:Nat) (hm:Bool) (σ:St) (A:Around) (fes:List Env) (xs ρ:List Addr) (s:Shared) (Q E:Value->Shared->Prop),P.fns i=some f->1<=s.toks ->
 cV A fes (d + 1) hm->gT fes xs s.heap->aG prog w P nm base σ ρ xs s.heap->au P nm s.heap (ρ++xs) ρ (.clo i (v :: fv)) x->ak P nm s.heap (ρ++xs) ρ vs zs->vs.length + (fv.length + 1)=f.np ->
 bh prog w base P nm ((r.b f.body ⟨(vs++v :: fv).map some++List.replicate (f.nv - f.np) none,d,hm,f.gl,lm 0 f.vars,jl 0 f.vars⟩ σ).bind fC) ρ xs (T1 Q) (T1 E) s->wpAny (model prog w) A (call x zs) Q E s
theorem zB (W:aY prog w base P nm C mg mb) {r:dv} (hB:iS prog w base P nm r) (hF:sz prog w base P nm r):Bc prog w base P nm r:=fun i f fv vs x zs d hm σ A fes xs ρ s Q E hf ht O ff I rx rs hv g=>by
 cases fv with
 | cons v fv=>exact hF i f v fv vs x zs d hm σ A fes xs ρ s Q E hf ht O ff I rx rs hv g
 | nil=>
  refine cL fun HC kG=>?_
  obtain ⟨a,as,ys,rfl,⟨o,fd,f',c,oc,ws,t,h1,h2,h3,h4,h5,h6,h7,h8,k1,k2,k3,k4,k5⟩,hc,rfl⟩:=rx
  refine kG ?_
  rw [hf] at h5; replace h5:=oi h5; subst h5
  have has:as=[]:=by
   cases as with
   | nil=>rfl
   | cons b as=>refine fE hc fun HC HC HC q HC=>?_; clear hc; cases q
  subst has
  refine wpAny_with_toks ht ?_
  refine jU (sts:=[]) W hB h1 h3 ⟨c,oc,ws,t,h8,k1,k3,k4⟩ h6.body h6.toCloS0 (.inl ⟨h6.pre,rfl⟩) (by unfold eY; rw [h6.pre]) (Nat.le_trans ht (Nat.le_add_right _ _)) (by rw [<- hv]; rfl) O ff I rs ?_
  rw [h6.pre]
  rw [List.append_nil] at g
  exact g
structure pL (prog:Program) (w:World) (base:Heap) (P:cz) (nm:Nat->Str) (C:aS) (n:Nat):Prop where
 e:df prog w base P nm (run P C n)
 t:kS prog w base P nm (run P C n)
 b:iS prog w base P nm (run P C n)
 c:pC prog w base P nm (run P C n)
theorem uF:pL prog w base P nm C 0:=
 ⟨fun HC HC HC HC HC HC HC HC HC HC HC HC HC HC HC HC HC HC HC g=>g.elim,fun HC HC HC HC HC HC HC HC HC HC HC HC HC HC HC HC HC HC HC g=>g.elim,fun HC HC HC HC HC HC HC HC HC HC HC HC HC HC HC HC HC HC HC g=>g.elim,fun HC HC HC HC HC HC HC HC HC HC HC HC HC HC HC HC HC HC HC HC g=>g.elim⟩
theorem uG (W:aY prog w base P nm C mg mb) (FC:∀ i f,P.fns i=some f->yx f=true->cy P nm base f) {n:Nat} (H:∀ k,k<=n->pL prog w base P nm C k) (hF:sz prog w base P nm (run P C n)) (Y:zA prog w base P nm C n) (X:zz prog w base P nm C n):pL prog w base P nm C (n + 1):=by
 obtain ⟨hE,hT,hB,hC⟩:=H n (Nat.le_refl _)
 have hK:=zB W hB hF
 refine ⟨?_,?_,?_,?_⟩
 ·intro e c σ A ev fes vn vars own xs ρ s Q E ht F O I R g
  refine wpAny_with_toks ht ?_
  have g':bh prog w base P nm ((step P C (run P C n)).e e c σ) ρ xs (T1 Q) (T1 E) s:=g
  cases e with
  | const v k p=>exact ig (C:=C) W.G hE hT ht F O I R trivial g'
  | name i p=>exact ig (C:=C) W.G hE hT ht F O I R trivial g'
  | glob i p=>exact ig (C:=C) W.G hE hT ht F O I R trivial g'
  | bin a op b p=>exact ig (C:=C) W.G hE hT ht F O I R trivial g'
  | addV a b p=>exact ig (C:=C) W.G hE hT ht F O I R trivial g'
  | un op a p=>exact ig (C:=C) W.G hE hT ht F O I R trivial g'
  | bools op l p=>exact lD (C:=C) W.G hE ht F O I R trivial g'
  | cmp a op b p=>exact ig (C:=C) W.G hE hT ht F O I R trivial g'
  | cmp2 a o1 b o2 d p=>exact lD (C:=C) W.G hE ht F O I R trivial g'
  | ifx t a b p=>exact ig (C:=C) W.G hE hT ht F O I R trivial g'
  | tup l k p=>exact lD (C:=C) W.G hE ht F O I R trivial g'
  | lstV l p=>exact lD (C:=C) W.G hE ht F O I R trivial g'
  | list l p=>exact lD (C:=C) W.G hE ht F O I R trivial g'
  | dict ks vs p=>exact wV (C:=C) W.G hE ht F O I R g'
  | attr a f p=>exact uh W hE hC hK ht F O I R trivial g'
  | sub a i p=>exact ig (C:=C) W.G hE hT ht F O I R trivial g'
  | slice a lo hi sp p=>exact lD (C:=C) W.G hE ht F O I R trivial g'
  | callg gl gp l p=>exact uh W hE hC hK ht F O I R trivial g'
  | calle f l p=>exact uh W hE hC hK ht F O I R trivial g'
  | meth o f ap l p=>exact wW W.CO hE ht F O I R g'
  | comp elt t iter ifs sc vs gs p=>exact Y _ c σ A ev fes vn vars own xs ρ s _ _ ht rfl F O I R g'.t1
  | dcomp k v t iter sc vs gs p=>exact Y _ c σ A ev fes vn vars own xs ρ s _ _ ht rfl F O I R g'.t1
 ·intro e c σ A ev fes vn vars own xs ρ s Q E ht F O I R g
  refine wpAny_with_toks ht ?_
  exact xd W hE hT ht F O I R g
 ·intro b c σ A ev fes vn vars own xs ρ s Q E ht F O I R g
  cases b with
  | nil=>exact wpAny_execs_nil (af.here (own:=own) g I ⟨R,trivial⟩ s.toks ht)
  | cons st rest=>
   have hint:interactive ev=false:=by
    unfold interactive
    rw [F.hk]; rfl
   have simple:=fun hs=>sr (C:=C) (st:=st) (rest:=rest) W hE hT hB ht F O hint I R hs g
   have loops:=fun hs=>uE (C:=C) (st:=st) (rest:=rest) W (n:=n) (fun k hk=>(cF ((H k (Nat.le_of_lt hk)).e) ((H k (Nat.le_of_lt hk)).t) ((H k (Nat.le_of_lt hk)).b))) hE hB ht F O I R hs g
   have special:=fun hs=>X st rest c σ A ev fes vn vars own xs ρ s Q E ht hs F O I R g
   cases st with
   | asg t e p=>
    cases hk:cM t e && bT e with
    | true=>exact simple (Bool.and_eq_true_iff.mp hk)
    | false=>exact special hk
   | whl t a p=>exact loops trivial
   | forr t it a p=>exact loops trivial
   | rais g gp l cp p=>exact special trivial
   | tryx t e ap g gp n h hp p=>exact special trivial
   | tryr e rp g gp n h hp p=>exact special trivial
   | _=>exact simple trivial
 ·intro i f vs zs d hm σ A fes xs ρ s Q E hf ht O ff I rs g
  refine wpAny_with_toks ht ?_
  exact xj W hB hf (FC i f hf) ht O ff I rs g
theorem qN (W:aY prog w base P nm C mg mb) (FC:∀ i f,P.fns i=some f->yx f=true->cy P nm base f) (hF:∀ n,sz prog w base P nm (run P C n)) (X:∀ n,(∀ k,k<=n->pL prog w base P nm C k)->zA prog w base P nm C n/\zz prog w base P nm C n):∀ n k,k<=n->pL prog w base P nm C k
 | 0,k,h=>by
  have:k=0:=Nat.le_zero.mp h
  subst this; exact uF
 | n + 1,k,h=>by
  have ih:=qN W FC hF X n
  by_cases q:k<=n
  ·exact ih k q
  ·have:k=n + 1:=by omega
   subst this
   exact uG W FC ih (hF n) (X n ih).1 (X n ih).2
theorem oq (F:ck nm ev vn vars gs ro ce xs) (hl:l.length=vars.length) {i:Nat} {v:V} {l':Loc} (e:bk ro i v l=some l') (hc:aQ ce i=false):ev.kindOf (nm (vn i))=some .local/\ao vars i=some (vn i,0)/\l'.length=vars.length:=by
 refine jy (iq e) fun HC zq1 zq2=>?_; refine ay zq1 fun o ho=>?_; subst zq2
 obtain ⟨⟨c,k⟩,hk⟩:=dh (l:=vars) (k:=i) (by rw [<- hl]; exact b7 ho)
 cases k with
 | zero=>rw [F.vn i c 0 hk]; exact (cF (F.loc i c hk) hk (by rw [cY]; exact hl))
 | succ k=>rw [F.ce i c k hk] at hc; exact tF hc
noncomputable def bQ (h:Heap) (C:Addr) (bm:List Value):Prop:=bm.contains (.type "BaseException")=true/\∃ (cn q:Str) (N:Addr) (bs:List Value) (hdct:Bool) (sn:List Str) (sub:List Value) (ab:Bool) (col:Option Bool) (dd:Option Addr) (k0 k1 k2 k3 k5:Option Value) (newId:String),
 h.get? C=some (excClassObj cn q C N bs bm hdct sn sub ab col dd k0 k1 k2 k3 k5 newId)
theorem pM {s:Shared} {x:Sem Value} {Q:PySem.Flow->Shared->Prop} (hh:A.handled=none)
  (h:wpAny M A x (fun v s₁=>∃ e C bm ws dct sl,v = .ref e/\bQ s₁.heap C bm/\s₁.heap.get? e=some { cls:=.ref C,data:=.fields ws,dict:=dct,slots:=sl }/\ws[1]? = some .none/\E (.ref e) s₁) E s) :
  wpAny M A (raiseStmt env (some x) none) Q E s:=by
 unfold raiseStmt
 refine wpAny_bind (wpAny_mono h (fun v s₁ h₁=>?_) fun HC HC x=>x)
 refine cL fun HC kG=>?_
 obtain ⟨e,C,bm,ws,dct,sl,rfl,⟨hbase,cn,q,N,bs,hdct,sn,sub,ab,col,dd,k0,k1,k2,k3,k5,newId,hC⟩,he,hw,hE⟩:=h₁
 have hcB:(Value.ref C :: bm).contains (.type "BaseException")=true:=by rw [List.contains_cons,hbase,Bool.or_true]
 obtain ⟨hp,g,d,tk,os⟩:=s₁
 refine kG ?_
 repeat (first | with_reducible refine wpAny_loadPart_at he ?_ | with_reducible refine wpAny_loadPart_at hC ?_ | (with_reducible refine wpAny_isSubtype_exc hC ?_; rw [hcB]) | wp_step)
 rw [hw]
 refine wpAny_pure ?_
 rw [if_neg (by decide)]
 exact wpAny_pure (wpAny_raiseNew_none hh hE)
theorem kX:entryFor table "proto.unchain" = some Builtin.«proto.unchain»:=entryFor_of_tree (by kernel_rfl)
theorem kY {h₀:Addr} {s:Shared} {x:Sem Value} {Q:PySem.Flow->Shared->Prop} (hh:A.handled=some (.ref h₀))
  (h:wpAny (model prog w) A x (fun v s₁=>∃ e C bm ws dct sl,v = .ref e/\bQ s₁.heap C bm/\s₁.heap.get? e=some { cls:=.ref C,data:=.fields ws,dict:=dct,slots:=sl }/\ws[1]? = some .none/\2 < ws.size/\h₀≠e /\
   (∃ o vs,s₁.heap.get? h₀=some o/\o.data = .fields vs/\vs[2]? = some .none)/\E (.ref e) { s₁ with heap:=s₁.heap.update e (Obj.mapFields (·.setIfInBounds 2 (.ref h₀))) }) E s) :
  wpAny (model prog w) A (raiseStmt env (some x) none) Q E s:=by
 unfold raiseStmt
 refine wpAny_bind (wpAny_mono h (fun v s₁ h₁=>?_) fun HC HC x=>x)
 refine cL fun HC kG=>?_
 obtain ⟨e,C,bm,ws,dct,sl,rfl,⟨hbase,cn,q,N,bs,hdct,sn,sub,ab,col,dd,k0,k1,k2,k3,k5,newId,hC⟩,he,hw,hw2,hne,⟨oh,vh,hoh,hvh,hv2⟩,hE⟩:=h₁
 have hcB:(Value.ref C :: bm).contains (.type "BaseException")=true:=by rw [List.contains_cons,hbase,Bool.or_true]
 obtain ⟨hp,g,d,tk,os⟩:=s₁
 refine kG ?_
 repeat (first | with_reducible refine wpAny_loadPart_at he ?_ | with_reducible refine wpAny_loadPart_at hC ?_ | (with_reducible refine wpAny_isSubtype_exc hC ?_; rw [hcB]) | wp_step)
 rw [hw]
 refine wpAny_pure ?_
 rw [if_neg (by decide)]
 refine wpAny_pure ?_
 unfold raiseNew
 refine wpAny_bind (wpAny_handled ?_)
 rw [hh]
 dsimp only
 rw [if_pos (show (Value.ref h₀ != Value.ref e)=true from by simp [hne])]
 refine wpAny_bind (wpAny_holding (wpAny_runValue ?_))
 refine codeAny_builtin kX ?_
 unfold Builtin.«proto.unchain»
 dsimp only
 refine wpAny_bind (wpAny_field hoh hvh hv2 ?_)
 rw [if_pos (by decide)]
 refine wpAny_pure ?_
 dsimp only
 refine wpAny_bind (m:=setField (.ref e) 2 (.ref h₀)) (wpAny_setField he (vs:=ws) rfl hw2 ?_)
 exact wpAny_throw hE
noncomputable def yE (h:Heap) (C e:Addr):Prop:=∃ ws dct sl,h.get? e=some { cls:=.ref C,data:=.fields ws,dict:=dct,slots:=sl }/\5<=ws.size/\ws[1]? = some .none/\ws[2]? = some .none
theorem bQ.keeps {h h':Heap} {C:Addr} {bm:List Value} (x:bQ h C bm) (k:∀ b o,h.get? b=some o->h'.get? b=some o):bQ h' C bm:=by
 obtain ⟨hb,cn,q,N,bs,hdct,sn,sub,ab,col,dd,k0,k1,k2,k3,k5,newId,hC⟩:=x
 exact ⟨hb,cn,q,N,bs,hdct,sn,sub,ab,col,dd,k0,k1,k2,k3,k5,newId,k _ _ hC⟩
structure fm (prog:Program) (w:World) (base:Heap) (P:cz) (nm:Nat->Str) (C:aS):Prop where
 cls:∀ i cl,P.cls i=some cl->1<=cl.kind->∃ bm,bQ base cl.addr bm/\∀ j cl',P.cls j=some cl'->aQ cl.up j=true->(Value.ref cl.addr :: bm).contains (.ref cl'.addr)=true/\∃ bm',bQ base cl'.addr bm'
 make:∀ (i:Nat) (cl:lg) (vs:List V) (fs:List (Nat × V)) (zs:List Value) (A:Around) (s:Shared) (ow ρ:List Addr) (Q E:Value->Shared->Prop),P.cls i=some cl->nB C cl vs=some fs->base.StaysIn s.heap->A.depth + 12<=600->A.units + 100<=9000->1<=s.toks->(∀ a∈ow,bZ s.heap a)->ak P nm s.heap ow ρ vs zs ->
  (∀ h' t e,1<=t->(∀ b o,s.heap.get? b=some o->h'.get? b=some o)->s.heap.get? e=none->yE h' cl.addr e->au P nm h' ow ρ (.exc i fs) (.ref e)->Q (.ref e) { s with heap:=h',toks:=t })->wpAny (model prog w) A (call (.ref cl.addr) zs) Q E s
theorem jX {pos:Pos} {l:bP} {K:Addr} {bm:List Value} {Q:Value->Shared->Prop}
  (h:wpAny (model prog w) A (spliced (backTo pos (starEach (l.toE nm vn) ev))) (fun vs s₁=>bQ s₁.heap K bm/\wpAny (model prog w) A (call (.ref K) vs) Q E s₁) E s) :
  wpAny (model prog w) A (callWith pos (.ref K) [] (backTo pos (starEach (l.toE nm vn) ev)) []) Q E s:=by
 have hst:((backTo pos (starEach (l.toE nm vn) ev)).any (fun x=>x.fst) || ([]:List (Option Str × Sem Value)).any fun x=>x.fst.isNone)=false:=by
  rw [d8 ev pos l]; rfl
 unfold callWith
 refine wpAny_bind (wpAny_holding (bv l (wpAny_mono h (fun vs s₁ h₁=>?_) fun HC HC x=>x)))
 refine cL fun HC kG=>?_
 obtain ⟨hh,g,d,t,os⟩:=s₁
 obtain ⟨⟨hbase,cn,q,N,bs,hdct,sn,sub,ab,col,dd,k0,k1,k2,k3,k5,newId,hC⟩,aR⟩:=h₁
 refine kG ?_
 refine wpAny_bind (wpAny_standAt ?_)
 rw [hst]
 refine wpAny_bind (wpAny_keeperOf_exc hC ?_)
 show wpAny _ _ (call (.ref K) vs [] >>= fun r=>do holding [r] point; pure r) _ _ _
 exact wpAny_bind (wpAny_mono aR (fun r s' hr=>wpAny_bind (wpAny_holding (wpAny_point (wpAny_pure hr)))) fun HC HC x=>x)
theorem ot (W:aY prog w base P nm C mg mb) (FA:fm prog w base P nm C) {r:dv} (hE:df prog w base P nm r) {c:Ctx} {g i:Nat} {cl:lg} {gp cp:Pos} {a:bP} (ht:1<=s.toks)
  (F:ck nm ev vn vars c.g c.ro c.ce xs) (O:cV A fes c.d c.hm) (I:aG prog w P nm base σ ρ xs s.heap) (R:aH P nm ev fes vars own xs s.heap ρ c.l)
  (hg:aQ c.g g=true) (hi:P.gv g = .cls i) (hcl:P.cls i=some cl) (hk:1<=cl.kind) {Q:Value->Shared->Prop}
  {β γ:Type} {rel:Heap->List Addr->List Addr->β->γ->Prop} {Q0:γ->Shared->Prop} {own':List Addr}
  (gd:af prog w base P nm own' ((jm r a c σ).bind fun vs s=>ofO (nB C cl vs) fun fs=>(.exc i fs s:aU β)) rel ρ xs (T1 Q0) (T1 E) s)
  (hq:∀ h₁ e h' t σ' ρ' fs,1<=t->bq ρ ρ ρ' s.heap h₁->aG prog w P nm base σ' ρ' xs h₁->(∀ b o,h₁.get? b=some o->h'.get? b=some o)->aG prog w P nm base σ' ρ' xs h'->bQ h' cl.addr (FA.cls i cl hcl hk).choose->yE h' cl.addr e->h₁.get? e=none->au P nm h' (ρ'++xs) ρ' (.exc i fs) (.ref e) ->
   (∀ h'' t'',1<=t''->bq ρ' ρ' ρ' h₁ h''->aG prog w P nm base σ' ρ' xs h''->d5 P nm h₁ h'' (ρ'++xs) ρ' i fs e->E (.ref e) { s with heap:=h'',toks:=t'' })->Q (.ref e) { s with heap:=h',toks:=t }) :
  wpAny (model prog w) A (eval (.Call (.Name (nm g) gp) (a.toE nm vn) [] cp) ev) Q (T1 E) s:=by
 refine Call_Name rfl ?_
 refine ae (W.G.gcl _ _ hi) fun cl' hcl' hx=>?_
 rw [hcl] at hcl'; replace hcl':=oi hcl'; subst hcl'
 refine fh W.G F I hg hx ?_
 refine jX (bm:=(FA.cls i cl hcl hk).choose) ?_
 refine dE hE a c σ ρ s _ _ ht F O I R (af.bindT (E:=T1 E) gd fun vs σ₁ ys h₁ tk₁ aa aq S aj rs aw=>?_)
 have hF:bQ base cl.addr (FA.cls i cl hcl hk).choose:=(FA.cls i cl hcl hk).choose_spec.1
 refine ⟨hF.keeps fun b o e=>aj.stay b o e,?_⟩
 refine ae (bp aw) fun fs hfs aw=>?_
 focus
  refine FA.make i cl vs fs ys A { s with heap:=h₁,toks:=tk₁ } (aa++xs) aa _ _ hcl hfs aj.stay (by have:=O.dep; omega) (by have:=O.un; omega) aq (fun a m=>(aj.new a m).2) rs fun h' t e ht' k hn mk rv=>?_
  refine ai (aj.grown k) fun S2 I2=>?_
  refine hq h₁ e h' t σ₁ aa fs ht' S aj k I2 (hF.keeps fun b o e=>I2.stay b o e) mk hn rv fun h'' t'' h1 S3 I3 X3=>?_
  exact aw e h'' t'' aa (S3.mono fun b m=>A0 m) I3 X3 h1
theorem pN {g:GV} {i:Nat} (e:CM g=some i):g = .cls i:=by
 cases g with
 | cls _=>replace e:=oi e; subst e; rfl
 | _=>exact nS e
theorem jY {β γ:Type} {r:dv} {late g:Nat} {a:bP} {c:Ctx} {rel:Heap->List Addr->List Addr->β->γ->Prop} {Q0:γ->Shared->Prop} (gd:af prog w base P nm own (eZ P C r late g a c σ:aU β) rel ρ xs Q0 E s) :
  aQ c.g g=true/\∃ i cl,P.gv g = .cls i/\P.cls i=some cl/\late + 1<=cl.kind/\af prog w base P nm own ((jm r a c σ).bind fun vs s=>ofO (nB C cl vs) fun fs=>(.exc i fs s:aU β)) rel ρ xs Q0 E s:=by
 refine ai (bA gd) fun hg gd=>?_
 refine ae (bp gd) fun i hi gd=>?_
 refine ae (bp gd) fun cl hcl gd=>?_
 refine ai (bA gd) fun hk gd=>?_
 exact ⟨hg,i,cl,pN hi,hcl,A5 hk,gd⟩
theorem xk (W:aY prog w base P nm C mg mb) (FA:fm prog w base P nm C) {r:dv} (hE:df prog w base P nm r) {c:Ctx} {g:Nat} {gp cp p:Pos} {a:bP} {rest:bL} (ht:1<=s.toks)
  (F:ck nm ev vn vars c.g c.ro c.ce xs) (O:cV A (ev :: fes) c.d c.hm) (I:aG prog w P nm base σ ρ xs s.heap) (R:aH P nm ev (ev :: fes) vars own xs s.heap ρ c.l) {Q:PySem.Flow->Shared->Prop}
  (gd:af prog w base P nm own ((step P C r).b (.cons (.rais g gp a cp p) rest) c σ) (d9 P nm ev (ev :: fes) vars own xs) ρ xs (T1 Q) (T1 E) s) :
  wpAny (model prog w) A (execs ((bL.cons (.rais g gp a cp p) rest).toS nm vn) ev) Q E s:=by
 refine wpAny_with_toks ht ?_
 show wpAny (model prog w) A (execs ((MS.rais g gp a cp p).toS nm vn :: rest.toS nm vn) ev) (T1 Q) (T1 E) s
 refine ai (bA gd) fun hh gd=>?_
 have hh:=iM hh
 focus
  refine ai (jY gd) fun hg zq1=>?_; refine cJ zq1 fun i cl hi hcl hk g1=>?_
  refine wpAny_execs_cons ?_
  show wpAny (model prog w) A (exec (.Raise (some (.Call (.Name (nm g) gp) (a.toE nm vn) [] cp)) none p) ev) _ _ _
  rw [arm_exec_Raise]
  refine wpAny_bind (wpAny_standAt (pM (O.hd hh) ?_))
  refine wpAny_bind (wpAny_mono (ot W FA hE ht F O I R hg hi hcl (by omega) g1 (fun h₁ e h' t σ' ρ' fs ht' S aj k I2 hF mk hn rv X=>?_)) (fun v s' h=>wpAny_bind (wpAny_standAt (wpAny_pure h))) fun HC HC x=>x)
  refine eS mk fun ws dct sl he h5 h1 h2=>?_; clear mk
  refine ai (aj.grown k) fun S3 I3=>?_
  exact ⟨e,cl.addr,_,ws,dct,sl,rfl,hF,he,h1,fun HC=>X h' t ht' S3 I2 ⟨rv,hn,fun HC HC HC=>(db _ ws he rfl h2),(dW _ ws he rfl h5 (.inl h1))⟩⟩
theorem jZ {s:Shared} {e C D:Addr} {bm bm':List Value} {oe:Obj} {Q:Bool->Shared->Prop} (hC:bQ s.heap C bm) (hD:bQ s.heap D bm') (he:s.heap.get? e=some oe) (hcls:oe.cls = .ref C) (hs:(Value.ref C :: bm).contains (.ref D)=true)
  (hq:Q true s):wpAny M A (excMatches (.ref e) (.ref D)) Q E s:=by
 refine cL fun HC kG=>?_
 obtain ⟨hb,cn,q,N,bs,hdct,sn,sub,ab,col,dd,k0,k1,k2,k3,k5,newId,hC⟩:=hC
 obtain ⟨hb',cn',q',N',bs',hdct',sn',sub',ab',col',dd',k0',k1',k2',k3',k5',newId',hD⟩:=hD
 have hcB:(Value.ref D :: bm').contains (.type "BaseException")=true:=by rw [List.contains_cons,hb',Bool.or_true]
 have f:=tc_notTuple
 obtain ⟨h,g,d,t,os⟩:=s
 refine kG ?_
 unfold excMatches
 repeat (first | (with_reducible refine wpAny_loadPart_at he ?_; rw [hcls]) | with_reducible refine wpAny_loadPart_at hD ?_ | (with_reducible refine wpAny_isSubtype_exc hD ?_; rw [hcB]) | (with_reducible refine wpAny_isSubtype_exc hC ?_; rw [hs]) | wp_step)
 exact hq
theorem j0 {α:Type} {p:α->Bool}:∀ (l:List α) (i:Nat),(∀ x,l[i]? = some x->p x=false)->(l.eraseIdx i).find? p=l.find? p
 | [],_,_=>rfl
 | x :: l,0,h=>by
  rw [List.eraseIdx_cons_zero,List.find?_cons,h x rfl]
 | x :: l,i + 1,h=>by
  rw [List.eraseIdx_cons_succ,List.find?_cons,List.find?_cons,j0 l i fun y hy=>h y (by simpa using hy)]
theorem sC {v:Value} {x y:Str} (h1:v.isStr x=true) (h2:v.isStr y=true):x=y:=by
 cases v <;> first | (simp [Value.isStr] at h1 h2; exact h1.symm.trans h2) | (simp [Value.isStr] at h1)
theorem ou {es:Array DictEntry} {name:Str} {i:Nat} (hi:es.findIdx? (fun e=>e.key.isStr name)=some i) {x:Str} (hx:x≠name):nsFind (es.eraseIdxIfInBounds i) x=nsFind es x:=by
 obtain ⟨l⟩:=es
 simp only [nsFind,findBy,List.eraseIdxIfInBounds_toArray,List.find?_toArray,List.findIdx?_toArray] at hi ⊢
 rw [j0 l i fun y hy=>?_]
 cases q:y.key.isStr x with
 | false=>rfl
 | true=>
  refine ae (List.findIdx?_eq_some_iff_getElem.mp hi) fun hlt hp HC=>?_
  rw [List.getElem?_eq_getElem hlt] at hy
  replace hy:=oi hy; subst hy
  exact absurd (sC q hp) hx
theorem sD {a:Addr} {m} {name:Str} {Q:Bool->Shared->Prop} (hn:s.heap.Ns a m)
  (hQ:∀ h' m',h'.Ns a m'->(∀ x,x≠name->m' x=m x)->Heap.SameBut a s.heap h'->(∀ o,s.heap.get? a=some o->∃ o',h'.get? a=some o'/\o'.cls=o.cls)->Q (m name).isSome { s with heap:=h' }):wpAny M A (nsDel a name) Q E s:=by
 refine eS (id hn) fun o es ep ho hd hk hm=>?_
 have hany:es.any (·.refKey)=false:=by
  rw [Array.any_eq_false']; intro e he; refine eE (hk e he) fun n t h=>?_; simp [DictEntry.refKey,h]
 have hsome:(m name).isSome=es.any (·.key.isStr name):=by
  rw [<- hm name]; simp only [nsFind,findBy,Option.isSome_map]
  rw [Bool.eq_iff_iff]; simp only [Array.find?_isSome,Array.any_eq_true]
  constructor
  ·rintro ⟨x,hx,hp⟩; obtain ⟨i,hi,rfl⟩:=Array.mem_iff_getElem.mp hx; exact ⟨i,hi,hp⟩
  ·rintro ⟨i,hi,hp⟩; exact (ax _ (Array.getElem_mem hi) hp)
 have hhas:nsHas name o=pure (es.any (·.key.isStr name)):=by
  rw [nsHas_eq]; unfold nsHasByArray; rw [hd]
  show (if (es.any fun x=>x.key.isStr name)=true then _ else _)=_
  generalize (es.any fun x=>x.key.isStr name)=b
  cases b <;> simp [hany]
 unfold nsDel
 refine wpAny_bind (wpAny_loadPart ho ?_)
 rw [hhas]
 refine wpAny_bind (wpAny_pure ?_)
 rw [<- hsome]
 cases hmn:(m name).isSome
 ·have:=hQ s.heap m hn (fun HC HC=>rfl) (.refl ..) fun o e=>(ax o e rfl)
  rw [hmn] at this
  exact wpAny_pure this
 ·refine wpAny_bind (wpAny_updatePart ho (wpAny_pure ?_))
  have key:∃ m',(s.heap.update a (Obj.dropName name)).Ns a m'/\(∀ x,x≠name->m' x=m x)/\∃ o',(s.heap.update a (Obj.dropName name)).get? a=some o'/\o'.cls=o.cls:=by
   obtain ⟨cl,d,dt,sl⟩:=o
   subst hd
   cases hi:es.findIdx? (·.key.isStr name) with
   | some i=>
    have e1:=Heap.get?_update_self (Obj.dropName name) ho (by simp only [Obj.dropName_eq,Obj.dropNameByArray,hi] <;> rfl)
    exact ⟨_,(fF _ _ (ep + 1) e1 (by simp only [Obj.dropName_eq,Obj.dropNameByArray,hi] <;> rfl) (hk.erase i) (fun HC=>rfl)),fun x hx=>(ou hi hx).trans (hm x),_,e1,by simp only [Obj.dropName_eq,Obj.dropNameByArray,hi]⟩
   | none=>
    have e1:=Heap.get?_update_self (Obj.dropName name) ho (by simp only [Obj.dropName_eq,Obj.dropNameByArray,hi] <;> rfl)
    exact ⟨_,(fF _ _ ep e1 (by simp only [Obj.dropName_eq,Obj.dropNameByArray,hi] <;> rfl) hk (fun HC=>rfl)),fun x HC=>hm x,_,e1,by simp only [Obj.dropName_eq,Obj.dropNameByArray,hi]⟩
  refine bD key fun m' h1 h2 zq1=>?_; clear key; refine ae zq1 fun o' h3 h4=>?_
  have:=hQ _ m' h1 h2 (Heap.SameBut.update ..) fun ua e=>by rw [ho] at e; replace e:=oi e; subst e; exact (ax o' h3 h4)
  rw [hmn] at this
  exact this
theorem xl (G:jp P nm base mg mb) (F:ck nm ev vn vars gs ro ce xs) (I:aG prog w P nm base σ ρ xs s.heap) (R:aH P nm ev fes vars own xs s.heap ρ l) {i:Nat} {v:V} (hv:ao l i=some (some v)) (hk:ev.kindOf (nm (vn i))=some .local/\ao vars i=some (vn i,0)) {pos:Pos} {Q:Unit->Shared->Prop}
  (h:∀ h',bw own s.heap h'->bq (own++ρ) ρ ρ s.heap h'->aG prog w P nm base σ ρ xs h'->aH P nm ev fes vars own xs h' ρ (bc l i none)->Q () { s with heap:=h' }) :
  wpAny (model prog w) A (unbindBehindTheSuite ev (nm (vn i)) pos) Q E s:=by
 refine ae R.ns fun m hn hm=>?_
 have hp:(ev.scope.kind == .class || (ev.scope.kind == .module && ev.locals != ev.globals))=false:=by rw [F.hk]; rfl
 have there:(m (nm (vn i))).isSome=true:=by
  refine de (hm i v hv) fun c k x h1 h2 h3=>?_
  rw [hk.2] at h1; cases h1
  rcases h3 with ⟨_,hx⟩ | ⟨q,_⟩
  ·rw [hx]; rfl
  ·exact absurd rfl q
 unfold unbindBehindTheSuite
 refine wpAny_onRaise ?_
 unfold unbindName
 refine wpAny_bind (wpAny_point (wpAny_bind ?_))
 unfold deleteName
 simp only [hk.1,hp]
 rw [if_neg (by decide)]
 refine wpAny_bind (sD hn fun h' m' hn' hoth hs hcls=>?_)
 rw [there]
 simp only [Bool.not_true,Bool.false_eq_true,if_false]
 refine wpAny_pure (wpAny_point ?_)
 have kd:∀ b o,b≠ev.locals->s.heap.get? b=some o->h'.get? b=some o:=fun b o hb e=>(hs.2 b hb).trans e
 have hfr:∀ o,s.heap.get? ev.locals=some o->o.cls = .type "frame"->(∃ es ep,o.data = .dict es ep)->∃ o',h'.get? ev.locals=some o'/\o'.cls = .type "frame"/\∃ es ep,o'.data = .dict es ep:=fun o eo hc HC=>by refine ae (hcls o eo) fun o' eo' hc'=>?_; refine de hn' fun o2 es ep h1 h2 HC=>?_; clear hn'; rw [eo'] at h1; replace h1:=oi h1; subst h1; exact ⟨o',eo',hc'.trans hc,es,ep,h2⟩
 refine ai (I.ownCh F.lin kd (gC hn') hfr) fun S I'=>?_
 have Gr:cK [ev.locals] (ρ++xs) (ρ++xs) ρ ρ s.heap h':=⟨.of_but kd (gC hn'),fun b m=>by rw [A2 m]; exact A0 F.lin,fun HC m=>.inl m,fun HC HC e=>e⟩
 refine h h' ((bw.of_but kd (gC hn')).mono fun b m=>by rw [A2 m]; exact R.own.1) (S.mono fun b m=>?_) I' ⟨by rw [cY]; exact R.len,(ax m' hn' (fun j u hj=>?_)),fun j c' hj=>?_,R.own,pF R.fr kd hfr⟩
 ·rcases A7 m with rfl | m
  ·exact A1 R.own.1
  ·exact A0 m
 ·rw [eJ] at hj
  by_cases hji:j=i
  ·subst hji
   rw [if_pos rfl,hv] at hj
   cases hj
  ·rw [if_neg hji] at hj
   refine de (hm j u hj) fun c' k' y h1 h2 h3=>?_
   refine (dz c' k' y h1 (h2.grow Gr) (h3.imp (fun ⟨hk0,hy⟩=>⟨hk0,?_⟩) fun ⟨hk0,a,ha,hc,hx⟩=>⟨hk0,a,ha,bG kd (F.cloc _ _ ha) hc,hx⟩))
   rw [hoth _ fun z=>hji ?_]
   ·exact hy
   ·have:=G.inj _ _ z
    rw [this] at h1
    exact F.nd _ _ _ _ _ h1 hk.2
 ·refine aV (R.un j c' hj) fun a cC h1 h2 h3=>?_
  exact (db a cC h1 (bG kd (F.cloc _ _ h1) h2) h3)
theorem mA {α β:Type} {f:α->aU β} {k:Nat} {fs:List (Nat × V)} {σ':St}:∀ {o:Option α},ofO o f = .exc k fs σ'->∃ a,o=some a/\f a = .exc k fs σ'
 | some a,q=>(ax a rfl q)
theorem mB {r:dv} {t:MT} {v:V} {c:Ctx} (h:zc t=true) {k:Nat} {fs:List (Nat × V)} {σ':St}:Mine.assign C r t v c σ≠.exc k fs σ':=by
 intro q
 cases t with
 | name i p=>refine ae (mA q) fun HC HC q=>?_; cases q
 | tup ps k p=>refine ae (mA q) fun HC HC q=>?_; refine ae (mA q) fun HC HC q=>?_; cases q
 | _=>exact fT h
theorem cV.mark {d:Nat} (O:cV A fes d false) (e:Addr):cV (A.mark (some (.ref e))) fes d true:=⟨O.fr,O.dep,O.un,fun q=>nomatch q⟩
theorem lK {α:Type}:∀ (l:List α) (i:Nat) (x y:α),bc (bc l i x) i y=bc l i y
 | [],_,_,_=>rfl
 | _ :: _,0,_,_=>rfl
 | z :: l,i + 1,x,y=>congrArg (z :: ·) (lK l i x y)
theorem iB (G:jp P nm base mg mb) (F:ck nm ev vn vars gs ro ce xs) (I:aG prog w P nm base σ ρ xs s.heap) (R:aH P nm ev fes vars own xs s.heap ρ l) {i:Nat} {l':Loc} {v:V} (hb:bk ro i v l=some l') (hc:aQ ce i=false) {pos:Pos} {Q:Unit->Shared->Prop}
  (h:∀ h' t,s.toks<=t->bw own s.heap h'->bq (own++ρ) ρ ρ s.heap h'->aG prog w P nm base σ ρ xs h'->aH P nm ev fes vars own xs h' ρ (bc l i none)->Q () { s with heap:=h',toks:=t }) :
  wpAny (model prog w) A (do bindName ev (nm (vn i)) .none; unbindBehindTheSuite ev (nm (vn i)) pos) Q E s:=by
 refine jy (iq hb) fun hr zq1 HC=>?_; refine ay zq1 fun o ho=>?_
 have hb2:bk ro i .none l=some (bc l i (some .none)):=by unfold bk; rw [hr,ho]
 refine jy (oq F R.len hb2 hc) fun k1 k2 HC=>?_
 refine wpAny_bind (wpAny_bindName (iP G F I R hb2 .none fun h₁ t₁ aq Dh dQ aj bM=>?_))
 refine xl (s:={ s with heap:=h₁,toks:=t₁ }) G F aj bM (i:=i) (v:=.none) (by rw [eJ,if_pos rfl,ho]; rfl) ⟨k1,k2⟩ fun aR Di bl bf kW=>?_
 have e:bc (bc l i (some V.none)) i none=bc l i none:=lK ..
 rw [e] at kW
 exact h aR t₁ aq (Dh.trans Di) (dQ.trans bl) bf kW
theorem oy (G:jp P nm base mg mb) (F:ck nm ev vn vars gs ro ce xs) (I:aG prog w P nm base σ ρ xs s.heap) (R:aH P nm ev fes vars own xs s.heap ρ l) {i:Nat} {l':Loc} {v:V} (hb:bk ro i v l=some l') (hc:aQ ce i=false) {pos:Pos} {Q:Unit->Shared->Prop}
  (h:∀ h' t,s.toks<=t->bq (own++ρ) ρ ρ s.heap h'->aG prog w P nm base σ ρ xs h'->aH P nm ev fes vars own xs h' ρ (bc l i none)->Q () { s with heap:=h',toks:=t }) :
  wpAny (model prog w) A (do bindName ev (nm (vn i)) .none; unbindBehindTheSuite ev (nm (vn i)) pos) Q E s:=iB G F I R hb hc fun h' t ht HC=>h h' t ht
theorem oz (W:aY prog w base P nm C mg mb) (FA:fm prog w base P nm C) {outer:List Env} (F:ck nm ev vn vars gs ro ce xs) (Y:jP prog w base P nm [] ρ xs outer h₀ σ ρ' k fs e s.heap) {g i:Nat} {gp hp:Pos} {cl:lg}
  (hg:aQ gs g=true) (hi:P.gv g = .cls i) (hcl:P.cls k=some cl) (hk:1<=cl.kind) (hup:aQ cl.up i=true) {R:Result->Shared->Prop} (h:R (.ok .brk) s) :
  codeAny (model prog w) A (.handlers (.ref e) [.ExceptHandler (some (.Name (nm g) gp)) none [] hp] ev) R s:=by
 refine ae (W.G.gcl _ _ hi) fun cl' hcl' hx=>?_
 refine codeAny_handlers_test (fh W.G F Y.I hg hx ?_)
 refine cL fun HC kG=>?_
 refine ae (FA.cls k cl hcl hk) fun bm hF hU=>?_
 refine ai (hU i cl' hcl' hup) fun hs zq1=>?_; refine ay zq1 fun bm' hF'=>?_
 refine ae Y.X.val fun HC zq1 HC=>?_; obtain ⟨e',_,cl',_,_,_,q,hc,he,hcls,_⟩:=zq1
 cases q
 rw [hcl] at hc
 replace hc:=oi hc; subst hc
 refine kG ?_
 exact jZ (hF.keeps fun b o q=>Y.I.stay b o q) (hF'.keeps fun b o q=>Y.I.stay b o q) he hcls hs h
theorem jg (F:ck nm ev vn vars gs ro ce xs) {n:Nat} {v u:V} {l l' l2:Loc} (hb:bk ro n v l=some l') (h1:l.length=vars.length) (h2:l2.length=vars.length):∃ l3,bk ro n u l2=some l3:=by
 refine jy (iq hb) fun hr zq1 HC=>?_; refine ay zq1 fun o ho=>?_
 refine ay (dh (l:=l2) (k:=n) (by rw [h2,<- h1]; exact b7 ho)) fun o2 ho2=>?_
 exact ⟨_,by unfold bk; rw [hr,ho2]⟩
theorem oA (G:jp P nm base mg mb) {r:dv} (hB:iS prog w base P nm r) {c:Ctx} (F:ck nm ev vn vars c.g c.ro c.ce xs) (O:cV A (ev :: fes) c.d false) (ht:1<=s.toks)
  (Y:jP prog w base P nm [] ρ xs (ev :: fes) h₀ σ ρ' k fs e s.heap) {fD:St} (iz:aG prog w P nm base fD ρ xs h₀) (pO:aH P nm ev (ev :: fes) vars own xs h₀ ρ c.l) {n:Nat} {l1:Loc} (hb:bk c.ro n (.exc k fs) c.l=some l1) (hc:aQ c.ce n=false)
  {sE:MS} {body:bL} {hp:Pos} {t₀:Nat} {Q:PySem.Flow->Shared->Prop} {E0:Value->Shared->Prop} {R':Result->Shared->Prop}
  (g:af prog w base P nm own ((r.b (.cons sE body) ⟨l1,c.d,true,c.g,c.ro,c.ce⟩ σ).calm fun fl s=>match fl.1 with | .next=>.stuck | f=>.ok (f,bc fl.2 n none) s) (d9 P nm ev (ev :: fes) vars own xs) ρ xs (T1 Q) E0 { s with heap:=h₀,toks:=t₀ })
  (hR:∀ f s₂,f≠.next->wpAny (model prog w) A (do bindName ev (nm (vn n)) .none; unbindBehindTheSuite ev (nm (vn n)) hp) (fun HC uH=>Q f uH) E s₂->R' (.ok f) s₂) :
  codeAny (model prog w) (A.mark (some (.ref e))) (.handlers (.ref e) [.ExceptHandler none (some (nm (vn n))) ((bL.cons sE body).toS nm vn) hp] ev) R' s:=by
 refine codeAny_handlers_suite_as ?_
 refine bN iz.stay Y fun h1 Y1=>?_
 have R1:=pO.stp iz Y1.S
 have O':=cV.mark O e
 refine dJ (s:={ s with heap:=h1 }) G F Y1.I R1 hb Y1.X.val fun h2 t2 ht2 S2 I2 R2=>?_
 refine hB (.cons sE body) ⟨l1,c.d,true,c.g,c.ro,c.ce⟩ σ _ ev fes vn vars own xs ρ' { s with heap:=h2,toks:=t2 } _ _ (Nat.le_trans ht ht2) F O' I2 R2 ?_
 generalize hout:r.b (.cons sE body) ⟨l1,c.d,true,c.g,c.ro,c.ce⟩ σ = out at g
 cases out with
 | stuck=>exact g.elim
 | exc c fs σ'=>exact g.elim
 | ok fl σ2=>
  intro f h3 t3 ρ3 S3 I3 rf ht3
  obtain ⟨fl1,fl2⟩:=fl
  refine ai rf fun R3 hf=>?_; clear rf
  refine ay (jg (u:=.none) F hb pO.len R3.len) fun l3 hb3=>?_
  have hne:f≠.next:=by
   intro q; subst q
   cases fl1 <;> first | exact g.elim | exact hf.elim
  refine hR f _ hne (oy (s:={ s with heap:=h3,toks:=t3 }) G F I3 R3 hb3 hc fun h4 t4 ht4 S4 I4 R4=>?_)
  have S:bq (own++ρ) ρ ρ3 h₀ h4:=(((Y1.S.mono fun b m=>A0 m).trans S2).trans S3).trans S4
  cases fl1 <;> cases f <;> first | exact hf.elim | skip
  ·exact g.elim
  ·exact g _ h4 t4 ρ3 S I4 ⟨R4,trivial⟩ (Nat.le_trans ht3 ht4)
  ·exact g _ h4 t4 ρ3 S I4 ⟨R4,trivial⟩ (Nat.le_trans ht3 ht4)
  ·exact g _ h4 t4 ρ3 S I4 ⟨R4,hf.grow (S4.grow fun a m=>by
    rcases A3 m with m | m
    ·exact A0 (R3.own.2 a m)
    ·exact A1 m)⟩ (Nat.le_trans ht3 ht4)
theorem jP.ownCh (Y:jP prog w base P nm own ρ xs fes h₀ σ ρ' c fs e h) (K:bw own h h') (S:bq (own++ρ') ρ' ρ' h h') (I:aG prog w P nm base σ ρ' xs h') (F:gT fes xs h') (ho:∀ a∈own,a∈xs) (hl:∀ a∈xs,bZ h₀ a) (hb:qF h e) :
  jP prog w base P nm own ρ xs fes h₀ σ ρ' c fs e h'/\qF h' e:=by
 have G:cK own (ρ'++xs) (ρ'++xs) ρ' ρ' h h':=⟨K,fun a m=>A0 (ho a m),fun HC m=>.inl m,fun HC HC e=>e⟩
 have hne:e∉own:=fun m=>az Y.X.new (hl e (ho e m))
 refine nj (jO Y.X) fun oe ws a he hd hc hsz htb=>?_
 have he':h'.get? e=some oe:=K.exact he hne (by rw [hc]; intro z; cases z)
 refine ⟨⟨bq.trans Y.S S,I,⟨Y.X.val.grow G,Y.X.new,fun cl h1 h2=>?_,oe,ws,he',hd,hsz,htb.imp id ?_⟩,F⟩,?_⟩
 ·refine aV (Y.X.bare cl h1 h2) fun o1 w1 e1 e2 e3=>?_
  rw [he] at e1; replace e1:=oi e1; subst e1
  exact (db oe w1 he' e2 e3)
 ·rintro ⟨T,oT,ts,h1,hTn,hTe,hT,hTc,r⟩
  exact ⟨T,oT,ts,h1,hTn,hTe,K.exact hT (fun m=>az hTn (hl T (ho T m))) (by rw [hTc]; decide),hTc,r⟩
 ·refine de hb fun o1 w1 T e1 e2 e3=>?_; clear hb
  rw [he] at e1; replace e1:=oi e1; subst e1
  exact (dz oe w1 T he' e2 e3)
theorem sF (hfr:A.frames=some (ev :: outer)) (hfr':A'.frames=some (ev :: outer)) (hb:base.StaysIn h₀) (Y:jP prog w base P nm own ρ xs (ev :: outer) h₀ σ ρ' c fs e s.heap)
  (hE:∀ h',jP prog w base P nm own ρ xs (ev :: outer) h₀ σ ρ' c fs e h'->E (.ref e) { s with heap:=h' }):notedBy (model prog w) A' ev (fun x s'=>cameBackBy (model prog w) A ev E x s') (.ref e) s:=by
 refine ai (Y.F ev (.head _)) fun HC zq1=>?_; refine fL zq1 fun L HC hf HC=>?_
 refine cH hfr' hf hb Y fun h1 Y1 ⟨oe,ws,T,he,hd,hw⟩=>?_
 show wpAny (model prog w) A (do
  if (<- field (.ref e) 1) == .none then unsupported "frame.own-activation:exception-without-traceback"
  setFlight (.ref e) ev.frame) _ _ _
 refine wpAny_bind (wpAny_field he hd hw ?_)
 rw [if_neg (show ¬ ((Value.ref T == Value.none)=true) from by simp)]
 exact bN (s:={ s with heap:=h1 }) hb Y1 fun h2 Y2=>hE h2 Y2
theorem sG {α:Type} {what:String} {Q:α->Shared->Prop} (hb:base.StaysIn h₀) (Y:jP prog w base P nm own ρ xs fes h₀ σ ρ' c fs e s.heap) (tb:qF s.heap e)
  (hE:∀ h',jP prog w base P nm own ρ xs fes h₀ σ ρ' c fs e h'->E (.ref e) { s with heap:=h' }):wpAny (model prog w) A (PySem.passOn what (.ref e) ev:Sem α) Q E s:=by
 refine de tb fun oe ws T he hd hw=>?_; clear tb
 unfold PySem.passOn
 refine wpAny_bind (wpAny_field he hd hw ?_)
 rw [if_neg (show ¬ ((Value.ref T == Value.none)=true) from by simp)]
 refine wpAny_bind ?_
 first
  | exact bN hb Y fun h2 Y2=>wpAny_throw (hE h2 Y2)
  | exact wpAny_pure (wpAny_bind (bN hb Y fun h2 Y2=>wpAny_throw (hE h2 Y2)))
theorem af.suiteT {α β:Type} (G:jp P nm base mg mb) (F:ck nm ev vn vars gs ro ce xs) (hfr:A.frames=some (ev :: outer)) (hfr':A'.frames=some (ev :: outer)) (I:aG prog w P nm base σ ρ xs s.heap) (R:aH P nm ev (ev :: outer) vars own xs s.heap ρ l)
  {n:Nat} {v:V} {l₀ l₁:Loc} (hb:bk ro n v l₀=some l₁) (hl0:l₀.length=vars.length) (hc:aQ ce n=false) {hp:Pos} {out:aU α} {rel:Heap->List Addr->List Addr->α->β->Prop} {Q:β->Shared->Prop} {EY N:Value->Value->Shared->Prop}
  (g:af prog w base P nm own out rel ρ xs Q (T1 E) s) :
  af prog w base P nm [] out rel ρ xs Q (T1 fun x uH=>wpAny (model prog w) A' (noteFrame x ev) (fun HC Bk=>wpAny (model prog w) A' (do bindName ev (nm (vn n)) .none; unbindBehindTheSuite ev (nm (vn n)) hp)
   (fun HC zC=>wpAny (model prog w) A' (PySem.passOn "try.except-as" x ev:Sem PySem.Flow) (fun HC HC=>False) (notedBy (model prog w) A' ev fun x s'=>cameBackBy (model prog w) A ev E x s') zC) (EY x) Bk) (N x) uH) s:=by
 cases out with
 | stuck=>exact g
 | ok v σ'=>exact fun x h' tk' ρ' S I r=>g x h' tk' ρ' (S.mono fun b m=>A0 m) I r
 | exc c fs σ'=>
  intro e h1 tk1 ρ1 S1 I1 X1 ht1
  have S1':bq ([]++ρ) ρ ρ1 s.heap h1:=S1
  have hll:∀ a∈xs,bZ s.heap a:=fun a m=>(I.new a (A0 m)).2
  refine ai (R.fr ev (.head _)) fun HC zq1=>?_; refine fL zq1 fun L HC hf HC=>?_
  refine cH (own:=[]) (s:={ s with heap:=h1,toks:=tk1 }) hfr' hf I.stay ⟨S1',I1,X1,R.fr.step I S1'⟩ fun h2 Y2 tb2=>?_
  have R2:aH P nm ev (ev :: outer) vars own xs h2 ρ1 l:=R.stp I Y2.S
  refine ay (jg (u:=.none) F hb hl0 R2.len) fun l3 hb3=>?_
  refine iB (s:={ s with heap:=h2,toks:=tk1 }) G F Y2.I R2 hb3 hc fun h3 t3 ht3 K3 S3 I3 R3=>?_
  have Y2':jP prog w base P nm own ρ xs (ev :: outer) s.heap σ' ρ1 c fs e h2:=⟨Y2.S.mono fun b m=>A0 m,Y2.I,Y2.X,Y2.F⟩
  refine ai (Y2'.ownCh K3 S3 I3 R3.fr R.own.2 hll tb2) fun Y3 tb3=>?_
  refine sG (s:={ s with heap:=h3,toks:=t3 }) I.stay Y3 tb3 fun h4 Y4=>?_
  refine sF (s:={ s with heap:=h4,toks:=t3 }) hfr hfr' I.stay Y4 fun h5 Y5=>?_
  exact g e h5 t3 ρ1 Y5.S Y5.I Y5.X (Nat.le_trans ht1 ht3)
theorem sH {oe:Obj} {ws:Array Value} {a:Addr} (he:h.get? e=some oe) (hd:oe.data = .fields ws) (hc:oe.cls = .ref a) {i:Nat} (x:Value):Note0 e [] h (h.update e (Obj.mapFields (·.setIfInBounds i x))):=by
 have hself:=Heap.get?_update_self (Obj.mapFields (·.setIfInBounds i x)) he (Obj.isFreed_of_fields (Obj.data_mapFields hd _))
 refine ⟨fun b ⟨o,ho⟩=>?_,fun b o ho hb HC=>.inl ((Heap.get?_update_other _ _ (Ne.symm hb)).trans ho),(fF oe ws (ws.setIfInBounds i x) he hd ⟨a,hc⟩ ?_),fun T m=>(nomatch m)⟩
 ·by_cases q:b=e
  ·subst q; exact ⟨_,hself⟩
  ·exact ⟨o,(Heap.get?_update_other _ _ (Ne.symm q)).trans ho⟩
 ·rw [hself]
  obtain ⟨c',d',da,sl⟩:=oe
  simp only at hd; subst hd; rfl
theorem xm (W:aY prog w base P nm C mg mb) (FA:fm prog w base P nm C) {r:dv} (hE:df prog w base P nm r) {c:Ctx} (F:ck nm ev vn vars c.g c.ro c.ce xs) (O:cV A (ev :: outer) c.d false) (ht:1<=s.toks)
  (Y:jP prog w base P nm [] ρ xs (ev :: outer) h₀ σ ρ' k fs e s.heap) {fD:St} (iz:aG prog w P nm base fD ρ xs h₀) (pO:aH P nm ev (ev :: outer) vars own xs h₀ ρ c.l) {n:Nat} {l1:Loc} (hb:bk c.ro n (.exc k fs) c.l=some l1) (hc:aQ c.ce n=false)
  {cl:lg} (hcl:P.cls k=some cl) (hk:cl.kind=1) {g:Nat} {gp cp p hp:Pos} {a:bP} {t₀:Nat} {β γ:Type} {rel:Heap->List Addr->List Addr->β->γ->Prop} {Q0:γ->Shared->Prop} {Qf:PySem.Flow->Shared->Prop}
  (gd:af prog w base P nm own (eZ P C r 1 g a ⟨l1,c.d,true,c.g,c.ro,c.ce⟩ σ:aU β) rel ρ xs (T1 Q0) (T1 E) { s with heap:=h₀,toks:=t₀ }) :
  codeAny (model prog w) (A.mark (some (.ref e))) (.handlers (.ref e) [.ExceptHandler none (some (nm (vn n))) ((bL.cons (.rais g gp a cp p) .nil).toS nm vn) hp] ev) (fun r s₂=>match r with | .ok f=>Qf f s₂ | .error x=>cameBackBy (model prog w) A ev E x s₂) s:=by
 refine codeAny_handlers_suite_as ?_
 refine bN iz.stay Y fun h1 Y1=>?_
 have R1:=pO.stp iz Y1.S
 have O':=cV.mark O e
 refine dJ (s:={ s with heap:=h1 }) W.G F Y1.I R1 hb Y1.X.val fun h2 t2 ht2 S2 I2 R2=>?_
 have ht2':1<=t2:=Nat.le_trans ht ht2
 have S12:bq (own++ρ) ρ ρ' h₀ h2:=(Y1.S.mono fun b m=>A0 m).trans S2
 have g2:=af.shift (h₁:=h2) (t₁:=t2) gd S12
 refine ai (jY g2) fun hg zq1=>?_; refine cJ zq1 fun i cl' hi hcl' hk' g3=>?_
 have bare:∃ oe ws,h2.get? e=some oe/\oe.data = .fields ws/\ws[2]? = some .none:=by
  refine aV (Y1.X.bare cl hcl hk) fun oe ws e1 e2 e3=>?_
  have hdead:h₀.get? e=none:=Y1.X.new
  refine eS (jO Y1.X) fun oe' ws' a' e4 e5 e6 HC=>?_
  rw [e4] at e1; cases e1
  refine (db oe ws (S2.keep.exact e4 (fun m=>?_) (by rw [e6]; intro z; cases z)) e2 e3)
  rcases A3 m with m | m
  ·exact az hdead (iz.new e (A0 (pO.own.2 e m))).2
  ·exact pI Y1.X (A1 m)
 refine aV bare fun oh vh hoh hvh hv2=>?_; clear bare
 refine wpAny_execs_cons ?_
 show wpAny (model prog w) (A.mark (some (.ref e))) (exec (.Raise (some (.Call (.Name (nm g) gp) (a.toE nm vn) [] cp)) none p) ev) _ _ _
 rw [arm_exec_Raise]
 refine wpAny_bind (wpAny_standAt (kY (h₀:=e) rfl ?_))
 have g4:=af.suiteT (A':=A.mark (some (.ref e))) (hp:=hp) (l₀:=c.l) (l₁:=l1) (v:=.exc k fs) (n:=n) (EY:=fun x y zC=>wpAny (model prog w) (A.mark (some (.ref e))) (setFlight x none) (fun HC Dj=>(notedBy (model prog w) (A.mark (some (.ref e))) ev fun x s'=>cameBackBy (model prog w) A ev E x s') y Dj) (notedBy (model prog w) (A.mark (some (.ref e))) ev fun x s'=>cameBackBy (model prog w) A ev E x s') zC)
  (N:=fun HC=>notedBy (model prog w) (A.mark (some (.ref e))) ev fun x s'=>cameBackBy (model prog w) A ev E x s') W.G F O.fr O.fr I2 R2 hb pO.len hc g3
 refine wpAny_with_toks (s:={ s with heap:=h2,toks:=t2 }) ht2' ?_
 refine wpAny_bind (wpAny_mono (ot (s:={ s with heap:=h2,toks:=t2 }) W FA hE (c:=⟨l1,c.d,true,c.g,c.ro,c.ce⟩) ht2' F O' I2 R2 hg hi hcl' (Nat.le_of_lt hk') g4 (fun cO e' h' t σ' ρ'' fs' ht' S3 ei kp I4 hF mk hn rv X=>?_)) (fun v s' h=>wpAny_bind (wpAny_standAt (wpAny_pure h))) fun HC HC x=>x)
 refine eS mk fun ws dct sl he h5 h1' h2'=>?_; clear mk
 have hne:e≠e':=fun q=>by
  subst q
  exact az hn (S3.keep.live e ⟨oh,hoh⟩)
 have hoh3:cO.get? e=some oh:=S3.keep.exact hoh (fun m=>by
  exact pI Y1.X (A1 m)) (by
   refine eS (jO Y1.X) fun oe' ws' a' e4 e5 e6 HC=>?_
   have:oh.cls = .ref a':=by
    have hdead:h₀.get? e=none:=Y1.X.new
    have:=S2.keep.exact e4 (fun m=>by
     rcases A3 m with m | m
     ·exact az hdead (iz.new e (A0 (pO.own.2 e m))).2
     ·exact pI Y1.X (A1 m)) (by rw [e6]; intro z; cases z)
    rw [hoh] at this; replace this:=oi this; subst this; exact e6
   rw [this]; intro z; cases z)
 refine fun HC=>⟨e',cl'.addr,_,ws,dct,sl,rfl,hF,he,h1',Nat.lt_of_lt_of_le (by decide) h5,hne,(db oh vh (kp e oh hoh3) hvh hv2),?_⟩
 have N:=sH (i:=2) he rfl rfl (.ref e)
 have kq:∀ b o,cO.get? b=some o->(h'.update e' (Obj.mapFields (·.setIfInBounds 2 (.ref e)))).get? b=some o:=fun b o q=>by
  have hb:b≠e':=fun z=>by subst z; rw [hn] at q; exact nS q
  exact (Heap.get?_update_other _ _ (Ne.symm hb)).trans (kp b o q)
 refine ai (ei.grown kq) fun S5 I5=>?_
 have hd5:=Obj.data_mapFields (o:={ cls:=.ref cl'.addr,data:=.fields ws,dict:=dct,slots:=sl }) (vs:=ws) rfl (·.setIfInBounds 2 (Value.ref e))
 have he5:=Heap.get?_update_self (Obj.mapFields (·.setIfInBounds 2 (.ref e))) he (Obj.isFreed_of_fields hd5)
 exact X _ t ht' S5 I5 ⟨rv.note N,hn,fun cl1 q1 q2=>by rw [hcl'] at q1; replace q1:=oi q1; subst q1; exact absurd (q2▸hk':1 + 1<=1) (by decide),(dW _ _ he5 hd5 (by simp; exact h5) (.inl (by rw [Array.getElem?_setIfInBounds_ne (by decide)]; exact h1')))⟩
theorem mD {α:Type} {q:α} {G:Prop} (e:none=some q):G:=nomatch e
theorem uI {h:bL} {q:Nat × bP} {G:bL->Prop} (e:eH h=some q) (g:∀ gp cp p,G (.cons (.rais q.1 gp q.2 cp p) .nil)):G h:=by
 cases h with
 | nil=>exact mD e
 | cons st l=>cases st with
  | rais a b c d p=>cases l with
   | nil=>replace e:=oi e; subst e; exact g b d p
   | cons _ _=>exact mD e
  | _=>exact mD e
theorem df.tri {r:dv} (H:df prog w base P nm r) {e:ME} {c:Ctx} (ht:1<=s.toks) (F:ck nm ev vn vars c.g c.ro c.ce xs) (O:cV A fes c.d c.hm) (I:aG prog w P nm base σ ρ xs s.heap) (R:aH P nm ev fes vars own xs s.heap ρ c.l) {Q:Value->Shared->Prop} (hs:r.e e c σ≠.stuck)
  (hok:∀ x σ₁,r.e e c σ = .ok x σ₁->∀ y h₁ tk₁ aa,bq ρ ρ aa s.heap h₁->aG prog w P nm base σ₁ aa xs h₁->au P nm h₁ (aa++xs) aa x y->1<=tk₁->Q y { s with heap:=h₁,toks:=tk₁ })
  (hex:∀ k fs σ₁,r.e e c σ = .exc k fs σ₁->∀ x h₁ tk₁ aa,bq ρ ρ aa s.heap h₁->aG prog w P nm base σ₁ aa xs h₁->d5 P nm s.heap h₁ (aa++xs) aa k fs x->1<=tk₁->E (.ref x) { s with heap:=h₁,toks:=tk₁ }):wpAny (model prog w) A (eval (e.toE nm vn) ev) Q E s:=by
 refine H e c σ A ev fes vn vars own xs ρ s Q E ht F O I R ?_
 cases h:r.e e c σ with
 | stuck=>exact hs h
 | ok x σ₁=>exact hok x σ₁ h
 | exc k fs σ₁=>exact hex k fs σ₁ h
section
variable {α β:Type} {rel:Heap->List Addr->List Addr->α->β->Prop} {Q:β->Shared->Prop}
theorem af.of_ok {o:aU α} {v:α} {σ':St} (e:o = .ok v σ') (k:∀ x h' tk' ρ',bq (own++ρ) ρ ρ' s.heap h'->aG prog w P nm base σ' ρ' xs h'->rel h' (ρ'++xs) ρ' v x->Q x { s with heap:=h',toks:=tk' }):af prog w base P nm own o rel ρ xs Q E s:=by
 rw [e]; exact k
theorem af.of_bind {γ:Type} {o:aU γ} {f:γ->St->aU α} (g:af prog w base P nm own (o.bind f) rel ρ xs Q E s) (ne:∀ k fs σ',o≠.exc k fs σ') {G:Prop} (k:∀ l σ',o = .ok l σ'->af prog w base P nm own (f l σ') rel ρ xs Q E s->G):G:=by
 cases o with
 | ok l σ'=>exact k l σ' rfl g
 | exc a b c=>exact absurd rfl (ne a b c)
 | stuck=>exact g.elim
theorem xn {C:aS} {r:dv} {c:Ctx} {t:MT} {x:ME} {ap gp hp p:Pos} {g i:Nat} {hs rest:bL} {rel:Heap->List Addr->List Addr->Flow × Loc->β->Prop} (gd:af prog w base P nm own ((step P C r).b (.cons (.tryx t x ap g gp i hs hp p) rest) c σ) rel ρ xs Q E s) {G:Prop}
  (k:c.hm=false->aQ c.ce i=false->(cM t x && bT x)=true->zc t=true->r.e x c σ≠.stuck ->
   (∀ v σ₁,r.e x c σ = .ok v σ₁->af prog w base P nm own ((assign C r t v c σ₁).bind fun l s=>r.b rest ⟨l,c.d,c.hm,c.g,c.ro,c.ce⟩ s) rel ρ xs Q E s) ->
   (∀ k fs σ₁,r.e x c σ = .exc k fs σ₁->∀ {G':Prop},(∀ j cl l1,aQ c.g g=true->P.gv g = .cls j->P.cls k=some cl->aQ cl.up j=true->1<=cl.kind->bk c.ro i (.exc k fs) c.l=some l1 ->
    af prog w base P nm own (match eH hs with
     | some q=>chk (Nat.beq cl.kind 1) (eZ P C r 1 q.1 q.2 ⟨l1,c.d,true,c.g,c.ro,c.ce⟩ σ₁)
     | none=>(r.b hs ⟨l1,c.d,true,c.g,c.ro,c.ce⟩ σ₁).calm fun fl s=>match fl.1 with
      | .next=>.stuck
      | f=>.ok (f,bc fl.2 i none) s) rel ρ xs Q E s->G')->G')->G):G:=by
 refine ai (bA gd) fun hok gd=>?_
 have hhc:=Bool.or_eq_false_iff.mp (iM (aD hok))
 refine k hhc.1 hhc.2 (aD (al hok)) (al (al hok)) (fun e=>?_) (fun v σ₁ e=>?_) fun k fs σ₁ e G' g'=>?_
 ·rw [e] at gd; exact gd
 ·rw [e] at gd; exact gd
 ·rw [e] at gd
  refine ai (bA gd) fun hg gd=>?_
  refine ae (bp gd) fun j hj gd=>?_
  refine ae (bp gd) fun cl hcl gd=>?_
  refine ai (bA gd) fun hup gd=>?_
  refine ae (bp gd) fun l1 hb gd=>?_
  exact g' j cl l1 hg (pN hj) hcl (aD hup) (A5 (al hup)) hb gd
end
theorem zD (W:aY prog w base P nm C mg mb) (FA:fm prog w base P nm C) {n:Nat} (hE:df prog w base P nm (run P C n)) (hB:iS prog w base P nm (run P C n)) {c:Ctx} {t:MT} {x:ME} {ap gp hp p:Pos} {g i:Nat} {hs rest:bL} (ht:1<=s.toks)
  (F:ck nm ev vn vars c.g c.ro c.ce xs) (O:cV A (ev :: fes) c.d c.hm) (I:aG prog w P nm base σ ρ xs s.heap) (R:aH P nm ev (ev :: fes) vars own xs s.heap ρ c.l) {Q:PySem.Flow->Shared->Prop}
  (gd:af prog w base P nm own ((step P C (run P C n)).b (.cons (.tryx t x ap g gp i hs hp p) rest) c σ) (d9 P nm ev (ev :: fes) vars own xs) ρ xs (T1 Q) (T1 E) s) :
  wpAny (model prog w) A (execs ((bL.cons (.tryx t x ap g gp i hs hp p) rest).toS nm vn) ev) Q E s:=by
 refine wpAny_with_toks ht ?_
 show wpAny (model prog w) A (execs ((MS.tryx t x ap g gp i hs hp p).toS nm vn :: rest.toS nm vn) ev) (T1 Q) (T1 E) s
 have more:∀ {l:Loc} {σ₁:St} {h₁:Heap} {tk₁:Nat} {aa:List Addr} {Q:PySem.Flow->Shared->Prop} {E:Value->Shared->Prop},1<=tk₁->aG prog w P nm base σ₁ aa xs h₁->aH P nm ev (ev :: fes) vars own xs h₁ aa l ->
   af prog w base P nm own ((run P C n).b rest ⟨l,c.d,c.hm,c.g,c.ro,c.ce⟩ σ₁) (d9 P nm ev (ev :: fes) vars own xs) aa xs Q E { s with heap:=h₁,toks:=tk₁ }->wpAny (model prog w) A (execs (rest.toS nm vn) ev) Q E { s with heap:=h₁,toks:=tk₁ }:=
  fun {l σ₁ h₁ tk₁ aa Q E} aq aj bM aw=>hB rest ⟨l,c.d,c.hm,c.g,c.ro,c.ce⟩ σ₁ A ev fes vn vars own xs aa _ _ _ aq F O aj bM aw.t1
 refine xn gd fun hhm hci hka hkt hns hok hex=>wpAny_execs_cons (wpAny_Try_except ?_)
 show wpAny (model prog w) A (execs [.Assign [t.toE nm vn] (x.toE nm vn) ap] ev) _ _ s
 refine wpAny_execs_cons (js (jN x _ _ ev (al hka)) (gY (aD hka) ev) (hE.tri ht F O I R hns (fun v σ₁ e y h₁ tk₁ aa S aj rv aq=>?_) fun k fs σ₁ er e h₁ tk₁ aa S aj X aq=>?_))
 ·exact (af.shift (h₁:=h₁) (t₁:=tk₁) (hok v σ₁ e) (S.mono fun b m=>A0 m)).of_bind (fun k fs σ'=>mB hkt) fun C8 aI e2 g1=>
   iR (s:={ s with heap:=h₁,toks:=tk₁ }) W hE t aq F O aj (R.stp I S) rv (.of_ok e2 fun HC aR bC aW bl bf kW aX=>wpAny_execs_nil (wpAny_execs_nil (more (h₁:=aR) (tk₁:=bC) aX bf kW (af.shift (s:={ s with heap:=h₁,toks:=tk₁ }) (h₁:=aR) (t₁:=bC) g1 bl))))
 ·refine hex k fs σ₁ er fun j cl l1 hg hj hcl hup hk1 hb gd=>?_
  refine ai (R.fr ev (.head _)) fun HC zq1=>?_; refine fL zq1 fun L HC hf HC=>?_
  refine cH (own:=[]) (s:={ s with heap:=h₁,toks:=tk₁ }) O.fr hf I.stay ⟨S,aj,X,(R.stp I S).fr⟩ fun h2 Y2 HC=>?_
  refine bN (s:={ s with heap:=h2,toks:=tk₁ }) I.stay Y2 fun h3 Y3=>?_
  show wpAny (model prog w) A (handleBy (.ref e) ev [.ExceptHandler (some (.Name (nm g) gp)) (some (nm (vn i))) (hs.toS nm vn) hp]) _ _ _
  refine wpAny_handleBy_cons (oz (s:={ s with heap:=h3,toks:=tk₁ }) W FA F Y3 hg hj hcl hk1 hup ?_) (fun q=>nomatch q)
  dsimp only
  cases hsole:eH hs with
  | some q=>
   rw [hsole] at gd
   refine ai (bA gd) fun hkk gd2=>?_
   exact uI (G:=fun hs=>codeAny (model prog w) (A.mark (some (.ref e))) (.handlers (.ref e) [.ExceptHandler none (some (nm (vn i))) (hs.toS nm vn) hp] ev) _ _) hsole fun gp' cp' p'=>xm (t₀:=s.toks) (s:={ s with heap:=h3,toks:=tk₁ }) W FA hE F (hhm▸O) aq Y3 I R hb hci hcl (A4 hkk) gd2.t1
  | none=>
   rw [hsole] at gd
   cases hs with
   | nil=>
    cases n with
    | zero=>exact gd.elim
    | succ n=>exact gd.elim
   | cons sE body=>
    refine oA (t₀:=s.toks) (s:={ s with heap:=h3,toks:=tk₁ }) W.G hB F (hhm▸O) aq Y3 I R hb hci (E:=T1 E) gd.t1 fun f s₂ hn hh=>?_
    refine wpAny_mono hh (fun HC uH h=>?_) fun HC HC x=>x
    cases f with
    | next=>exact absurd rfl hn
    | _=>exact h
section
variable {β:Type} {Q:β->Shared->Prop}
theorem xo {C:aS} {r:dv} {c:Ctx} {x:ME} {ap gp hp p:Pos} {g i:Nat} {hs rest:bL} {rel:Heap->List Addr->List Addr->Flow × Loc->β->Prop} (gd:af prog w base P nm own ((step P C r).b (.cons (.tryr x ap g gp i hs hp p) rest) c σ) rel ρ xs Q E s) {G:Prop}
  (k:c.hm=false->aQ c.ce i=false->r.e x c σ≠.stuck ->
   (∀ v σ₁,r.e x c σ = .ok v σ₁->af prog w base P nm own (.ok (.ret v,c.l) σ₁) rel ρ xs Q E s) ->
   (∀ k fs σ₁,r.e x c σ = .exc k fs σ₁->∀ {G':Prop},(∀ j cl l1,aQ c.g g=true->P.gv g = .cls j->P.cls k=some cl->aQ cl.up j=true->1<=cl.kind->bk c.ro i (.exc k fs) c.l=some l1 ->
    af prog w base P nm own ((r.b hs ⟨l1,c.d,true,c.g,c.ro,c.ce⟩ σ₁).calm fun fl s=>match fl.1 with
      | .next=>.stuck
      | f=>.ok (f,bc fl.2 i none) s) rel ρ xs Q E s->G')->G')->G):G:=by
 refine ai (bA gd) fun hok gd=>?_
 have hhc:=Bool.or_eq_false_iff.mp (iM (aD hok))
 refine k hhc.1 hhc.2 (fun e=>?_) (fun v σ₁ e=>?_) fun k fs σ₁ e G' g'=>?_
 ·rw [e] at gd; exact gd
 ·rw [e] at gd; exact gd
 ·rw [e] at gd
  refine ai (bA gd) fun hg gd=>?_
  refine ae (bp gd) fun j hj gd=>?_
  refine ae (bp gd) fun cl hcl gd=>?_
  refine ai (bA gd) fun hup gd=>?_
  refine ae (bp gd) fun l1 hb gd=>?_
  exact g' j cl l1 hg (pN hj) hcl (aD hup) (A5 (al hup)) hb gd
end
theorem xq (W:aY prog w base P nm C mg mb) (FA:fm prog w base P nm C) {n:Nat} (hE:df prog w base P nm (run P C n)) (hB:iS prog w base P nm (run P C n)) {c:Ctx} {x:ME} {ap gp hp p:Pos} {g i:Nat} {hs rest:bL} (ht:1<=s.toks)
  (F:ck nm ev vn vars c.g c.ro c.ce xs) (O:cV A (ev :: fes) c.d c.hm) (I:aG prog w P nm base σ ρ xs s.heap) (R:aH P nm ev (ev :: fes) vars own xs s.heap ρ c.l) {Q:PySem.Flow->Shared->Prop}
  (gd:af prog w base P nm own ((step P C (run P C n)).b (.cons (.tryr x ap g gp i hs hp p) rest) c σ) (d9 P nm ev (ev :: fes) vars own xs) ρ xs (T1 Q) (T1 E) s) :
  wpAny (model prog w) A (execs ((bL.cons (.tryr x ap g gp i hs hp p) rest).toS nm vn) ev) Q E s:=by
 refine wpAny_with_toks ht ?_
 show wpAny (model prog w) A (execs ((MS.tryr x ap g gp i hs hp p).toS nm vn :: rest.toS nm vn) ev) (T1 Q) (T1 E) s
 refine xo gd fun hhm hci hns hok hex=>wpAny_execs_cons (wpAny_Try_except ?_)
 show wpAny (model prog w) A (execs [.Return (some (x.toE nm vn)) ap] ev) _ _ s
 refine wpAny_execs_cons (wpAny_Return_some (hE.tri ht F O I R hns (fun v σ₁ e y h₁ tk₁ aa S aj rv aq=>?_) fun k fs σ₁ er e h₁ tk₁ aa S aj X aq=>?_))
 ·show T1 Q (.ret y) _
  exact hok v σ₁ e (.ret y) h₁ tk₁ aa (S.mono fun b m=>A0 m) aj ⟨R.stp I S,rv⟩
 ·refine hex k fs σ₁ er fun j cl l1 hg hj hcl hup hk1 hb gd=>?_
  refine ai (R.fr ev (.head _)) fun HC zq1=>?_; refine fL zq1 fun L HC hf HC=>?_
  refine cH (own:=[]) (s:={ s with heap:=h₁,toks:=tk₁ }) O.fr hf I.stay ⟨S,aj,X,(R.stp I S).fr⟩ fun h2 Y2 HC=>?_
  refine bN (s:={ s with heap:=h2,toks:=tk₁ }) I.stay Y2 fun h3 Y3=>?_
  show wpAny (model prog w) A (handleBy (.ref e) ev [.ExceptHandler (some (.Name (nm g) gp)) (some (nm (vn i))) (hs.toS nm vn) hp]) _ _ _
  refine wpAny_handleBy_cons (oz (s:={ s with heap:=h3,toks:=tk₁ }) W FA F Y3 hg hj hcl hk1 hup ?_) (fun q=>nomatch q)
  dsimp only
  cases hs with
  | nil=>
   cases n with
   | zero=>exact gd.elim
   | succ n=>exact gd.elim
  | cons sE body=>
   refine oA (t₀:=s.toks) (s:={ s with heap:=h3,toks:=tk₁ }) W.G hB F (hhm▸O) aq Y3 I R hb hci (E:=T1 E) gd.t1 fun f s₂ hn hh=>?_
   refine wpAny_mono hh (fun HC uH h=>?_) fun HC HC x=>x
   cases f with
   | next=>exact absurd rfl hn
   | _=>exact h
theorem bq.gone {I:Addr} (S:bq (own++bF) bF ρ h₀ h) (hI:h₀.get? I=none) (k:∀ b o,b≠I->h.get? b=some o->h'.get? b=some o):bq (own++bF) bF ρ h₀ h':=by
 refine ⟨⟨fun b l=>?_,fun b o hb nb=>?_⟩,S.pre,S.new,fun L o hL hLo hc hd=>?_⟩
 ·refine ay (S.keep.live b l) fun o e=>?_
  exact ⟨o,k b o (fun q=>by subst q; exact az hI l) e⟩
 ·have hbI:b≠I:=fun q=>by subst q; rw [hI] at hb; exact nS hb
  exact (S.keep.obj b o hb nb).trans rfl fun o' e'=>.inl (k b o' hbI e')
 ·have hbI:L≠I:=fun q=>by subst q; rw [hI] at hLo; exact nS hLo
  refine ae (S.ff L o hL hLo hc hd) fun o' e1 e2=>?_
  exact (ax o' (k L o' hbI e1) e2)
theorem aH.gone {I:Addr} (F:ck nm ev vn vars gs ro ce xs) (R:aH P nm ev fes vars own ([I]++xs) h ρ l) (hI:I∉xs) (ho:∀ a∈own,a∈xs) (hf:∀ e∈fes,∀ L,e.frame=some L->L∈xs) (k:∀ b o,b≠I->h.get? b=some o->h'.get? b=some o) :
  aH P nm ev fes vars own xs h' ρ l:=by
 have G:jV I (ρ++([I]++xs)) (ρ++xs) h h':=⟨fun b o ho hb=>k b o hb ho,A0 (A1 (.head _)),di fun a m=>A0 m⟩
 have ne:∀ {a},a∈xs->a≠I:=fun m q=>hI (q▸m)
 refine ae R.ns fun m hn' hm=>?_
 refine ⟨R.len,(ax m (gX k (ne F.lin) hn') (fun i v e=>?_)),fun i c e=>?_,⟨R.own.1,ho⟩,fun e he=>?_⟩
 ·refine de (hm i v e) fun c kk x h1 h2 h3=>?_
  exact (dz c kk x h1 (h2.growO G) (h3.imp id fun ⟨hk',a,ha,hcl,_⟩=>⟨hk',a,ha,bG k (ne (F.cx _ _ ha)) hcl,F.cx _ _ ha⟩))
 ·refine aV (R.un i c e) fun a cC h1 h2 h3=>?_
  exact (db a cC h1 (bG k (ne (ho a h3)) h2) h3)
 ·refine ai (R.fr e he) fun kk zq1=>?_; refine cJ zq1 fun L o h1 h2 h3 h4=>?_
  exact ⟨kk,L,o,h1,hf e he L h1,k L o (ne (hf e he L h1)) h3,h4⟩
theorem aH.stpN (R:aH P nm ev fes vars own xs h ρ l) (I:aG prog w P nm base σ ρ xs h) (S:bq ρ ρ ρ' h h') (hN:∀ a∈N,h.get? a=none):aH P nm ev fes vars own (N++xs) h' ρ' l:=by
 have hd:∀ a∈own,a∉ρ:=fun a ha hr=>I.disj hr (R.own.2 a ha)
 have G:cK ρ (ρ++xs) (ρ'++(N++xs)) ρ ρ' h h':=⟨S.keep,fun a m=>A1 m,fun a m=>by
  rcases A3 m with m | m
  ·exact (S.new a m).imp (List.mem_append_left _) id
  ·rcases A3 m with m | m
   ·exact .inr (hN a m)
   ·exact .inl (A0 m),S.pre⟩
 refine ae R.ns fun m hn hm=>?_
 refine ⟨R.len,(ax m (dX S.keep hn (hd _ R.own.1)) (fun i v e=>?_)),fun i c e'=>?_,⟨R.own.1,fun a m=>A0 (R.own.2 a m)⟩,fun e he=>?_⟩
 ·refine de (hm i v e) fun c k x h1 h2 h3=>?_
  exact (dz c k x h1 (h2.grow G) (h3.imp id fun ⟨hk,a,ha,hc,hx⟩=>⟨hk,a,ha,cW S.keep hc (fun hr=>I.disj hr hx),A0 hx⟩))
 ·refine aV (R.un i c e') fun a cC h1 h2 h3=>?_
  exact (db a cC h1 (cW S.keep h2 (hd a h3)) h3)
 ·refine ai (R.fr.stp I S e he) fun k zq1=>?_; refine aV zq1 fun L o h1 h2 h3=>?_
  exact ⟨k,L,o,h1,A0 h2,h3⟩
theorem aG.perm {ys:List Addr} (I:aG prog w P nm base σ ρ xs h) (hp:List.Perm xs ys):aG prog w P nm base σ ρ ys h:=by
 have hm:∀ a,a∈ρ++ys->a∈ρ++xs:=fun a m=>(List.Perm.mem_iff (hp.append_left ρ)).mpr m
 refine ⟨I.stay,I.len,(List.Perm.nodup_iff (hp.append_left ρ)).mp I.nd,fun a m=>I.new a (hm a m),fun j o a e1 e2=>?_⟩
 exact (I.obj j o a e1 e2).grow (mod:=[]) (ow':=ρ++ys) (fZ hm) (fun m=>(nomatch m)) fun HC e=>e
theorem dj:∀ (names:List (Str × NameKind)) (x:Str),
  (names.map fun (n,k)=>if (k == NameKind.free && ev.scope.kind == .function && ev.kindOf n == some .cell) then (n,NameKind.cell) else (n,k)).lookup x=(names.lookup x).map fun k=>if (k == NameKind.free && ev.scope.kind == .function && ev.kindOf x == some .cell) then NameKind.cell else k
 | [],_=>rfl
 | (n,k) :: r,x=>by
  have ih:=dj r x
  rw [List.map_cons]
  cases hx:x == n with
  | true=>
   have:x=n:=by simpa using hx
   subst this
   dsimp only
   split
   ·rename_i hc; simp only [List.lookup_cons,beq_self_eq_true,Option.map_some,if_pos hc]
   ·rename_i hc; simp only [List.lookup_cons,beq_self_eq_true,Option.map_some,if_neg hc]
  | false=>
   dsimp only
   split <;> (simp only [List.lookup_cons,hx]; exact ih)
structure gN (nm:Nat->Str) (ev:Env) (vars:List (Nat × Nat)) (sc:Scope) (cl:List (Str × Addr)) (vs:List (Nat × Option Nat)) (gs:List Nat):Prop where
 hk:sc.kind = .function
 cell:∀ x∈sc.names,x.2≠.cell
 names:∀ x∈sc.names,x.2 = .local->sc.names.lookup x.1=some .local
 clos:closureFor sc ev=pure cl
 loc:∀ j c,ao vs j=some (c,none)->sc.names.lookup (nm c)=some .local
 fre:∀ j c i,ao vs j=some (c,some i)->sc.names.lookup (nm c)=some .free/\(∃ k,ao vars i=some (c,k + 1))/\ev.cells.lookup (nm c)=cl.lookup (nm c)
 cls:∀ c a,cl.lookup (nm c)=some a->ev.cells.lookup (nm c)=some a
 few:vs.length<=1000
 gl:∀ g,aQ gs g=true->sc.names.lookup (nm g)=some .globalImplicit
 nd:∀ i j c k k',ao vs i=some (c,k)->ao vs j=some (c,k')->i=j
theorem et {α β:Type} {f:α->β}:∀ {l:List α} {i:Nat},ao (l.map f) i=(ao l i).map f
 | [],_=>rfl
 | _ :: _,0=>rfl
 | _ :: l,i + 1=>et (l:=l) (i:=i)
theorem gf {a b:Bool} {G:Prop} (h:(a && b)=true) (g:a=true->b=true->G):G:=g (aD h) (al h)
theorem lL (inj:∀ a b,nm a=nm b->a=b):∀ {ns:List (Nat × Nat)} {c k:Nat},find ns c=some k->(ns.map fun p=>(nm p.1,i6 p.2)).lookup (nm c)=some (i6 k)
 | p :: ns,c,k,h=>by
  have h:(match Nat.beq p.1 c with | true=>some p.2 | false=>find ns c)=some k:=h
  rw [List.map_cons,List.lookup_cons]
  cases q:Nat.beq p.1 c with
  | true=>
   rw [q] at h; replace h:=oi h; subst h
   rw [A4 q,beq_self_eq_true]
  | false=>
   rw [q] at h
   have:(nm c == nm p.1)=false:=beq_eq_false_iff_ne.mpr fun e=>by
    rw [inj _ _ e,Nat.beq_refl] at q; exact tF q
   rw [this]
   exact lL inj h
theorem gZ:∀ {ns:List (Nat × Nat)} {p:Nat × Nat},apart ns=true->p∈ns->find ns p.1=some p.2
 | q :: ns,p,h,m=>by
  show (match Nat.beq q.1 p.1 with | true=>some q.2 | false=>find ns p.1)=_
  rcases A7 m with rfl | m
  ·rw [Nat.beq_refl]
  ·have hq:Nat.beq q.1 p.1=false:=by
    cases z:Nat.beq q.1 p.1 with
    | false=>rfl
    | true=>
     have:=iw (List.mem_map.mpr (ax p m rfl):p.1∈ns.map (·.1))
     rw [<- A4 z] at this
     have h1:=aD h
     rw [this] at h1; exact fT h1
   rw [hq]
   exact gZ (al h) m
theorem j7:∀ {l:List (Nat × Nat)} {i j c k k':Nat},apart l=true->ao l i=some (c,k)->ao l j=some (c,k')->i=j
 | q :: l,0,0,_,_,_,_,_,_=>rfl
 | q :: l,0,j + 1,c,k,k',h,h1,h2=>by
  replace h1:=oi h1; subst h1
  have:=iw (List.mem_map.mpr (ax _ (aT (l:=l) (k:=j) h2) rfl):c∈l.map (·.1))
  have h1:=aD h
  rw [show ((c,k):Nat × Nat).1=c from rfl,this] at h1; exact fT h1
 | q :: l,i + 1,0,c,k,k',h,h1,h2=>(j7 (l:=q :: l) (i:=0) (j:=i + 1) h h2 h1).symm
 | q :: l,i + 1,j + 1,_,_,_,h,h1,h2=>congrArg Nat.succ (j7 (l:=l) (al h) h1 h2)
noncomputable def pP (ev:Env):List (Str × NameKind)->List (Str × Addr)->List (Str × Addr)
 | [],acc=>acc
 | p :: r,acc=>pP ev r (if p.2 == .free then (p.1,(ev.cells.lookup p.1).getD 0) :: acc else acc)
theorem j8:∀ (names:List (Str × NameKind)) (acc:List (Str × Addr)),(∀ x∈names,x.2 = .free->∃ a,ev.cells.lookup x.1=some a) ->
  (forIn names acc fun x cs=>match x with
   | (name,kind)=>if (kind == NameKind.free)=true then do
     let a <- cellOf ev name
     pure (ForInStep.yield ((name,a) :: cs))
    else pure (ForInStep.yield cs):Sem (List (Str × Addr)))=pure (pP ev names acc)
 | [],_,_=>rfl
 | (n,k) :: r,acc,h=>by
  rw [List.forIn_cons]
  have ih:=j8 r (if k == .free then (n,(ev.cells.lookup n).getD 0) :: acc else acc) fun x m=>h x (.tail _ m)
  cases hk:k == NameKind.free with
  | false=>
   rw [hk] at ih
   simp only [hk,Bool.false_eq_true,if_false,pure_bind,pP] at ih ⊢
   exact ih
  | true=>
   refine ay (h (n,k) (.head _) (by simpa using hk)) fun a ha=>?_
   rw [hk] at ih
   have hc:cellOf ev n=pure a:=by unfold cellOf; rw [ha]
   simp only [hk,if_true,pure_bind,pP,hc,ha,Option.getD_some] at ih ⊢
   exact ih
theorem qO:∀ (names:List (Str × NameKind)) (acc:List (Str × Addr)),(∀ x∈names,x.2 = .free->∃ a,ev.cells.lookup x.1=some a)->(∀ n a,acc.lookup n=some a->ev.cells.lookup n=some a) ->
  (∀ n a,(pP ev names acc).lookup n=some a->ev.cells.lookup n=some a)/\∀ n,((n,NameKind.free)∈names\/(acc.lookup n).isSome=true)->((pP ev names acc).lookup n).isSome=true
 | [],_,_,h=>⟨h,fun n q=>q.elim (fun m=>nomatch m) id⟩
 | (m,k) :: r,acc,hf,h=>by
  have ih:=qO r (if k == .free then (m,(ev.cells.lookup m).getD 0) :: acc else acc) (fun x q=>hf x (.tail _ q)) fun n a e=>by
   split at e
   ·rename_i hk
    refine ay (hf (m,k) (.head _) (by simpa using hk)) fun b hb=>?_
    rw [hb,List.lookup_cons] at e
    split at e
    ·rename_i hn; replace e:=oi e; subst e; rw [eq_of_beq hn]; exact hb
    ·exact h n a e
   ·exact h n a e
  refine ⟨ih.1,fun n q=>ih.2 n ?_⟩
  rcases q with q | q
  ·rcases A7 q with q | q
   ·cases q
    right
    rw [show (NameKind.free == NameKind.free)=true from rfl,if_pos rfl,List.lookup_cons,beq_self_eq_true]; rfl
   ·exact .inl q
  ·right
   split
   ·rw [List.lookup_cons]
    split
    ·rfl
    ·exact q
   ·exact q
theorem pQ {k:Nat} (h:i6 k = .free):Nat.ble k 1=false:=by
 match k with
 | 0=>cases h
 | 1=>cases h
 | _ + 2=>rfl
theorem gD {ns:List (Nat × Nat)} {k c:Nat} (h:fP ns k c=true):find ns c=some k:=by
 unfold fP at h
 cases q:find ns c with
 | none=>rw [q] at h; exact fT h
 | some x=>rw [q] at h; rw [A4 h]
theorem oB (inj:∀ a b,nm a=nm b->a=b) (dot:∀ a,(nm a == (".0":Str))=false) (F:ck nm ev vn vars gs ro ce xs) (R:aH P nm ev fes vars own xs h ρ l) {ns:List (Nat × Nat)} {vs:List (Nat × Option Nat)} {gs':List Nat} (hc:eW ce ns vs gs'=true):∃ cl,gN nm ev vars (cR nm ns) cl vs gs':=by
 refine gf hc fun h1 h2=>gf h1 fun hap hav=>gf h2 fun hlen h3=>gf h3 fun hgs h4=>gf h4 fun hns hvs=>?_
 have key:∀ {j c:Nat} {o:Option Nat},ao vs j=some (c,o)->(match o with | none=>fP ns 0 c | some i=>fP ns 2 c && (Nat.blt c 1000 && aQ ce (wc i c)))=true:=fun {j c o} e=>by
  have:=A6 hvs (c,o) (aT e)
  cases o <;> exact this
 have cell:∀ {j c i:Nat},ao vs j=some (c,some i)->fP ns 2 c=true/\ao vars i=some (c,1):=fun {j c i} e=>by
  have q:=key e
  refine ⟨aD q,F.cec i c ?_ (al (al q))⟩
  have:=aD (al q)
  exact A5 this
 have look:∀ {c k:Nat},find ns c=some k->(cR nm ns).names.lookup (nm c)=some (i6 k):=fun {c k} e=>by
  show List.lookup (nm c) ((Str.ofString ".0",NameKind.local) :: _)=_
  rw [List.lookup_cons,show (nm c == Str.ofString ".0")=false from dot c]
  exact lL inj e
 have mem:∀ x∈(cR nm ns).names,x=(Str.ofString ".0",NameKind.local)\/∃ p∈ns,x=(nm p.1,i6 p.2):=fun x m=>by
  rcases A7 m with m | m
  ·exact .inl m
  ·refine ae (List.mem_map.mp m) fun p hp e=>?_
   exact .inr (ax p hp e.symm)
 have free:∀ x∈(cR nm ns).names,x.2 = .free->∃ a,ev.cells.lookup x.1=some a:=fun x m hx=>by
  rcases mem x m with rfl | ⟨p,hp,rfl⟩
  ·cases hx
  ·have q:=A6 hns p hp
   rw [pQ hx,Bool.false_or] at q
   obtain ⟨⟨c,o⟩,hm,hc⟩:=List.mem_map.mp (iy q)
   have hc':c=p.1:=hc
   subst hc'
   refine ay (List.mem_iff_getElem?.mp hm) fun j hj=>?_
   rw [<- aJ] at hj
   cases o with
   | none=>
    have z:=gD (key hj)
    rw [gZ hap hp] at z
    have z:=oi z
    rw [show (nm p.1,i6 p.2).2=i6 p.2 from rfl,z] at hx
    cases hx
   | some i=>
    refine fL (R.un i _ (cell hj).2) fun a HC ha HC=>?_
    exact ⟨a,ha⟩
 refine ai (qO (cR nm ns).names [] free fun HC HC e=>nomatch e) fun c1 c2=>?_
 refine ⟨pP ev (cR nm ns).names [],⟨rfl,fun x m=>?_,fun x m hx=>?_,?_,fun j c e=>look (gD (key e)),fun j c i e=>?_,fun c a e=>c1 _ _ e,A5 hlen,fun g hg=>look (gD (A6 hgs g (iy hg))),fun i j c k k' e1 e2=>?_⟩⟩
 ·rcases mem x m with rfl | ⟨⟨c,k⟩,_,rfl⟩
  ·exact fun q=>nomatch q
  ·match k with
   | 0=>exact fun q=>nomatch q
   | 1=>exact fun q=>nomatch q
   | _ + 2=>exact fun q=>nomatch q
 ·rcases mem x m with rfl | ⟨p,hp,rfl⟩
  ·show List.lookup _ ((Str.ofString ".0",NameKind.local) :: _)=_
   rw [List.lookup_cons,beq_self_eq_true]
  ·rw [look (gZ hap hp)]; exact congrArg some hx
 ·have:=j8 (ev:=ev) (cR nm ns).names [] free
  unfold closureFor
  exact (congrArg (fun z:Sem (List (Str × Addr))=>z >>= fun s=>pure s) this).trans (pure_bind _ _)
 ·have q:=cell e
  have hl:=look (gD q.1)
  refine (cF hl ⟨0,q.2⟩ ?_)
  have hm:=c2 (nm c) (.inl (mem_of_lookup hl))
  refine ay (Option.isSome_iff_exists.mp hm) fun a ha=>?_
  rw [ha]; exact c1 _ _ ha
 ·refine j7 (l:=vs.map fun p=>(p.1,0)) (k:=0) (k':=0) (c:=c) hav ?_ ?_
  ·rw [et,e1]; rfl
  ·rw [et,e2]; rfl
noncomputable def ee (vs:List (Nat × Option Nat)):List (Nat × Nat):=vs.map fun p=>(p.1,match p.2 with | none=>0 | some _=>2)
noncomputable def kP (vs:List (Nat × Option Nat)):Nat->Nat:=fun i=>(vs.getD i (0,none)).1
theorem dK {vs:List (Nat × Option Nat)} {i c k:Nat} (e:ao (ee vs) i=some (c,k)):(k=0/\ao vs i=some (c,none))\/(k=2/\∃ j,ao vs i=some (c,some j)):=by
 unfold ee at e
 rw [et,Option.map_eq_some_iff] at e
 obtain ⟨⟨c',o⟩,h1,h2⟩:=e
 cases o with
 | none=>cases h2; exact .inl ⟨rfl,h1⟩
 | some j=>cases h2; exact .inr ⟨rfl,j,h1⟩
theorem mE:∀ {vs:List (Nat × Option Nat)} {i n c j:Nat},ao vs i=some (c,some j)->n + i∈eU n vs
 | [],_,_,_,_,e=>by exact nS e
 | p :: vs,0,n,c,j,e=>by replace e:=oi e; subst e; exact .head _
 | p :: vs,i + 1,n,c,j,e=>by
  have:=mE (vs:=vs) (i:=i) (n:=n + 1) e
  rw [show n + (i + 1)=n + 1 + i from by omega]
  show n + 1 + i∈(match p.2 with | none=>eU (n + 1) vs | some _=>n :: eU (n + 1) vs)
  cases p.2 with
  | none=>exact this
  | some _=>exact List.mem_cons_of_mem _ this
theorem uJ:∀ {vs:List (Nat × Option Nat)} {n y:Nat},y∈eU n vs->y < n + vs.length
 | [],_,_,h=>nomatch h
 | p :: vs,n,y,h=>by
  have rr:y∈eU (n + 1) vs->y < n + (vs.length + 1):=fun h=>by
   have:=uJ h
   omega
  rw [List.length_cons]
  obtain ⟨c,o⟩:=p
  cases o with
  | none=>exact rr h
  | some _=>
   rcases A7 h with rfl | h
   ·omega
   ·exact rr h
theorem uK (F:ck nm ev vn vars gs ro ce xs) {sc:Scope} {cl:List (Str × Addr)} {vs:List (Nat × Option Nat)} {gs':List Nat} (K:gN nm ev vars sc cl vs gs') {c:Addr} (hc:c∉xs) :
  ck nm (compEnvC sc cl c ev) (kP vs) (ee vs) gs' (eU 0 vs) (eU 0 vs) ([c]++xs) where
 hk:=K.hk
 glo:=F.glo
 blt:=F.blt
 vn:=fun i c k e=>by
  have:∃ o,ao vs i=some (c,o):=by
   rcases dK e with ⟨_,h⟩ | ⟨_,j,h⟩
   ·exact ⟨_,h⟩
   ·exact ⟨_,h⟩
  refine ay this fun o h=>?_; clear this
  show (vs.getD i (0,none)).1=c
  rw [aJ] at h
  rw [List.getD_eq_getElem?_getD,h]; rfl
 loc:=fun i c e=>by
  rcases dK e with ⟨_,h⟩ | ⟨q,_⟩
  ·show ((relabel sc ev).names.lookup (nm c))=some .local
   show (List.lookup (nm c) (sc.names.map _))=_
   rw [dj,K.loc i c h]; rfl
  ·cases q
 cel:=fun i c e=>by
  rcases dK e with ⟨q,_⟩ | ⟨q,_⟩ <;> cases q
 fre:=fun i c k e=>by
  rcases dK e with ⟨q,_⟩ | ⟨q,j,h⟩
  ·cases q
  ·show (List.lookup (nm c) (sc.names.map _))=_\/(List.lookup (nm c) (sc.names.map _))=_
   rw [dj,(K.fre i c j h).1]
   show some (if _ then NameKind.cell else NameKind.free)=_\/some (if _ then NameKind.cell else NameKind.free)=_
   split
   ·exact .inr rfl
   ·exact .inl rfl
 nd:=fun i j c k k' e1 e2=>by
  have:∀ {i k},ao (ee vs) i=some (c,k)->∃ o,ao vs i=some (c,o):=fun e=>by
   rcases dK e with ⟨_,h⟩ | ⟨_,j,h⟩
   ·exact ⟨_,h⟩
   ·exact ⟨_,h⟩
  refine ay (this e1) fun o h1=>?_
  refine ay (this e2) fun o' h2=>?_
  exact K.nd i j c o o' h1 h2
 gl:=fun g h=>by
  show (List.lookup (nm g) (sc.names.map _))=_
  rw [dj,K.gl g h]; rfl
 lin:=.head _
 ro:=fun i c k e=>by
  rcases dK e with ⟨q,_⟩ | ⟨q,j,h⟩
  ·cases q
  ·exact iw (by have:=mE (n:=0) h; rwa [Nat.zero_add] at this)
 ce:=fun i c k e=>by
  rcases dK e with ⟨q,_⟩ | ⟨q,j,h⟩
  ·cases q
  ·exact iw (by have:=mE (n:=0) h; rwa [Nat.zero_add] at this)
 cec:=fun i c HC e=>by
  have:=uJ (iy e)
  have:=K.few
  unfold wc at *
  omega
 cinj:=fun c c' a h1 h2=>F.cinj c c' a (K.cls _ _ h1) (K.cls _ _ h2)
 cloc:=fun c' a h (q:a=c)=>hc (by rw [<- q]; exact F.cx _ _ (K.cls _ _ h))
 cx:=fun c' a h=>A0 (F.cx _ _ (K.cls _ _ h))
set_option tactic.hygienic true in
theorem sI (F:ck nm ev vn vars gs ro ce xs) (R:aH P nm ev fes vars own xs h ρ l) {sc:Scope} {cl:List (Str × Addr)} {vs:List (Nat × Option Nat)} {gs':List Nat} (K:gN nm ev vars sc cl vs gs') {c:Addr} (k:∀ b o,h.get? b=some o->h₁.get? b=some o) (hc:h.get? c=none) {m:Str->Option Value} (hn:h₁.Ns c m) :
  aH P nm (compEnvC sc cl c ev) fes (ee vs) [c] ([c]++xs) h₁ ρ (dD vs l):=by
 have R1:=R.enter (N:=[c]) k fun a m=>by rw [A2 m]; exact hc
 refine ae R1.ns fun m0 hn0 hm0=>?_
 refine ⟨by simp [dD,ee],(ax m hn (fun i v e=>?_)),fun i c' e=>?_,⟨.head _,fun a m=>A1 m⟩,R1.fr⟩
 ·unfold dD at e
  rw [et,Option.map_eq_some_iff] at e
  refine cL fun HC kG=>?_
  obtain ⟨⟨c',o⟩,h1,h2⟩:=e
  refine kG ?_
  cases o with
  | none=>exact nS h2
  | some j=>
   dsimp only at h2
   split at h2
   ·rename_i v' hv'
    refine cL fun HC kG=>?_
    subst h2
    refine de (hm0 j v hv') fun c2 k2 x h3 h4 h5=>?_
    refine jy (K.fre i c' j h1) fun HC zq1 h7=>?_; refine ay zq1 fun k3 h6=>?_
    refine kG ?_
    rw [h6] at h3; cases h3
    refine (dz c' 2 x ?_ h4 (.inr ⟨by decide,?_⟩))
    ·unfold ee; rw [et,h1]; rfl
    ·rcases h5 with ⟨q,_⟩ | ⟨_,a,ha,hca,hax⟩
     ·cases q
     ·exact (bY a (by show cl.lookup _=_; rw [<- h7]; exact ha) hca hax)
   ·exact nS h2
 ·rcases dK e with ⟨q,_⟩ | ⟨q,_⟩ <;> cases q
theorem qP {ow:List Addr} {I:Addr} {q:eh} (hh:A.handled=none) (X:cP prog w P nm s.heap ow ρ I q) {Q:Value->Shared->Prop} (h:Q (.ref I) s):wpAny (model prog w) A (pyIter (.ref I)) Q E s:=by
 cases X with
 | tup h1=>exact wpAny_pyIter_tupleiter h1 h
 | lst h1=>exact wpAny_pyIter_listiter h1 h
 | str hT W h1=>exact (W A hh).self _ s _ _ h1 h
 | rng h1=>exact wpAny_pyIter_rangeiter h1 h
 | obj h1=>exact wpAny_pyIter_listiter h1 h
structure kZ (prog:Program) (w:World) (base:Heap) (P:cz) (nm:Nat->Str) (ev:Env) (fes:List Env) (sc:Scope) (cl:List (Str × Addr)) (vs:List (Nat × Option Nat)) (xs aa:List Addr) (h₁:Heap) (I c D:Addr) (kD:Nat) (h:Heap) (q:eh) (l:Loc) (σ:St) (ρ:List Addr):Prop where
 st:bq aa aa ρ h₁ h
 inv:aG prog w P nm base σ ρ ([I]++([c]++xs)) h
 rel:aH P nm (compEnvC sc cl c ev) fes (ee vs) [c] ([I]++([c]++xs)) h ρ l
 src:cP prog w P nm h (ρ++([I]++([c]++xs))) ρ I q
 acc:ao ρ kD=some D
theorem lN {aa:List Addr} {h₁:Heap} {sc:Scope} {cl:List (Str × Addr)} {vs:List (Nat × Option Nat)} {I c D:Addr} {kD:Nat} {q:eh} {lc:Loc}
  (hI:h₁.get? I=none) (hc:h₁.get? c=none) (Z:kZ prog w base P nm ev fes sc cl vs xs aa h₁ I c D kD h q lc σ ρ) (k:∀ b o,b≠I->h.get? b=some o->h'.get? b=some o) {t:Nat} {Q:Value->Shared->Prop}
  (hQ:∀ h'',bq aa aa ρ h₁ h''->aG prog w P nm base σ ρ xs h''->Q (.ref D) { s with heap:=h'',toks:=t }) :
  compPost (model prog w) A E none Q (.ref D) c (.ok .next) { s with heap:=h',toks:=t }:=by
 have hcI:c≠I:=fun q=>by
  have hn:=(List.nodup_append.mp Z.inv.nd).2.1
  rw [q] at hn
  simp at hn
 have S1:bq aa aa ρ h₁ h':=bq.gone (own:=[]) Z.st hI k
 refine ae Z.rel.ns fun mC hnC HC=>?_
 refine (ax mC (gX k hcI hnC) (fun h4 hs4=>?_))
 have k4:∀ b o,b≠c->h'.get? b=some o->h4.get? b=some o:=fun b o hb e=>(hs4.2 b hb).trans e
 exact hQ h4 (bq.gone (own:=[]) S1 hc k4) ((Z.inv.gone k).gone k4)
theorem uL (W:aY prog w base P nm C mg mb) (F:ck nm ev vn vars gs ro ce xs) {aa:List Addr} {h₁:Heap} (aj:aG prog w P nm base σ₁ aa xs h₁) (bM:aH P nm ev fes vars own xs h₁ aa l) {sc:Scope} {cl:List (Str × Addr)} {vs:List (Nat × Option Nat)} {I c D:Addr} {kD:Nat} {q:eh} {lc:Loc}
  (hI:h₁.get? I=none) (hc:h₁.get? c=none) (Z:kZ prog w base P nm ev fes sc cl vs xs aa h₁ I c D kD h q lc σ ρ) (k:∀ b o,b≠I->h.get? b=some o->h'.get? b=some o)
  {i:Nat} {np:Pos} {l':Loc} (hb:bk ro i (.obj kD) l=some l') {t:Nat} (ht:1<=t) {Q:PySem.Flow->Shared->Prop}
  (hQ:∀ h'' t'',1<=t''->bq (own++aa) aa ρ h₁ h''->aG prog w P nm base σ ρ xs h''->aH P nm ev fes vars own xs h'' ρ l'->Q .next { s with heap:=h'',toks:=t'' }) :
  compPost (model prog w) A E (some (PySem.assign (.Name (nm (vn i)) np) ev)) (fun HC s'=>Q .next s') (.ref D) c (.ok .next) { s with heap:=h',toks:=t }:=by
 have hcx:c∉xs:=fun m=>az hc (aj.new c (A0 m)).2
 have hIx:I∉xs:=fun m=>az hI (aj.new I (A0 m)).2
 have hco:c∉own:=fun m=>hcx (bM.own.2 c m)
 have hcI:c≠I:=fun q=>by
  have hn:=(List.nodup_append.mp Z.inv.nd).2.1
  rw [q] at hn
  simp at hn
 have Iq:aG prog w P nm base σ ρ ([c]++xs) h':=Z.inv.gone k
 have S1:bq aa aa ρ h₁ h':=bq.gone (own:=[]) Z.st hI k
 have R2:aH P nm ev fes vars own ([c]++xs) h' ρ l:=bM.stpN aj S1 fun a m=>by rw [A2 m]; exact hc
 have F':=F.push c
 refine ae Z.rel.ns fun mC hnC HC=>?_
 have hnC':h'.Ns c mC:=gX k hcI hnC
 show wpAny (model prog w) A (PySem.assign (.Name (nm (vn i)) np) ev (.ref D)) (fun HC s''=>∃ m,s''.heap.Ns c m/\∀ h',Heap.SameBut c s''.heap h'->Q .next { s'' with heap:=h' }) E _
 refine wpAny_assign_Name (iP (s:={ s with heap:=h',toks:=t }) W.G F' Iq R2 hb (.obj Z.acc) fun h3 t3 ht3 K3 S3 I3 R3=>?_)
 refine (ax mC (dX K3 hnC' hco) (fun h4 hs4=>?_))
 have k4:∀ b o,b≠c->h3.get? b=some o->h4.get? b=some o:=fun b o hb e=>(hs4.2 b hb).trans e
 have hfr:∀ e∈fes,∀ L,e.frame=some L->L∈xs:=fun e he L hL=>by
  refine ai (bM.fr e he) fun HC zq1=>?_; refine aV zq1 fun L' HC q1 q2 HC=>?_
  rw [hL] at q1; replace q1:=oi q1; subst q1; exact q2
 exact hQ h4 t3 (Nat.le_trans ht ht3) (bq.gone (((S1.mono fun b m=>A0 m:bq (own++aa) aa ρ h₁ h')).trans S3) hc k4) (I3.gone k4) (R3.gone F hcx bM.own.2 hfr k4)
theorem sJ (W:aY prog w base P nm C mg mb) (hhm:A.handled=none) (F:ck nm ev vn vars gs ro ce xs) {aa:List Addr} {h₁:Heap} {sc:Scope} {cl:List (Str × Addr)} {vs:List (Nat × Option Nat)} {gs':List Nat} (K:gN nm ev vars sc cl vs gs') {I c D:Addr} {kD:Nat} {q:eh} {lc:Loc}
  (hI:h₁.get? I=none) (hc:h₁.get? c=none) (aj:aG prog w P nm base σ₁ aa xs h₁) (Z:kZ prog w base P nm ev fes sc cl vs xs aa h₁ I c D kD s.heap q lc σ ρ) {o:Option (V × eh)} (hn:bx q σ = some o)
  {j:Nat} {tp:Pos} {QN:Option Value->Shared->Prop}
  (hnone:∀ h' t,o=none->(∀ b o,b≠I->s.heap.get? b=some o->h'.get? b=some o)->QN none { s with heap:=h',toks:=t })
  (hsome:∀ v q' x h' t,o=some (v,q')->kZ prog w base P nm ev fes sc cl vs xs aa h₁ I c D kD h' q' lc σ ρ->au P nm h' (ρ++([I]++([c]++xs))) ρ v x->QN (some x) { s with heap:=h',toks:=t }) :
  wpAny (model prog w) A (pyNext (.ref I)) QN E s:=by
 refine qI hhm Z.inv Z.src hn (fun v q' x h' t hr k lv X' rx=>?_) fun h' t hr k=>hnone h' t hr k
 have hcI:c≠I:=fun q=>by
  have hn:=(List.nodup_append.mp Z.inv.nd).2.1
  rw [q] at hn
  simp at hn
 have hff:∀ o,s.heap.get? I=some o->o.cls = .type "frame"->(∃ es ep,o.data = .dict es ep)->∃ o',h'.get? I=some o'/\o'.cls = .type "frame"/\∃ es ep,o'.data = .dict es ep:=fun o e1 e2 HC=>by
  refine ae Z.src.live fun o' e3 e4=>?_
  rw [e1] at e3; replace e3:=oi e3; subst e3; exact absurd e2 e4
 refine ai (Z.inv.ownCh (A1 (.head _)) k lv hff) fun S2 I2=>?_
 have S12:bq aa aa ρ h₁ h':=bq.more (own:=[]) (N:=[I]) Z.st (S2.mono fun b m=>by
  rcases A7 m with rfl | m
  ·exact A1 (A1 (.head _))
  ·exact A0 m) fun a m=>by rw [A2 m]; exact hI
 have Gr:cK [I] (ρ++([I]++([c]++xs))) (ρ++([I]++([c]++xs))) ρ ρ s.heap h':=⟨.of_but k lv,fun b m=>by rw [A2 m]; exact A0 (A1 (.head _)),fun HC m=>.inl m,fun HC HC e=>e⟩
 have hIx:I∉xs:=fun m=>az hI (aj.new I (A0 m)).2
 have R2:aH P nm (compEnvC sc cl c ev) fes (ee vs) [c] ([I]++([c]++xs)) h' ρ lc:=Z.rel.but (fun m=>hcI (A2 m).symm) k Gr
  (fun c' a h q=>hIx (q▸F.cx _ _ (K.cls _ _ h))) fun e he hf=>by
   refine ai (Z.rel.fr e he) fun HC zq1=>?_; refine jz zq1 fun L o q1 HC q3 q4 HC=>?_
   rw [hf] at q1; replace q1:=oi q1; subst q1
   refine ae Z.src.live fun o' e3 e4=>?_
   rw [q3] at e3; replace e3:=oi e3; subst e3; exact e4 q4
 exact hsome v q' x h' t hr ⟨S12,I2,R2,X',Z.acc⟩ rx
theorem kZ.stp {aa aW:List Addr} {h₁ aR:Heap} {sc:Scope} {cl:List (Str × Addr)} {vs:List (Nat × Option Nat)} {I c D:Addr} {kD:Nat} {q:eh} {lc lc':Loc} (hc:h₁.get? c=none) (Z:kZ prog w base P nm ev fes sc cl vs xs aa h₁ I c D kD h q lc σ ρ)
  (S:bq ([c]++ρ) ρ aW h aR) (I2:aG prog w P nm base aI aW ([I]++([c]++xs)) aR) (R2:aH P nm (compEnvC sc cl c ev) fes (ee vs) [c] ([I]++([c]++xs)) aR aW lc'):kZ prog w base P nm ev fes sc cl vs xs aa h₁ I c D kD aR q lc' aI aW:=by
 have hcI:c≠I:=fun q=>by
  have hn:=(List.nodup_append.mp Z.inv.nd).2.1
  rw [q] at hn
  simp at hn
 refine ⟨bq.more (own:=[]) (N:=[c]) Z.st (S.mono fun b m=>?_) fun a m=>by rw [A2 m]; exact hc,I2,R2,Z.src.grow (S.grow fun a m=>?_) fun m=>?_,S.pre _ _ Z.acc⟩
 ·rcases A3 m with m | m
  ·exact A1 (A1 m)
  ·exact A0 m
 ·rcases A3 m with m | m
  ·exact A0 (A0 (A1 m))
  ·exact A1 m
 ·rcases A3 m with m | m
  ·exact hcI (A2 m).symm
  ·exact Z.inv.disj m (A1 (.head _))
theorem aH.perm {ys:List Addr} (R:aH P nm ev fes vars own xs h ρ l) (hp:List.Perm xs ys):aH P nm ev fes vars own ys h ρ l:=by
 have hm:∀ a,a∈ρ++ys->a∈ρ++xs:=fun a m=>(List.Perm.mem_iff (hp.append_left ρ)).mpr m
 have hm':∀ a,a∈xs->a∈ys:=fun a m=>(List.Perm.mem_iff hp).mp m
 refine ae R.ns fun m hn hv=>?_
 refine ⟨R.len,(ax m hn (fun i v e=>?_)),R.un,⟨R.own.1,fun a m=>hm' a (R.own.2 a m)⟩,fun e he=>?_⟩
 ·refine de (hv i v e) fun c k x h1 h2 h3=>?_
  exact (dz c k x h1 (h2.grow (fZ hm)) (h3.imp id fun ⟨hk,a,ha,hc,hx⟩=>⟨hk,a,ha,hc,hm' a hx⟩))
 ·refine ai (R.fr e he) fun k zq1=>?_; refine aV zq1 fun L o h1 h2 h3=>?_
  exact ⟨k,L,o,h1,hm' L h2,h3⟩
theorem pR (F:ck nm ev vn vars gs ro ce xs) {aa:List Addr} (aj:aG prog w P nm base σ₁ aa xs h₁) (bM:aH P nm ev fes vars own xs h₁ aa l) {sc:Scope} {cl:List (Str × Addr)} {vs:List (Nat × Option Nat)} {gs':List Nat} (K:gN nm ev vars sc cl vs gs')
  {o od:Obj} (hof:o.isFreed=false) (hod:od.isFreed=false) {q:eh} (X:cP prog w P nm (h₁.push o) (aa++([h₁.objs.size]++xs)) aa h₁.objs.size q) {oD:O}
  (hO:gL prog w P nm ((h₁.push o).push od) ((aa++[(h₁.push o).objs.size])++([h₁.objs.size]++xs)) (aa++[(h₁.push o).objs.size]) (h₁.push o).objs.size none oD) {cO:Heap} {m:Str->Option Value}
  (hn:cO.Ns ((h₁.push o).push od).objs.size m) {oc:Obj} (hs:Heap.SameBut ((h₁.push o).push od).objs.size (((h₁.push o).push od).push oc) cO) :
  kZ prog w base P nm ev fes sc cl vs xs aa h₁ h₁.objs.size ((h₁.push o).push od).objs.size (h₁.push o).objs.size σ₁.length cO q (dD vs l) (σ₁++[oD]) (aa++[(h₁.push o).objs.size]):=by
 have k1:∀ b o',h₁.get? b=some o'->(h₁.push o).get? b=some o':=fun b o' e=>A8 e
 have k2:∀ b o',(h₁.push o).get? b=some o'->((h₁.push o).push od).get? b=some o':=fun b o' e=>A8 e
 have k3:∀ b o',((h₁.push o).push od).get? b=some o'->cO.get? b=some o':=fun b o' e=>(hs.2 b (Nat.ne_of_lt (Heap.lt_size e))).trans (A8 e)
 have dI:∀ a∈[h₁.objs.size],h₁.get? a=none:=fun a m=>by rw [A2 m]; exact aZ _
 have IA:=aj.push (N:=[h₁.objs.size]) k1 (by simp) fun a m=>by rw [A2 m]; exact ⟨aZ _,_,Heap.get?_push_size _ hof⟩
 have RA:=bM.enter k1 dI
 obtain ⟨SD,ID⟩:=IA.app (os:=[oD]) (new:=[(h₁.push o).objs.size]) k2 rfl (by simp) (fun a m=>by rw [A2 m]; exact ⟨aZ _,_,Heap.get?_push_size _ hod⟩) fun j o' a e1 e2=>by
  cases j with
  | succ j=>exact nS e1
  | zero=>replace e1:=oi e1; subst e1; replace e2:=oi e2; subst e2; exact hO
 have RD:=RA.stp IA SD
 have ic:=ID.push (N:=[((h₁.push o).push od).objs.size]) k3 (by simp) fun a m=>by
  rw [A2 m]
  refine fE hn fun o' HC HC e HC=>?_; clear hn
  exact ⟨aZ _,o',e⟩
 have rc:=sI (F.push h₁.objs.size) RD K k3 (aZ _) hn
 have hp:List.Perm ([((h₁.push o).push od).objs.size]++([h₁.objs.size]++xs)) ([h₁.objs.size]++([((h₁.push o).push od).objs.size]++xs)):=List.Perm.swap _ _ _
 have S1:bq aa aa (aa++[(h₁.push o).objs.size]) h₁ cO:=by
  have a1:bq aa aa aa h₁ (h₁.push o):=(aj.grown k1).1
  have a3:bq (aa++[(h₁.push o).objs.size]) (aa++[(h₁.push o).objs.size]) (aa++[(h₁.push o).objs.size]) ((h₁.push o).push od) cO:=(ID.grown k3).1
  exact (a1.transE SD).transE a3
 have G:cK [] (aa++([h₁.objs.size]++xs)) ((aa++[(h₁.push o).objs.size])++([h₁.objs.size]++([((h₁.push o).push od).objs.size]++xs))) aa (aa++[(h₁.push o).objs.size]) (h₁.push o) cO:=by
  refine ⟨bw.of_stays fun b o' e=>k3 b o' (k2 b o' e),fun HC m=>(nomatch m),fun a m=>?_,fun HC HC e=>bz e⟩
  rcases A3 m with m | m
  ·rcases A3 m with m | m
   ·exact .inl (A1 m)
   ·rw [A2 m]; exact .inr (aZ _)
  ·rcases A3 m with m | m
   ·exact .inl (A0 (A1 m))
   ·rcases A3 m with m | m
    ·rw [A2 m]
     refine .inr (Heap.get?_none_of_le ?_)
     simp only [Heap.size_push]; omega
    ·exact .inl (A0 (A0 m))
 refine ⟨S1,ic.perm hp,rc.perm hp,X.grow G fun m=>(nomatch m),?_⟩
 rw [<- aj.len,aK (Nat.le_refl _),Nat.sub_self]; rfl
theorem gg {α β:Type} {f:α->aU β} {a:β} {σ':St} {G:Prop} {o:Option α} (h:ofO o f = .ok a σ') (g:∀ x,o=some x->f x = .ok a σ'->G):G:=by
 cases o with
 | none=>cases h
 | some x=>exact g x rfl h
theorem oC {β:Type} {o:aU β} {a:β} {σ':St} {G:Prop} {b:Bool} (h:chk b o = .ok a σ') (g:b=true->o = .ok a σ'->G):G:=by
 cases b with
 | false=>cases h
 | true=>exact g rfl h
theorem d0 {α β:Type} {o:aU α} {f:α->St->aU β} {v:β} {t:St} {G:Prop} (h:o.bind f = .ok v t) (g:∀ a s,o = .ok a s->f a s = .ok v t->G):G:=by
 cases o with
 | ok a s=>exact g a s rfl h
 | exc c fs s=>cases h
 | stuck=>cases h
theorem yF {α:Type} {a b:α} {s t:St} (h:aU.ok a s = .ok b t):s=t:=by cases h; rfl
theorem df.go {r:dv} (H:df prog w base P nm r) {e:ME} {c:Ctx} (ht:1<=s.toks) (F:ck nm ev vn vars c.g c.ro c.ce xs) (O:cV A fes c.d c.hm) (I:aG prog w P nm base σ ρ xs s.heap) (R:aH P nm ev fes vars own xs s.heap ρ c.l) {x:V} (h1:r.e e c σ = .ok x σ₁) {Q:Value->Shared->Prop}
  (k:∀ y h₁ tk₁ aa,bq ρ ρ aa s.heap h₁->aG prog w P nm base σ₁ aa xs h₁->au P nm h₁ (aa++xs) aa x y->1<=tk₁->Q y { s with heap:=h₁,toks:=tk₁ }):wpAny (model prog w) A (eval (e.toE nm vn) ev) Q E s:=
 H e c σ A ev fes vn vars own xs ρ s Q E ht F O I R (by rw [h1]; exact k)
theorem fq {k k' n:Nat} (h:k=k' + 1) (l:k<=n):k'<=n:=by subst h; exact Nat.le_of_succ_le l
noncomputable def xr (Z:Heap->eh->Loc->St->List Addr->Prop) (rr:Nat->eh->Loc->St->Prop) (s:Shared) (k:Nat) (s':Shared):Prop:=∃ h t q lc σ ρ,s' = { s with heap:=h,toks:=t }/\1<=t/\Z h q lc σ ρ/\rr k q lc σ
theorem xr.elim {Z:Heap->eh->Loc->St->List Addr->Prop} {rr:Nat->eh->Loc->St->Prop} {k:Nat} {s':Shared} {G:Shared->Prop} (x:xr Z rr s k s') (g:∀ h t q lc σ ρ,1<=t->Z h q lc σ ρ->rr k q lc σ->G { s with heap:=h,toks:=t }):G s':=by
 obtain ⟨h,t,q,lc,σ,ρ,zq1,a,b,c⟩:=x; subst zq1
 exact g h t q lc σ ρ a b c
section
variable {aa:List Addr} {sc:Scope} {cl:List (Str × Addr)} {vs:List (Nat × Option Nat)} {gs':List Nat} {It ca D:Addr} {kD:Nat} {q:eh} {lc:Loc} {k n j d:Nat} {tp:Pos}
theorem lO (W:aY prog w base P nm C mg mb) (hh:A.handled=none) (F:ck nm ev vn vars gs ro ce xs) (K:gN nm ev vars sc cl vs gs') (hI:h₁.get? It=none) (hc:h₁.get? ca=none) (aj:aG prog w P nm base σ₁ aa xs h₁) (FC:ck nm (compEnvC sc cl ca ev) (kP vs) (ee vs) gs' (eU 0 vs) (eU 0 vs) ([It]++([ca]++xs)))
  (Z:kZ prog w base P nm ev fes sc cl vs xs aa h₁ It ca D kD s.heap q lc σ ρ) (ht:1<=s.toks) {o:Option (V × eh)} (hn:bx q σ = some o) {QN:Option Value->Shared->Prop} {G:Shared->Prop} {E':Value->Shared->Prop}
  (hR:∀ h' t,o=none->(∀ b o,b≠It->s.heap.get? b=some o->h'.get? b=some o)->1<=t->QN none { s with heap:=h',toks:=t })
  (hQ:∀ x s',wpAny (model prog w) A (PySem.assign (.Name (nm (kP vs j)) tp) (compEnvC sc cl ca ev) x) (fun HC s₂=>G s₂) E' s'->QN (some x) s')
  (hG:∀ v q',o=some (v,q')->∀ {G':Prop},(∀ l',bk (eU 0 vs) j v lc=some l'->(∀ h' t,kZ prog w base P nm ev fes sc cl vs xs aa h₁ It ca D kD h' q' l' σ ρ->1<=t->G { s with heap:=h',toks:=t })->G')->G') :
  wpAny (model prog w) A (pyNext (.ref It)) QN E s:=
 wpAny_with_toks ht (sJ (j:=j) (tp:=tp) W hh F K hI hc aj Z hn (fun h' t a b c=>hR h' t a b c) fun v q' x h5 t5 hr Z5 rx ht5=>
  hQ x _ (wpAny_assign_Name (hG v q' hr fun HC hb g=>dJ (s:={ s with heap:=h5,toks:=t5 }) W.G FC Z5.inv Z5.rel hb rx fun h6 t6 ht6 S6 I6 R6=>g h6 t6 (Z5.stp hc S6 I6 R6) (Nat.le_trans ht5 ht6))))
theorem lP {r:dv} {v:V} {c:Ctx} {β:Type} {f:Loc->St->aU β} {b:β} {G:Prop} (h:(assign C r (.name j tp) v c σ).bind f = .ok b aI) (g:∀ l,bk c.ro j v c.l=some l->f l σ = .ok b aI->G):G:=
 d0 h fun HC HC e h=>gg e fun l' hb e=>g l' hb (by cases e; exact h)
theorem xt {elt:ME} {t:MT} {fs:bP} {kk:Nat} {c:Ctx} {G:Prop} (h:(run P C k).lc elt t fs q kk c σ = .ok () aI) (g:∀ k',k=k' + 1->(run P C (k' + 1)).lc elt t fs q kk c σ = .ok () aI->G):G:=by
 cases k with
 | zero=>cases h
 | succ k=>exact g k rfl h
theorem xu {elt:ME} {ifs:bP} {kk:Nat} {c:Ctx} (h:(run P C k).lc elt (.name j tp) ifs q kk c σ = .ok () aI) {G:Prop} (g:∀ k' o,k=k' + 1->bx q σ = some o->(o=none->σ = aI)->(∀ v q',o=some (v,q')->∀ {G':Prop},(∀ l,bk c.ro j v c.l=some l->∀ b fD,
  tv (run P C k') .And ifs ⟨l,c.d,c.hm,c.g,c.ro,c.ce⟩ σ = .ok b fD->(b=false->(run P C k').lc elt (.name j tp) ifs q' kk ⟨l,c.d,c.hm,c.g,c.ro,c.ce⟩ fD = .ok () aI)->(b=true->∀ {G'':Prop},(∀ dU y zs,
  (run P C k').e elt ⟨l,c.d,c.hm,c.g,c.ro,c.ce⟩ fD = .ok y dU->jk (ao dU kk)=some zs->Nat.ble zs.length aP=true->(run P C k').lc elt (.name j tp) ifs q' kk ⟨l,c.d,c.hm,c.g,c.ro,c.ce⟩ (bc dU kk (.list (zs++[y]))) = .ok () aI->G'')->G'')->G')->G')->G):G:=
 xt h fun k' hk h=>gg h fun o hn h=>g k' o hk hn (fun e=>yF (e▸h)) fun v q' e G' g'=>by
  subst e
  exact lP h fun l hb h=>d0 h fun b σ0 e0 h=>g' l hb b σ0 e0 (fun e=>by subst e; exact h) fun e G'' g''=>by
   subst e
   exact d0 (o:=(run P C k').e elt ⟨l,c.d,c.hm,c.g,c.ro,c.ce⟩ σ0) h fun y σ3 e3 h=>gg h fun zs hz h=>oC h fun hs h=>g'' σ3 y zs e3 hz hs h
theorem kS.go {r:dv} (H:kS prog w base P nm r) {e:ME} {c:Ctx} (ht:1<=s.toks) (F:ck nm ev vn vars c.g c.ro c.ce xs) (O:cV A fes c.d c.hm) (I:aG prog w P nm base σ ρ xs s.heap) (R:aH P nm ev fes vars own xs s.heap ρ c.l) {x:Bool} (h1:r.t e c σ = .ok x σ₁) {Q:Bool->Shared->Prop}
  (k:∀ h₁ tk₁ aa,bq ρ ρ aa s.heap h₁->aG prog w P nm base σ₁ aa xs h₁->1<=tk₁->Q x { s with heap:=h₁,toks:=tk₁ }):wpAny (model prog w) A (isTrue (e.toE nm vn) ev (eval (e.toE nm vn) ev)) Q E s:=
 H e c σ A ev fes vn vars own xs ρ s Q E ht F O I R (by rw [h1]; exact fun y h₁ tk₁ aa dQ aj e aq=>by cases e; exact k h₁ tk₁ aa dQ aj aq)
theorem uM {r:dv} (H:kS prog w base P nm r) {ifs:bP} (hf:jC ifs=true) {c:Ctx} (ht:1<=s.toks) (F:ck nm ev vn vars c.g c.ro c.ce xs) (O:cV A fes c.d c.hm) (I:aG prog w P nm base σ ρ xs s.heap) (R:aH P nm ev fes vars own xs s.heap ρ c.l) {b:Bool} (h1:tv r .And ifs c σ = .ok b σ₁) {Q:Bool->Shared->Prop}
  (k:∀ h₁ tk₁ aa,bq ρ ρ aa s.heap h₁->aG prog w P nm base σ₁ aa xs h₁->1<=tk₁->Q b { s with heap:=h₁,toks:=tk₁ }) :
  wpAny (model prog w) A (forIn (ifs.toE nm vn) true fun c r=>if r=true then do let ok <- isTrue c ev (eval c ev); pure (ForInStep.yield ok) else pure (ForInStep.yield r)) Q E s:=by
 cases ifs with
 | nil=>cases h1; exact wpAny_pure (k s.heap s.toks ρ (bq.refl _ _ _) I ht)
 | cons e l=>
  cases l with
  | cons _ _=>exact fT hf
  | nil=>
   refine d0 h1 fun a σ' e1 h1=>?_
   show wpAny (model prog w) A (forIn [e.toE nm vn] true _) Q E s
   rw [List.forIn_cons]
   refine wpAny_bind (wpAny_bind (H.go (σ₁:=σ') ht F O I R e1 fun h₁ tk₁ aa dQ aj aq=>wpAny_pure ?_))
   have:σ' = σ₁/\a=b:=by
    cases a <;> cases h1 <;> exact ⟨rfl,rfl⟩
   refine ai this fun zq1 zq2=>?_; clear this; subst zq1; subst zq2
   exact wpAny_pure (k h₁ tk₁ aa dQ aj aq)
theorem xv (I:aG prog w P nm base σ ρ xs s.heap) {k:Nat} {a:Addr} (hk:ao ρ k=some a) {zs:List V} (h1:ao σ k=some (.list zs)) {v:V} {y:Value} (r:au P nm s.heap (ρ++xs) ρ v y) (hs:Nat.ble zs.length aP=true) {Q:Value->Shared->Prop}
  (q:∀ h',bq ρ ρ ρ s.heap h'->aG prog w P nm base (bc σ k (.list (zs++[v]))) ρ xs h'->Q .none { s with heap:=h' }):wpAny (model prog w) A (call (.builtin "list.append") [.ref a,y]) Q E s:=
 (I.obj _ _ _ h1 hk).elim fun us hu=>wpAny_list_append_plain hu.1 (fun h8 hp8 hsb8=>
  have x8:=il (s:=s) I hk h1 (l:=zs++[v]) (vs:=us++[y]) (by rw [List.push_toArray] at hp8; exact hp8) hsb8.2 (hu.2.append (.cons r .nil))
  q h8 x8.1 x8.2) (by rw [List.size_toArray,<- hu.2.length]; exact Nat.le_trans (A5 hs) cq)
theorem pS (W:aY prog w base P nm C mg mb) (H:∀ k,k<=n->pL prog w base P nm C k) (O:cV A fes d false) (F:ck nm ev vn vars gs ro ce xs) (K:gN nm ev vars sc cl vs gs') (hI:h₁.get? It=none) (hc:h₁.get? ca=none) (aj:aG prog w P nm base σ₁ aa xs h₁) (FC:ck nm (compEnvC sc cl ca ev) (kP vs) (ee vs) gs' (eU 0 vs) (eU 0 vs) ([It]++([ca]++xs)))
  (ht:1<=s.toks) (Z:kZ prog w base P nm ev fes sc cl vs xs aa h₁ It ca D kD s.heap q lc σ ρ) {elt:ME} {ifs:bP} (hif:jC ifs=true) {iter:Expr} {cp:Pos} (h3:(run P C n).lc elt (.name j tp) ifs q kD ⟨lc,d,false,gs',eU 0 vs,eU 0 vs⟩ σ = .ok () aI) {R:Result->Shared->Prop}
  (hR:∀ h t h' q lc ρ',kZ prog w base P nm ev fes sc cl vs xs aa h₁ It ca D kD h' q lc aI ρ'->(∀ b o,b≠It->h'.get? b=some o->h.get? b=some o)->1<=t->R (.ok .next) { s with heap:=h,toks:=t }) :
  codeAny (model prog w) A (.compStart (.ListComp (elt.toE nm (kP vs)) [⟨.Name (nm (kP vs j)) tp,iter,ifs.toE nm (kP vs),0⟩] sc cp) 0 (.ref It) (.ref D) (compEnvC sc cl ca ev)) R s:=by
 have loop:=codeAny_compLoop_tests (prog:=prog) (w:=w) (A:=A) (R:=R) (elt:=elt.toE nm (kP vs)) (target:=.Name (nm (kP vs j)) tp) (iter:=iter) (ifs:=ifs.toE nm (kP vs)) (scope:=sc) (pos:=cp) (it:=.ref It) (acc:=.ref D) (env:=compEnvC sc cl ca ev)
  (xr (kZ prog w base P nm ev fes sc cl vs xs aa h₁ It ca D kD) (fun k q lc σ=>k<=n/\(run P C k).lc elt (.name j tp) ifs q kD ⟨lc,d,false,gs',eU 0 vs,eU 0 vs⟩ σ = .ok () aI) s)
  (fun k s' x=>x.elim fun h t q lc σ ρ ht Z r=>xu r.2 fun k' o hk hn h0 h1=>lO (s:={ s with heap:=h,toks:=t }) (j:=j) (tp:=tp) W (O.hd rfl) F K hI hc aj FC Z ht hn
   (fun h5 t5 e a b=>hR h5 t5 h q lc ρ (h0 e▸Z) a b) (fun HC HC h=>h) fun v q' e HC kk=>h1 v q' e fun l' hb b σ0 e0 hff htt=>kk l' hb
    fun h6 t6 Z6 ht6=>uM (s:={ s with heap:=h6,toks:=t6 }) (c:=⟨l',d,false,gs',eU 0 vs,eU 0 vs⟩) (H k' (fq hk r.1)).t hif ht6 FC O Z6.inv Z6.rel e0 fun ha ta ρa Sa Ia hta=>
     have Za:=Z6.stp hc (Sa.mono fun b m=>A0 m) Ia (Z6.rel.stp Z6.inv Sa)
     match b,hff,htt with
     | false,hff,_=>⟨k',hk▸Nat.lt_succ_self k',ha,ta,q',l',σ0,ρa,rfl,hta,Za,fq hk r.1,hff rfl⟩
     | true,_,htt=>htt rfl fun σ3 y zs e3 hz hs e4=>(H k' (fq hk r.1)).e.go (s:={ s with heap:=ha,toks:=ta }) (c:=⟨l',d,false,gs',eU 0 vs,eU 0 vs⟩) hta FC O Za.inv Za.rel e3 fun y' h7 t7 ρ7 S7 I7 ry ht7=>
      have Z7:=Za.stp hc (S7.mono fun b m=>A0 m) I7 (Za.rel.stp Za.inv S7)
      xv (s:={ s with heap:=h7,toks:=t7 }) I7 Z7.acc (gU hz) ry hs fun h8 S8 I8=>
       ⟨k',hk▸Nat.lt_succ_self k',h8,t7,q',l',_,ρ7,rfl,ht7,Z7.stp hc (S8.mono fun b m=>A0 m) I8 (Z7.rel.stp I7 S8),fq hk r.1,e4⟩)
  n ⟨s.heap,s.toks,q,lc,σ,ρ,rfl,ht,Z,Nat.le_refl n,h3⟩ (fun HC=>rfl)
 exact codeAny_compStart_list loop (qP (O.hd rfl) Z.src loop)
theorem iU (H:df prog w base P nm (run P C n)) {c:Ctx} (ht:1<=s.toks) (F:ck nm ev vn vars c.g c.ro c.ce xs) (Oo:cV A fes c.d c.hm)
  (I:aG prog w P nm base σ ρ xs s.heap) (R:aH P nm ev fes vars own xs s.heap ρ c.l) {cp:Pos} {ex tgt:Expr} {ifl:List Expr} {iter:ME} (K:gN nm ev vars sc cl vs gs') {newAcc:Sem Value} {od:Obj} {oD:O} {use:Option (Value->Sem Unit)} {Q:Value->Shared->Prop}
  (hcl:clausesOf ex=[⟨tgt,iter.toE nm vn,ifl,0⟩]) (hnew:∀ (s:Shared) (Q:Value->Shared->Prop),Q (.ref s.heap.objs.size) { s with heap:=s.heap.push od }->wpAny (model prog w) A newAcc Q E s)
  (hod:od.isFreed=false) (hO:∀ (h:Heap) ow ρ,gL prog w P nm (h.push od) ow ρ h.objs.size none oD) {x:V}
  (h1:(run P C n).e iter c σ = .ok x σ₁) (h2:fN x σ₁=some q)
  (loop:∀ {h₁:Heap} {aa ρ':List Addr} {It ca D:Addr} {s₁:Shared} {R:Result->Shared->Prop},h₁.get? It=none->h₁.get? ca=none->aG prog w P nm base σ₁ aa xs h₁->ck nm (compEnvC sc cl ca ev) (kP vs) (ee vs) gs' (eU 0 vs) (eU 0 vs) ([It]++([ca]++xs))->1<=s₁.toks ->
   kZ prog w base P nm ev fes sc cl vs xs aa h₁ It ca D σ₁.length s₁.heap q (dD vs c.l) (σ₁++[oD]) ρ'->(∀ h t h' q lc ρ',kZ prog w base P nm ev fes sc cl vs xs aa h₁ It ca D σ₁.length h' q lc aI ρ'->(∀ b o,b≠It->h'.get? b=some o->h.get? b=some o)->1<=t->R (.ok .next) { s₁ with heap:=h,toks:=t }) ->
   codeAny (model prog w) A (.compStart ex 0 (.ref It) (.ref D) (compEnvC sc cl ca ev)) R s₁)
  (fin:∀ {h₁:Heap} {aa ρ':List Addr} {It ca D:Addr} {h t h' q lc},bq ρ ρ aa s.heap h₁->h₁.get? It=none->h₁.get? ca=none->aG prog w P nm base σ₁ aa xs h₁->aH P nm ev fes vars own xs h₁ aa c.l ->
   kZ prog w base P nm ev fes sc cl vs xs aa h₁ It ca D σ₁.length h' q lc aI ρ'->(∀ b o,b≠It->h'.get? b=some o->h.get? b=some o)->1<=t->compPost (model prog w) A E use Q (.ref D) ca (.ok .next) { s with heap:=h,toks:=t }) :
  wpAny (model prog w) A (comprehension ex sc ev cp newAcc false (eval (iter.toE nm vn) ev) use) Q E s:=by
 refine wpAny_comprehension_free hcl (fun x=>lJ iter x ev) K.clos K.hk K.names
  (H.go ht F Oo I R h1 fun x' h₁ tk₁ aa dQ aj rx aq=>qJ (s:={ s with heap:=h₁,toks:=tk₁ }) aj rx h2 fun o hof X=>
   hnew _ _ (wpAny_newFunctionEnv K.cell (fun y hy=>nomatch hy) (fun cO hns hsb=>?_) K.hk))
 have hdI:h₁.get? h₁.objs.size=none:=aZ _
 have hdc:h₁.get? ((h₁.push o).push od).objs.size=none:=Heap.get?_none_of_le (by rw [Heap.size_push,Heap.size_push]; exact Nat.le_add_right _ 2)
 have FC:=(uK F K (c:=((h₁.push o).push od).objs.size) fun m=>az hdc (aj.new _ (A0 m)).2).push h₁.objs.size
 have bM:=R.stp I dQ
 exact loop (s₁:={ s with heap:=cO,toks:=tk₁ + ([]:List (Str × Value)).length }) hdI hdc aj FC (Nat.le_trans aq (Nat.le_add_right _ _)) (pR F aj bM K hof hod X (hO _ _ _) hns hsb) fun h t h' q lc ρ' Z k ht=>fin dQ hdI hdc aj bM Z k ht
end
structure uN (prog:Program) (w:World) (P:cz) (nm:Nat->Str) (vn:Nat->Nat) (sc:Scope) (newAcc:Sem Value) (od:Obj) (oD:O) (ex:Expr) (iter:ME):Prop where
 cl:∃ tgt ifl,clausesOf ex=[⟨tgt,iter.toE nm vn,ifl,0⟩]
 new:∀ (A:Around) (E:Value->Shared->Prop) (s:Shared) (Q:Value->Shared->Prop),Q (.ref s.heap.objs.size) { s with heap:=s.heap.push od }->wpAny (model prog w) A newAcc Q E s
 nf:od.isFreed=false
 rel:∀ (h:Heap) ow ρ,gL prog w P nm (h.push od) ow ρ h.objs.size none oD
 ev:∀ ev:Env,∃ cp,eval ex ev=comprehension ex sc ev cp newAcc false (eval (iter.toE nm vn) ev)/\∀ use,evalThenUse ex ev use=(do let _ <- comprehension ex sc ev cp newAcc false (eval (iter.toE nm vn) ev) (some use))
theorem sK (elt:Expr) (iter:ME) (t:Expr) (ifs:List Expr) (sc:Scope) (p:Pos):uN prog w P nm vn sc (newList []) { cls:=.type "list",dict:=none,data:=.seq ([]:List Value).toArray } (.list []) (.ListComp elt [⟨t,iter.toE nm vn,ifs,0⟩] sc p) iter:=
 ⟨(gP _ _ rfl),fun HC HC HC HC h=>wpAny_newObj_type (hd:=by size_fits) h,rfl,fun h HC HC=>(ax [] ⟨0,Heap.get?_push_size _ rfl⟩ .nil),fun HC=>(ax _ rfl (fun HC=>rfl))⟩
theorem sL (k v:Expr) (iter:ME) (t:Expr) (sc:Scope) (p:Pos):uN prog w P nm vn sc newDict { cls:=.type "dict",dict:=none,data:=.dict #[] } (.dict []) (.DictComp k v [⟨t,iter.toE nm vn,[],0⟩] sc p) iter:=
 ⟨(gP _ _ rfl),fun HC HC HC HC h=>wpAny_newObj_type (hd:=by size_fits) h,rfl,fun h HC HC=>⟨.ofI (l:=[]) (Heap.DictOf.new _) rfl .nil,fun HC=>⟨Heap.DictOf.new _,Heap.DictOf.new _⟩⟩,fun HC=>(ax _ rfl (fun HC=>rfl))⟩
theorem zE {o:Option O} {es:List (V × V)} (e:AJ o=some es):o=some (.dict es):=by
 cases o with
 | none=>exact nS e
 | some o=>cases o with
  | dict _=>replace e:=oi e; subst e; rfl
  | _=>exact nS e
theorem xx {ke ve:ME} {t:MT} {q:eh} {k kk:Nat} {c:Ctx} {G:Prop} (h:(run P C k).dc ke ve t q kk c σ = .ok () aI) (g:∀ k',k=k' + 1->(run P C (k' + 1)).dc ke ve t q kk c σ = .ok () aI->G):G:=by
 cases k with
 | zero=>cases h
 | succ k=>exact g k rfl h
theorem xA {k j kk:Nat} {tp:Pos} {q:eh} {ke ve:ME} {c:Ctx} (h:(run P C k).dc ke ve (.name j tp) q kk c σ = .ok () aI) {G:Prop} (g:∀ k' o,k=k' + 1->bx q σ = some o->(o=none->σ = aI)->(∀ v q',o=some (v,q')->∀ {G':Prop},(∀ l,bk c.ro j v c.l=some l->∀ dU y lI z es,
  (run P C k').e ke ⟨l,c.d,c.hm,c.g,c.ro,c.ce⟩ σ = .ok y dU->(run P C k').e ve ⟨l,c.d,c.hm,c.g,c.ro,c.ce⟩ dU = .ok z lI->AJ (ao lI kk)=some es->(ey y es && Nat.ble es.length aP)=true->(run P C k').dc ke ve (.name j tp) q' kk ⟨l,c.d,c.hm,c.g,c.ro,c.ce⟩ (bc lI kk (.dict (fG es y z))) = .ok () aI->G')->G')->G):G:=
 xx h fun k' hk h=>gg h fun o hn h=>g k' o hk hn (fun e=>yF (e▸h)) fun v q' e G' g'=>by
  subst e
  exact lP h fun l hb h=>d0 h fun y σ3 e3 h=>d0 h fun z σ4 e4 h=>gg h fun es hz h=>oC h fun hs h=>g' l hb σ3 y σ4 z es e3 e4 hz hs h
theorem pT {aa:List Addr} {sc:Scope} {cl:List (Str × Addr)} {vs:List (Nat × Option Nat)} {gs':List Nat} {It ca D:Addr} {kD:Nat} {q:eh} {lc:Loc} {n j d:Nat} {tp:Pos} (W:aY prog w base P nm C mg mb) (H:∀ k,k<=n->pL prog w base P nm C k) (O:cV A fes d false) (F:ck nm ev vn vars gs ro ce xs) (K:gN nm ev vars sc cl vs gs') (hI:h₁.get? It=none) (hc:h₁.get? ca=none) (aj:aG prog w P nm base σ₁ aa xs h₁) (FC:ck nm (compEnvC sc cl ca ev) (kP vs) (ee vs) gs' (eU 0 vs) (eU 0 vs) ([It]++([ca]++xs)))
  (ht:1<=s.toks) (Z:kZ prog w base P nm ev fes sc cl vs xs aa h₁ It ca D kD s.heap q lc σ ρ) {ke ve:ME} {iter:Expr} {cp:Pos} (h3:(run P C n).dc ke ve (.name j tp) q kD ⟨lc,d,false,gs',eU 0 vs,eU 0 vs⟩ σ = .ok () aI) {R:Result->Shared->Prop}
  (hR:∀ h t h' q lc ρ',kZ prog w base P nm ev fes sc cl vs xs aa h₁ It ca D kD h' q lc aI ρ'->(∀ b o,b≠It->h'.get? b=some o->h.get? b=some o)->1<=t->R (.ok .next) { s with heap:=h,toks:=t }) :
  codeAny (model prog w) A (.compStart (.DictComp (ke.toE nm (kP vs)) (ve.toE nm (kP vs)) [⟨.Name (nm (kP vs j)) tp,iter,[],0⟩] sc cp) 0 (.ref It) (.ref D) (compEnvC sc cl ca ev)) R s:=by
 have loop:=codeAny_compLoop_testsD (prog:=prog) (w:=w) (A:=A) (R:=R) (kx:=ke.toE nm (kP vs)) (vx:=ve.toE nm (kP vs)) (target:=.Name (nm (kP vs j)) tp) (iter:=iter) (ifs:=[]) (scope:=sc) (pos:=cp) (it:=.ref It) (D:=D) (env:=compEnvC sc cl ca ev)
  (xr (kZ prog w base P nm ev fes sc cl vs xs aa h₁ It ca D kD) (fun k q lc σ=>k<=n/\(run P C k).dc ke ve (.name j tp) q kD ⟨lc,d,false,gs',eU 0 vs,eU 0 vs⟩ σ = .ok () aI) s)
  (fun k s' x=>x.elim fun h t q lc σ ρ ht Z r=>xA r.2 fun k' o hk hn h0 h1=>lO (s:={ s with heap:=h,toks:=t }) (j:=j) (tp:=tp) W (O.hd rfl) F K hI hc aj FC Z ht hn
   (fun h5 t5 e a b=>hR h5 t5 h q lc ρ (h0 e▸Z) a b) (fun HC HC h=>h) fun v q' e HC kk=>h1 v q' e fun l' hb σ3 y σ4 z es e3 e4 hz hs e5=>kk l' hb
    fun h6 t6 Z6 ht6=>wpAny_pure (Eq.mpr (if_pos rfl) ((H k' (fq hk r.1)).e.go (s:={ s with heap:=h6,toks:=t6 }) ht6 FC O Z6.inv Z6.rel e3 fun y' h7 t7 ρ7 S7 I7 ry ht7=>
     have Z7:=Z6.stp hc (S7.mono fun b m=>A0 m) I7 (Z6.rel.stp Z6.inv S7)
     (H k' (fq hk r.1)).e.go (s:={ s with heap:=h7,toks:=t7 }) ht7 FC O Z7.inv Z7.rel e4 fun z' h8 t8 ρ8 S8 I8 rz ht8=>
     have Z8:=Z7.stp hc (S8.mono fun b m=>A0 m) I8 (Z7.rel.stp I7 S8)
     wpAny_with_toks ht8 (uk (s:={ s with heap:=h8,toks:=t8 }) I8 Z8.acc (zE hz) (ry.grow S8.growE) rz (aD hs) (A5 (al hs)) fun h9 t9 S9 I9 ht9=>
      ⟨k',hk▸Nat.lt_succ_self k',h9,t9,q',l',_,ρ8,rfl,ht9,Z8.stp hc (S9.mono fun b m=>A0 m) I9 (Z8.rel.stp I8 S9),fq hk r.1,e5⟩))))
  n ⟨s.heap,s.toks,q,lc,σ,ρ,rfl,ht,Z,Nat.le_refl n,h3⟩ (fun HC=>rfl)
 exact codeAny_compStart_dict loop (qP (O.hd rfl) Z.src loop)
theorem uO {α:Type} {b:Bool} {o:aU α} (h:chk b o≠.stuck) {G:Prop} (g:b=true->chk b o=o->o≠.stuck->G):G:=by
 cases b with
 | false=>exact absurd rfl h
 | true=>exact g rfl rfl h
theorem uP {α β:Type} {o:Option α} {f:α->aU β} (h:ofO o f≠.stuck) {G:Prop} (g:∀ x,o=some x->ofO o f=f x->f x≠.stuck->G):G:=by
 cases o with
 | none=>exact absurd rfl h
 | some x=>exact g x rfl rfl h
theorem jt {α β:Type} {o:aU α} {f:α->St->aU β} (h:o.calm f≠.stuck) {G:Prop} (g:∀ v s,o = .ok v s->o.calm f=f v s->f v s≠.stuck->G):G:=by
 cases o with
 | ok v s=>exact g v s rfl rfl h
 | exc _ _ _=>exact absurd rfl h
 | stuck=>exact absurd rfl h
theorem oE {t:MT} (h:hW t=true):∃ j p,t = .name j p:=by
 cases t with
 | name j p=>exact (gP j p rfl)
 | _=>exact fT h
noncomputable def Bl (prog:Program) (w:World) (base:Heap) (P:cz) (nm:Nat->Str) (C:aS) (mg mb:Str->Option Value) (n:Nat) (e:ME) (c:Ctx) (σ₁ aI:St) (q:eh) (oD:O) (ns:List (Nat × Nat)) (vs:List (Nat × Option Nat)) (gs:List Nat) (xs:List Addr):Prop:=
 ∀ {ev:Env} {fes:List Env} {vn:Nat->Nat} {vars:List (Nat × Nat)} {cl:List (Str × Addr)} {A:Around} {h₁:Heap} {aa ρ':List Addr} {It ca D:Addr} {s₁:Shared} {R:Result->Shared->Prop},aY prog w base P nm C mg mb->(∀ k,k<=n->pL prog w base P nm C k)->cV A fes c.d false->ck nm ev vn vars c.g c.ro c.ce xs->gN nm ev vars (cR nm ns) cl vs gs ->
    h₁.get? It=none->h₁.get? ca=none->aG prog w P nm base σ₁ aa xs h₁->ck nm (compEnvC (cR nm ns) cl ca ev) (kP vs) (ee vs) gs (eU 0 vs) (eU 0 vs) ([It]++([ca]++xs))->1<=s₁.toks ->
    kZ prog w base P nm ev fes (cR nm ns) cl vs xs aa h₁ It ca D σ₁.length s₁.heap q (dD vs c.l) (σ₁++[oD]) ρ'->(∀ h t h' q lc ρ',kZ prog w base P nm ev fes (cR nm ns) cl vs xs aa h₁ It ca D σ₁.length h' q lc aI ρ'->(∀ b o,b≠It->h'.get? b=some o->h.get? b=some o)->1<=t->R (.ok .next) { s₁ with heap:=h,toks:=t }) ->
    codeAny (model prog w) A (.compStart (e.toE nm vn) 0 (.ref It) (.ref D) (compEnvC (cR nm ns) cl ca ev)) R s₁
theorem qQ {n:Nat} {c:Ctx} {e:ME} (hn:bT e=false) (hs:(step P C (run P C n)).e e c σ≠.stuck) {G:Prop}
  (k:∀ ns vs gs iter x σ₁ q aI oD,c.hm=false->eW c.ce ns vs gs=true->(run P C n).e iter c σ = .ok x σ₁->fN x σ₁=some q ->
   (∀ {vn:Nat->Nat},∃ newAcc od,uN prog w P nm vn (cR nm ns) newAcc od oD (e.toE nm vn) iter)->Bl prog w base P nm C mg mb n e c σ₁ aI q oD ns vs gs xs->(step P C (run P C n)).e e c σ = .ok (.obj σ₁.length) aI->G):G:=by
 cases e with
 | comp elt t iter ifs ns vs gs p=>
  refine uO hs fun hk e0 hs=>?_
  refine jt hs fun x σ₁ h1 e1 hs=>?_
  refine uP hs fun q h2 e2 hs=>?_
  refine jt hs fun u aI h3 e3 HC=>?_
  have hm:=iM (aD hk)
  refine eE (oE (aD (aD (al hk)))) fun j tp zq1=>?_; subst zq1
  have he:=e0.trans (e1.trans (e2.trans e3))
  rw [hm] at h3
  exact k ns vs gs iter x σ₁ q aI _ hm (al (al hk)) h1 h2 (fun {vn}=>(gP _ _ (sK (elt.toE nm (kP vs)) iter _ _ _ p))) (fun W H O F K hI hc aj FC ht Z hR=>pS W H O F K hI hc aj FC ht Z (al (aD (al hk))) h3 hR) he
 | dcomp ke ve t iter ns vs gs p=>
  refine uO hs fun hk e0 hs=>?_
  refine jt hs fun x σ₁ h1 e1 hs=>?_
  refine uP hs fun q h2 e2 hs=>?_
  refine jt hs fun u aI h3 e3 HC=>?_
  have hm:=iM (aD hk)
  refine eE (oE (aD (al hk))) fun j tp zq1=>?_; subst zq1
  have he:=e0.trans (e1.trans (e2.trans e3))
  rw [hm] at h3
  exact k ns vs gs iter x σ₁ q aI _ hm (al (al hk)) h1 h2 (fun {vn}=>(gP _ _ (sL (ke.toE nm (kP vs)) (ve.toE nm (kP vs)) iter _ _ p))) (fun W H O F K hI hc aj FC ht Z hR=>pT W H O F K hI hc aj FC ht Z h3 hR) he
 | _=>exact tF hn
theorem af.ns {α β:Type} {own:List Addr} {out:aU α} {rel:Heap->List Addr->List Addr->α->β->Prop} {Q:β->Shared->Prop} (g:af prog w base P nm own out rel ρ xs Q E s):out≠.stuck:=fun e=>by
 rw [e] at g; exact g
theorem uQ (W:aY prog w base P nm C mg mb) {n:Nat} (H:∀ k,k<=n->pL prog w base P nm C k):zA prog w base P nm C n:=by
 intro e c σ A ev fes vn vars own xs ρ s Q E ht hn F O I R g
 refine wpAny_with_toks ht ?_
 refine qQ (prog:=prog) (w:=w) (base:=base) (mg:=mg) (mb:=mb) (nm:=nm) (xs:=xs) hn g.ns fun ns vs gs iter x σ₁ q aI oD hm hck h1 h2 hs loop he=>?_
 rw [he] at g
 refine cL fun HC kG=>?_
 refine ay (oB W.G.inj W.G.dot F R hck) fun cl K=>?_
 refine eE (hs (vn:=vn)) fun newAcc od X=>?_
 refine eE X.cl fun tgt ifl hcl=>?_
 refine ae (X.ev ev) fun cp hev HC=>?_
 refine kG ?_
 rw [hev]
 exact iU (H n (Nat.le_refl n)).e ht F O I R K hcl (X.new A _) X.nf X.rel h1 h2 (loop W H (hm▸O) F K) fun dQ hI hc aj bM Z k ht=>lN hI hc Z k fun h'' S I'=>g _ h'' _ _ (dQ.transE S) I' (.obj Z.acc)
theorem uR {t:MT} {e:ME} (hn:bT e=false) (h:cM t e=true):∃ i np,t = .name i np:=by
 cases t with
 | name i p=>exact (gP i p rfl)
 | _=>cases e <;> first | exact Bool.noConfusion (show true=false from hn) | exact Bool.noConfusion (show false=true from h)
theorem pU {e:ME} (hn:bT e=false) (x:Str) (p:Pos) (ln:Nat) (ev:Env):∃ b,swapsWith (e.toE nm vn) (some (.Name x p)) ln ev=pure b:=by
 cases e <;> first | exact Bool.noConfusion (show true=false from hn) | exact ⟨_,rfl⟩
theorem uS (W:aY prog w base P nm C mg mb) {n:Nat} (H:∀ k,k<=n->pL prog w base P nm C k) {e:ME} {t:MT} {c:Ctx} {p:Pos} (ht:1<=s.toks) (hn:bT e=false) (hok:cM t e=true) (F:ck nm ev vn vars c.g c.ro c.ce xs) (O:cV A (ev :: fes) c.d c.hm)
  (I:aG prog w P nm base σ ρ xs s.heap) (R:aH P nm ev (ev :: fes) vars own xs s.heap ρ c.l) {rest:bL} {Q:PySem.Flow->Shared->Prop}
  (g:af prog w base P nm own ((step P C (run P C n)).b (.cons (.asg t e p) rest) c σ) (d9 P nm ev (ev :: fes) vars own xs) ρ xs (T1 Q) (T1 E) s):wpAny (model prog w) A (execs ((bL.cons (.asg t e p) rest).toS nm vn) ev) Q E s:=by
 replace g:af prog w base P nm own (match cM t e with
   | false=>.stuck
   | true=>((run P C n).e e c σ).bind fun v s=>(Mine.assign C (run P C n) t v c s).bind fun l s=>(run P C n).b rest ⟨l,c.d,c.hm,c.g,c.ro,c.ce⟩ s) (d9 P nm ev (ev :: fes) vars own xs) ρ xs (T1 Q) (T1 E) s:=g
 rw [hok] at g
 refine eE (uR hn hok) fun i np zq1=>?_; subst zq1
 refine wpAny_with_toks ht ?_
 show wpAny (model prog w) A (execs (.Assign [.Name (nm (vn i)) np] (e.toE nm vn) p :: rest.toS nm vn) ev) (T1 Q) (T1 E) s
 have more:∀ {l:Loc} {σ₁:St} {h₁:Heap} {tk₁:Nat} {aa:List Addr},1<=tk₁->bq (own++ρ) ρ aa s.heap h₁->aG prog w P nm base σ₁ aa xs h₁->aH P nm ev (ev :: fes) vars own xs h₁ aa l ->
   af prog w base P nm own ((run P C n).b rest ⟨l,c.d,c.hm,c.g,c.ro,c.ce⟩ σ₁) (d9 P nm ev (ev :: fes) vars own xs) ρ xs (T1 Q) (T1 E) s->wpAny (model prog w) A (execs (rest.toS nm vn) ev) (T1 Q) (T1 E) { s with heap:=h₁,toks:=tk₁ }:=
  fun {l σ₁ h₁ tk₁ aa} aq dQ aj bM aw=>(H n (Nat.le_refl n)).b rest ⟨l,c.d,c.hm,c.g,c.ro,c.ce⟩ σ₁ A ev fes vn vars own xs aa _ _ _ aq F O aj bM (af.shift aw dQ).t1
 cases n with
 | zero=>exact g.elim
 | succ n=>
 refine qQ (prog:=prog) (w:=w) (base:=base) (mg:=mg) (mb:=mb) (nm:=nm) (xs:=xs) (n:=n) (σ:=σ) (c:=c) hn (fun q=>by
  replace q:(run P C (n + 1)).e e c σ = .stuck:=q
  rw [q] at g; exact g) fun ns vs gs iter x σ₁ q aI oD hm hck h1 h2 hs loop he=>?_
 replace he:(run P C (n + 1)).e e c σ = .ok (.obj σ₁.length) aI:=he
 rw [he] at g
 refine cL fun HC kG=>?_
 obtain ⟨l',hb,g⟩:∃ l',bk c.ro i (.obj σ₁.length) c.l=some l'/\af prog w base P nm own ((run P C (n + 1)).b rest ⟨l',c.d,c.hm,c.g,c.ro,c.ce⟩ aI) (d9 P nm ev (ev :: fes) vars own xs) ρ xs (T1 Q) (T1 E) s:=by
  replace g:af prog w base P nm own ((ofO (bk c.ro i (.obj σ₁.length) c.l) fun l=>aU.ok l aI).bind fun l s=>(run P C (n + 1)).b rest ⟨l,c.d,c.hm,c.g,c.ro,c.ce⟩ s) (d9 P nm ev (ev :: fes) vars own xs) ρ xs (T1 Q) (T1 E) s:=g
  cases hb:bk c.ro i (.obj σ₁.length) c.l with
  | none=>rw [hb] at g; exact g.elim
  | some l'=>rw [hb] at g; exact (ax l' rfl g)
 refine ay (oB W.G.inj W.G.dot F R hck) fun cl K=>?_
 refine eE (hs (vn:=vn)) fun newAcc od X=>?_
 refine eE X.cl fun tgt ifl hcl=>?_
 refine ae (X.ev ev) fun cp hev hus=>?_
 have H':∀ k,k<=n->pL prog w base P nm C k:=fun k h=>H k (Nat.le_succ_of_le h)
 refine ay (pU (vn:=vn) (nm:=nm) hn (nm (vn i)) np p.line ev) fun b hsw=>?_
 refine kG ?_
 refine wpAny_execs_cons ?_
 cases b with
 | true=>
  rw [exec_Assign_Name_used _ _ _ _ hsw,hus]
  refine wpAny_bind (wpAny_standAt (wpAny_bind (wpAny_bind (wpAny_mono (iU (Q:=fun HC s'=>wpAny (model prog w) A (execs (rest.toS nm vn) ev) (T1 Q) (T1 E) s') (H' n (Nat.le_refl n)).e ht F O I R K hcl (X.new A _) X.nf X.rel h1 h2 (loop W H' (hm▸O) F K) fun dQ hI hc aj bM Z k ht=>?_) (fun HC s' hq=>wpAny_pure (wpAny_pure hq)) fun HC HC e=>e))))
  exact uL (Q:=fun HC s'=>wpAny (model prog w) A (execs (rest.toS nm vn) ev) (T1 Q) (T1 E) s') (s:=s) W F aj bM hI hc Z k hb ht fun h'' t'' ht'' S I' R'=>more ht'' ((dQ.mono fun b m=>A0 m).trans S) I' R' g
 | false=>
  refine js hsw (gY hok ev) ?_
  rw [hev]
  exact iU (H' n (Nat.le_refl n)).e ht F O I R K hcl (X.new A _) X.nf X.rel h1 h2 (loop W H' (hm▸O) F K) fun {h₁ aa ρ' It ca D h t h' q lc} dQ hI hc aj bM Z k ht=>lN hI hc Z k fun h'' S I'=>
   wpAny_assign_Name (dJ (s:={ s with heap:=h'',toks:=t }) W.G F I' (bM.stp aj S) hb (.obj Z.acc) fun h3 t3 ht3 S3 I3 R3=>more (Nat.le_trans ht ht3) (((dQ.transE S).mono fun b m=>A0 m).trans S3) I3 R3 g)
theorem pV (W:aY prog w base P nm C mg mb) (FA:fm prog w base P nm C) (n:Nat) (H:∀ k,k<=n->pL prog w base P nm C k):zz prog w base P nm C n:=by
 intro st rest c σ A ev fes vn vars own xs ρ s Q E ht hs F O I R g
 have Hn:=H n (Nat.le_refl n)
 cases st with
 | rais gl gp l cp p=>exact xk W FA Hn.e ht F O I R g
 | tryx t e ap gl gp i h hp p=>exact zD W FA Hn.e Hn.b ht F O I R g
 | tryr e ap gl gp i h hp p=>exact xq W FA Hn.e Hn.b ht F O I R g
 | asg t e p=>
  cases hk:cM t e with
  | true=>
   replace hs:(cM t e && bT e)=false:=hs
   rw [hk,Bool.true_and] at hs
   exact uS W H ht hs hk F O I R g
  | false=>
   replace g:af prog w base P nm own (match cM t e with | false=>.stuck | true=>_) (d9 P nm ev (ev :: fes) vars own xs) ρ xs (T1 Q) (T1 E) s:=g
   rw [hk] at g; exact g.elim
 | _=>exact hs.elim
theorem yG (W:aY prog w base P nm C mg mb) (FA:fm prog w base P nm C) (FC:∀ i f,P.fns i=some f->yx f=true->cy P nm base f) (hF:∀ n,sz prog w base P nm (run P C n)) (n:Nat):pL prog w base P nm C n:=
 qN W FC hF (fun n H=>⟨uQ W H,pV W FA n H⟩) n n (Nat.le_refl _)
theorem xB (S:∀ n,pC prog w base P nm (run P C n)) {C':aS} (H:∀ i f vs d v,P.fns i=some f->C'.memo i vs d=some v->(vs.all (bj 9))=true/\∃ n d' cC s',d'<=d/\(run P C n).c i vs d' false [] = .ok cC s'/\d4 s' 9 cC=some v):mr prog w base P nm C':=by
 intro i f vs d v hf hm σ A fes xs ρ s zs Q E ht O ff I rs g
 refine ai (H i f vs d v hf hm) fun hfree zq1=>?_; refine nn zq1 fun n d' cC s' hd hrun hv'=>?_
 have I0:aG prog w P nm base [] [] (ρ++xs) s.heap:=⟨I.stay,rfl,I.nd,I.new,fun j o a e=>by exact nS e⟩
 have rs':ak P nm s.heap ([]++(ρ++xs)) [] vs zs:=ii (fun HC m=>m) 9 rs hfree
 have O':cV A fes (d' + 1) false:=⟨O.fr,yA O.dep (Nat.succ_le_succ hd),yA O.un (Nat.succ_le_succ hd),O.hd⟩
 refine S n i f vs zs d' false [] A fes (ρ++xs) [] s Q E hf ht O' (fun e he=>let ⟨h0,L,o,h1,h2,h3⟩:=ff e he; ⟨h0,L,o,h1,A0 h2,h3⟩) I0 rs' ?_
 rw [hrun]
 intro x h' tk' ρ' S' I' r' _
 refine ai (I.kept S'.keep I'.stay) fun S I2=>?_
 exact g x h' tk' ρ S I2 (pD I' 9 _ _ _ r' hv')
end
end Mine
end
section
open PySem PySem.Calls PyProof.Rows PySem.W PySem.SeqAt Builtin Builtin.ObjectAttr
namespace Mine
theorem j9 {a:Addr} {m:Str->Option Value} {name:Str} {v:Value} {M:Model} {A:Around} {E:Value->Shared->Prop} {Q:Unit->Shared->Prop} {s:Shared} (hn:s.heap.Ns1 a m)
  (hQ:∀ h',h'.Ns1 a (fun x=>if x=name then some v else m x)->Heap.SameBut a s.heap h'->(∀ o,s.heap.get? a=some o->∃ o',h'.get? a=some o'/\o'.cls=o.cls)->Q () { s with heap:=h',toks:=s.toks + 1 }) :
  wpAny M A (nsSet a name v) Q E s:=fun Γ p hΓ=>by
 have lib:=Sem.wp_nsSet1 M Γ (fun e HC s'=>E e s') p s hn name v (fun HC HC s'=>s'.heap.Ns1 a (fun x=>if x=name then some v else m x)) (fun h' x HC=>x)
 refine nj hn fun o es ep ho hd hk hu hm=>?_; clear hn
 have hany:es.any (·.refKey)=false:=by
  rw [Array.any_eq_false']; intro e he; refine eE (hk e he) fun n t h=>?_; simp [DictEntry.refKey,h]
 simp only [nsSet,strHash,Sem.wp_bind',Sem.wp_cmd_ask,Sem.wp_pure',Sem.wp_cmd_mkText] at lib ⊢
 rw [Sem.wp_loadPart_of M Γ _ p { s with toks:=s.toks + 1 } (o:=o) _ ho] at lib ⊢
 simp only [hd,aRefKeyMayBeTheName_eq,aRefKeyMayBeTheNameByArray,hany,Bool.and_false,Bool.false_eq_true,if_false,Sem.wp_cmd_updatePart] at lib ⊢
 refine ⟨by rw [ho]; rfl,hQ _ lib.2 (Heap.SameBut.update ..) fun ua jJ=>?_⟩
 have hn':Heap.Ns1 _ a _:=lib.2
 refine fE hn' fun nZ HC HC fH HC=>?_; clear hn'
 refine (ax nZ fH ?_)
 rw [ho] at jJ; replace jJ:=oi jJ; subst jJ
 have hfr:∀ (h:Int) (key:Value),((Obj.putName name h key v) o).isFreed=false:=fun h key=>by
  obtain ⟨c,d,dt,sl⟩:=o
  subst hd
  simp only [Obj.putName_eq,Obj.putNameByArray]
  split <;> rfl
 rw [Heap.get?_update_self _ ho (hfr _ _)] at fH
 replace fH:=oi fH; subst fH
 obtain ⟨c,d,dt,sl⟩:=o
 subst hd
 simp only [Obj.putName_eq,Obj.putNameByArray]
 split <;> rfl
structure mF (K:Frag) (C:Addr) (names:List Str):Prop where
 cls:∃ cd,clsIn K C=some cd/\(∀ x,refuseLoop x "__setattr__" cd.mro=pure ())/\cd.mro.contains (.type "object")=true/\cd.mro.isEmpty=false/\cd.hasDict=true
 set:findIn K (.ref C) "__setattr__" = some (some (.builtin "object.__setattr__"))
 get:plainGet K C "" = true\/(findIn K (.ref C) "__getattribute__" = some (some (.builtin "BaseException.__getattribute__"))/\findIn K (.ref C) "__getattr__" = some none/\subIn K (.ref C) (.type "BaseException")=some true)
 tak:∀ n∈names,findIn K (.ref C) n=some none
noncomputable def Bm (h:Heap) (e:Addr) (m:Str->Option Value):Option Addr->Prop
 | none=>∀ n,m n=none
 | some d=>d≠e/\h.Ns1 d m/\∃ od,h.get? d=some od/\od.cls = .type "dict"
structure lQ (h:Heap) (e:Addr) (C:Addr) (ws:Array Value) (m:Str->Option Value) (o:Option Addr):Prop where
 at_:∃ ox,h.get? e=some ox/\ox.cls = .ref C/\ox.data = .fields ws/\ox.dict=o
 dict:Bm h e m o
section
variable {prog:Program} {w:World} {A:Around} {E:Value->Shared->Prop} {s:Shared} {K:Frag} {C e:Addr} {ws:Array Value} {m:Str->Option Value} {o:Option Addr} {names:List Str} {name:Str} {v:Value} {R:Result->Shared->Prop} {h:Heap} {g:Array GenState} {d:Drawn} {t:Nat} {os:OsState}
theorem Bn (X:K.In s.heap) (Y:mF K C names) (hn:name∈names) (Z:lQ s.heap e C ws m o) {ns:List Str} (hw:Within m ns) (hl:ns.length<=100) {Q:Unit->Shared->Prop}
  (hQ:∀ h' t d,s.toks<=t->lQ h' e C ws (fun x=>if x=name then some v else m x) (some d)->(o=some d\/(o=none/\s.heap.get? d=none))->(∀ b ob,b≠e->b≠d->s.heap.get? b=some ob->h'.get? b=some ob)->Q () { s with heap:=h',toks:=t }) :
  wpAny (model prog w) A (setAttr (.ref e) name v) Q E s:=by
 refine tq Y.cls fun cd hc hro hob hne hdict=>?_
 obtain ⟨⟨ox,hox,hcls,hdat,hod⟩,hd⟩:=Z
 have I:∃ od,InstAt s.heap e ox C od:=by
  cases o with
  | none=>exact ⟨none,hox,hcls,by unfold notCls; rw [hdat],by rw [hod]; trivial⟩
  | some d=>
   refine jy hd fun HC HC zq1=>?_; clear hd; refine ae zq1 fun od e1 HC=>?_
   exact ⟨some od,hox,hcls,by unfold notCls; rw [hdat],by rw [hod]; exact e1⟩
 refine ay I fun od' I=>?_
 have hf:=Y.tak name hn
 refine set_plain X I Y.set ?_
 have SF:=PySem.F.store_object
 have sub:Looks (model prog w) s.heap (isInstance (.ref e) (.type "object")) true:=I.type.andThen (looks_mroIn X (by unfold mroIn; rw [hc,Option.bind_some,if_neg (by rw [hne]; decide),hob]))
 refine codeAny_call_builtin SF.slot.plain SF.entry (@check_slot (model prog w) _ _ { s with toks:=s.toks + 1 } "object.__setattr__" "object" "__setattr__" (.ref e) [.str name s.toks,v] [] _ SF.kind SF.split sub (SF.args (.ref e) (.str name s.toks) v) ?_)
 have hm:Looks (model prog w) s.heap (mroOf (.ref C)) cd.mro:=(looks_clsIn X hc).andThen .now
 rw [osa_eq,refuse_eq]
 refine wpAny_bind (wpAny_bind (I.type.here (s:={ s with toks:=s.toks + 1 }) (wpAny_bind (hm.here (s:={ s with toks:=s.toks + 1 }) ?_))))
 rw [hro]
 refine wpAny_pure (wpAny_bind (I.type.here (s:={ s with toks:=s.toks + 1 }) (wpAny_bind ((looks_findIn X hf).here (s:={ s with toks:=s.toks + 1 }) (wpAny_bind (wpAny_pure ?_))))))
 show wpAny (model prog w) _ (storeInOwnDict (.ref e) (.ref C) (.str name s.toks) name v false) _ _ _
 have f0:lQ s.heap e C ws m o:=⟨(jA ox hox hcls hdat hod),hd⟩
 obtain ⟨oc,odi,oda,osl⟩:=ox
 dsimp only at hcls hdat hod
 subst hcls hdat hod
 refine wpAny_bind (wpAny_pure (wpAny_bind (wpAny_bind (wpAny_loadPart hox (wpAny_bind ((looks_clsIn X hc).here (s:={ s with toks:=s.toks + 1 }) ?_))))))
 rw [hdict]
 cases odi with
 | some d=>
  refine jy hd fun hde hns zq1=>?_; clear hd; refine ae zq1 fun od hod hodc=>?_
  refine wpAny_pure (a:=some d) (wpAny_bind (wpAny_pure (wpAny_bind ?_)))
  refine j9 hns fun h' hn' hs hcl=>?_
  refine de (hn'.count (Within.cons name v hw)) fun oD esD epD hoD hdD hcD=>?_
  refine wpAny_bind (wpAny_lookBehind hoD (by rw [hdD]; exact pastItsLine_dict (Nat.le_trans hcD (by rw [List.length_cons,sizeLine_eq]; omega))) (wpAny_pure ?_))
  refine ae (hcl od hod) fun od2 e2 c2=>?_
  refine hQ h' _ d (by show s.toks<=s.toks + 1 + 1; omega) ⟨(jA _ ((hs.2 e hde.symm).trans hox) rfl rfl rfl),hde,hn',od2,e2,c2.trans hodc⟩ (.inl rfl) fun b ob hb1 hb2 hb=>(hs.2 b hb2).trans hb
 | none=>
  have hxs:e≠s.heap.objs.size:=Nat.ne_of_lt (Heap.lt_size hox)
  have yH:(s.heap.push { cls:=.type "dict",data:=.dict #[] }).get? e=some { cls:=.ref C,dict:=none,data:=.fields ws,slots:=osl }:=A8 hox
  refine wpAny_bind (wpAny_alloc ?_)
  refine wpAny_bind (wpAny_update yH ?_)
  refine wpAny_pure (a:=some s.heap.objs.size) (wpAny_bind (wpAny_pure (wpAny_bind ?_)))
  have hgd:((s.heap.push { cls:=.type "dict",data:=.dict #[] }).update e fun o=>{ cls:=o.cls,dict:=some s.heap.objs.size,data:=o.data,slots:=o.slots }).get? s.heap.objs.size
    = some { cls:=.type "dict",data:=.dict #[] }:=
   (Heap.get?_update_ne _ _ _ _ hxs.symm).trans (Heap.get?_push_at rfl rfl)
  have hnd:((s.heap.push { cls:=.type "dict",data:=.dict #[] }).update e fun o=>{ cls:=o.cls,dict:=some s.heap.objs.size,data:=o.data,slots:=o.slots }).Ns s.heap.objs.size (fun HC=>none):=
   (fF _ (#[]) _ hgd rfl (fun e he=>absurd he (by simp)) (fun HC=>rfl))
  refine j9 (Heap.Ns1.of_empty hnd) fun h' hn' hs hcl=>?_
  refine de (hn'.count (Within.cons name v Within.nil)) fun oD esD epD hoD hdD hcD=>?_
  refine wpAny_bind (wpAny_lookBehind hoD (by rw [hdD]; exact pastItsLine_dict (Nat.le_trans hcD (by rw [List.length_cons,List.length_nil,sizeLine_eq]; omega))) (wpAny_pure ?_))
  refine ae (hcl _ hgd) fun od2 e2 c2=>?_
  have hx':h'.get? e=some { cls:=.ref C,dict:=some s.heap.objs.size,data:=.fields ws,slots:=osl }:=(hs.2 e hxs).trans (Heap.get?_update_self _ yH rfl)
  refine hQ h' _ s.heap.objs.size (by show s.toks<=s.toks + 1 + 1; omega) ⟨(jA _ hx' rfl rfl rfl),hxs.symm,?_,od2,e2,c2⟩ (.inr ⟨rfl,aZ _⟩) fun b ob hb1 hb2 hb=>(hs.2 b hb2).trans ((Heap.get?_update_ne _ _ _ _ hb1).trans (A8 hb))
  refine nj hn' fun o' es ep e1 e2 e3 eu e4=>?_; clear hn'
  exact ⟨o',es,ep,e1,e2,e3,eu,fun y=>by rw [e4 y]; by_cases hy:y=name <;> simp [hy,hd y]⟩
theorem Bo (X:K.In s.heap) (Y:mF K C names) (hn:name∈names) {d:Addr} (Z:lQ s.heap e C ws m (some d)) (hv:m name=some v) (hh:handedOut v=pure v) {expr:Bool} {Q:Value->Shared->Prop} (h:Q v { s with toks:=s.toks + 1 }) :
  wpAny (model prog w) A (getAttr (.ref e) name expr) Q E s:=by
 refine tq Y.cls fun cd hc hro hob hne hdict=>?_
 obtain ⟨⟨ox,hox,hcls,hdat,hod⟩,hde,hns,od,hodh,hodc⟩:=Z
 have I:InstAt s.heap e ox C (some od):=⟨hox,hcls,by unfold notCls; rw [hdat],by rw [hod]; exact hodh⟩
 refine nj hns fun o' es ep e1 e2 e3 eu e4=>?_; clear hns
 rw [hodh] at e1; replace e1:=oi e1; subst e1
 have hl:lookIn name od=some (some v):=by
  have h4:=e4 name
  rw [hv] at h4
  unfold nsFind findBy at h4
  unfold lookIn
  rw [e2]
  dsimp only
  rw [Option.map_eq_some_iff] at h4
  refine ae h4 fun en h5 h6=>?_; clear h4
  have:es.toList.find? (·.key.isStr name)=some en:=by rw [<- h5]; cases es; simp
  rw [this]
  dsimp only
  rw [h6]
 have hfo:=findObj_own (K:=K) (C:=C) (od:=od) (name:=name) (v:=v) (by unfold hasDictIn; rw [hc]; exact hdict) (Y.tak name hn) rfl hl
 have L1:=looks_find (M:=model prog w) X I hfo
 have L0:=I.type (M:=model prog w)
 rcases Y.get with g1 | ⟨g1,g2,g3⟩
 ·refine get_open X I (plainGet_of (name:="") g1).1 ?_
  obtain ⟨hh',g,dr,t,os⟩:=s
  refine wpAny_bind (wpAny_pure (wpAny_bind (L0.at (wpAny_bind (L1.at ?_)))))
  refine wpAny_pure ?_
  show wpAny _ _ (handedOut v) _ _ _
  rw [hh]; exact wpAny_pure h
 ·have LG:=looks_findIn (M:=model prog w) X g1
  have LH:=looks_hook (M:=model prog w) (mc:=.ref C) X (r:=none) (by show findIn K (.ref C) "__getattr__" = _; exact g2)
  have LB:Looks (model prog w) s.heap (isInstance (.ref e) (.type "BaseException")) true:=L0.andThen (looks_subIn X g3)
  obtain ⟨hh',g,dr,t,os⟩:=s
  refine wpAny_bind (wpAny_mkText (wpAny_holding (wpAny_bind (L0.at (wpAny_bind (LG.at ?_))))))
  dsimp only
  rw [show (onTheHeap (Value.ref C) && Value.builtin "BaseException.__getattribute__" == Value.builtin "object.__getattribute__")=false from by rw [show (Value.builtin "BaseException.__getattribute__" == Value.builtin "object.__getattribute__")=false from by decide +kernel,Bool.and_false],if_neg (by decide)]
  refine wpAny_bind (LH.at (wpAny_bind (wpAny_attempt (wpAny_holding ?_))))
  unfold callGetattribute
  rw [show (expr && onTheHeap (Value.builtin "BaseException.__getattribute__"))=false from Bool.and_false _,if_neg (by decide)]
  unfold boundAndCalled
  rw [PySem.F.attr_Exception.ga.bind]
  refine wpAny_bind (wpAny_pure ?_)
  show wpAny _ _ (call (.builtin "BaseException.__getattribute__") [.ref e,.str name t]) _ _ _
  refine wpAny_call (codeAny_call_builtin PySem.F.attr_Exception.ga.plain PySem.F.entry_bexc_ga (@check_slot (model prog w) _ _ ⟨hh',g,dr,t + 1,os⟩ "BaseException.__getattribute__" "BaseException" "__getattribute__" (.ref e) [.str name t] [] _ (by decide +kernel) (by decide +kernel) LB (PySem.F.args_bexc_ga (.ref e) (.str name t)) ?_))
  unfold Builtin.«object.__getattribute__»
  refine wpAny_bind (wpAny_pure (wpAny_bind (wpAny_pure (wpAny_bind (L0.at (wpAny_bind (L1.at (wpAny_pure ?_))))))))
  show wpAny _ _ (handedOut v) _ _ _
  rw [hh]; exact wpAny_pure h
noncomputable def kc {α:Type} (o:Option α) (p:α->Bool):Bool:=match o with
 | some a=>p a
 | none=>false
theorem bS {α:Type} {p:α->Bool} {o:Option α} (h:kc o p=true):∃ a,o=some a/\p a=true:=by
 cases o with
 | none=>exact fT h
 | some a=>exact (ax a rfl h)
noncomputable def uT:Data->Option ClassData
 | .cls cd=>some cd
 | _=>none
theorem ju {d:Data} {cd:ClassData} (h:uT d=some cd):d = .cls cd:=by
 cases d with
 | cls _=>replace h:=oi h; subst h; rfl
 | _=>exact nS h
noncomputable def eL (K:Frag) (C:Addr):Bool:=kc (K.lookup C) fun o=>kc (uT o.data) fun cd=>!cd.abstract && (!cd.hasDel && ((o.slots.toList[4]?).join == some (.builtin "Exception.__new__") && (!cd.mro.isEmpty && (cd.mro.contains (.ref C) && (cd.mro.contains (.type "Exception") &&
   (!cd.mro.contains (.type "AttributeError") && (!cd.mro.contains (.type "NameError") && (specialIn K (.ref C) "__call__" == some (some (.builtin "type.__call__")) && instIn K (.ref C) (.type "type") == some true))))))))
theorem oF {b:Bool} (h:(!b)=true):b=false:=by cases b with | false=>rfl | true=>exact fT h
structure uU (M:Model) (h:Heap) (C:Addr):Prop where
 obj:∃ oc od cd sl,h.get? C=some ⟨oc,od,.cls cd,sl⟩/\cd.abstract=false/\cd.hasDel=false/\cd.mro.isEmpty=false
 made:Looks M h (Bind.madeBy (.ref C)) (some "Exception.__new__")
 base:Looks M h (Bind.staticBase (.ref C)) (.ref C)
 self:Looks M h (isSubtype (.ref C) (.ref C)) true
 sB:Looks M h (isSubtype (.ref C) (.type "Exception")) true
 sA:Looks M h (isSubtype (.ref C) (.type "AttributeError")) false
 sN:Looks M h (isSubtype (.ref C) (.type "NameError")) false
 call:Looks M h (specialOf (.ref C) "__call__") (some (.builtin "type.__call__"))
 typ:Looks M h (isInstance (.ref C) (.type "type")) true
theorem sM {K:Frag} {M:Model} {h:Heap} (X:K.In h) {C:Addr} (e:eL K C=true):uU M h C:=by
 refine ae (bS e) fun o ho e=>?_
 refine ae (bS e) fun cd hcd e=>?_
 have hc:clsIn K C=some cd:=by unfold clsIn; rw [ho]; cases o; rw [show data=Data.cls cd from ju hcd]
 have EE:=e
 have e4:=oF (aD (al (al (al e))))
 have e:=al (al e)
 have e3:=eq_of_beq (aD e)
 have e:=al (al e)
 have hm:Looks M h (mroOf (.ref C)) cd.mro:=(looks_clsIn X hc).andThen .now
 obtain ⟨c,l,hl⟩:∃ c l,cd.mro=c :: l:=by cases q:cd.mro with | nil=>rw [q] at e4; exact tF e4 | cons c l=>exact (gP c l rfl)
 have made:Looks M h (Bind.madeBy (.ref C)) (some "Exception.__new__"):=by
  intro A Q E s k q
  unfold Bind.madeBy
  refine wpAny_bind (hm A _ E s k ?_)
  rw [hl,List.forIn_cons]
  refine wpAny_bind (wpAny_bind (wpAny_bind (wpAny_bind (wpAny_loadPart (k _ _ (X _ _ ho)) (wpAny_pure ?_)))))
  dsimp only
  rw [<- Array.getElem?_toList,e3]
  exact wpAny_pure (wpAny_pure (wpAny_pure q))
 have sub:∀ {x:Value} {b:Bool},cd.mro.contains x=b->Looks M h (isSubtype (.ref C) x) b:=fun e=>looks_mroIn X (by unfold mroIn; rw [hc,Option.bind_some,if_neg (by rw [e4]; decide),e])
 refine ⟨⟨o.cls,o.dict,cd,o.slots,by rw [<- ju hcd]; exact X _ _ ho,oF (aD EE),oF (aD (al EE)),e4⟩,made,?_,sub (aD e),sub (aD (al e)),sub (oF (aD (al (al e)))),sub (oF (aD (al (al (al e))))),looks_specialIn X (eq_of_beq (aD (al (al (al (al e)))))),looks_instIn X (eq_of_beq (al (al (al (al (al e))))))⟩
 intro A Q E s k q
 unfold Bind.staticBase
 refine wpAny_bind (hm A _ E s k ?_)
 rw [hl,List.forIn_cons]
 exact wpAny_bind (wpAny_bind (wpAny_bind (made A _ E s k (wpAny_pure (wpAny_pure (wpAny_pure q))))))
noncomputable abbrev cT (rest:List Value):Obj:={ cls:=.type "tuple",data:=.seq rest.toArray }
noncomputable abbrev bJ (C t:Addr):Obj:={ cls:=.ref C,data:=.fields #[.ref t,.none,.none,.none,.bool false,.none] }
theorem Bp {rest:List Value} (Y:uU (model prog w) h C) (hrest:rest.length<=sizeLine)
  (hq:R (.ok (.ret (.ref (h.objs.size + 1)))) ⟨(h.push (cT rest)).push (bJ C h.objs.size),g,d,t,os⟩) :
  codeAny (model prog w) A (.call (.builtin "Exception.__new__") ⟨.ref C :: rest,[]⟩) R ⟨h,g,d,t,os⟩:=by
 refine cL fun HC kG=>?_
 obtain ⟨⟨oc,od,cd,sl,hC,e1,e2,e4⟩,made,base,self,sB,sA,sN,call,typ⟩:=Y
 refine kG ?_
 have F:=PySem.F.excBase_Exception
 refine codeAny_call_builtin_code (Code.quiet_builtin _ F.quiet) ?_
 have star:=F.noStar
 simp only [checkBuiltinCall,F.newKind,F.newSplit,F.newRow]
 repeat (first | simp only [bne_self_eq_false,Bool.false_eq_true,if_false] | lk)
 have here:Looks (model prog w) h (Bind.madeHere "BaseException.__new__" (.ref C)) ():=base.andThen (made.andThen (Looks.of_pure (by
  simp only [Option.map_some,F.canon,bne_self_eq_false,Bool.false_eq_true,if_false])))
 have hends:=F.ends
 refine PySem.codeAny_builtinAt F.entry ?_
 unfold Builtin.«BaseException.__new__»
 refine PySem.wpAt_bind ?_
 show PySem.wpAt _ _ _ (stack >>= _) _ _ _
 refine PySem.wpAt_bind (PySem.wpAt_stack fun p below=>PySem.wpAt_of_wpAny ?_)
 wp_walk
 refine PySem.wpAt_of_wpAny ?_
 rw [F.owner]
 repeat (first | simp only [bne_self_eq_false,Bool.false_eq_true,if_false] | lk)
 rw [if_neg (by rw [List.size_toArray]; omega)]
 have hC1:(h.push (cT rest)).get? C=some { cls:=oc,dict:=od,data:=.cls cd,slots:=sl }:=A8 hC
 have hC2:((h.push (cT rest)).push (bJ C h.objs.size)).get? C=some { cls:=oc,dict:=od,data:=.cls cd,slots:=sl }:=A8 hC1
 repeat (first | simp only [e2,Bool.false_eq_true,if_false] | lk)
 show R _ _
 rw [Heap.size_push]
 exact hq
theorem uV {E:Value->Shared->Prop} {Q:Value->Shared->Prop} {rest:List Value} {fI:Addr} (X:K.In h) (e:eL K C=true) (hi:findIn K (.ref C) "__init__" = some (some (.ref fI))) (hf:typeIn K (.ref fI)=some (.type "function")) (hrest:rest.length<=sizeLine)
  (hq:codeAny (model prog w) (A.under (.builtin "type.__call__" ⟨.ref C :: rest,[]⟩)) (.call (.ref fI) ⟨.ref (h.objs.size + 1) :: rest,[]⟩) (fun r s'=>match r with | .ok (.ret v)=>v = .none/\Q (.ref (h.objs.size + 1)) s' | .ok _=>False | .error e=>E e s') ⟨(h.push (cT rest)).push (bJ C h.objs.size),g,d,t,os⟩) :
  wpAny (model prog w) A (PySem.call (.ref C) rest) Q E ⟨h,g,d,t,os⟩:=by
 have Y:=sM (M:=model prog w) X e
 have Y':=Y
 obtain ⟨⟨oc,od,cd,sl,hC,e1,e2,e4⟩,made,base,self,sB,sA,sN,call,typ⟩:=Y
 refine wpAny_call (codeAny_of_tree ?_)
 show wpAny _ _ (callAny (.ref C) _) _ _ _
 refine nd_load hC ?_
 show wpAny _ _ (callAny.viaDunder (.ref C) _) _ _ _
 unfold callAny.viaDunder
 refine wpAny_bind (call.at ?_)
 dsimp only
 rw [tc_bind]
 refine wpAny_bind (wpAny_pure (wpAny_bind (wpAny_pure ?_)))
 refine wpAny_pure (a:=PySem.Fin.again (.call (.builtin "type.__call__") ⟨.ref C :: rest,[]⟩)) (And.intro rfl ?_)
 refine PySem.codeAny_call_builtin_at (Code.quiet_builtin _ (by decide +kernel)) PySem.entry_typeCall (check_slot PySem.tc_kind PySem.tc_split typ (tc_args _ _ _) ?_)
 unfold Builtin.«type.__call__»
 have hm:Looks (model prog w) h (mroOf (.ref C)) cd.mro:=((Looks.ld (part:=none) hC).andThen .now).andThen .now
 repeat (first | simp only [e4,Bool.false_eq_true,if_false] | with_reducible refine wpAny_call ?_ | lk)
 refine Bp Y' hrest ?_
 have k:∀ b o,h.get? b=some o->((h.push (cT rest)).push (bJ C h.objs.size)).get? b=some o:=fun b o e=>A8 (A8 e)
 have hx:((h.push (cT rest)).push (bJ C h.objs.size)).get? (h.objs.size + 1)=some (bJ C h.objs.size):=by heap_get
 have t1:Looks (model prog w) ((h.push (cT rest)).push (bJ C h.objs.size)) (typeOf (.ref (h.objs.size + 1))) (.ref C):=(Looks.ld hx).andThen .now
 have s1:=self.keeps k
 have i1:=(looks_findIn (M:=model prog w) X hi).keeps k
 have b1:=(bind_fn (M:=model prog w) X (.ref (h.objs.size + 1)) hf).keeps k
 unfold isInstance callSpecial? specialOf
 repeat (first | with_reducible refine wpAny_call ?_ | lk)
 refine codeAny_mono hq fun r s' z=>?_
 rcases r with e | (v | _ | _ | _) <;> first | exact z | exact z.elim | skip
 obtain ⟨rfl,z⟩:=z
 exact wpAny_pure (wpAny_pure z)
theorem zF {E:Value->Shared->Prop} {Q:Value->Shared->Prop} {rest:List Value} {e:Addr} {ox:Obj} {ws:Array Value} {t0:Addr} {s:Shared} (X:K.In s.heap) (he:s.heap.get? e=some ox) (hcls:ox.cls = .ref C) (hd:ox.data = .fields ws) (h0:ws[0]? = some (.ref t0))
  (hs:subIn K (.ref C) (.type "Exception")=some true) {cd:ClassData} (hcd:clsIn K C=some cd) (hrest:rest.length<=sizeLine)
  (hq:∀ h',(∀ b o,b≠e->s.heap.get? b=some o->h'.get? b=some o)->h'.get? e=some { ox with data:=.fields (ws.setIfInBounds 0 (.ref s.heap.objs.size)) }->Q .none { s with heap:=h' }) :
  wpAny (model prog w) A (PySem.call (.builtin "Exception.__init__") (.ref e :: rest)) Q E s:=by
 have F:=PySem.F.excCall_Exception
 have ty:Looks (model prog w) s.heap (isInstance (.ref e) (.type "Exception")) true:=((Looks.ld he).andThen (by rw [hcls]; exact .now)).andThen (looks_subIn X hs)
 have t0:Looks (model prog w) s.heap (typeOf (.ref e)) (.ref C):=(Looks.ld he).andThen (by rw [hcls]; exact .now)
 have c0:=looks_clsIn (M:=model prog w) X hcd
 refine wpAny_call (codeAny_call_builtin F.init.plain F.initEntry ?_)
 simp only [checkBuiltinCall,F.initKind,F.initSplit,F.initRow]
 refine wpAny_bind (ty.here ?_)
 simp only [Bool.not_true,Bool.false_eq_true,if_false]
 obtain ⟨hh,g,dr,tk,os⟩:=s
 have hck:∀ (a b:String) (n:Nat),Bind.check ⟨.positional,"*","Exception",.self,[⟨"args",.varPos,false⟩]⟩ a b n (List.map (fun x=>x.fst) ({ pos:=Value.ref e :: rest }:Args).kw)=pure ():=fun a b n=>PySem.check_star_args _ _ _ _ _ _
 unfold Bind.checkArgs
 repeat (first | (rw [hck]; refine wpAny_pure ?_) | lk)
 rw [if_neg (by rw [List.size_toArray]; omega)]
 have hsz:0 < ws.size:=(Array.getElem?_eq_some_iff.mp h0).1
 have uW:=Heap.get?_push_of_some (h:=hh) { cls:=.type "tuple",data:=.seq rest.toArray } he
 refine wpAny_mono (Q:=fun a s'=>a = .ref hh.objs.size/\s'=⟨hh.push { cls:=.type "tuple",data:=.seq rest.toArray },g,dr,tk,os⟩) (E:=fun HC HC=>False) ?_ (fun a s' ⟨ha,hs'⟩=>?_) fun HC HC f=>f.elim
 ·repeat lk
  exact ⟨rfl,rfl⟩
 ·subst ha hs'
  unfold Builtin.BaseException.bexcPut
  refine wpAny_bind (wpAny_bind (wpAny_field uW hd h0 (wpAny_bind (wpAny_setField uW hd hsz ?_))))
  refine wpAny_letGo (wpAny_pure (hq _ (fun b o hb e1=>?_) ?_))
  ·exact (Heap.get?_update_other _ _ (Ne.symm hb)).trans (A8 e1)
  ·refine (Heap.get?_update_self _ uW (Obj.isFreed_of_fields (Obj.data_mapFields hd _))).trans ?_
   obtain ⟨c',d',da,sl⟩:=ox
   simp only at hd; subst hd; rfl
end
end Mine
end
section
set_option backward.match.sparseCases true
open PySem PySem.Calls PyProof.Rows PySem.W PySem.SeqAt Builtin Builtin.ObjectAttr
namespace Mine
section
variable {prog:Program} {w:World} {A:Around} {E:Value->Shared->Prop} {s:Shared} {K:Frag} {base:Heap} {nm:Nat->Str} {mg mb:Str->Option Value} {ev:Env} {env:Env}
theorem oG {o:Expr} {name:Str} {apos pos:Pos} {args:List Expr} {Q:Value->Shared->Prop}
  (hbase:attributeBase o name env (eval o env)=eval o env)
  (hfew:((backTo pos (starEach args env)).all (fun x=>!x.1) && (backToKw pos (keywordEach [] env)).all (fun x=>x.1.isSome)
   && decide (args.length + ([]:List Keyword).length + (if ([]:List Keyword).isEmpty then 0 else 1) < 30))=true)
  (hline:(apos.endLine == pos.line)=true)
  (h:wpAny (model prog w) A (eval o env) (fun ov s₁=>∀ pl,wpAny (model prog w) A (getMethod ov name pl) (fun fx s₂=>wpAny (model prog w) A (callWith pos fx.1 fx.2 (backTo pos (starEach args env)) []) Q E s₂) E s₁) E s) :
  wpAny (model prog w) A (eval (.Call (.Attribute o name apos) args [] pos) env) Q E s:=by
 rw [arm_eval_Call,hbase]
 refine wpAny_bind (wpAny_mono h (fun ov s₁ h₁=>?_) fun HC HC e=>e)
 refine wpAny_bind (wpAny_standAt ?_)
 have hform:methodCallForm (args.length + ([]:List Keyword).length) (backTo pos (starEach args env)) (backToKw pos (keywordEach [] env))=true:=hfew
 have hpos:methodCallPos true o env apos pos=pure pos:=by unfold methodCallPos; simp [hline]
 unfold methodCall
 rw [hform]
 refine wpAny_bind (wpAny_holding (wpAny_mono (h₁ _) (fun fx s₂ aR=>?_) fun HC HC e=>e))
 exact wpAny_bind (wpAny_of_eq hpos aR)
theorem sP {T:String} {name:Str} {v:Value} {pl:Sem Bool} {Q:Value × List Value->Shared->Prop} (X:K.In s.heap) (ht:typeOf (.type T)=pure (.type "type")) (hs:Manifest.isStub T=false)
  (e:findCls K (.type T) (.type "type") name=some (.val v)) (hh:handedIn v=true) (h:Q (v,[]) { s with toks:=s.toks + 1 }):wpAny (model prog w) A (getMethod (.type T) name pl) Q E s:=by
 have LO:Looks (model prog w) s.heap (opaqueClassAbove (.type T)) none:=Looks.of_pure (by unfold opaqueClassAbove; dsimp only; rw [hs]; rfl)
 have L0:Looks (model prog w) s.heap (typeOf (.type T)) (.type "type"):=Looks.of_pure ht
 have hg:findIn K (.type "type") "__getattribute__" = some (some (.builtin "type.__getattribute__")):=type_tga
 unfold getMethod specialOf
 refine wpAny_bind (wpAny_bind (L0.here ((looks_findIn X hg).here ?_)))
 dsimp only
 rw [if_pos canon_tga]
 refine wpAny_bind (wpAny_mono (Q:=fun v=>Q (v,[])) (E:=E) ?_ (fun HC HC z=>wpAny_pure z) fun HC HC z=>z)
 exact cls_open X LO L0 hg (looks_hook X (r:=none) rfl) (by show subIn K _ _=_; rfl) e (wpAny_pure (by show wpAny _ _ (handedOut v) _ _ _; rw [handedOut_of hh]; exact wpAny_pure h))
structure wd (base:Heap) (nm:Nat->Str) (mg mb:Str->Option Value) (gl:List Nat) (ev:Env) (m:Str->Option Value) (h:Heap):Prop where
 hk:ev.scope.kind = .function
 glo:ev.globals=mainGlobals
 blt:ev.builtins=builtinsNs
 ns:h.Ns ev.locals m
 bg:base.Ns mainGlobals mg
 bb:base.Ns builtinsNs mb
 gl:∀ g,aQ gl g=true->ev.kindOf (nm g)=some .globalImplicit
 stay:base.StaysIn h
theorem wd.keep {gl:List Nat} {m:Str->Option Value} {h h':Heap} (F:wd base nm mg mb gl ev m h) {a:Addr} (hb:base.get? a=none) (hl:ev.locals≠a) (k:∀ b o,b≠a->h.get? b=some o->h'.get? b=some o):wd base nm mg mb gl ev m h':=
 ⟨F.hk,F.glo,F.blt,gX k hl F.ns,F.bg,F.bb,F.gl,fun b o e=>k b o (fun q=>by rw [q,hb] at e; exact nS e) (F.stay b o e)⟩
theorem iV {gl:List Nat} {m:Str->Option Value} {c:Nat} {p:Pos} {v:Value} {Q:Value->Shared->Prop} (F:wd base nm mg mb gl ev m s.heap) (hd:∀ a,(nm a == ("__debug__":Str))=false) (hl:ev.kindOf (nm c)=some .local) (hv:m (nm c)=some v) (h:Q v s):wpAny (model prog w) A (eval (.Name (nm c) p) ev) Q E s:=
 wpAny_Name (wpAny_loadName_local F.hk hl F.ns hv h) (hd c)
theorem zG {gl:List Nat} {m:Str->Option Value} {c:Nat} {p:Pos} {v:Value} {Q:Value->Shared->Prop} (F:wd base nm mg mb gl ev m s.heap) (hd:∀ a,(nm a == ("__debug__":Str))=false) (hg:aQ gl c=true) (hv:mg (nm c)=some v) (h:Q v s):wpAny (model prog w) A (eval (.Name (nm c) p) ev) Q E s:=
 Name_function_global F.hk (F.gl c hg) (loadGlobal_global (by rw [F.glo]; exact dX (mod:=[]) (bw.of_stays F.stay) F.bg fun m=>(nomatch m)) hv h) (hd c)
theorem Bq {gl:List Nat} {m:Str->Option Value} {c:Nat} {p:Pos} {v:Value} {Q:Value->Shared->Prop} (F:wd base nm mg mb gl ev m s.heap) (hd:∀ a,(nm a == ("__debug__":Str))=false) (hg:aQ gl c=true) (hv:mg (nm c)=none/\mb (nm c)=some v) (h:Q v s):wpAny (model prog w) A (eval (.Name (nm c) p) ev) Q E s:=
 Name_function_global F.hk (F.gl c hg) (loadGlobal_builtin (by rw [F.glo]; exact dX (mod:=[]) (bw.of_stays F.stay) F.bg fun m=>(nomatch m)) hv.1 (by rw [F.blt]; exact dX (mod:=[]) (bw.of_stays F.stay) F.bb fun m=>(nomatch m)) hv.2 h) (hd c)
theorem qR {P:cz} {f:bu} (FC:cy P nm base f) (hpre:f.pre=[]) (bg:base.Ns mainGlobals mg) (bb:base.Ns builtinsNs mb) (inj:∀ a b,nm a=nm b->a=b) (NL:base.NoLimit) (st:base.StaysIn s.heap) (hdep:A.depth < recursionLimit) {zs:List Value} (hz:zs.length=f.np) {R:Result->Shared->Prop}
  (h:∀ (A':Around) ev m h₀ t,s.toks<=t->A'.depth<=A.depth + 12->wd base nm mg mb f.gl ev m h₀->(∀ b o,s.heap.get? b=some o->h₀.get? b=some o)->s.heap.get? ev.locals=none->interactive ev=false->(∀ i c k z,ao f.vars i=some (c,k)->zs[i]? = some z->ev.kindOf (nm c)=some .local/\m (nm c)=some z) ->
   wpAny (model prog w) A' (execs (f.body.toS nm fun i=>(f.vars.getD i (0,0)).1) ev) (fun fl s'=>R (.ok (.ret (match fl with | .ret v=>v | _=>.none))) s') (fun HC HC=>False) { s with heap:=h₀,toks:=t }) :
  codeAny (model prog w) A (.call (.ref f.addr) ⟨zs,[]⟩) R s:=by
 refine nk FC.at_ fun o fd sts ho hdata hcls hcd hbody S hH=>?_
 have hsts:sts=[]:=by
  rcases hH with ⟨_,q⟩ | ⟨q,_⟩
  ·exact q
  ·exact absurd hpre q
 subst hsts
 refine lH (fd:=fd) (body:=f.body.toS nm fun i=>(f.vars.getD i (0,0)).1) hdep (st _ _ ho) hdata (NL.keeps st) (hcd.keeps st) hbody (S.bind zs hz) S.noclo (fun x hx=>?_) (fun h₁ hns hkp HC HC=>?_) S.co S.gen S.kind
 ·obtain ⟨n,z⟩:=x
  have:=(List.of_mem_zip hx).1
  refine ae (List.mem_map.mp this) fun p hp zq1=>?_; subst zq1
  refine ay (List.mem_iff_getElem?.mp hp) fun j hj=>?_
  have hjl:j < f.np:=Nat.lt_of_lt_of_le (List.getElem?_eq_some_iff.mp hj).1 (by rw [List.length_take]; exact Nat.min_le_left _ _)
  rw [List.getElem?_take_of_lt (show j < f.np - 0 from hjl)] at hj
  exact (S.par (k:=p.2) (by rw [aJ]; exact hj) hjl).2
 ·have F:wd base nm mg mb f.gl (callEnvC fd s.heap.objs.size f.addr) _ h₁:=⟨S.kind,S.glo,S.blt,hns,bg,bb,fun g hg=>S.gl g hg,fun b o e=>hkp b o (st b o e)⟩
  refine wpAny_mono (h (A.deeper (callEnvC fd s.heap.objs.size f.addr)) (callEnvC fd s.heap.objs.size f.addr) _ h₁ _ (Nat.le_add_right _ _) ?_ F hkp (aZ _) (by unfold interactive; rw [F.hk]; rfl) fun i c k z hi hzi=>?_) (fun HC HC x=>x) fun HC HC x=>x.elim
  ·show A.depth + 1<=_; omega
  ·have hlt:i < f.np:=by rw [<- hz]; exact (List.getElem?_eq_some_iff.mp hzi).1
   refine ⟨(S.par hi hlt).2,?_⟩
   refine jT (names:=(f.vars.take f.np).map fun p=>nm p.1) (i:=i) ?_ ?_ hzi
   ·have:(f.vars.map fun p=>nm p.1).Nodup:=gb inj S.nd
    rw [List.map_take]
    exact this.sublist (List.take_sublist _ _)
   ·rw [List.getElem?_map,List.getElem?_take,if_pos hlt,<- aJ,hi]; rfl
end
end Mine
end
section
open PySem PySem.Calls PyProof.Rows PySem.W PySem.SeqAt Builtin Builtin.ObjectAttr
namespace Mine
section
variable {prog:Program} {w:World} {A:Around} {E:Value->Shared->Prop} {s:Shared} {K:Frag} {base:Heap} {nm:Nat->Str} {mg mb m:Str->Option Value} {ev env:Env} {C e:Addr} {ws:Array Value} {o:Option Addr} {names:List Str}
theorem uX {gl:List Nat} {mL:Str->Option Value} {vn:Nat->Nat} {c0 cj ct:Nat} {p3 p4 p5 p6:Pos} {i0 ij:Nat} {x:Value} (hd:∀ a,(nm a == ("__debug__":Str))=false) (X:K.In base) (Y:mF K C names) (hn:nm ct∈names)
  (F:wd base nm mg mb gl ev mL s.heap) (Z:lQ s.heap e C ws m o) {ns:List Str} (hw:Within m ns) (hl:ns.length<=100) (v0:vn i0=c0) (vj:vn ij=cj) (h0:ev.kindOf (nm c0)=some .local/\mL (nm c0)=some (.ref e)) (hj:ev.kindOf (nm cj)=some .local/\mL (nm cj)=some x)
  {Q:PySem.Flow->Shared->Prop} (hQ:∀ h' t d,s.toks<=t->lQ h' e C ws (fun y=>if y=nm ct then some x else m y) (some d)->(o=some d\/(o=none/\s.heap.get? d=none))->(∀ b ob,b≠e->b≠d->s.heap.get? b=some ob->h'.get? b=some ob)->Q .next { s with heap:=h',toks:=t }) :
  wpAny (model prog w) A (execs ((bL.cons (.asg (.attr (.name i0 p3) ct p4) (.name ij p5) p6) .nil).toS nm vn) ev) Q E s:=by
 show wpAny (model prog w) A (execs (_ :: []) ev) Q E s
 refine wpAny_execs_cons (js (t:=.attr (.name i0 p3) ct p4) (value:=.Name (nm (vn ij)) p5) rfl rfl ?_)
 rw [vj]
 refine iV F hd hj.1 hj.2 ?_
 show wpAny (model prog w) A (do
   let ov <- holding [x] (eval (.Name (nm (vn i0)) p3) ev)
   standAt p4.atName
   holding [x,ov] (setAttr ov (nm ct) x)
   release [x,ov] []) _ _ _
 rw [v0]
 refine wpAny_bind (wpAny_holding (iV F hd h0.1 h0.2 ?_))
 refine wpAny_bind (wpAny_standAt (wpAny_bind (wpAny_holding ?_)))
 refine Bn (fun a ob h=>F.stay _ _ (X a ob h)) Y hn Z hw hl fun h' t d ht Z' hd' k=>wpAny_release' (wpAny_execs_nil ?_)
 exact hQ h' t d ht Z' hd' k
theorem zH {P:cz} {f:bu} (FC:cy P nm base f) (hpre:f.pre=[]) (bg:base.Ns mainGlobals mg) (bb:base.Ns builtinsNs mb) (inj:∀ a b,nm a=nm b->a=b) (hd:∀ a,(nm a == ("__debug__":Str))=false) (NL:base.NoLimit) (X:K.In base) (st:base.StaysIn s.heap) (hdep:A.depth < recursionLimit)
  {g0 ci ct c0 c1:Nat} {gp ap p0 p1 cp sp p3 p4 p5 p6:Pos} (hb:f.body = .cons (.expr (.meth (.glob g0 gp) ci ap (.cons (.name 0 p0) (.cons (.name 1 p1) .nil)) cp) sp) (.cons (.asg (.attr (.name 0 p3) ct p4) (.name 1 p5) p6) .nil)) (hline:(ap.endLine == cp.line)=true)
  (hv0:ao f.vars 0=some (c0,0)) (hv1:ao f.vars 1=some (c1,0)) (hnp:f.np=2) (hg:aQ f.gl g0=true) (hgv:mg (nm g0)=none/\mb (nm g0)=some (.type "Exception")) (hci:nm ci = "__init__")
  (hfc:findCls K (.type "Exception") (.type "type") "__init__" = some (.val (.builtin "Exception.__init__")))
  (Y:mF K C names) (hn:nm ct∈names) (hs:subIn K (.ref C) (.type "Exception")=some true) (Z:lQ s.heap e C ws m o) (he:base.get? e=none) {t0:Addr} (h0:ws[0]? = some (.ref t0)) {ns:List Str} (hw:Within m ns) (hl:ns.length<=100) {x:Value} {R:Result->Shared->Prop}
  (hR:∀ h' t d ws',s.toks<=t->ws'.size=ws.size->(∀ i,i≠0->ws'[i]? = ws[i]?)->(∃ t',ws'[0]? = some (.ref t'))->lQ h' e C ws' (fun y=>if y=nm ct then some x else m y) (some d)->(o=some d\/(o=none/\s.heap.get? d=none))->(∀ b ob,b≠e->b≠d->s.heap.get? b=some ob->h'.get? b=some ob)->R (.ok (.ret .none)) { s with heap:=h',toks:=t }) :
  codeAny (model prog w) A (.call (.ref f.addr) ⟨[.ref e,x],[]⟩) R s:=by
 refine ae Y.cls fun cd hc HC=>?_
 have le:bZ s.heap e:=let ⟨ox,h1,_⟩:=Z.at_; ⟨ox,h1⟩
 refine qR FC hpre bg bb inj NL st hdep (by rw [hnp]; rfl) fun A' ev mL h₁ t₁ aq hA F kp hL hint hbind=>?_
 refine ai (hbind 0 c0 0 (.ref e) hv0 rfl) fun k0 m0=>?_
 refine ai (hbind 1 c1 0 x hv1 rfl) fun k1 m1=>?_
 have v0:(f.vars.getD 0 (0,0)).1=c0:=by rw [List.getD_eq_getElem?_getD,<- aJ,hv0]; rfl
 have v1:(f.vars.getD 1 (0,0)).1=c1:=by rw [List.getD_eq_getElem?_getD,<- aJ,hv1]; rfl
 have hLe:ev.locals≠e:=fun q=>by rw [q] at hL; exact az hL le
 rw [hb]
 show wpAny (model prog w) A' (execs (_ :: (bL.cons (.asg (.attr (.name 0 p3) ct p4) (.name 1 p5) p6) .nil).toS nm _) ev) _ _ _
 refine wpAny_execs_cons (wpAny_Expr (oG (args:=[.Name (nm _) p0,.Name (nm _) p1]) rfl rfl hline (Bq (s:={ s with heap:=h₁,toks:=t₁ }) F hd hg hgv fun pl=>?_)) hint rfl)
 rw [hci]
 refine sP (s:={ s with heap:=h₁,toks:=t₁ }) (fun a ob h=>F.stay _ _ (X a ob h)) (by first | rfl | kernel_rfl) (by decide +kernel) hfc rfl ?_
 refine Calls.callWith_builtin rfl (Calls.evalArgs_plain (spliced_cons ?_))
 show wpAny (model prog w) A' (eval (.Name (nm (f.vars.getD 0 (0,0)).1) p0) ev) _ _ _
 rw [v0]
 refine iV (s:={ s with heap:=h₁,toks:=t₁ + 1 }) F hd k0 m0 (spliced_cons ?_)
 show wpAny (model prog w) A' (eval (.Name (nm (f.vars.getD 1 (0,0)).1) p1) ev) _ _ _
 rw [v1]
 refine iV (s:={ s with heap:=h₁,toks:=t₁ + 1 }) F hd k1 m1 (spliced_nil ?_)
 refine cL fun HC kG=>?_
 obtain ⟨⟨ox,hox,hcls,hdat,hod⟩,hdd⟩:=Z
 refine kG ?_
 refine zF (s:={ s with heap:=h₁,toks:=t₁ + 1 }) (fun a ob h=>F.stay _ _ (X a ob h)) (kp _ _ hox) hcls hdat h0 hs hc (by show 1<=sizeLine; rw [sizeLine_eq]; decide) fun aR mG fH=>?_
 have zI:=F.keep he hLe mG
 have xC:lQ aR e C (ws.setIfInBounds 0 (.ref h₁.objs.size)) m o:=by
  refine ⟨(jA _ fH hcls rfl hod),?_⟩
  cases o with
  | none=>exact hdd
  | some d=>
   refine jy hdd fun hde hns zq1=>?_; clear hdd; refine ae zq1 fun od e3 e4=>?_
   exact ⟨hde,hY (mod:=[e]) (bw.of_but mG ⟨_,fH⟩) (hY (mod:=[]) (bw.of_stays kp) hns fun m=>(nomatch m)) (fun m=>hde (A2 m)),od,mG _ _ hde (kp _ _ e3),e4⟩
 have hsz:0 < ws.size:=(Array.getElem?_eq_some_iff.mp h0).1
 refine uX (s:={ s with heap:=aR,toks:=t₁ + 1 }) hd X Y hn zI xC hw hl v0 v1 ⟨k0,m0⟩ ⟨k1,m1⟩ fun cO my d cI xD uY zJ=>?_
 refine hR cO my d _ (by have:t₁ + 1<=my:=cI; omega) (by simp) (fun i hi=>Array.getElem?_setIfInBounds_ne (Ne.symm hi)) ⟨_,Array.getElem?_setIfInBounds_self_of_lt hsz⟩ xD (uY.imp id fun ⟨a,b⟩=>⟨a,?_⟩) fun b ob hb hbd q=>zJ b ob hb hbd (mG b ob hb (kp b ob q))
 cases q:s.heap.get? d with
 | none=>rfl
 | some ob=>
  have:d≠e:=xD.dict.1
  have:=mG d ob this (kp d ob q)
  rw [b] at this; exact nS this
theorem zK {P:cz} {f f1:bu} (FC:cy P nm base f) (FC1:cy P nm base f1) (hpre:f.pre=[]) (bg:base.Ns mainGlobals mg) (bb:base.Ns builtinsNs mb) (inj:∀ a b,nm a=nm b->a=b) (hd:∀ a,(nm a == ("__debug__":Str))=false) (NL:base.NoLimit) (X:K.In base) (st:base.StaysIn s.heap) (hdep:A.depth + 40 < recursionLimit)
  {g0 ci ct c0 c1 c2:Nat} {gp ap p0 p1 cp sp p3 p4 p5 p6:Pos} (hb:f.body = .cons (.expr (.meth (.glob g0 gp) ci ap (.cons (.name 0 p0) (.cons (.name 2 p1) .nil)) cp) sp) (.cons (.asg (.attr (.name 0 p3) ct p4) (.name 1 p5) p6) .nil)) (hline:(ap.endLine == cp.line)=true)
  (hv0:ao f.vars 0=some (c0,0)) (hv1:ao f.vars 1=some (c1,0)) (hv2:ao f.vars 2=some (c2,0)) (hnp:f.np=3) {D:Addr} {mc:Value} (hg:aQ f.gl g0=true) (hgv:mg (nm g0)=some (.ref D)) (hci:nm ci = "__init__")
  (hga:specialIn K (.ref D) "__getattribute__" = some (some (.builtin "type.__getattribute__"))) (hr:readsIn K D mc=true) (hfc:findCls K (.ref D) mc "__init__" = some (.val (.ref f1.addr)))
  (Y:mF K C names) (hn:nm ct∈names) {n1:Str} (Z:lQ s.heap e C ws m none) (he:base.get? e=none) {x y:Value}
  (hfirst:∀ (A':Around) (s':Shared) (R':Result->Shared->Prop),base.StaysIn s'.heap->A'.depth < recursionLimit->lQ s'.heap e C ws m none->(∀ h' t d ws',s'.toks<=t->ws'.size=ws.size->(∀ i,i≠0->ws'[i]? = ws[i]?)->lQ h' e C ws' (fun z=>if z=n1 then some y else m z) (some d)->s'.heap.get? d=none->(∀ b ob,b≠e->b≠d->s'.heap.get? b=some ob->h'.get? b=some ob)->R' (.ok (.ret .none)) { s' with heap:=h',toks:=t }) ->
   codeAny (model prog w) A' (.call (.ref f1.addr) ⟨[.ref e,y],[]⟩) R' s') {ns:List Str} (hw:Within m ns) (hl:ns.length<=90) {R:Result->Shared->Prop}
  (hR:∀ h' t d ws',s.toks<=t->ws'.size=ws.size->(∀ i,i≠0->ws'[i]? = ws[i]?)->lQ h' e C ws' (fun z=>if z=nm ct then some x else if z=n1 then some y else m z) (some d)->s.heap.get? d=none->(∀ b ob,b≠e->b≠d->s.heap.get? b=some ob->h'.get? b=some ob)->R (.ok (.ret .none)) { s with heap:=h',toks:=t }) :
  codeAny (model prog w) A (.call (.ref f.addr) ⟨[.ref e,x,y],[]⟩) R s:=by
 refine de FC1.at_ fun o1 fd1 HC ho1 hd1 HC=>?_
 have le:bZ s.heap e:=let ⟨ox,h1,_⟩:=Z.at_; ⟨ox,h1⟩
 refine qR FC hpre bg bb inj NL st (by omega) (by rw [hnp]; rfl) fun A' ev mL h₁ t₁ aq hA F kp hL hint hbind=>?_
 refine ai (hbind 0 c0 0 (.ref e) hv0 rfl) fun k0 m0=>?_
 refine ai (hbind 1 c1 0 x hv1 rfl) fun k1 m1=>?_
 refine ai (hbind 2 c2 0 y hv2 rfl) fun k2 m2=>?_
 have v0:(f.vars.getD 0 (0,0)).1=c0:=by rw [List.getD_eq_getElem?_getD,<- aJ,hv0]; rfl
 have v1:(f.vars.getD 1 (0,0)).1=c1:=by rw [List.getD_eq_getElem?_getD,<- aJ,hv1]; rfl
 have v2:(f.vars.getD 2 (0,0)).1=c2:=by rw [List.getD_eq_getElem?_getD,<- aJ,hv2]; rfl
 have hLe:ev.locals≠e:=fun q=>by rw [q] at hL; exact az hL le
 rw [hb]
 show wpAny (model prog w) A' (execs (_ :: (bL.cons (.asg (.attr (.name 0 p3) ct p4) (.name 1 p5) p6) .nil).toS nm _) ev) _ _ _
 refine wpAny_execs_cons (wpAny_Expr (oG (args:=[.Name (nm _) p0,.Name (nm _) p1]) rfl rfl hline (zG (s:={ s with heap:=h₁,toks:=t₁ }) F hd hg hgv fun pl=>?_)) hint rfl)
 rw [hci]
 have uD:K.In h₁:=fun a ob h=>F.stay _ _ (X a ob h)
 refine method_cls (s:={ s with heap:=h₁,toks:=t₁ }) uD hga (cls_value (s:={ s with heap:=h₁,toks:=t₁ }) uD hr hfc rfl ?_)
 refine Calls.callWith_function (o:=o1) (fd:=fd1) (Calls.evalArgs_plain (spliced_cons ?_))
 show wpAny (model prog w) A' (eval (.Name (nm (f.vars.getD 0 (0,0)).1) p0) ev) _ _ _
 rw [v0]
 refine iV (s:={ s with heap:=h₁,toks:=t₁ + 1 }) F hd k0 m0 (spliced_cons ?_)
 show wpAny (model prog w) A' (eval (.Name (nm (f.vars.getD 2 (0,0)).1) p1) ev) _ _ _
 rw [v2]
 refine iV (s:={ s with heap:=h₁,toks:=t₁ + 1 }) F hd k2 m2 (spliced_nil ?_)
 refine ⟨⟨F.stay _ _ ho1,hd1⟩,?_⟩
 have Dk:lQ h₁ e C ws m none:=by
  obtain ⟨⟨ox,hox,r⟩,hdd⟩:=Z
  exact ⟨(ax ox (kp _ _ hox) r),hdd⟩
 refine wpAny_call (hfirst A' { s with heap:=h₁,toks:=t₁ + 1 } _ F.stay (by have:=hA; omega) Dk fun aR iQ d ws' aX hsz hws xC uZ mG=>?_)
 show wpAny (model prog w) A' _ _ _ _
 have hde:d≠e:=xC.dict.1
 have hdL:ev.locals≠d:=fun q=>by
  refine fE F.ns fun ob HC HC h3 HC=>?_
  rw [q] at h3
  rw [uZ] at h3; exact nS h3
 have dd:base.get? d=none:=by
  cases q:base.get? d with
  | none=>rfl
  | some ob=>have:=F.stay _ _ q; rw [uZ] at this; exact nS this
 have zI:wd base nm mg mb f.gl ev mL aR:=by
  refine ⟨F.hk,F.glo,F.blt,?_,F.bg,F.bb,F.gl,fun b ob q=>mG b ob (fun z=>by rw [z,he] at q; exact nS q) (fun z=>by rw [z,dd] at q; exact nS q) (F.stay b ob q)⟩
  refine fE F.ns fun ob es ep h3 r=>?_
  exact (hM ob es ep (mG _ _ hLe hdL h3) r)
 refine uX (s:={ s with heap:=aR,toks:=iQ }) hd X Y hn zI xC (ns:=n1 :: ns) (Within.cons n1 y hw) (by rw [List.length_cons]; omega) v0 v1 ⟨k0,m0⟩ ⟨k1,m1⟩ fun cO my xE cI xD uY zJ=>?_
 have hdd3:xE=d:=by
  rcases uY with q | ⟨q,_⟩
  ·replace q:=oi q; subst q; rfl
  ·exact Sn q
 subst hdd3
 refine hR cO my xE ws' (by have h1:t₁ + 1<=iQ:=aX; have h2:iQ<=my:=cI; omega) hsz hws xD ?_ fun b ob hb hbd q=>zJ b ob hb hbd (mG b ob hb hbd (kp b ob q))
 cases q:s.heap.get? xE with
 | none=>rfl
 | some ob=>have:=kp _ _ q; rw [show h₁.get? xE=none from uZ] at this; exact nS this
end
section
variable {prog:Program} {w:World} {K:Frag} {base:Heap} {P:cz} {nm:Nat->Str} {mg mb:Str->Option Value} {C:aS}
noncomputable def kf (prog:Program) (w:World) (base:Heap) (nm:Nat->Str) (C:aS) (cl:lg) (fI:Addr):Prop:=∀ (A:Around) (s:Shared) (R:Result->Shared->Prop) (e:Addr) (ws:Array Value) (t0:Addr) (x:Value),base.StaysIn s.heap->A.depth < recursionLimit->lQ s.heap e cl.addr ws (fun HC=>none) none->base.get? e=none->ws[0]? = some (.ref t0) ->
 (∀ h' t d ws',s.toks<=t->ws'.size=ws.size->(∀ i,i≠0->ws'[i]? = ws[i]?)->lQ h' e cl.addr ws' (fun y=>if y=nm C.text then some x else none) (some d)->s.heap.get? d=none->(∀ b ob,b≠e->b≠d->s.heap.get? b=some ob->h'.get? b=some ob)->R (.ok (.ret .none)) { s with heap:=h',toks:=t }) ->
 codeAny (model prog w) A (.call (.ref fI) ⟨[.ref e,x],[]⟩) R s
noncomputable def kg (prog:Program) (w:World) (base:Heap) (nm:Nat->Str) (C:aS) (cl:lg) (fI:Addr):Prop:=∀ (A:Around) (s:Shared) (R:Result->Shared->Prop) (e:Addr) (ws:Array Value) (t0:Addr) (x y:Value),base.StaysIn s.heap->A.depth + 40 < recursionLimit->lQ s.heap e cl.addr ws (fun HC=>none) none->base.get? e=none->ws[0]? = some (.ref t0) ->
 (∀ h' t d ws',s.toks<=t->ws'.size=ws.size->(∀ i,i≠0->ws'[i]? = ws[i]?)->lQ h' e cl.addr ws' (fun z=>if z=nm C.line then some x else if z=nm C.text then some y else none) (some d)->s.heap.get? d=none->(∀ b ob,b≠e->b≠d->s.heap.get? b=some ob->h'.get? b=some ob)->R (.ok (.ret .none)) { s with heap:=h',toks:=t }) ->
 codeAny (model prog w) A (.call (.ref fI) ⟨[.ref e,x,y],[]⟩) R s
structure mH (prog:Program) (w:World) (K:Frag) (base:Heap) (P:cz) (nm:Nat->Str) (C:aS):Prop where
 X:K.In base
 cls:∀ i cl,P.cls i=some cl->mF K cl.addr [nm C.text,nm C.line]
 flt:∀ i cl,P.cls i=some cl->1<=cl.kind->∃ bm,bQ base cl.addr bm/\∀ j cl',P.cls j=some cl'->aQ cl.up j=true->(Value.ref cl.addr :: bm).contains (.ref cl'.addr)=true/\∃ bm',bQ base cl'.addr bm'
 tin:∀ i cl,P.cls i=some cl->cl.kind=1->eL K cl.addr=true/\∃ fI,findIn K (.ref cl.addr) "__init__" = some (some (.ref fI))/\typeIn K (.ref fI)=some (.type "function")/\kf prog w base nm C cl fI
 lin:∀ i cl,P.cls i=some cl->cl.kind=2->eL K cl.addr=true/\∃ fI,findIn K (.ref cl.addr) "__init__" = some (some (.ref fI))/\typeIn K (.ref fI)=some (.type "function")/\kg prog w base nm C cl fI
 ne:nm C.text≠nm C.line
theorem pW (Z:mH prog w K base P nm C):ud prog w base P nm C:=by
 intro c fs x f v A s ow ρ Q E st r hf hfind hq
 refine ae r fun xs zq1 hs=>?_; clear r; refine yu zq1 fun e d cl oe ws m zq2 hc he h1 h2 h3 ne nd hn hod hm=>?_; subst zq2
 have hs:=iI.mp hs
 focus
  have Y:=Z.cls c cl hc
  refine ae (lE hm hs hfind) fun z hz rz=>?_
  refine ae hod fun od ho hoc=>?_; clear hod
  have hde:d≠e:=fun q=>by
   subst q
   rw [he] at ho; replace ho:=oi ho; subst ho
   rw [h1] at hoc; cases hoc
  have hmem:nm f∈[nm C.text,nm C.line]:=by
   rcases hf with rfl | rfl
   ·exact .head _
   ·exact .tail _ (.head _)
  exact Bo (fun a ob h=>st _ _ (Z.X a ob h)) Y hmem (ws:=ws) (d:=d) ⟨(jA oe he h1 h2 h3),hde,hn,od,ho,hoc⟩ hz (tZ rz) (hq z _ rz)
theorem u0 {C:aS} {cl:lg} {vs:List V} {fs:List (Nat × V)} (e:nB C cl vs=some fs):(∃ v,cl.kind=1/\vs=[v]/\fs=[(C.text,v)])\/∃ l v,cl.kind=2/\vs=[l,v]/\fs=[(C.text,v),(C.line,l)]:=by
 have e:(match Nat.beq cl.kind 1 with
  | true=>(one vs).map fun v=>[(C.text,v)]
  | false=>grd (Nat.beq cl.kind 2) ((two vs).map fun q=>[(C.text,q.2),(C.line,q.1)]))=some fs:=e
 cases k:Nat.beq cl.kind 1 with
 | true=>
  rw [k] at e
  refine ae (mpd e) fun v h e=>?_
  exact .inl (bY v (A4 k) (ez h) e.symm)
 | false=>
  rw [k] at e
  refine ai (aO e) fun k e=>?_
  obtain ⟨⟨l,v⟩,h,e⟩:=mpd e
  exact .inr (db l v (A4 k) (mh h) e.symm)
theorem gO (Z:mH prog w K base P nm C):fm prog w base P nm C:=by
 refine ⟨Z.flt,?_⟩
 intro i cl vs fs zs A s ow ρ Q E hcl hfs st hdep hun ht how rs hq
 obtain ⟨h,g,d,t,os⟩:=s
 have X:K.In h:=fun a ob q=>st _ _ (Z.X a ob q)
 have hbe:base.get? (h.objs.size + 1)=none:=by
  cases q:base.get? (h.objs.size + 1) with
  | none=>rfl
  | some ob=>
   have:=st _ _ q
   rw [Heap.get?_none_of_le (Nat.le_succ _)] at this; exact nS this
 have new_e:h.get? (h.objs.size + 1)=none:=Heap.get?_none_of_le (Nat.le_succ _)
 have fin:∀ (args:List Value) (h':Heap) (t':Nat) (dd:Addr) (ws':Array Value) (m:Str->Option Value) (xs:List Value),t<=t'->ws'.size=6->(∀ i,i≠0->ws'[i]? = (#[Value.ref h.objs.size,.none,.none,.none,.bool false,.none]:Array Value)[i]?)->lQ h' (h.objs.size + 1) cl.addr ws' m (some dd) ->
   ((h.push (cT args)).push (bJ cl.addr h.objs.size)).get? dd=none->(∀ b ob,b≠h.objs.size + 1->b≠dd->((h.push (cT args)).push (bJ cl.addr h.objs.size)).get? b=some ob->h'.get? b=some ob) ->
   tD nm m fs xs->ak P nm h ow ρ (fs.map (·.2)) xs->Q (.ref (h.objs.size + 1)) ⟨h',g,d,t',os⟩:=by
  intro args h' t' dd ws' m xs ht' hsz hws Y hdd k hns hxs
  have kp:∀ b o,h.get? b=some o->h'.get? b=some o:=fun b o q=>by
   have q2:((h.push (cT args)).push (bJ cl.addr h.objs.size)).get? b=some o:=A8 (A8 q)
   exact k b o (fun z=>by rw [z,new_e] at q; exact nS q) (fun z=>by rw [z,hdd] at q2; exact nS q2) q2
  have new_d:h.get? dd=none:=by
   cases q:h.get? dd with
   | none=>rfl
   | some o=>
    have q2:((h.push (cT args)).push (bJ cl.addr h.objs.size)).get? dd=some o:=A8 (A8 q)
    rw [hdd] at q2; exact nS q2
  obtain ⟨⟨ox,hox,hcls,hdat,hdict⟩,hde,hn,od,hod,hodc⟩:=Y
  refine hq h' t' (h.objs.size + 1) (Nat.le_trans ht ht') kp new_e (fF ws' ox.dict ox.slots ?_ (by omega) ?_ ?_) ?_
  ·rw [hox]
   obtain ⟨a,b,c,s⟩:=ox
   simp only at hcls hdat
   subst hcls hdat
   rfl
  ·rw [hws 1 (by decide)]; rfl
  ·rw [hws 2 (by decide)]; rfl
  ·refine .exc hcl hox hcls hdat hdict (fun m=>az new_e (how _ m)) (fun m=>az new_d (how _ m)) hn (ax od hod hodc) hns (hxs.grow (mod:=[]) ⟨bw.of_stays kp,fun HC m=>(nomatch m),fun HC m=>.inl m,fun HC HC e=>e⟩)
 have st2:∀ args,base.StaysIn ((h.push (cT args)).push (bJ cl.addr h.objs.size)):=fun args b o q=>A8 (A8 (st b o q))
 have at2:∀ args,lQ ((h.push (cT args)).push (bJ cl.addr h.objs.size)) (h.objs.size + 1) cl.addr #[.ref h.objs.size,.none,.none,.none,.bool false,.none] (fun HC=>none) none:=fun args=>⟨(jA (bJ cl.addr h.objs.size) (by heap_get) rfl rfl rfl),fun HC=>rfl⟩
 have hd':A.depth + 12<=600:=hdep
 rcases u0 hfs with ⟨v,hk,rfl,rfl⟩ | ⟨l,v,hk,rfl,rfl⟩
 ·skip
  refine ai (Z.tin i cl hcl hk) fun hmk zq1=>?_; refine bD zq1 fun fI hi hf T=>?_
  refine ae rs.one fun x zq1 r1=>?_; subst zq1
  focus
   refine uV X hmk hi hf (by show 1<=sizeLine; rw [sizeLine_eq]; decide) (T _ ⟨(h.push (cT [x])).push (bJ cl.addr h.objs.size),g,d,t,os⟩ _ (h.objs.size + 1) _ h.objs.size x (st2 _) ?_ (at2 _) hbe rfl fun h' t' dd ws' ht' hsz hws Y hdd k=>⟨rfl,?_⟩)
   ·show A.depth + 1 < 1000; omega
   ·exact fin [x] h' t' dd ws' _ [x] ht' hsz hws Y hdd k ⟨if_pos rfl,trivial⟩ (.cons r1 .nil)
 ·skip
  refine ai (Z.lin i cl hcl hk) fun hmk zq1=>?_; refine bD zq1 fun fI hi hf T=>?_
  refine aV rs.two fun x y zq1 r1 r2=>?_; subst zq1
  focus
   focus
    refine uV X hmk hi hf (by show 2<=sizeLine; rw [sizeLine_eq]; decide) (T _ ⟨(h.push (cT [x,y])).push (bJ cl.addr h.objs.size),g,d,t,os⟩ _ (h.objs.size + 1) _ h.objs.size x y (st2 _) ?_ (at2 _) hbe rfl fun h' t' dd ws' ht' hsz hws Y hdd k=>⟨rfl,?_⟩)
    ·show A.depth + 1 + 40 < 1000; omega
    ·exact fin [x,y] h' t' dd ws' _ [y,x] ht' hsz hws Y hdd k (cF (by show (if nm C.text=nm C.line then some x else if nm C.text=nm C.text then some y else none)=some y; rw [if_neg Z.ne,if_pos rfl]) (if_pos rfl) trivial) (.cons r2 (.cons r1 .nil))
noncomputable def Dl:Data->Option FuncData
 | .func fd=>some fd
 | _=>none
theorem zL {d:Data} {fd:FuncData} (h:Dl d=some fd):d = .func fd:=by
 cases d with
 | func _=>replace h:=oi h; subst h; rfl
 | _=>exact nS h
noncomputable def dL (K:Frag) (a:Addr):FuncData:=((K.lookup a).bind fun o=>Dl o.data).getD default
noncomputable def kh (K:Frag) (a:Addr):Bool:=kc (K.lookup a) fun o=>kc (Dl o.data) fun HC=>o.cls == .type "function"
theorem eM {K:Frag} {a:Addr} (h:kh K a=true):∃ o,K.lookup a=some o/\o.data = .func (dL K a)/\o.cls = .type "function":=by
 refine ae (bS h) fun o ho h=>?_
 refine ae (bS h) fun fd hf h=>?_
 refine (bY o ho ?_ (eq_of_beq h))
 unfold dL
 rw [ho,Option.bind_some,hf]
 exact zL hf
noncomputable def qS:List (Nat × Nat)->Bool
 | []=>true
 | p :: l=>!aQ (l.map (·.1)) p.1 && qS l
theorem ki:∀ {l:List (Nat × Nat)},qS l=true->∀ i j c k k',ao l i=some (c,k)->ao l j=some (c,k')->i=j
 | [],_,i,j,c,k,k',h1,_=>by exact nS h1
 | p :: l,h,i,j,c,k,k',h1,h2=>by
  replace h:(!aQ (l.map (·.1)) p.1 && qS l)=true:=h
  rw [Bool.and_eq_true,Bool.not_eq_true',d7] at h
  have hn:p.1∉l.map (·.1):=of_decide_eq_false h.1
  have mem:∀ {i k},ao l i=some (c,k)->c∈l.map (·.1):=fun e=>List.mem_map.mpr (ax _ (aT e) rfl)
  cases i with
  | zero=>
   replace h1:=oi h1; subst h1
   cases j with
   | zero=>rfl
   | succ j=>exact absurd (mem h2) hn
  | succ i=>
   cases j with
   | zero=>replace h2:=oi h2; subst h2; exact absurd (mem h1) hn
   | succ j=>exact congrArg (· + 1) (ki h.2 i j c k k' h1 h2)
noncomputable def zM (nm:Nat->Str) (fd:FuncData) (p:Nat × Nat):Bool:=(p.2 == 0 && fd.scope.names.lookup (nm p.1) == some .local) || (p.2 == 1 && fd.scope.names.lookup (nm p.1) == some .cell)
noncomputable def mI (nm:Nat->Str) (f:bu) (fd:FuncData):Bool:=
 fd.scope.kind == .function && (!fd.scope.isCoroutine && (!fd.scope.isGenerator && (fd.globals == mainGlobals && (fd.builtins == builtinsNs && (fd.closure.isEmpty && ((f.vars.take f.np).all (fun p=>p.2 == 0) && (f.vars.all (zM nm fd) &&
  (f.gl.all (fun g=>fd.scope.names.lookup (nm g) == some .globalImplicit) && (qS f.vars && (f.nv == f.vars.length && (decide (f.np<=f.nv) && (f.vars.all (fun p=>Nat.blt p.1 1000) && Nat.ble f.nv 1000))))))))))))
theorem mJ {nm:Nat->Str} {f:bu} {fd:FuncData} (h:mI nm f fd=true) (h3:∀ zs:List Value,zs.length=f.np->bindArgs fd ⟨zs,[]⟩ = pure (((f.vars.take f.np).map fun p=>nm p.1).zip zs)):CloS0 nm f fd 0:=by
 have a1:=al h
 have a2:=al a1
 have a3:=al a2
 have a4:=al a3
 have a5:=al a4
 have a6:=al a5
 have a7:=al a6
 have a8:=al a7
 have a9:=al a8
 have a10:=al a9
 have a11:=al a10
 have a12:=al a11
 refine ⟨eq_of_beq (aD h),iM (aD a1),iM (aD a2),eq_of_beq (aD a3),eq_of_beq (aD a4),h3,?_,fun i c k e=>?_,fun g hg=>?_,ki (aD a9),eq_of_beq (aD a10),of_decide_eq_true (aD a11),Nat.zero_le _,fun i c q e=>?_,A5 (al a12)⟩
 ·rw [List.isEmpty_iff.mp (aD a5),List.take_zero]; rfl
 ·have q:=A6 (aD a7) (c,k) (aT e)
  rcases (Bool.or_eq_true _ _).mp q with q | q
  ·refine .inl (cF (eq_of_beq (aD q)) (eq_of_beq (al q)) ?_)
   exact Nat.lt_or_ge i f.np
  ·refine .inr (.inl (cF (eq_of_beq (aD q)) (eq_of_beq (al q)) (Nat.le_of_not_lt fun hlt=>?_)))
   have hm:(c,k)∈f.vars.take f.np:=by
    rw [aJ] at e
    exact List.mem_of_getElem? ((List.getElem?_take_of_lt hlt).trans e)
   have z:=eq_of_beq (A6 (aD a6) (c,k) hm)
   have y:=eq_of_beq (aD q)
   rw [show ((c,k):Nat × Nat).2=k from rfl] at z y
   rw [z] at y; cases y
 ·exact eq_of_beq (A6 (aD a8) g (iy hg))
 ·exact A5 (A6 (aD a12) (c,q) (aT e))
noncomputable def Br (K:Frag) (nm:Nat->Str) (f:bu):Bool:=kh K f.addr && (codeIn K (dL K f.addr).code (dL K f.addr).qualname && (mI nm f (dL K f.addr) && f.pre.isEmpty))
theorem aE {P:cz} {K:Frag} {base:Heap} {nm:Nat->Str} (X:K.In base) {f:bu} (h1:Br K nm f=true) (h2:(dL K f.addr).body = .stmts (f.body.toS nm fun i=>(f.vars.getD i (0,0)).1))
  (h3:∀ zs:List Value,zs.length=f.np->bindArgs (dL K f.addr) ⟨zs,[]⟩ = pure (((f.vars.take f.np).map fun p=>nm p.1).zip zs)):cy P nm base f:=
 let ⟨o,ho,hd,hc⟩:=eM (aD h1)
 ⟨o,dL K f.addr,[],X _ _ ho,hd,hc,codeRec_of X (aD (al h1)),h2,mJ (aD (al (al h1))) h3,.inl ⟨List.isEmpty_iff.mp (al (al (al h1))),rfl⟩⟩
theorem vc {P:List Value->Prop} (h:P []):∀ zs:List Value,zs.length=0->P zs:=
 fun zs e=>List.eq_nil_of_length_eq_zero e▸h
theorem sQ {n:Nat} {P:List Value->Prop} (h:∀ a,∀ zs:List Value,zs.length=n->P (a :: zs)):∀ zs:List Value,zs.length=n + 1->P zs
 | a :: zs,e=>h a zs (Nat.succ.inj e)
theorem fJ {P:List Value->Prop} (h:∀ a,P [a]):∀ zs:List Value,zs.length=1->P zs:=sQ fun a=>vc (P:=fun l=>P (a :: l)) (h a)
theorem dB {P:List Value->Prop} (h:∀ a b,P [a,b]):∀ zs:List Value,zs.length=2->P zs:=sQ fun a=>fJ (P:=fun l=>P (a :: l)) (h a)
theorem mK {P:List Value->Prop} (h:∀ a b c,P [a,b,c]):∀ zs:List Value,zs.length=3->P zs:=sQ fun a=>dB (P:=fun l=>P (a :: l)) (h a)
theorem vd {P:List Value->Prop} (h:∀ a b c d,P [a,b,c,d]):∀ zs:List Value,zs.length=4->P zs:=sQ fun a=>mK (P:=fun l=>P (a :: l)) (h a)
theorem xF {P:List Value->Prop} (h:∀ a b c d e,P [a,b,c,d,e]):∀ zs:List Value,zs.length=5->P zs:=sQ fun a=>vd (P:=fun l=>P (a :: l)) (h a)
theorem Bs {P:List Value->Prop} (h:∀ a b c d e f,P [a,b,c,d,e,f]):∀ zs:List Value,zs.length=6->P zs:=sQ fun a=>xF (P:=fun l=>P (a :: l)) (h a)
noncomputable def kj:List (List Nat)->Bool
 | []=>true
 | x :: l=>!l.any (nu x) && kj l
noncomputable def iW:List Nat->Bool
 | []=>true
 | x :: l=>Nat.blt x 1000 && iW l
noncomputable def sR (names:List (List Nat)) (i:Nat):Str:=match ao names i with
 | some l=>aA l
 | none=>aA [i + 1000000]
theorem lR:∀ {l:List (List Nat)},kj l=true->∀ i j x,ao l i=some x->ao l j=some x->i=j
 | [],_,i,j,x,h1,_=>by exact nS h1
 | y :: l,h,i,j,x,h1,h2=>by
  replace h:(!l.any (nu y) && kj l)=true:=h
  rw [Bool.and_eq_true,Bool.not_eq_true'] at h
  have hn:∀ {k},ao l k=some y->False:=fun e=>by
   have:=List.any_eq_false.mp h.1 y (aT e)
   rw [fV] at this
   simp at this
  cases i with
  | zero=>
   replace h1:=oi h1; subst h1
   cases j with
   | zero=>rfl
   | succ j=>exact (hn h2).elim
  | succ i=>
   cases j with
   | zero=>replace h2:=oi h2; subst h2; exact (hn h1).elim
   | succ j=>exact congrArg (· + 1) (lR h.2 i j x h1 h2)
theorem vf {names:List (List Nat)} (h:kj names=true) (hp:names.all iW=true):∀ a b,sR names a=sR names b->a=b:=by
 have big:∀ {x:List Nat} {k:Nat},x∈names->aA x=aA [k + 1000000]->False:=fun {x k} m e=>by
  have h1:=cX e
  have h2:=A6 hp x m
  rw [h1] at h2
  have:=Nat.blt_eq.mp (aD (show (Nat.blt (k + 1000000) 1000 && iW [])=true from h2))
  omega
 intro a b e
 unfold sR at e
 cases ha:ao names a with
 | none=>
  cases hb:ao names b with
  | none=>
   rw [ha,hb] at e
   have:=cX e
   simp only [List.cons.injEq,and_true] at this
   omega
  | some y=>
   rw [ha,hb] at e
   exact (big (aT hb) e.symm).elim
 | some x=>
  cases hb:ao names b with
  | none=>rw [ha,hb] at e; exact (big (aT ha) e).elim
  | some y=>
   rw [ha,hb] at e
   have:=cX e
   subst this
   exact lR h a b x ha hb
theorem mM {names:List (List Nat)} {l:List Nat} (h:names.any (nu l)=false) (hp:iW l=true):∀ a,(sR names a == aA l)=false:=by
 intro a
 rw [beq_eq_false_iff_ne]
 intro e
 unfold sR at e
 cases ha:ao names a with
 | none=>
  rw [ha] at e
  have h1:=cX e
  rw [<- h1] at hp
  simp only [iW,Bool.and_true] at hp
  have:=Nat.blt_eq.mp hp
  omega
 | some x=>
  rw [ha] at e
  have:=cX e
  subst this
  have:=List.any_eq_false.mp h x (aT ha)
  rw [fV] at this
  simp at this
noncomputable def iX:Value->Addr
 | .ref a=>a
 | _=>0
noncomputable def qT:Value->Tok
 | .int _ t=>t
 | .str _ t=>t
 | _=>default
noncomputable def Bt:Data->Option (List Value)
 | .seq xs _=>some xs.toList
 | _=>none
theorem xG {d:Data} {l:List Value} (h:Bt d=some l):∃ n,d = .seq l.toArray n:=by
 cases d with
 | seq xs n=>replace h:=oi h; subst h; exact ⟨n,rfl⟩
 | _=>exact nS h
noncomputable def vg (K:Frag) (c:String) (a:Addr):Option (List Value):=(K.lookup a).bind fun o=>grd (o.cls == .type c) (Bt o.data)
theorem oH {K:Frag} {base:Heap} (X:K.In base) {c:String} {a:Addr} {l:List Value} (h:vg K c a=some l):∃ o,base.get? a=some o/\o.cls = .type c/\∃ n,o.data = .seq l.toArray n:=by
 refine ae (bnd h) fun o ho h=>?_
 refine ai (aO h) fun hc h=>?_
 exact (bY o (X _ _ ho) (beq_iff_eq.mp hc) (xG h))
mutual
noncomputable def zN (P:cz) (K:Frag):V->Value->Bool
 | .none,x=>x == .none
 | .bool b,x=>x == .bool b
 | .int i,x=>x == .int i (qT x)
 | .str s,x=>x == .str (aA s) (qT x)
 | .tup l,x=>x == .ref (iX x) && kc (vg K "tuple" (iX x)) (qU P K l)
 | .lst l,x=>x == .ref (iX x) && kc (vg K "list" (iX x)) (qU P K l)
 | .fn i,x=>kc (P.fns i) fun f=>x == .ref f.addr
 | .obj _,_=>false
 | .exc _ _,_=>false
 | .rng _ _,_=>false
 | .clo _ _,_=>false
noncomputable def qU (P:cz) (K:Frag):List V->List Value->Bool
 | [],xs=>xs == []
 | v :: l,xs=>kc xs.head? fun x=>zN P K v x && qU P K l xs.tail
end
theorem qV {x:Value}:∀ {xs:List Value},xs.head? = some x->xs=x :: xs.tail
 | _ :: _,rfl=>rfl
mutual
theorem qW (X:K.In base):∀ (v:V) {x:Value},zN P K v x=true->au P nm base [] [] v x
 | .none,_,h=>eq_of_beq h
 | .bool _,_,h=>eq_of_beq h
 | .int _,x,h=>⟨qT x,eq_of_beq h⟩
 | .str _,x,h=>⟨qT x,eq_of_beq h⟩
 | .tup l,x,h=>let ⟨xs,hs,hl⟩:=bS (al h); (dW (iX x) xs (eq_of_beq (aD h)) (oH X hs) (fun m=>(nomatch m)) (kl X l hl))
 | .lst l,x,h=>let ⟨xs,hs,hl⟩:=bS (al h); (dW (iX x) xs (eq_of_beq (aD h)) (oH X hs) (fun m=>(nomatch m)) (kl X l hl))
 | .fn _,_,h=>let ⟨f,hf,e⟩:=bS h; (ax f (eq_of_beq e) hf)
 | .obj _,_,h=>(Bool.false_ne_true h).elim
 | .exc _ _,_,h=>(Bool.false_ne_true h).elim
 | .rng _ _,_,h=>(Bool.false_ne_true h).elim
 | .clo _ _,_,h=>(Bool.false_ne_true h).elim
theorem kl (X:K.In base):∀ (l:List V) {xs:List Value},qU P K l xs=true->ak P nm base [] [] l xs
 | [],_,h=>eq_of_beq h
 | v :: l,xs,h=>let ⟨x,hx,h⟩:=bS h; (db x xs.tail (qV hx) (qW X v (aD h)) (kl X l (al h)))
end
end
noncomputable def mO (P:cz) (K:Frag) (nm:Nat->Str) (g:Nat):Bool:=match P.gv g with
 | .fn i=>kc (P.fns i) fun f=>nsIn K mainGlobals (nm g) == some (some (.ref f.addr))
 | .mk i _=>kc (P.fns i) fun f=>nsIn K mainGlobals (nm g) == some (some (.ref f.addr))
 | .cls i=>kc (P.cls i) fun c=>nsIn K mainGlobals (nm g) == some (some (.ref c.addr))
 | .bi b=>nsIn K mainGlobals (nm g) == some none && (bootBuiltins (nm g) == some (jF b) && !(nm g == "__name__"))
 | .val v=>kc ((nsIn K mainGlobals (nm g)).bind id) (zN P K v)
 | .no=>true
theorem zO {P:cz} {K:Frag} {base:Heap} {nm:Nat->Str} {mg mb:Str->Option Value} (X:K.In base) (hg:base.Ns mainGlobals mg) (hb:base.Ns builtinsNs mb) (hbb:∀ x:Str,x≠"__name__"->mb x=bootBuiltins x) (h:∀ g,P.gv g≠.no->mO P K nm g=true)
  (inj:∀ a b,nm a=nm b->a=b) (dbg:∀ a,(nm a == ("__debug__":Str))=false) (cld:∀ a,(nm a == ("__classdict__":Str))=false) (dot:∀ a,(nm a == (".0":Str))=false) (sm:base.get? sysModules≠none):jp P nm base mg mb:=by
 have key:∀ g v,P.gv g=v->v≠.no->mO P K nm g=true:=fun g v e ne=>h g (e▸ne)
 refine ⟨hg,hb,fun g i e=>?_,fun g i j e=>?_,fun g i e=>?_,fun g b e=>?_,fun g v e=>?_,inj,dbg,cld,dot,sm⟩
 ·have:=key g _ e nofun
  rw [mO,e] at this
  refine ae (bS this) fun f hf k=>?_
  exact (ax f hf (mg_of X hg (eq_of_beq k)))
 ·have:=key g _ e nofun
  rw [mO,e] at this
  refine ae (bS this) fun f hf k=>?_
  exact (ax f hf (mg_of X hg (eq_of_beq k)))
 ·have:=key g _ e nofun
  rw [mO,e] at this
  refine ae (bS this) fun f hf k=>?_
  exact (ax f hf (mg_of X hg (eq_of_beq k)))
 ·have:=key g _ e nofun
  rw [mO,e] at this
  have ne:(nm g == "__name__")=false:=by
   cases q:nm g == "__name__" with
   | false=>rfl
   | true=>have:=al (al this); rw [q] at this; exact fT this
  exact ⟨mg_none_of X hg (eq_of_beq (aD this)),(hbb _ (beq_eq_false_iff_ne.mp ne)).trans (eq_of_beq (aD (al this)))⟩
 ·have:=key g _ e nofun
  rw [mO,e] at this
  refine ae (bS this) fun x hx k=>?_
  refine ae (bnd hx) fun o ho hx=>?_
  exact (ax x (mg_of X hg (ho.trans (congrArg some hx))) (qW X v k))
theorem oJ {α:Type} {q:Nat->Bool}:∀ {l:List (Nat × α)},(l.all fun p=>q p.1)=true->∀ {g:Nat} {a:α},find l g=some a->q g=true
 | [],_,_,_,e=>nomatch e
 | p :: l,h,g,a,e=>by
  have h':(q p.1 && l.all fun p=>q p.1)=true:=h
  have e':(match Nat.beq p.1 g with | true=>some p.2 | false=>find l g)=some a:=e
  cases b:Nat.beq p.1 g with
  | true=>exact A4 b▸aD h'
  | false=>rw [b] at e'; exact oJ (al h') e'
noncomputable def kn {α:Type} (p:α->Prop):List α->Prop
 | []=>True
 | a :: l=>p a/\kn p l
theorem kn.at {α:Type} {p:α->Prop}:∀ {l:List α},kn p l->∀ {i:Nat} {a:α},ao l i=some a->p a
 | _ :: _,h,0,_,e=>oi e▸h.1
 | _ :: _,h,i + 1,_,e=>kn.at h.2 (i:=i) e
noncomputable def yI:Data->Option (Array DictEntry × Nat)
 | .dict es n=>some (es,n)
 | _=>none
theorem vi {d:Data} {p:Array DictEntry × Nat} (h:yI d=some p):d = .dict p.1 p.2:=by
 cases d with
 | dict _ _=>replace h:=oi h; subst h; rfl
 | _=>exact nS h
noncomputable def vk:Value->Bool
 | .str _ _=>true
 | _=>false
theorem sS {v:Value} (h:vk v=true):∃ n t,v = .str n t:=by
 cases v with
 | str n t=>exact (gP n t rfl)
 | _=>exact fT h
noncomputable def lS (K:Frag) (N:Addr):Bool:=kc (K.lookup N) fun o=>kc (yI o.data) fun p=>p.1.toList.all fun e=>vk e.key
theorem Bu {K:Frag} {base:Heap} (X:K.In base) {N:Addr} (h:lS K N=true):∃ m,base.Ns N m/\∀ x r,nsIn K N x=some r->m x=r:=by
 refine cL fun HC kG=>?_
 obtain ⟨⟨c,d,dt,sl⟩,ho,h⟩:=bS h
 obtain ⟨⟨es,n⟩,hd,h⟩:=bS h
 obtain rfl:dt = .dict es n:=vi hd
 refine kG ?_
 refine (ax (nsFind es) (fF _ es n (X _ _ ho) rfl (fun e he=>sS (A6 h e (Array.mem_toList_iff.mpr he))) (fun HC=>rfl)) (fun x r hr=>?_))
 unfold nsIn at hr
 rw [ho] at hr
 dsimp only at hr
 unfold nsFind findBy
 rw [<- Array.find?_toList]
 split at hr
 ·rename_i en he
  replace hr:=oi hr; subst hr
  rw [he]; rfl
 ·rename_i he
  split at hr
  ·exact nS hr
  ·replace hr:=oi hr; subst hr; rw [he]; rfl
theorem AG {α:Type} {n:Nat}:∀ {l:List α},l.length=n + 1->∃ a t,l=a :: t/\t.length=n
 | a :: t,e=>(rP a t rfl (Nat.succ.inj e))
theorem EF {α:Type} {l:List α} (h:l.length=6):∃ a b c d e f,l=[a,b,c,d,e,f]:=by
 refine cL fun HC kG=>?_
 refine fL (AG h) fun a l1 e1 h1=>?_
 refine fL (AG h1) fun b l2 e2 h2=>?_
 refine fL (AG h2) fun c l3 e3 h3=>?_
 refine fL (AG h3) fun d l4 e4 h4=>?_
 refine fL (AG h4) fun e l5 e5 h5=>?_
 refine fL (AG h5) fun f l6 e6 h6=>?_
 refine kG ?_
 exact ⟨a,b,c,d,e,f,by rw [e1,e2,e3,e4,e5,e6,List.length_eq_zero_iff.mp h6]⟩
noncomputable def yJ:Option Value->Bool
 | some (.builtin _)=>true
 | _=>false
theorem vm {o:Option Value} (h:yJ o=true):∃ n,o=some (.builtin n):=by
 cases o with
 | none=>exact fT h
 | some v=>cases v with
  | builtin n=>exact ⟨n,rfl⟩
  | _=>exact fT h
theorem vo {cd:ClassData} {m:List Value} {a b c:Bool} (e1:cd.mro=m) (e2:cd.hasDict=a) (e3:cd.abstract=b) (e4:cd.hasDel=c):cd=⟨cd.name,cd.bases,m,cd.ns,cd.qualname,a,cd.slotNames,cd.subclasses,b,cd.collection,c⟩:=by
 subst e1 e2 e3 e4; rfl
noncomputable def zP (P:cz) (K:Frag) (nm:Nat->Str) (C:aS) (cl:lg):Bool:=kc (K.lookup cl.addr) fun o=>kc (uT o.data) fun cd=>
 (o.cls == .type "type" && (cd.mro == [.ref cl.addr,.type "object"] && (cd.hasDict && (!cd.abstract && !cd.hasDel)))) && ((o.slots.toList.length == 6 && o.slots.toList[4]? == some (some (.builtin "object.__new__"))) &&
   (lS K cd.ns && (nsIn K cd.ns "__getattribute__" == some none && (nsIn K cd.ns "__setattr__" == some none && (C.attrs.all (fun a=>nsIn K cd.ns (nm a) == some none) && kc (P.fns cl.init) fun f=>nsIn K cd.ns "__init__" == some (some (.ref f.addr)) && kh K f.addr)))))
theorem qX {o:Obj} {c:Value} {d:Data} {sl:List (Option Value)} (e1:o.cls=c) (e2:o.data=d) (e3:o.slots.toList=sl):o=⟨c,o.dict,d,sl.toArray⟩:=by
 subst e1 e2 e3; rfl
theorem oK {P:cz} {K:Frag} {base:Heap} {nm:Nat->Str} {C:aS} {cl:lg} (X:K.In base) (h:zP P K nm C cl=true) (hl:∀ a,aQ C.attrs a=true->typeLookup (.type "object") (nm a)=pure none):nP P nm C base cl:=by
 refine ae (bS h) fun o ho h=>?_
 refine ae (bS h) fun cd hcd h=>?_
 have a:=aD h
 have b:=al (al h)
 obtain ⟨k0,k1,k2,k3,k4,k5,hsl⟩:=(EF (eq_of_beq (aD (aD (al h)))))
 have h4:=eq_of_beq (al (aD (al h)))
 rw [hsl] at h4
 obtain rfl:k4=some (.builtin "object.__new__"):=oi h4
 refine ae (bS (al (al (al (al b))))) fun f hf e=>?_
 refine ae (Bu X (aD b)) fun mN hN hv=>?_
 refine bD (eM (al e)) fun o' ho' HC hc'=>?_
 have r:base.get? cl.addr=some o:=X _ _ ho
 rw [qX (eq_of_beq (aD a)) (ju hcd) hsl,vo (eq_of_beq (aD (al a))) (aD (al (al a))) (iM (aD (al (al (al a))))) (iM (al (al (al (al a)))))] at r
 exact ⟨⟨cd.ns,mN,⟨⟨cd.name,cd.qualname,cd.bases,cd.slotNames,cd.subclasses,cd.collection,o.dict,k0,k1,k2,k3,k5,r⟩,hN⟩,hv _ _ (eq_of_beq (aD (al b))),hv _ _ (eq_of_beq (aD (al (al b)))),fun a ha=>hv _ _ (eq_of_beq (A6 (aD (al (al (al b)))) a (of_decide_eq_true (d7 _ _▸ha)))),f,o',hf,hv _ _ (eq_of_beq (aD e)),X _ _ ho',hc'⟩,hl⟩
noncomputable def gh (t:List Value):List Value->Bool
 | []=>t == []
 | .ref a :: r=>t == .ref a :: r || gh t r
 | x :: r=>t == x :: r
theorem gi {t:List Value} (h:∀ x,refuseLoop x "__setattr__" t=pure ()) (x:Value):∀ {l:List Value},gh t l=true->refuseLoop x "__setattr__" l=pure ()
 | [],e=>by rw [<- beq_iff_eq.mp e]; exact h x
 | .ref a :: r,e=>by
  replace e:(t == .ref a :: r || gh t r)=true:=e
  rw [Bool.or_eq_true,beq_iff_eq] at e
  rcases e with e | e
  ·rw [<- e]; exact h x
  ·rw [refuseLoop_ref]; exact gi h x e
 | .none :: r,e=>by rw [<- beq_iff_eq.mp e]; exact h x
 | .bool _ :: r,e=>by rw [<- beq_iff_eq.mp e]; exact h x
 | .int _ _ :: r,e=>by rw [<- beq_iff_eq.mp e]; exact h x
 | .float _ _ :: r,e=>by rw [<- beq_iff_eq.mp e]; exact h x
 | .str _ _ :: r,e=>by rw [<- beq_iff_eq.mp e]; exact h x
 | .type _ :: r,e=>by rw [<- beq_iff_eq.mp e]; exact h x
 | .builtin _ :: r,e=>by rw [<- beq_iff_eq.mp e]; exact h x
 | .ellipsis :: r,e=>by rw [<- beq_iff_eq.mp e]; exact h x
 | .notImplemented :: r,e=>by rw [<- beq_iff_eq.mp e]; exact h x
 | .bytes _ _ :: r,e=>by rw [<- beq_iff_eq.mp e]; exact h x
noncomputable def xH:List Value:=[.type "Exception",.type "BaseException",.type "object"]
noncomputable def jv (K:Frag) (C:Addr) (names:List Str):Bool:=match clsIn K C with
 | some cd=>(gh [.type "object"] cd.mro || gh xH cd.mro) && cd.mro.contains (.type "object") && !cd.mro.isEmpty && cd.hasDict && findIn K (.ref C) "__setattr__" == some (some (.builtin "object.__setattr__")) && (plainGet K C "" || (findIn K (.ref C) "__getattribute__" == some (some (.builtin "BaseException.__getattribute__")) && findIn K (.ref C) "__getattr__" == some none && subIn K (.ref C) (.type "BaseException") == some true)) && names.all (fun n=>findIn K (.ref C) n == some none)
 | none=>false
theorem jw {K:Frag} {C:Addr} {names:List Str} (h:jv K C names=true):mF K C names:=by
 unfold jv at h
 cases hcd:clsIn K C with
 | none=>rw [hcd] at h; exact fT h
 | some cd=>
  rw [hcd] at h
  simp only [Bool.and_eq_true,Bool.or_eq_true,Bool.not_eq_true',beq_iff_eq,List.all_eq_true] at h
  refine ai h fun zq1 e7=>?_; clear h; refine ai zq1 fun zq2 e6=>?_; refine ai zq2 fun zq3 e5=>?_; refine ai zq3 fun zq4 e4=>?_; refine ai zq4 fun zq5 e3=>?_; refine ai zq5 fun e1 e2=>?_
  refine ⟨⟨cd,hcd,fun x=>?_,e2,e3,e4⟩,e5,e6.imp id fun q=>(cF q.1.1 q.1.2 q.2),e7⟩
  rcases e1 with e1 | e1
  ·exact gi PySem.F.store_object.passes x e1
  ·exact gi PySem.F.store_Exception.passes x e1
noncomputable def vp (K:Frag) (C:Addr):List Value:=match (K.lookup C).bind fun o=>uT o.data with
 | some cd=>cd.mro.tail
 | none=>[]
noncomputable def ko (K:Frag) (C:Addr):Bool:=kc (K.lookup C) fun o=>kc (uT o.data) fun cd=>(o.cls == .type "type" && (cd.mro.head? == some (.ref C) && (cd.mro.tail.contains (.type "BaseException") && !cd.hasDel))) && (o.slots.toList.length == 6 && kc o.slots.toList[4]? yJ)
theorem oM {K:Frag} {base:Heap} (X:K.In base) {C:Addr} (h:ko K C=true):bQ base C (vp K C):=by
 refine ae (bS h) fun o ho h=>?_
 refine ae (bS h) fun cd hcd h=>?_
 have a:=aD h
 obtain ⟨k0,k1,k2,k3,k4,k5,hsl⟩:=(EF (eq_of_beq (aD (al h))))
 refine ae (bS (al (al h))) fun q h4 hq=>?_
 rw [hsl] at h4
 obtain rfl:k4=q:=oi h4
 refine ay (vm hq) fun n zq1=>?_; subst zq1
 have r:base.get? C=some o:=X _ _ ho
 have hb:vp K C=cd.mro.tail:=by unfold vp; rw [ho]; exact congrArg (fun z:Option ClassData=>match z with | some cd=>cd.mro.tail | none=>[]) hcd
 rw [hb]
 rw [qX (eq_of_beq (aD a)) (ju hcd) hsl,vo (qV (eq_of_beq (aD (al a)))) rfl rfl (iM (al (al (al a))))] at r
 exact ⟨aD (al (al a)),cd.name,cd.qualname,cd.ns,cd.bases,cd.hasDict,cd.slotNames,cd.subclasses,cd.abstract,cd.collection,o.dict,k0,k1,k2,k3,k5,n,r⟩
noncomputable def yK (P:cz) (K:Frag) (n:Nat) (cl:lg):Bool:=ko K cl.addr && (List.range n).all fun j=>!aQ cl.up j || (match P.cls j with | some cl'=>(Value.ref cl.addr :: vp K cl.addr).contains (.ref cl'.addr) && ko K cl'.addr | none=>true)
theorem sT {prog:Program} {w:World} {P:cz} {K:Frag} {base:Heap} {nm:Nat->Str} {C:aS} (X:K.In base) {n:Nat} (hn:∀ i,n<=i->P.cls i=none) (h1:∀ i,i < n->∀ cl,P.cls i=some cl->jv K cl.addr [nm C.text,nm C.line]=true)
  (h2:∀ i,i < n->∀ cl,P.cls i=some cl->1<=cl.kind->yK P K n cl=true)
  (tin:∀ i cl,P.cls i=some cl->cl.kind=1->eL K cl.addr=true/\∃ fI,findIn K (.ref cl.addr) "__init__" = some (some (.ref fI))/\typeIn K (.ref fI)=some (.type "function")/\kf prog w base nm C cl fI)
  (lin:∀ i cl,P.cls i=some cl->cl.kind=2->eL K cl.addr=true/\∃ fI,findIn K (.ref cl.addr) "__init__" = some (some (.ref fI))/\typeIn K (.ref fI)=some (.type "function")/\kg prog w base nm C cl fI)
  (ne:nm C.text≠nm C.line):mH prog w K base P nm C:=by
 have lt:∀ i cl,P.cls i=some cl->i < n:=fun i cl e=>Nat.lt_of_not_le fun q=>by rw [hn i q] at e; exact nS e
 refine ⟨X,fun i cl e=>jw (h1 i (lt i cl e) cl e),fun i cl e hk=>?_,tin,lin,ne⟩
 have:=h2 i (lt i cl e) cl e hk
 unfold yK at this
 rw [Bool.and_eq_true] at this
 refine (ax (vp K cl.addr) (oM X this.1) (fun j cl' e' hup=>?_))
 have:=A6 this.2 j (List.mem_range.mpr (lt j cl' e'))
 rw [hup,e'] at this
 simp only [Bool.not_true,Bool.false_or,Bool.and_eq_true] at this
 exact ⟨this.1,_,oM X this.2⟩
end Mine
end
section
open PySem
namespace Mine
noncomputable def Bv:O->Prop
 | .hid p _=>p.length<=1000
 | _=>True
noncomputable def un:O->O
 | .hid p l=>.list (p++l)
 | o=>o
noncomputable def bH (s:St):St:=s.map un
noncomputable def wf (s:St):Prop:=∀ o∈s,Bv o
noncomputable def aB {α:Type} (o o':aU α):Prop:=match o with
 | .ok v s=>wf s/\o' = .ok v (bH s)
 | .exc c fs s=>wf s/\o' = .exc c fs (bH s)
 | .stuck=>True
theorem aB.stuck {α:Type} {o:aU α}:aB .stuck o:=trivial
theorem aB.ok {α:Type} {v:α} {s:St} (h:wf s):aB (.ok v s) (.ok v (bH s)):=⟨h,rfl⟩
theorem aB.exc {α:Type} {c:Nat} {fs:List (Nat × V)} {s:St} (h:wf s):aB (.exc c fs s:aU α) (.exc c fs (bH s)):=⟨h,rfl⟩
theorem aB.bind {α β:Type} {o o':aU α} {f g:α->St->aU β} (h:aB o o') (k:∀ v s,wf s->aB (f v s) (g v (bH s))):aB (o.bind f) (o'.bind g):=by
 cases o with
 | ok v s=>refine ai h fun w zq1=>?_; clear h; subst zq1; exact k v s w
 | exc c fs s=>refine ai h fun w zq1=>?_; clear h; subst zq1; exact ⟨w,rfl⟩
 | stuck=>trivial
theorem dm:∀ (s:St) (k:Nat),ao (bH s) k=(ao s k).map un
 | [],_=>rfl
 | _ :: _,0=>rfl
 | _ :: s,k + 1=>dm s k
theorem ew (s t:St):bH (s++t)=bH s++bH t:=List.map_append
theorem gF (s:St):(bH s).length=s.length:=List.length_map ..
theorem dY:∀ (s:St) (k:Nat) (o:O),bH (bc s k o)=bc (bH s) k (un o)
 | [],_,_=>rfl
 | _ :: _,0,_=>rfl
 | x :: s,k + 1,o=>congrArg (un x :: ·) (dY s k o)
theorem gj {s t:St} (h:wf s) (k:wf t):wf (s++t):=fun o m=>(A3 m).elim (h o) (k o)
theorem ft:∀ {s:St} {k:Nat} {o:O},wf s->Bv o->wf (bc s k o)
 | [],_,_,_,_=>fun HC m=>nomatch m
 | _ :: _,0,_,h,ho=>fun o' m=>(A7 m).elim (fun e=>e▸ho) fun m=>h o' (List.mem_cons_of_mem _ m)
 | x :: s,k + 1,o,h,ho=>fun o' m=>(A7 m).elim (fun e=>e▸h x List.mem_cons_self) fun m=>ft (s:=s) (k:=k) (fun o m=>h o (List.mem_cons_of_mem _ m)) ho o' m
theorem oN {α:Type}:∀ {l:List α} {k:Nat} {a:α},ao l k=some a->a∈l
 | [],_,_,e=>by exact nS e
 | _ :: _,0,_,e=>by replace e:=oi e; subst e; exact List.mem_cons_self
 | _ :: l,k + 1,_,e=>List.mem_cons_of_mem _ (oN (l:=l) (k:=k) e)
theorem yL {s:St} (h:wf s) {k:Nat} {o:O} (e:ao s k=some o):Bv o:=h o (oN e)
noncomputable def Le {α:Type} (o o':Option α):Prop:=∀ r,o=some r->o'=some r
theorem Le.rfl {α:Type} {o:Option α}:Le o o:=fun HC e=>e
theorem Le.no {α:Type} {o:Option α}:Le none o:=nofun
theorem Le.bind {α β:Type} {o o':Option α} {f g:α->Option β} (h:Le o o') (k:∀ a,Le (f a) (g a)):Le (o.bind f) (o'.bind g):=by
 cases o with
 | none=>exact Le.no
 | some a=>rw [h a (Eq.refl _)]; exact k a
theorem Le.map {α β:Type} {o o':Option α} {f:α->β} (h:Le o o'):Le (o.map f) (o'.map f):=by
 cases o with
 | none=>exact Le.no
 | some a=>rw [h a (Eq.refl _)]; exact Le.rfl
theorem Le.grd {α:Type} {b:Bool} {o o':Option α} (h:Le o o'):Le (grd b o) (grd b o'):=by
 cases b with
 | true=>exact h
 | false=>exact Le.no
theorem Le.at {β:Type} {s:St} {k:Nat} {f g:O->Option β} (h:∀ o,ao s k=some o->Le (f o) (g (un o))):Le ((ao s k).bind f) ((ao (bH s) k).bind g):=by
 rw [dm]
 cases q:ao s k with
 | none=>exact Le.no
 | some o=>exact h o q
theorem iY (s:St) (k:Nat):Le (jk (ao s k)) (jk (ao (bH s) k)):=by
 rw [dm]
 cases ao s k with
 | none=>exact Le.no
 | some o=>cases o with
  | list l=>exact Le.rfl
  | _=>exact Le.no
theorem zQ (s:St) (k:Nat):Le (AJ (ao s k)) (AJ (ao (bH s) k)):=by
 rw [dm]
 cases ao s k with
 | none=>exact Le.no
 | some o=>cases o with
  | dict l=>exact Le.rfl
  | _=>exact Le.no
theorem eN (v:V) (s:St):Le (bX v s) (bX v (bH s)):=by
 cases v with
 | obj k=>exact iY s k
 | _=>exact Le.rfl
theorem iZ {f g:V->V->Option Bool} (h:∀ x y,Le (f x y) (g x y)):∀ (l m:List V),Le (fM f l m) (fM g l m)
 | [],_=>Le.rfl
 | _ :: _,[]=>Le.rfl
 | x :: l,y :: m=>Le.bind (h x y) fun HC=>Le.map (iZ h l m)
theorem lT {f g:V->V->Option Bool} (h:∀ x y,Le (f x y) (g x y)) (l m:List V):Le (ny f l m) (ny g l m):=by
 unfold ny
 cases Nat.beq l.length m.length with
 | true=>exact iZ h l m
 | false=>exact Le.rfl
theorem qY {s:St}:∀ (n:Nat) (a b:V),Le (dO s n a b) (dO (bH s) n a b)
 | 0,_,_=>Le.rfl
 | n + 1,a,b=>by
  have ih:=qY (s:=s) n
  cases a with
  | tup l=>exact Le.bind Le.rfl fun m=>Le.map (iZ ih l m)
  | lst l=>exact Le.bind (eN b s) fun m=>lT ih l m
  | obj i=>
   refine Le.at fun o HC=>?_
   cases o with
   | list l=>exact Le.bind (eN b s) fun m=>lT ih l m
   | _=>exact Le.no
  | _=>exact Le.rfl
theorem pX (s:St) (a b:V):Le (wo s a b) (wo (bH s) a b):=qY 9 a b
theorem mP (s:St) (x:V):∀ (l:List V),Le (wq s x l) (wq (bH s) x l)
 | []=>Le.rfl
 | y :: l=>Le.bind (pX s y x) fun HC=>Le.map (mP s x l)
theorem jh {s:St} (hw:wf s) (x c:V):Le (contains x c s) (contains x c (bH s)):=by
 cases c with
 | tup l=>exact mP s x l
 | lst l=>exact mP s x l
 | obj k=>
  refine Le.at fun o h1=>?_
  focus
   cases o with
   | list l=>exact mP s x l
   | dict es=>exact Le.rfl
   | _=>exact Le.no
 | _=>exact Le.rfl
theorem eO {s:St} (hw:wf s) (op:CmpOp) (a b:V):Le (dT op a b s) (dT op a b (bH s)):=by
 cases op with
 | Eq=>exact pX s a b
 | NotEq=>exact Le.map (pX s a b)
 | In=>exact jh hw a b
 | NotIn=>exact Le.map (jh hw a b)
 | _=>exact Le.rfl
theorem zR (a i:V) (s:St):Le (sub a i s) (sub a i (bH s)):=by
 cases a with
 | obj k=>
  refine Le.at fun o HC=>?_
  focus
   cases o with
   | list l=>exact Le.rfl
   | dict l=>exact Le.rfl
   | _=>exact Le.no
 | _=>exact Le.rfl
theorem zS (a:V) (lo hi:Option Int) (s:St):Le (wt a lo hi s) (wt a lo hi (bH s)):=by
 unfold wt
 cases sO a with
 | some l=>exact Le.rfl
 | none=>exact Le.bind (eN a s) fun HC=>Le.rfl
theorem ku (v:V) (s:St):Le (fN v s) (fN v (bH s)):=by
 cases v with
 | obj k=>exact Le.map (iY s k)
 | _=>exact Le.rfl
theorem g6 (q:eh) (s:St):Le (bx q s) (bx q (bH s)):=by
 cases q with
 | seq k l=>exact Le.rfl
 | obj k i=>exact Le.map (iY s k)
theorem zT {s:St} (hw:wf s) (v:V):Le (fO v s) (fO v (bH s)):=by
 cases v with
 | obj k=>
  refine Le.at fun o h1=>?_
  focus
   cases o with
   | list l=>exact Le.rfl
   | hid p x=>
    intro r e
    have e:grd (Nat.ble x.length tu) (some (.int ((p.length + x.length:Nat):Int)))=some r:=e
    cases hx:Nat.ble x.length tu with
    | false=>rw [hx] at e; exact nS e
    | true=>
     rw [hx] at e
     have h2:p.length<=1000:=yL hw h1
     have h3:=A5 hx
     show grd (Nat.ble (p++x).length aP) (some (V.int ((p++x).length:Int)))=some r
     rw [List.length_append,Nat.ble_eq_true_of_le (Nat.le_trans (Nat.add_le_add h2 h3) (by decide))]
     exact e
   | _=>exact Le.no
 | _=>exact Le.rfl
theorem pY {s:St} (hw:wf s) (b:Nat) (l:List V):Le (builtin b l s) (builtin b l (bH s)):=by
 match b with
 | 0=>exact Le.bind Le.rfl fun v=>zT hw v
 | 1=>exact Le.rfl
 | 2=>exact Le.rfl
 | 3=>exact Le.rfl
 | 4=>exact Le.rfl
 | 5=>exact Le.rfl
 | _ + 6=>exact Le.rfl
theorem vq (v:V) (s:St):Le (fR v s) (fR v (bH s)):=by
 unfold fR
 cases iO v with
 | some _=>exact Le.rfl
 | none=>exact Le.bind Le.rfl fun k=>Le.map (iY s k)
theorem fu {s:St} (hw:wf s) {o o':Option Bool} (h:Le o o'):aB (gJ o s) (gJ o' (bH s)):=by
 cases o with
 | none=>trivial
 | some r=>rw [h r rfl]; exact aB.ok hw
theorem bU {s:St} (hw:wf s) {o o':Option V} (h:Le o o'):aB (dN o s) (dN o' (bH s)):=by
 cases o with
 | none=>trivial
 | some r=>rw [h r rfl]; exact aB.ok hw
theorem mQ {s:St} (hw:wf s) {o o':Option (List V)} (h:Le o o'):aB (kR o s) (kR o' (bH s)):=by
 cases o with
 | none=>trivial
 | some r=>
  rw [h r rfl]
  refine ⟨gj hw fun o m=>by rw [A2 m]; trivial,?_⟩
  rw [ew,<- gF]; rfl
theorem qZ (a b:V) (s:St):Le (jB a b s) (jB a b (bH s)):=Le.bind (eN a s) fun HC=>Le.bind (eN b s) fun HC=>Le.rfl
theorem ky {s:St} (hw:wf s) (op:Operator) (a b:V):aB (eG op a b s) (eG op a b (bH s)):=by
 cases op with
 | Add=>
  show aB (lh a b s) (lh a b (bH s))
  unfold lh
  cases iO a with
  | some x=>exact bU hw Le.rfl
  | none=>cases sO a with
   | some x=>exact bU hw Le.rfl
   | none=>exact mQ hw (qZ a b s)
 | Sub=>exact bU hw Le.rfl
 | Mult=>exact bU hw Le.rfl
 | FloorDiv=>exact bU hw Le.rfl
 | Mod=>exact bU hw Le.rfl
 | _=>trivial
theorem vr {s:St} (hw:wf s) (op:Operator) (a b:V):aB (lj op a b s) (lj op a b (bH s)):=by
 unfold lj
 cases iO a with
 | some x=>exact ky hw op a b
 | none=>cases sO a with
  | none=>trivial
  | some x=>cases op with
   | Add=>exact ky hw .Add a b
   | _=>trivial
structure gk (r:dv):Prop where
 e:∀ e c s,wf s->aB (r.e e c s) (r.e e c (bH s))
 t:∀ e c s,wf s->aB (r.t e c s) (r.t e c (bH s))
 b:∀ b c s,wf s->aB (r.b b c s) (r.b b c (bH s))
 c:∀ i vs d hm s,wf s->aB (r.c i vs d hm s) (r.c i vs d hm (bH s))
 w:∀ t a c s,wf s->aB (r.w t a c s) (r.w t a c (bH s))
 f:∀ t q a c s,wf s->aB (r.f t q a c s) (r.f t q a c (bH s))
 lc:∀ e t fs q k c s,wf s->aB (r.lc e t fs q k c s) (r.lc e t fs q k c (bH s))
 dc:∀ e e' t q k c s,wf s->aB (r.dc e e' t q k c s) (r.dc e e' t q k c (bH s))
section
variable {P:cz} {C:aS} {r:dv} {n:Nat} {c:Ctx} {s:St}
theorem dn (H:gk r):∀ (l:bP) (c:Ctx) (s:St),wf s->aB (jm r l c s) (jm r l c (bH s))
 | .nil,_,_,hw=>aB.ok hw
 | .cons e l,c,s,hw=>aB.bind (H.e e c s hw) fun HC s hw=>aB.bind (dn H l c s hw) fun HC HC hw=>aB.ok hw
theorem q0 (H:gk r) (o:MO) (c:Ctx) (s:St) (hw:wf s):aB (AK r o c s) (AK r o c (bH s)):=by
 cases o with
 | none=>exact aB.ok hw
 | some e=>exact aB.bind (H.e e c s hw) fun HC HC hw=>aB.ok hw
theorem aB.chk {α:Type} {o o':aU α}:∀ {b:Bool},(b=true->aB o o')->aB (chk b o) (chk b o')
 | true,h=>h rfl
 | false,_=>trivial
theorem aB.ofO {α β:Type} {f g:α->aU β}:∀ {o o':Option α},Le o o'->(∀ a,o=some a->aB (f a) (g a))->aB (ofO o f) (ofO o' g)
 | some a,_,l,h=>(l a rfl).symm▸h a rfl
 | none,_,_,_=>trivial
theorem q5 (H:gk r) (op:BoolOp):∀ (l:bP) (c:Ctx) (s:St),wf s->aB (AF r op l c s) (AF r op l c (bH s))
 | .nil,_,_,_=>trivial
 | .cons e .nil,c,s,hw=>H.e e c s hw
 | .cons e (.cons e' l),c,s,hw=>aB.bind (H.e e c s hw) fun v s hw=>by
  cases v with
  | bool b=>cases op <;> cases b <;> first | exact aB.ok hw | exact q5 H _ (.cons e' l) c s hw
  | _=>cases op <;> trivial
theorem mR (H:gk r) (op:BoolOp):∀ (l:bP) (c:Ctx) (s:St),wf s->aB (tv r op l c s) (tv r op l c (bH s))
 | .nil,_,_,hw=>aB.ok hw
 | .cons e l,c,s,hw=>aB.bind (H.t e c s hw) fun b s hw=>by
  cases op <;> cases b <;> first | exact aB.ok hw | exact mR H _ l c s hw
theorem mS:∀ {s:St},s.all dP=true->bH s=s/\wf s
 | [],_=>⟨rfl,fun HC m=>nomatch m⟩
 | o :: s,h=>by
  have h:(dP o && s.all dP)=true:=h
  refine ai (mS (al h)) fun h1 h2=>?_
  cases o with
  | wild j=>exact ⟨congrArg (O.wild j :: ·) h1,fun o m=>(A7 m).elim (fun e=>e▸trivial) (h2 o)⟩
  | _=>cases (aD h)
theorem iC (s:St) (n:Nat):bH (s.take n)=(bH s).take n:=List.map_take
theorem vv (s:St) (n:Nat):bH (s.drop n)=(bH s).drop n:=List.map_drop
theorem q6 {s:St} (h:wf s) (n:Nat):wf (s.take n):=fun o m=>h o (List.mem_of_mem_take m)
theorem xI {s:St} (h:wf s) (n:Nat):wf (s.drop n):=fun o m=>h o (List.mem_of_mem_drop m)
theorem zU {z m:Nat} {o o':O} (h:wv z m o=some o'):un o'=o'/\Bv o':=by
 cases o with
 | list l=>refine ae (mpd h) fun HC HC zq1=>?_; subst zq1; exact ⟨rfl,trivial⟩
 | dict l=>refine ae (mpd h) fun HC HC zq1=>?_; subst zq1; exact ⟨rfl,trivial⟩
 | ns l=>refine ae (mpd h) fun HC HC zq1=>?_; subst zq1; exact ⟨rfl,trivial⟩
 | inst c=>replace h:=oi h; subst h; exact ⟨rfl,trivial⟩
 | _=>exact nS h
theorem vy {z m:Nat}:∀ {s t:St},s.mapM (wv z m)=some t->bH t=t/\wf t
 | [],_,h=>by replace h:=oi h; subst h; exact ⟨rfl,fun HC m=>nomatch m⟩
 | o :: s,t,h=>by
  refine aV (mapM_cons h) fun u t zq1 h1 h2=>?_; subst zq1
  refine ai (zU h1) fun k1 k2=>?_
  refine ai (vy h2) fun k3 k4=>?_
  exact ⟨by show un u :: bH t=_; rw [k1,k3],fun o m=>(A7 m).elim (fun e=>e▸k2) (k4 o)⟩
theorem zV {s:St} (h:s.all dP=true):(bH s).all dP=true:=by rw [(mS h).1]; exact h
theorem zW (z:Nat) (vs:List V) (s:St):Le (i7 z vs s) (i7 z vs (bH s)):=by
 unfold i7
 cases vs with
 | nil=>exact Le.no
 | cons x rest=>
  refine Le.bind Le.rfl fun k=>Le.bind (iY s k) fun l r e=>?_
  refine ai (aO e) fun h e=>?_
  replace e:=oi e; subst e
  rw [gF,<- iC,zV (aD (al h))]
  rw [aD (al h)] at h
  rw [h]; rfl
theorem vz {z:Nat} {vs:List V} {s:St} {q:Nat × List V × List V} (h:i7 z vs s=some q):(s.take z).all dP=true:=by
 cases vs with
 | nil=>exact nS h
 | cons x rest=>
  refine ae (bnd h) fun k HC h=>?_
  refine ae (bnd h) fun l HC h=>?_
  refine ai (aO h) fun h HC=>?_
  exact aD (al h)
theorem kz (H:gk r) (i:Nat) (vs:List V) (c:Ctx) (s:St) (hw:wf s):aB (cS P C r i vs c s) (cS P C r i vs c (bH s)):=by
 unfold cS
 cases P.fns i with
 | none=>trivial
 | some f=>
  dsimp only
  cases c.d with
  | zero=>trivial
  | succ d=>
   dsimp only
   cases f.pure with
   | false=>
    dsimp only
    cases f.iso with
    | false=>exact H.c _ _ _ _ _ hw
    | true=>
     refine aB.chk fun HC=>aB.ofO (zW _ _ _) fun q hq=>?_
     refine ai (mS (vz hq)) fun w1 w2=>?_
     have hx:bH (s.take P.wn++[.list q.2.1])=s.take P.wn++[.list q.2.1]:=by rw [ew,w1]; rfl
     have hy:(bH s).take P.wn++[.list q.2.1]=s.take P.wn++[.list q.2.1]:=by rw [<- iC,w1]
     rw [hy]
     have hc:=H.c i (.obj P.wn :: q.2.2) d false (s.take P.wn++[.list q.2.1]) (gj w2 fun o m=>by rw [A2 m]; trivial)
     rw [hx] at hc
     cases ho:r.c i (.obj P.wn :: q.2.2) d false (s.take P.wn++[.list q.2.1]) with
     | exc _ _ _=>trivial
     | stuck=>trivial
     | ok v s'=>
      rw [ho] at hc
      refine ai hc fun hw' he=>?_; clear hc
      have he':bH s'=s':=by injection he with _ he; exact he.symm
      refine aB.chk fun HC=>aB.ofO Le.rfl fun v' HC=>aB.ofO Le.rfl fun t ht=>?_
      refine ai (vy ht) fun k1 k2=>?_
      refine ⟨gj (q6 hw' _) (gj (q6 (xI hw _) _) k2),?_⟩
      rw [ew,ew,k1,iC,he',iC,vv]
   | true=>
    dsimp only
    cases c.hm || !(vs.all (bj 9)) with
    | true=>trivial
    | false=>
     dsimp only
     cases C.memo i vs d with
     | some v=>exact aB.ok hw
     | none=>
      dsimp only
      cases r.c i vs d false [] with
      | ok v s'=>exact bU hw Le.rfl
      | _=>trivial
theorem kA {k:Nat} {s:St}:Le (bW k s) (bW k (bH s)):=fun fs e=>by
 refine ae (fj e) fun i h1 h2=>?_
 unfold bW
 rw [dm,dm,h1,h2]; rfl
theorem sU (f:Nat) (x:V) (s:St):Le (ph C f x s) (ph C f x (bH s)):=fun v e=>by
 cases x with
 | obj k=>
  refine ae (bnd e) fun fs h e=>?_
  show (bW k (bH s)).bind _=_
  rw [kA _ h]; exact e
 | exc k fs=>exact e
 | _=>exact nS e
theorem xJ {c:Ctx} {k:Nat} {o:O} {j v:V} {s:St} (hw:wf s) (h:ao s k=some o):aB (ofO (qn o j v) fun o'=>aU.ok c.l (bc s k o')) (ofO (qn (un o) j v) fun o'=>aU.ok c.l (bc (bH s) k o')):=by
 cases o with
 | dict es=>
  refine aB.ofO (fun HC e=>e) fun o' e=>?_
  refine ai (aO e) fun HC e=>?_
  replace e:=oi e; subst e
  exact ⟨ft hw trivial,by rw [dY]; rfl⟩
 | list l=>
  refine aB.ofO (fun HC e=>e) fun o' e=>?_
  refine ae (bnd e) fun i HC e=>?_
  refine ai (aO e) fun HC e=>?_
  replace e:=oi e; subst e
  exact ⟨ft hw trivial,by rw [dY]; rfl⟩
 | hid p l=>trivial
 | _=>trivial
theorem ef (H:gk r) (t:MT) (v:V) (c:Ctx) (s:St) (hw:wf s):aB (assign C r t v c s) (assign C r t v c (bH s)):=by
 cases t with
 | name i p=>exact aB.ofO Le.rfl fun l HC=>aB.ok hw
 | tup ps k p=>exact aB.ofO Le.rfl fun vs HC=>aB.ofO Le.rfl fun l HC=>aB.ok hw
 | attr o a p=>exact aB.bind (H.e o c s hw) fun x s hw=>aB.ofO Le.rfl fun k HC=>aB.ofO kA fun fs HC=>aB.chk fun HC=>⟨ft hw trivial,by rw [dY]; rfl⟩
 | sub o i p=>
  refine aB.bind (H.e o c s hw) fun x s hw=>aB.bind (H.e i c s hw) fun j s hw=>aB.ofO Le.rfl fun k HC=>?_
  rw [dm]
  cases h:ao s k with
  | none=>trivial
  | some o=>exact xJ hw h
theorem lU {α:Type} (H:gk r) (late g:Nat) (l:bP) (c:Ctx) (s:St) (hw:wf s):aB (eZ P C r late g l c s:aU α) (eZ P C r late g l c (bH s)):=
 aB.chk fun HC=>aB.ofO Le.rfl fun i HC=>aB.ofO Le.rfl fun cl HC=>aB.chk fun HC=>aB.bind (dn H l c s hw) fun vs s hw=>aB.ofO Le.rfl fun fs HC=>aB.exc hw
theorem vA {k:Nat} {v:V} {s:St} (hw:wf s):aB (jE k v s) (jE k v (bH s)):=by
 unfold jE
 rw [dm]
 cases h:ao s k with
 | none=>trivial
 | some o=>cases o with
  | list xs=>
   dsimp only [Option.map,un]
   cases Nat.ble xs.length aP with
   | false=>trivial
   | true=>
    refine ⟨ft hw trivial,?_⟩
    rw [dY]; rfl
  | hid p xs=>
   dsimp only [Option.map,un]
   cases hx:Nat.ble xs.length tu with
   | false=>trivial
   | true=>
    have h3:p.length<=1000:=yL hw h
    rw [List.length_append,Nat.ble_eq_true_of_le (Nat.le_trans (Nat.add_le_add h3 (A5 hx)) (by decide))]
    refine ⟨ft hw h3,?_⟩
    rw [dY]
    show _=aU.ok V.none (bc (bH s) k (.list (p++(xs++[v]))))
    rw [List.append_assoc]
  | _=>trivial
theorem sV (H:gk r) (f:Nat) (l:bP) (c:Ctx) (x:V) (s:St) (hw:wf s):aB (lr C r f l c x s) (lr C r f l c x (bH s)):=by
 unfold lr
 cases oO x with
 | some k=>
  dsimp only
  rw [dm]
  cases h:ao s k with
  | none=>trivial
  | some o=>
   have app:aB (match fQ l with
     | some e=>(r.e e c s).bind fun v s=>jE k v s
     | none=>.stuck:aU V) (match fQ l with
     | some e=>(r.e e c (bH s)).bind fun v s=>jE k v s
     | none=>.stuck:aU V):=by
    cases fQ l with
    | none=>trivial
    | some e=>exact aB.bind (H.e e c s hw) fun v s hw=>vA hw
   cases o with
   | list ys=>
    dsimp only [Option.map,un,wx]
    cases Nat.beq f C.append with
    | true=>exact app
    | false=>cases Nat.beq f C.pop && (ww l && AP (.list ys)) with
     | false=>trivial
     | true=>
      dsimp only
      unfold wz
      cases grd (Nat.ble ys.length aP) ys.getLast? with
      | none=>trivial
      | some v=>
       refine ⟨ft hw trivial,?_⟩
       rw [dY]; rfl
   | hid p ys=>
    dsimp only [Option.map,un,wx]
    cases Nat.beq f C.append with
    | true=>exact app
    | false=>
     have h1:(Nat.beq f C.pop && (ww l && AP (.hid p ys)))=false:=by
      show (Nat.beq f C.pop && (ww l && false))=false
      rw [Bool.and_false,Bool.and_false]
     rw [h1]; trivial
   | _=>trivial
 | none=>
  dsimp only
  cases sO x with
  | none=>trivial
  | some y=>
   dsimp only
   cases Nat.beq f C.find with
   | true=>cases fQ l with
    | none=>trivial
    | some e=>exact aB.bind (H.e e c s hw) fun v s hw=>bU hw Le.rfl
   | false=>cases Nat.beq f C.replace with
    | true=>cases tB l with
     | none=>trivial
     | some q=>exact bU hw Le.rfl
    | false=>
     cases Nat.beq f C.split with
     | false=>trivial
     | true=>cases (fQ l).bind nA with
      | none=>trivial
      | some q=>exact mQ hw Le.rfl
theorem aB.calm {α β:Type} {o o':aU α} {f g:α->St->aU β} (h:aB o o') (k:∀ v s,wf s->aB (f v s) (g v (bH s))):aB (o.calm f) (o'.calm g):=by
 cases o with
 | ok v s=>refine ai h fun w zq1=>?_; clear h; subst zq1; exact k v s w
 | _=>trivial
theorem q7 {o o':aU (Flow × Loc)} (h:aB o o'):aB (o.bind fC) (o'.bind fC):=aB.bind h fun fl s hw=>by
 obtain ⟨f,l⟩:=fl
 cases f with
 | ret v=>exact aB.ok hw
 | next=>exact aB.ok hw
 | _=>trivial
theorem vB {k:Nat} {s:St} (h:eX k s=true):eX k (bH s)=true:=by
 unfold eX at h ⊢
 rw [dm]
 cases hn:ao s k with
 | none=>rw [hn] at h; exact fT h
 | some o=>
  rw [hn] at h
  cases o with
  | wild j=>exact h
  | _=>exact fT h
theorem Bw (H:gk r) (e:ME) (c:Ctx) (s:St) (hw:wf s):aB ((step P C r).e e c s) ((step P C r).e e c (bH s)):=by
 cases e with
 | const v k p=>exact aB.ok hw
 | name i p=>exact bU hw Le.rfl
 | glob g p=>exact bU hw Le.rfl
 | bin a op b p=>exact aB.bind (H.e a c s hw) fun x s hw=>aB.bind (H.e b c s hw) fun y s hw=>ky hw op x y
 | addV a b p=>exact aB.bind (H.e a c s hw) fun x s hw=>aB.bind (H.e b c s hw) fun y s hw=>bU hw (Le.map (qZ x y s))
 | un op a p=>
  cases op with
  | Not=>exact aB.bind (H.e a c s hw) fun x s hw=>bU hw Le.rfl
  | USub=>exact aB.bind (H.e a c s hw) fun x s hw=>bU hw Le.rfl
  | _=>trivial
 | bools op l p=>exact q5 H op l c s hw
 | cmp a op b p=>exact aB.bind (H.e a c s hw) fun x s hw=>aB.bind (H.e b c s hw) fun y s hw=>aB.bind (fu hw (eO hw _ _ _)) fun q s hw=>aB.ok hw
 | cmp2 a o1 b o2 d p=>
  refine aB.bind (H.e a c s hw) fun x s hw=>aB.bind (H.e b c s hw) fun y s hw=>aB.bind (fu hw (eO hw _ _ _)) fun q s hw=>?_
  cases q with
  | false=>exact aB.ok hw
  | true=>exact aB.bind (H.e d c s hw) fun z s hw=>aB.bind (fu hw (eO hw _ _ _)) fun q s hw=>aB.ok hw
 | ifx t a b p=>
  refine aB.bind (H.t t c s hw) fun q s hw=>?_
  cases q with
  | false=>exact H.e b c s hw
  | true=>exact H.e a c s hw
 | tup l k p=>exact aB.bind (dn H l c s hw) fun vs s hw=>bU hw Le.rfl
 | list l p=>exact aB.bind (dn H l c s hw) fun vs s hw=>mQ hw Le.rfl
 | lstV l p=>exact aB.bind (dn H l c s hw) fun vs s hw=>bU hw Le.rfl
 | dict ks vs p=>
  have app:∀ {s:St},wf s->wf (s++[O.dict []]):=fun hw=>gj hw fun o m=>by rw [A2 m]; trivial
  have h0:bH s++[O.dict []]=bH (s++[O.dict []]):=by rw [ew]; rfl
  cases ks with
  | nil=>cases vs with
   | nil=>
    show aB (aU.ok (V.obj s.length) (s++[O.dict []])) (aU.ok (V.obj (bH s).length) (bH s++[O.dict []]))
    rw [h0,gF]
    exact aB.ok (app hw)
   | cons _ _=>trivial
  | cons k0 ks=>trivial
 | attr a f p=>exact aB.chk fun HC=>aB.bind (H.e a c s hw) fun x s hw=>bU hw (sU f x s)
 | sub a i p=>exact aB.bind (H.e a c s hw) fun x s hw=>aB.bind (H.e i c s hw) fun j s hw=>bU hw (zR _ _ _)
 | slice a lo hi sp p=>
  refine aB.bind (H.e a c s hw) fun x s hw=>aB.bind (q0 H lo c s hw) fun l s hw=>aB.bind (q0 H hi c s hw) fun h s hw=>bU hw fun v e=>?_
  refine ae (bnd e) fun l' h1 e=>?_
  refine ae (bnd e) fun h' h2 e=>?_
  rw [h1,h2]
  exact zS _ _ _ _ _ e
 | callg g gp l p=>
  refine aB.chk fun HC=>?_
  cases P.gv g with
  | fn i=>exact aB.bind (dn H l c s hw) fun vs s hw=>kz H _ vs c s hw
  | cls i=>
   refine aB.ofO Le.rfl fun cl HC=>aB.chk fun HC=>aB.bind (dn H l c s hw) fun vs s hw=>?_
   have h0:bH s++[O.inst i,O.ns []]=bH (s++[O.inst i,O.ns []]):=by rw [ew]; rfl
   obtain ⟨_,d,_,_,_,_⟩:=c
   cases d with
   | zero=>trivial
   | succ d=>cases d with
    | zero=>trivial
    | succ d=>
     dsimp only
     rw [h0,gF]
     exact aB.bind (H.c _ _ _ _ _ (gj hw fun o m=>by rcases A7 m with rfl | m; trivial; rw [A2 m]; trivial)) fun v s' hw=>aB.chk fun HC=>aB.ok hw
  | bi b=>
   refine aB.chk fun HC=>?_
   cases Nat.beq b 6 with
   | true=>exact aB.ofO Le.rfl fun q HC=>aB.chk fun HC=>aB.bind (H.e _ c s hw) fun v s hw=>bU hw (Le.map (vq v s))
   | false=>exact aB.bind (dn H l c s hw) fun vs s hw=>bU hw (pY hw _ _)
  | mk i j=>
   refine aB.bind (dn H l c s hw) fun vs s hw=>?_
   cases hk:eX 0 s with
   | false=>rw [Bool.and_false]; trivial
   | true=>
    rw [vB hk]
    exact aB.chk fun HC=>aB.ok hw
  | _=>trivial
 | calle f l p=>
  refine aB.chk fun HC=>aB.bind (H.e f c s hw) fun x s hw=>?_
  cases wy x with
  | none=>exact aB.ofO Le.rfl fun i HC=>aB.bind (dn H l c s hw) fun vs s hw=>kz H _ vs c s hw
  | some q=>
   refine aB.ofO Le.rfl fun f HC=>aB.bind (dn H l c s hw) fun vs s hw=>?_
   cases c.d with
   | zero=>trivial
   | succ d=>exact aB.chk fun HC=>q7 (H.b _ _ _ hw)
 | meth o f ap l p=>exact aB.chk fun HC=>aB.bind (H.e o c s hw) fun x s hw=>sV H f l c x s hw
 | comp elt t iter ifs ns vs gs p=>
  refine aB.chk fun HC=>aB.calm (H.e iter c s hw) fun x s hw=>aB.ofO (ku _ _) fun q HC=>?_
  have h0:bH s++[O.list []]=bH (s++[O.list []]):=by rw [ew]; rfl
  rw [h0,gF]
  exact aB.calm (H.lc _ _ _ _ _ _ _ (gj hw fun o m=>by rw [A2 m]; trivial)) fun HC s hw=>aB.ok hw
 | dcomp k v t iter ns vs gs p=>
  refine aB.chk fun HC=>aB.calm (H.e iter c s hw) fun x s hw=>aB.ofO (ku _ _) fun q HC=>?_
  have h0:bH s++[O.dict []]=bH (s++[O.dict []]):=by rw [ew]; rfl
  rw [h0,gF]
  exact aB.calm (H.dc _ _ _ _ _ _ _ (gj hw fun o m=>by rw [A2 m]; trivial)) fun HC s hw=>aB.ok hw
theorem Bx (H:gk r) (e:ME) (c:Ctx) (s:St) (hw:wf s):aB ((step P C r).t e c s) ((step P C r).t e c (bH s)):=by
 have dflt:∀ e,aB ((r.e e c s).bind fun x s=>gJ (bO x) s) ((r.e e c (bH s)).bind fun x s=>gJ (bO x) s):=fun e=>
  aB.bind (H.e e c s hw) fun x s hw=>fu hw Le.rfl
 cases e with
 | un op a p=>
  cases op with
  | Not=>exact aB.bind (H.t a c s hw) fun q s hw=>aB.ok hw
  | _=>exact dflt _
 | bools op l p=>exact mR H op l c s hw
 | ifx t a b p=>
  refine aB.bind (H.t t c s hw) fun q s hw=>?_
  cases q with
  | false=>exact H.t b c s hw
  | true=>exact H.t a c s hw
 | cmp a op b p=>exact aB.bind (H.e a c s hw) fun x s hw=>aB.bind (H.e b c s hw) fun y s hw=>fu hw (eO hw _ _ _)
 | cmp2 a o1 b o2 d p=>
  refine aB.bind (H.e a c s hw) fun x s hw=>aB.bind (H.e b c s hw) fun y s hw=>aB.bind (fu hw (eO hw _ _ _)) fun q s hw=>?_
  cases q with
  | false=>exact aB.ok hw
  | true=>exact aB.bind (H.e d c s hw) fun z s hw=>fu hw (eO hw _ _ _)
 | _=>exact dflt _
theorem lV {n:Nat} {o o':aU (Flow × Loc)} (h:aB o o'):aB (o.calm fun fl s=>match fl.1 with | .next=>.stuck | f=>.ok (f,bc fl.2 n none) s:aU (Flow × Loc)) (o'.calm fun fl s=>match fl.1 with | .next=>.stuck | f=>.ok (f,bc fl.2 n none) s:aU (Flow × Loc)):=aB.calm h fun fl s hw=>by
 obtain ⟨f,l⟩:=fl
 cases f with
 | next=>trivial
 | _=>exact aB.ok hw
theorem By (H:gk r) (b:bL) (c:Ctx) (s:St) (hw:wf s):aB ((step P C r).b b c s) ((step P C r).b b c (bH s)):=by
 cases b with
 | nil=>exact aB.ok hw
 | cons st rest=>
  have go:∀ (l:Loc) (s:St),wf s->aB (r.b rest ⟨l,c.d,c.hm,c.g,c.ro,c.ce⟩ s) (r.b rest ⟨l,c.d,c.hm,c.g,c.ro,c.ce⟩ (bH s)):=fun l s hw=>H.b _ _ _ hw
  have thru:∀ {o o':aU (Flow × Loc)},aB o o'->aB (o.bind fun fl s=>match fl.1 with | .next=>r.b rest ⟨fl.2,c.d,c.hm,c.g,c.ro,c.ce⟩ s | _=>.ok fl s) (o'.bind fun fl s=>match fl.1 with | .next=>r.b rest ⟨fl.2,c.d,c.hm,c.g,c.ro,c.ce⟩ s | _=>.ok fl s):=fun h=>
   aB.bind h fun fl s hw=>by
    obtain ⟨f,l⟩:=fl
    cases f with
    | next=>exact go _ _ hw
    | _=>exact aB.ok hw
  cases st with
  | expr e p=>exact aB.chk fun HC=>aB.bind (H.e e c s hw) fun v s hw=>go _ _ hw
  | asg t e p=>
   show aB (match cM t e with | false=>_ | true=>_) (match cM t e with | false=>_ | true=>_)
   cases cM t e with
   | false=>trivial
   | true=>exact aB.bind (H.e e c s hw) fun v s hw=>aB.bind (ef H t v c s hw) fun l s hw=>go l s hw
  | aug i ip op e p=>exact aB.ofO Le.rfl fun x HC=>aB.bind (H.e e c s hw) fun y s hw=>aB.bind (vr hw _ _ _) fun z s hw=>aB.ofO Le.rfl fun l HC=>go _ _ hw
  | ife t a b p=>
   refine aB.bind (H.t t c s hw) fun q s hw=>?_
   cases q with
   | true=>exact thru (H.b a c s hw)
   | false=>exact thru (H.b b c s hw)
  | whl t a p=>exact aB.chk fun HC=>thru (H.w t a c s hw)
  | forr t it a p=>exact aB.chk fun HC=>aB.bind (H.e it c s hw) fun x s hw=>aB.ofO (ku _ _) fun q HC=>thru (H.f t q a c s hw)
  | ret e p=>exact aB.bind (H.e e c s hw) fun v s hw=>aB.ok hw
  | ret0 p=>exact aB.ok hw
  | rais g gp l cp p=>exact aB.chk fun HC=>lU H _ _ _ _ _ hw
  | tryx t e ap g gp n h hp p=>
   refine aB.chk fun HC=>?_
   have he:=H.e e c s hw
   revert he
   generalize r.e e c s=o
   generalize r.e e c (bH s)=o'
   intro he
   cases o with
   | stuck=>trivial
   | ok v s=>
    refine ai he fun hw zq1=>?_; clear he; subst zq1
    exact aB.bind (ef H t v c s hw) fun l s hw=>go l s hw
   | exc k fs s=>
    refine ai he fun hw zq1=>?_; clear he; subst zq1
    refine aB.chk fun HC=>aB.ofO Le.rfl fun i HC=>aB.ofO Le.rfl fun cl HC=>aB.chk fun HC=>aB.ofO Le.rfl fun l1 HC=>?_
    cases eH h with
    | some q=>exact aB.chk fun HC=>lU H _ _ _ _ _ hw
    | none=>exact lV (H.b h ⟨l1,c.d,true,c.g,c.ro,c.ce⟩ s hw)
  | tryr e ap g gp n h hp p=>
   refine aB.chk fun HC=>?_
   have he:=H.e e c s hw
   revert he
   generalize r.e e c s=o
   generalize r.e e c (bH s)=o'
   intro he
   cases o with
   | stuck=>trivial
   | ok v s=>
    refine ai he fun hw zq1=>?_; clear he; subst zq1
    exact aB.ok hw
   | exc k fs s=>
    refine ai he fun hw zq1=>?_; clear he; subst zq1
    refine aB.chk fun HC=>aB.ofO Le.rfl fun i HC=>aB.ofO Le.rfl fun cl HC=>aB.chk fun HC=>aB.ofO Le.rfl fun l1 HC=>?_
    exact lV (H.b h ⟨l1,c.d,true,c.g,c.ro,c.ce⟩ s hw)
  | pass p=>exact go _ _ hw
  | brk p=>exact aB.ok hw
  | cont p=>exact aB.ok hw
theorem xK (f:bu) (s:St) (h:eY f s=true):eY f (bH s)=true:=by
 unfold eY at h ⊢
 cases hp:f.pre with
 | nil=>rfl
 | cons p l=>
  rw [hp] at h
  rw [dm]
  cases hn:ao s f.home with
  | none=>rw [hn] at h; exact fT h
  | some o=>
   rw [hn] at h
   cases o with
   | wild j=>exact h
   | _=>exact fT h
theorem Bz (H:gk r) (i:Nat) (vs:List V) (d:Nat) (hm:Bool) (s:St) (hw:wf s):aB ((step P C r).c i vs d hm s) ((step P C r).c i vs d hm (bH s)):=by
 refine aB.ofO Le.rfl fun f HC=>?_
 cases hh:eY f s with
 | false=>rw [Bool.and_false,Bool.and_false]; trivial
 | true=>
  rw [xK f s hh]
  exact aB.chk fun HC=>q7 (H.b _ _ s hw)
theorem BC (H:gk r) (t:ME) (a:bL) (c:Ctx) (s:St) (hw:wf s):aB ((step P C r).w t a c s) ((step P C r).w t a c (bH s)):=by
 refine aB.bind (H.t t c s hw) fun q s hw=>?_
 cases q with
 | false=>exact aB.ok hw
 | true=>
  refine aB.bind (H.b a c s hw) fun fl s hw=>?_
  obtain ⟨f,l⟩:=fl
  cases f with
  | next=>exact H.w _ _ _ _ hw
  | cont=>exact H.w _ _ _ _ hw
  | _=>exact aB.ok hw
theorem BD (H:gk r) (t:MT) (q:eh) (a:bL) (c:Ctx) (s:St) (hw:wf s):aB ((step P C r).f t q a c s) ((step P C r).f t q a c (bH s)):=by
 refine aB.ofO (g6 _ _) fun o HC=>?_
 cases o with
 | none=>exact aB.ok hw
 | some p=>
  refine aB.bind (ef H t p.1 c s hw) fun l s hw=>aB.bind (H.b a _ s hw) fun fl s hw=>?_
  obtain ⟨f,l⟩:=fl
  cases f with
  | next=>exact H.f _ _ _ _ _ hw
  | cont=>exact H.f _ _ _ _ _ hw
  | _=>exact aB.ok hw
theorem zX (H:gk r) (e:ME) (t:MT) (fs:bP) (q:eh) (k:Nat) (c:Ctx) (s:St) (hw:wf s):aB ((step P C r).lc e t fs q k c s) ((step P C r).lc e t fs q k c (bH s)):=by
 refine aB.ofO (g6 _ _) fun o HC=>?_
 cases o with
 | none=>exact aB.ok hw
 | some p=>
  refine aB.bind (ef H t p.1 c s hw) fun l s hw=>aB.bind (mR H _ fs _ s hw) fun ok s hw=>?_
  cases ok with
  | false=>exact H.lc _ _ _ _ _ _ _ hw
  | true=>
   refine aB.bind (H.e e _ s hw) fun x s hw=>aB.ofO (iY _ _) fun xs HC=>aB.chk fun HC=>?_
   rw [show bc (bH s) k (.list (xs++[x]))=bH (bc s k (.list (xs++[x]))) by rw [dY]; rfl]
   exact H.lc _ _ _ _ _ _ _ (ft hw trivial)
theorem zY (H:gk r) (e e':ME) (t:MT) (q:eh) (k:Nat) (c:Ctx) (s:St) (hw:wf s):aB ((step P C r).dc e e' t q k c s) ((step P C r).dc e e' t q k c (bH s)):=by
 refine aB.ofO (g6 _ _) fun o HC=>?_
 cases o with
 | none=>exact aB.ok hw
 | some p=>
  refine aB.bind (ef H t p.1 c s hw) fun l s hw=>aB.bind (H.e e _ s hw) fun x s hw=>aB.bind (H.e e' _ s hw) fun y s hw=>aB.ofO (zQ _ _) fun es HC=>aB.chk fun HC=>?_
  rw [show bc (bH s) k (.dict (fG es x y))=bH (bc s k (.dict (fG es x y))) by rw [dY]; rfl]
  exact H.dc _ _ _ _ _ _ _ (ft hw trivial)
theorem q8:∀ n,gk (run P C n)
 | 0=>⟨fun HC HC HC HC=>trivial,fun HC HC HC HC=>trivial,fun HC HC HC HC=>trivial,fun HC HC HC HC HC HC=>trivial,fun HC HC HC HC HC=>trivial,fun HC HC HC HC HC HC=>trivial,fun HC HC HC HC HC HC HC HC=>trivial,fun HC HC HC HC HC HC HC HC=>trivial⟩
 | n + 1=>have H:=q8 n; ⟨Bw H,Bx H,By H,Bz H,BC H,BD H,zX H,zY H⟩
noncomputable def rE (P:cz) (C:aS) (n:Nat) (e:ME) (c:Ctx) (s:St):aU V:=(run P C n).e e c s
noncomputable def rT (P:cz) (C:aS) (n:Nat) (e:ME) (c:Ctx) (s:St):aU Bool:=(run P C n).t e c s
noncomputable def rB (P:cz) (C:aS) (n:Nat) (b:bL) (c:Ctx) (s:St):aU (Flow × Loc):=(run P C n).b b c s
noncomputable def rC (P:cz) (C:aS) (n:Nat) (i:Nat) (vs:List V) (d:Nat) (hm:Bool) (s:St):aU V:=(run P C n).c i vs d hm s
noncomputable def rF (P:cz) (C:aS) (n:Nat) (t:MT) (q:eh) (a:bL) (c:Ctx) (s:St):aU (Flow × Loc):=(run P C n).f t q a c s
noncomputable def rL (P:cz) (C:aS) (n:Nat) (e:ME) (t:MT) (fs:bP) (q:eh) (k:Nat) (c:Ctx) (s:St):aU Unit:=(run P C n).lc e t fs q k c s
theorem cD {α β:Type} {o:Option α} {a:α} {f:α->aU β} (h:o=some a):ofO o f=f a:=by rw [h]; rfl
theorem dp {α:Type} {b:Bool} {o:aU α} (h:b=true):chk b o=o:=by rw [h]; rfl
theorem mU {α β:Type} (a:α) (s:St) (f:α->St->aU β):(aU.ok a s).bind f=f a s:=rfl
theorem vC (i:Nat) (p:Pos):rE P C (n+1) (.name i p) c s=(match ao c.l i with | some (some v)=>.ok v s | _=>.stuck):=by
 show dN (ao c.l i).join s=_
 cases ao c.l i with
 | none=>rfl
 | some o=>cases o <;> rfl
theorem kB (a b:ME) (op:Operator) (p:Pos):rE P C (n+1) (.bin a op b p) c s=(rE P C n a c s).bind fun x s=>(rE P C n b c s).bind fun y s=>eG op x y s:=rfl
theorem yM (t a b:ME) (p:Pos):rE P C (n+1) (.ifx t a b p) c s=(rT P C n t c s).bind fun q s=>match q with | true=>rE P C n a c s | false=>rE P C n b c s:=rfl
theorem q9 (a i:ME) (p:Pos):rE P C (n+1) (.sub a i p) c s=(rE P C n a c s).bind fun x s=>(rE P C n i c s).bind fun j s=>dN (sub x j s) s:=rfl
theorem sW (g i:Nat) (gp:Pos) (l:bP) (p:Pos) (h:aQ c.g g=true) (k:P.gv g = .fn i):rE P C (n+1) (.callg g gp l p) c s=(jm (run P C n) l c s).bind fun vs s=>cS P C (run P C n) i vs c s:=(dp h).trans (by rw [k])
theorem zZ (e:ME) (l:bP):jm (run P C n) (.cons e l) c s=(rE P C n e c s).bind fun v s=>(jm (run P C n) l c s).bind fun vs s=>.ok (v :: vs) s:=rfl
theorem vD (a b:ME) (op:CmpOp) (p:Pos):rT P C (n+1) (.cmp a op b p) c s=(rE P C n a c s).bind fun x s=>(rE P C n b c s).bind fun y s=>gJ (dT op x y s) s:=rfl
theorem BE (t:MT) (e:ME) (p:Pos) (rest:bL) (h:cM t e=true):rB P C (n+1) (.cons (.asg t e p) rest) c s=(rE P C n e c s).bind fun v s=>(assign C (run P C n) t v c s).bind fun l s=>rB P C n rest ⟨l,c.d,c.hm,c.g,c.ro,c.ce⟩ s:=by
 show (match cM t e with | false=>_ | true=>_)=_
 rw [h]; rfl
theorem cm (t:MT) (e:ME) (p:Pos) (rest:bL) {l₀ l₁:Loc} {d:Nat} {hm:Bool} {g ro ce:List Nat} {v:V} {s₁ s₂:St} (h:cM t e=true) (he:rE P C n e ⟨l₀,d,hm,g,ro,ce⟩ s = .ok v s₁) (ha:assign C (run P C n) t v ⟨l₀,d,hm,g,ro,ce⟩ s₁ = .ok l₁ s₂):rB P C (n+1) (.cons (.asg t e p) rest) ⟨l₀,d,hm,g,ro,ce⟩ s=rB P C n rest ⟨l₁,d,hm,g,ro,ce⟩ s₂:=by
 rw [BE _ _ _ _ h,he,mU,ha,mU]
theorem yN (t:ME) (a b:bL) (p:Pos) (rest:bL):rB P C (n+1) (.cons (.ife t a b p) rest) c s=(rT P C n t c s).bind fun q s=>match q with
    | true=>(rB P C n a c s).bind fun fl s=>match fl.1 with
     | .next=>rB P C n rest ⟨fl.2,c.d,c.hm,c.g,c.ro,c.ce⟩ s
     | _=>.ok fl s
    | false=>(rB P C n b c s).bind fun fl s=>match fl.1 with
     | .next=>rB P C n rest ⟨fl.2,c.d,c.hm,c.g,c.ro,c.ce⟩ s
     | _=>.ok fl s:=rfl
theorem z1 (t:MT) (q q':eh) (a:bL) {v:V} (h:bx q s=some (some (v,q'))):rF P C (n+1) t q a c s=(assign C (run P C n) t v c s).bind fun l s=>(rB P C n a ⟨l,c.d,c.hm,c.g,c.ro,c.ce⟩ s).bind fun fl s=>match fl.1 with
   | .next=>rF P C n t q' a ⟨fl.2,c.d,c.hm,c.g,c.ro,c.ce⟩ s
   | .cont=>rF P C n t q' a ⟨fl.2,c.d,c.hm,c.g,c.ro,c.ce⟩ s
   | .brk=>.ok (.next,fl.2) s
   | .ret v=>.ok (.ret v,fl.2) s:=cD h
theorem BF (t:MT) (q:eh) (a:bL) (h:bx q s=some none):rF P C (n+1) t q a c s = .ok (.next,c.l) s:=cD h
theorem bR {e:ME} {l:bP} {v:V} {vs:List V} {s1 s2:St} (h:rE P C n e c s = .ok v s1) (k:jm (run P C n) l c s1 = .ok vs s2):jm (run P C n) (.cons e l) c s = .ok (v :: vs) s2:=by
 rw [zZ,h,mU,k]; rfl
theorem cQ:jm (run P C n) .nil c s = .ok [] s:=rfl
theorem aC {α β:Type} {o:aU α} {f:α->St->aU β} {v:α} {s1:St} {r:aU β} (h:o = .ok v s1) (k:f v s1=r):o.bind f=r:=by rw [h]; exact k
theorem vE {α β:Type} {o:aU α} {f:α->St->aU β} {v:α} {s1:St} {r:aU β} (h:o = .ok v s1) (k:f v s1=r):o.calm f=r:=by rw [h]; exact k
theorem qa (elt:ME) (t:MT) (iter:ME) (ifs:bP) (ns:List (Nat × Nat)) (vs:List (Nat × Option Nat)) (gs:List Nat) (p:Pos) {x:V} {q:eh} {s1 s2:St} {l:Loc} {d:Nat} {g ro ce:List Nat} (h:((hW t && jC ifs) && eW ce ns vs gs)=true) (hi:rE P C n iter ⟨l,d,false,g,ro,ce⟩ s = .ok x s1) (hq:fN x s1=some q)
  (hl:rL P C n elt t ifs q s1.length ⟨dD vs l,d,false,gs,eU 0 vs,eU 0 vs⟩ (s1++[.list []]) = .ok () s2):rE P C (n+1) (.comp elt t iter ifs ns vs gs p) ⟨l,d,false,g,ro,ce⟩ s = .ok (.obj s1.length) s2:=by
 refine (dp (b:=(!false && ((hW t && jC ifs) && eW ce ns vs gs))) h).trans ?_
 exact vE hi ((cD hq).trans (vE hl rfl))
theorem vF (elt:ME) (t:MT) (fs:bP) (q:eh) (k:Nat) (h:bx q s=some none):rL P C (n+1) elt t fs q k c s = .ok () s:=cD h
theorem yO (elt:ME) (j:Nat) (p:Pos) (q q':eh) (k:Nat) {v x:V} {l l0:Loc} {d:Nat} {g ro ce:List Nat} {s1:St} {xs:List V} (h:bx q s=some (some (v,q'))) (hb:bk ro j v l0=some l) (he:rE P C n elt ⟨l,d,false,g,ro,ce⟩ s = .ok x s1) (hx:ao s1 k=some (.list xs)) (hl:xs.length<=aP) :
  rL P C (n+1) elt (.name j p) .nil q k ⟨l0,d,false,g,ro,ce⟩ s=rL P C n elt (.name j p) .nil q' k ⟨l,d,false,g,ro,ce⟩ (bc s1 k (.list (xs++[x]))):=by
 refine (cD h).trans ?_
 refine aC (v:=l) (s1:=s) (cD hb) ?_
 refine aC (v:=true) (s1:=s) rfl ?_
 refine aC he ?_
 exact (cD (show jk (ao s1 k)=some xs by rw [hx]; rfl)).trans (dp (Nat.ble_eq_true_of_le hl))
theorem BG (elt t:ME) (j:Nat) (p:Pos) (q q':eh) (k:Nat) {v x:V} {l l0:Loc} {d:Nat} {g ro ce:List Nat} {s0 s1:St} {xs:List V} (h:bx q s=some (some (v,q'))) (hb:bk ro j v l0=some l) (ht:rT P C n t ⟨l,d,false,g,ro,ce⟩ s = .ok true s0) (he:rE P C n elt ⟨l,d,false,g,ro,ce⟩ s0 = .ok x s1) (hx:ao s1 k=some (.list xs)) (hl:xs.length<=aP) :
  rL P C (n+1) elt (.name j p) (.cons t .nil) q k ⟨l0,d,false,g,ro,ce⟩ s=rL P C n elt (.name j p) (.cons t .nil) q' k ⟨l,d,false,g,ro,ce⟩ (bc s1 k (.list (xs++[x]))):=by
 refine (cD h).trans ?_
 refine aC (v:=l) (s1:=s) (cD hb) ?_
 refine aC (v:=true) (s1:=s0) (aC ht rfl) ?_
 refine aC he ?_
 exact (cD (show jk (ao s1 k)=some xs by rw [hx]; rfl)).trans (dp (Nat.ble_eq_true_of_le hl))
theorem BH (elt t:ME) (j:Nat) (p:Pos) (q q':eh) (k:Nat) {v:V} {l l0:Loc} {d:Nat} {g ro ce:List Nat} {s0:St} (h:bx q s=some (some (v,q'))) (hb:bk ro j v l0=some l) (ht:rT P C n t ⟨l,d,false,g,ro,ce⟩ s = .ok false s0) :
  rL P C (n+1) elt (.name j p) (.cons t .nil) q k ⟨l0,d,false,g,ro,ce⟩ s=rL P C n elt (.name j p) (.cons t .nil) q' k ⟨l,d,false,g,ro,ce⟩ s0:=by
 refine (cD h).trans ?_
 refine aC (v:=l) (s1:=s) (cD hb) ?_
 exact aC (v:=false) (s1:=s0) (aC ht rfl) rfl
theorem g7 {i:Nat} {p:Pos} {v:V} (h:ao c.l i=some (some v)):rE P C (n+1) (.name i p) c s = .ok v s:=by
 rw [vC,h]
theorem vG {x y:V} {u v:List V} (hx:bX x s=some u) (hy:bX y s=some v) (hl:u.length + v.length<=aP):jB x y s=some (u++v):=by
 unfold jB
 rw [hx]
 show (bX y s).bind _=_
 rw [hy]
 show grd _ _=_
 rw [Nat.ble_eq_true_of_le hl]; rfl
theorem gm {a b:ME} {p:Pos} {x y:V} {u v:List V} {s1 s2:St} (ha:rE P C n a c s = .ok x s1) (hb:rE P C n b c s1 = .ok y s2) (hx:bX x s2=some u) (hy:bX y s2=some v) (hl:u.length + v.length<=aP):rE P C (n+1) (.addV a b p) c s = .ok (.lst (u++v)) s2:=by
 refine aC ha (aC hb ?_)
 show dN ((jB x y s2).map .lst) s2=_
 rw [vG hx hy hl]; rfl
theorem vH {a b:ME} {p:Pos} {y:V} {u v:List V} {s1 s2:St} (ha:rE P C n a c s = .ok (.lst u) s1) (hb:rE P C n b c s1 = .ok y s2) (hy:bX y s2=some v) (hl:u.length + v.length<=aP):rE P C (n+1) (.bin a .Add b p) c s = .ok (.obj s2.length) (s2++[.list (u++v)]):=by
 refine aC ha (aC hb ?_)
 show kR (jB (.lst u) y s2) s2=_
 rw [vG (x:=.lst u) (u:=u) rfl hy hl]; rfl
theorem mV (t:ME) (b:bL) (p:Pos) (rest:bL) {s1:St} (h:rT P C n t c s = .ok false s1) (hn:∀ s,rB P C n .nil c s = .ok (.next,c.l) s):rB P C (n+1) (.cons (.ife t b .nil p) rest) c s=rB P C n rest ⟨c.l,c.d,c.hm,c.g,c.ro,c.ce⟩ s1:=by
 rw [yN,h,mU]
 dsimp only
 rw [hn,mU]
theorem xL (t:ME) (a b:bL) (p:Pos) (rest:bL) {s1 s2:St} {l:Loc} (h:rT P C n t c s = .ok true s1) (ha:rB P C n a c s1 = .ok (.next,l) s2):rB P C (n+1) (.cons (.ife t a b p) rest) c s=rB P C n rest ⟨l,c.d,c.hm,c.g,c.ro,c.ce⟩ s2:=by
 rw [yN,h,mU]
 dsimp only
 rw [ha,mU]
theorem BI (op:BoolOp) (l:bP) (p:Pos):rT P C (n+1) (.bools op l p) c s=tv (run P C n) op l c s:=rfl
theorem xM {a b:ME} {s1 s2:St} (h1:rT P C n a c s = .ok false s1) (h2:rT P C n b c s1 = .ok false s2):tv (run P C n) .Or (.cons a (.cons b .nil)) c s = .ok false s2:=by
 refine aC (o:=(run P C n).t a c s) h1 ?_
 exact aC (o:=(run P C n).t b c s1) h2 rfl
theorem BJ (g:Nat) (gp:Pos) (l:bP) (p:Pos) {a b:ME} {s1:St} {v:V} {r:Bool} (h:aQ c.g g=true) (k:P.gv g = .bi 6) (hm:c.hm=false) (hl:tA l=some (a,b)) (hi:(pj P b && zf c b)=true) (ha:rE P C n a c s = .ok v s1) (hr:fR v s1=some r):rE P C (n+1) (.callg g gp l p) c s = .ok (.bool r) s1:=by
 refine (dp h).trans ?_
 rw [k]
 refine (dp (by rw [hm]; rfl)).trans ?_
 show (ofO (tA l) _:aU V)=_
 refine (cD hl).trans ((dp hi).trans ?_)
 refine aC (o:=(run P C n).e a c s) ha ?_
 show dN ((fR v s1).map V.bool) s1=_
 rw [hr]; rfl
theorem BK {a b:ME} {p:Pos} {x y:V} {s1 s2:St} (ha:rE P C n a c s = .ok x s1) (hb:rE P C n b c s1 = .ok y s2) (h:wo s2 x y=some true):rT P C (n+1) (.cmp a .NotEq b p) c s = .ok false s2:=by
 refine (vD _ _ _ _).trans (aC ha (aC hb ?_))
 show gJ ((wo s2 x y).map (!·)) s2=_
 rw [h]; rfl
theorem vI (a:ME) (f:Nat) (p:Pos) {k:Nat} {fs:List (Nat × V)} {v:V} {s1:St} (hb:dZ a=true) (ha:rE P C n a c s = .ok (.obj k) s1) (hf:bW k s1=some fs) (h1:aQ C.attrs f=true) (hv:find fs f=some v):rE P C (n+1) (.attr a f p) c s = .ok v s1:=by
 refine (dp hb).trans (aC (o:=(run P C n).e a c s) ha ?_)
 show dN ((bW k s1).bind fun fs=>grd (aQ C.attrs f) (find fs f)) s1=_
 rw [hf]
 show dN (grd (aQ C.attrs f) (find fs f)) s1=_
 rw [h1,hv]; rfl
theorem xN (s:St) (x:Int):wo s (.int x) (.int x)=some true:=by
 show some (decide (x=x))=_
 rw [decide_eq_true rfl]
theorem xO {m:Nat} {l l':List V} (h3:l.length=l'.length) (h4:fM (dO s m) l l'=some true):dO s (m + 1) (.tup l) (.tup l')=some true:=by
 show (fM (dO s m) l l').map (fun r=>r && Nat.beq l.length l'.length)=_
 rw [h4,h3,Nat.beq_refl]; rfl
theorem Dm {m:Nat} (x:Int):dO s (m + 1) (.int x) (.int x)=some true:=by
 show some (decide (x=x))=_
 rw [decide_eq_true rfl]
theorem xP {m:Nat} (x:List Nat):dO s (m + 1) (.str x) (.str x)=some true:=by
 show some (nu x x)=_
 rw [fV,decide_eq_true rfl]
theorem mW {f:V->V->Option Bool} {x y:V} {l m:List V} (h:f x y=some true) (k:fM f l m=some true):fM f (x :: l) (y :: m)=some true:=by
 show (f x y).bind _=_
 rw [h]
 show (fM f l m).map _=_
 rw [k]; rfl
theorem z2 {i m:Nat} {l l':List V} (h1:ao s i=some (.list l)) (h3:l.length=l'.length) (h4:fM (dO s m) l l'=some true):dO s (m + 1) (.obj i) (.lst l')=some true:=by
 show (ao s i).bind _=_
 rw [h1]
 show (match Nat.beq l.length l'.length with | true=>_ | false=>_)=_
 rw [h3,Nat.beq_refl]
 exact h4
theorem mX (i:Nat) (vs:List V) (f:bu) (d:Nat) {l:Loc} {hm:Bool} {g ro ce:List Nat} (hf:P.fns i=some f) (hp:f.pure=false) (hi:f.iso=false):cS P C (run P C n) i vs ⟨l,d + 1,hm,g,ro,ce⟩ s=rC P C n i vs d hm s:=by
 unfold cS; rw [hf]; dsimp only; rw [hp]; dsimp only; rw [hi]; rfl
theorem BL {i:Nat} {vs:List V} {f:bu} {d:Nat} {l:Loc} {g ro ce:List Nat} {q:Nat × List V × List V} {v v':V} {s' t:St} (hf:P.fns i=some f) (hp:f.pure=false) (hi:f.iso=true) (h1:i7 P.wn vs s=some q) (h2:rC P C n i (.obj P.wn :: q.2.2) d false (s.take P.wn++[.list q.2.1]) = .ok v s') (h3:(s'.take P.wn).all dP=true)
  (h4:lq P.wn q.1 9 v=some v') (h5:(s'.drop P.wn).mapM (wv P.wn q.1)=some t):cS P C (run P C n) i vs ⟨l,d + 1,false,g,ro,ce⟩ s = .ok v' (s'.take P.wn++((s.drop P.wn).take q.1++t)):=by
 unfold cS; rw [hf]; dsimp only; rw [hp]; dsimp only; rw [hi]
 refine (cD h1).trans ?_
 rw [show (run P C n).c i _ d false _=_ from h2]
 exact (dp h3).trans ((cD h4).trans (cD h5))
theorem z3 (e:ME) (p:Pos) (rest:bL) (h:bT e=true):rB P C (n+1) (.cons (.expr e p) rest) c s=(rE P C n e c s).bind fun HC s=>rB P C n rest ⟨c.l,c.d,c.hm,c.g,c.ro,c.ce⟩ s:=dp h
theorem iD (g b:Nat) (gp:Pos) (l:bP) (p:Pos) (h:aQ c.g g=true) (k:P.gv g = .bi b) (hm:c.hm=false) (h6:Nat.beq b 6=false):rE P C (n+1) (.callg g gp l p) c s=(jm (run P C n) l c s).bind fun vs s=>dN (builtin b vs s) s:=by
 refine (dp h).trans ?_
 rw [k]
 refine (dp (by rw [hm]; rfl)).trans ?_
 rw [h6]
theorem CQ (i:Nat) (vs:List V) (d:Nat) (hm:Bool) {f:bu} (hf:P.fns i=some f) (h:(Nat.beq vs.length f.np && (yx f && eY f s))=true):rC P C (n+1) i vs d hm s=(rB P C n f.body ⟨l8 f.pre (vs.map some++List.replicate (f.nv - f.np) none),d,hm,f.gl,lm 0 f.vars,jl 0 f.vars⟩ s).bind fC:=(cD hf).trans (dp h)
theorem BM (o e:ME) (f:Nat) (ap p:Pos) {k:Nat} {ys:List V} {s':St} (h:((dZ o && Nat.beq ap.endLine p.line) && l9 (.cons e .nil))=true) (ho:rE P C n o c s = .ok (.obj k) s') (hk:ao s' k=some (.list ys)) (hf:Nat.beq f C.append=true) :
  rE P C (n+1) (.meth o f ap (.cons e .nil) p) c s=(rE P C n e c s').bind fun v s=>jE k v s:=by
 refine (dp h).trans ?_
 rw [show (run P C n).e o c s=_ from ho,mU]
 unfold lr
 show (match ao s' k with | none=>_ | some o=>_)=_
 rw [hk]
 dsimp only [wx]
 rw [hf]; rfl
theorem z4 {k:Nat} {v:V} {xs:List V} (h:ao s k=some (.list xs)) (hl:xs.length<=aP):jE k v s = .ok .none (bc s k (.list (xs++[v]))):=by
 unfold jE
 rw [h]
 dsimp only
 rw [Nat.ble_eq_true_of_le hl]
theorem vJ (t:MT) (it:ME) (a:bL) (p:Pos) (rest:bL) {x:V} {s':St} {q:eh} (hm:c.hm=false) (he:rE P C n it c s = .ok x s') (hq:fN x s'=some q):rB P C (n+1) (.cons (.forr t it a p) rest) c s=(rF P C n t q a c s').bind fun fl s=>match fl.1 with
    | .next=>rB P C n rest ⟨fl.2,c.d,c.hm,c.g,c.ro,c.ce⟩ s
    | _=>.ok fl s:=by
 refine (dp (by rw [hm]; rfl)).trans ?_
 rw [show (run P C n).e it c s=_ from he,mU]
 exact cD hq
theorem sX (e:ME) (rp:Pos) (g:Nat) (gp:Pos) (k:Nat) (h:bL) (hp p:Pos) (rest:bL) {v:V} {s':St} (hc:(!(c.hm || aQ c.ce k) && bT e)=true) (he:rE P C n e c s = .ok v s'):rB P C (n+1) (.cons (.tryr e rp g gp k h hp p) rest) c s = .ok (.ret v,c.l) s':=by
 refine (dp hc).trans ?_
 rw [show (run P C n).e e c s=_ from he]
theorem qb (e:ME) (rp:Pos) (g:Nat) (gp:Pos) (k:Nat) (h:bL) (hp p:Pos) (rest:bL) {x:Nat} {fs:List (Nat × V)} {s' s'':St} {i:Nat} {cl:lg} {l l2:Loc} {v:V} (hc:(!(c.hm || aQ c.ce k) && bT e)=true) (he:rE P C n e c s = .exc x fs s')
  (h1:aQ c.g g=true) (h2:P.gv g = .cls i) (h3:P.cls x=some cl) (h4:(aQ cl.up i && Nat.ble 1 cl.kind)=true) (h5:bk c.ro k (.exc x fs) c.l=some l) (h7:rB P C n h ⟨l,c.d,true,c.g,c.ro,c.ce⟩ s' = .ok (.ret v,l2) s''):rB P C (n+1) (.cons (.tryr e rp g gp k h hp p) rest) c s = .ok (.ret v,bc l2 k none) s'':=by
 refine (dp hc).trans ?_
 rw [show (run P C n).e e c s=_ from he]
 refine (dp h1).trans ((cD (by rw [h2]; rfl)).trans ((cD h3).trans ((dp h4).trans ((cD h5).trans ?_))))
 rw [show (run P C n).b h _ _=_ from h7]; rfl
end
end Mine
end
section
set_option backward.match.sparseCases true
open PySem PySem.Calls PyProof.Rows PySem.W PySem.SeqAt
namespace Mine
section
variable {M:Model} {A:Around} {E:Value->Shared->Prop} {s:Shared}
theorem vK {h:Heap} {name qualname:Str} {params:Arguments} {body:List Stmt} {scope:Scope} {env:Env} {mg} {pos:Pos} {firstLine:Nat} {Pl cl:Addr} {n:Str} {Q:Value->Shared->Prop} (hc:closureFor scope env=pure [(n,cl)])
  (hdoc:docOf body=none) (hh:wpAny M A (functionCode env pos firstLine name qualname params scope (.stmts body)) (fun cv s'=>s'.heap.Ns env.globals mg/\s'.heap.BuiltinsAt mg Pl /\
   Q (.ref s'.heap.objs.size) { s' with heap:=s'.heap.push { cls:=.type "function",data:=.func { name,qualname,params,body:=.stmts body,scope,globals:=env.globals,closure:=[(n,cl)],closureTuple:=.ref h.objs.size,defaults:=.none,kwdefaults:=.none,pyModule:=(mg "__name__").getD .none,code:=cv,builtins:=builtinsNs } } }) E
    { s with heap:=h.push { cls:=.type "tuple",data:=.seq ([Value.ref cl]:List Value).toArray } }) :
  wpAny M A (makeFunction name qualname params (.stmts body) scope env [] [] [] pos firstLine) Q E { s with heap:=h }:=by
 simp only [makeFunction,List.zip_nil_right,List.filterMap_nil,List.isEmpty_nil,if_true,pure_bind,hc,hdoc,List.isEmpty_cons,Bool.false_eq_true,if_false,List.mergeSort_singleton,List.map_cons,List.map_nil]
 refine wpAny_bind (wpAny_newTextTuple ?_)
 refine wpAny_bind (wpAny_mono hh (fun cv s' ⟨hg,hb,hq⟩=>?_) fun HC HC x=>x)
 refine cL fun HC kG=>?_
 obtain ⟨bm,o,hbm,hne0,_,hneP,hbo,hcls,hdict,hdata⟩:=hb
 refine kG ?_
 refine wpAny_bind (wpAny_builtinsFor hg hbm hne0 hbo hcls hdict hdata ?_)
 refine wpAny_bind (wpAny_nsGet hg ?_)
 simp only [newObj]
 exact wpAny_bind (wpAny_alloc (wpAny_pure hq))
theorem mY {scope:Scope} {globals:Addr} {n:Str} {v:Value} {qual:Str} {func:Option Addr} {code:Value} {builtins:Addr} {Q:Env->Shared->Prop}
  (hk:scope.kind = .function) (hn:scope.names.lookup n=some .cell) (hc:cellsFrom (s.heap.objs.size + 1) scope.names []=[(n,s.heap.objs.size + 1)]) (hp:∀ h,pushCells h scope.names=h.push { cls:=.type "cell",data:=.cell none })
  (hQ:∀ h',h'.Ns s.heap.objs.size (fun HC=>none)->(∀ b o,s.heap.get? b=some o->h'.get? b=some o)->h'.get? (s.heap.objs.size + 1)=some { cls:=.type "cell",data:=.cell (some v) } ->
   Q (newEnv scope s.heap.objs.size globals [(n,s.heap.objs.size + 1)] qual func code none builtins) { s with heap:=h' }) :
  wpAny M A (newFunctionEnv scope globals [] [(n,v)] qual func code none builtins) Q E s:=by
 simp only [newFunctionEnv,Option.isSome_none,Bool.false_eq_true,if_false]
 simp only [newEnv] at hQ
 refine wpAny_bind (wpAny_alloc ?_)
 refine wpAny_bind (wpAny_layCells _ (fun name kind cells=>by cases hkc:kind == NameKind.cell <;> simp [hkc]) _ _ _ _ ?_)
 rw [show ({ s with heap:=s.heap.push { cls:=.type "frame",data:=.dict #[] } }:Shared).heap.objs.size=s.heap.objs.size + 1 from Heap.size_push ..,hc]
 dsimp only
 rw [hp]
 have hz:(s.heap.push { cls:=.type "frame",data:=.dict #[] }).objs.size=s.heap.objs.size + 1:=Heap.size_push ..
 have h0:((s.heap.push { cls:=.type "frame",data:=.dict #[] }).push { cls:=.type "cell",data:=.cell none }).get? (s.heap.objs.size + 1)=some { cls:=.type "cell",data:=.cell none }:=hz▸Heap.get?_push_size _ rfl
 have kp:∀ b o,s.heap.get? b=some o->((s.heap.push { cls:=.type "frame",data:=.dict #[] }).push { cls:=.type "cell",data:=.cell none }).get? b=some o:=fun b o e=>A8 (A8 e)
 have hns:((s.heap.push { cls:=.type "frame",data:=.dict #[] }).push { cls:=.type "cell",data:=.cell none }).Ns s.heap.objs.size (fun HC=>none):=(Heap.Ns.new s.heap (.type "frame")).push _
 generalize ((s.heap.push { cls:=.type "frame",data:=.dict #[] }).push { cls:=.type "cell",data:=.cell none })=h1 at h0 kp hns
 rw [List.forIn_cons]
 refine wpAny_bind (wpAny_bind (wpAny_bind ?_))
 have hk':Env.kindOf { scope,locals:=s.heap.objs.size,globals,cells:=[(n,s.heap.objs.size + 1)],qual,func,code,frame:=some s.heap.objs.size,builtins } n=some .cell:=hn
 unfold storeName
 rw [hk']
 dsimp only
 rw [hk]
 refine wpAny_bind (wpAny_cellOf (c:=s.heap.objs.size + 1) (by show List.lookup n [(n,_)]=_; rw [List.lookup_cons,beq_self_eq_true]) ?_)
 unfold cellSet
 refine wpAny_bind (wpAny_load h0 ?_)
 dsimp only
 refine wpAny_update h0 (wpAny_pure ?_)
 dsimp only
 rw [List.forIn_nil]
 refine wpAny_pure (wpAny_pure ?_)
 have ne:∀ b o,s.heap.get? b=some o->s.heap.objs.size + 1≠b:=fun b o e=>Nat.ne_of_gt (Nat.lt_succ_of_lt (Heap.lt_size e))
 refine hQ _ ?_ (fun b o e=>(Heap.get?_update_other _ _ (ne b o e)).trans (kp b o e)) (Heap.get?_update_self _ h0 rfl)
 refine fE hns fun o es ep e1 r=>?_; clear hns
 exact (hM o es ep ((Heap.get?_update_other _ _ (Nat.succ_ne_self _)).trans e1) r)
end
section
variable {prog:Program} {w:World} {base:Heap} {P:cz} {nm:Nat->Str} {mg mb:Str->Option Value}
structure yP (base:Heap) (P:cz) (nm:Nat->Str) (f fp:bu) (fd:FuncData) (nw np:Nat):Prop where
 at_:∃ o,base.get? f.addr=some o/\o.data = .func fd
 codr:base.CodeRec fd.code fd.qualname
 kind:fd.scope.kind = .function
 co:fd.scope.isCoroutine=false
 gen:fd.scope.isGenerator=false
 glo:fd.globals=mainGlobals
 blt:fd.builtins=builtinsNs
 clo:fd.closure=[]
 bind:∀ z,bindArgs fd ⟨[z],[]⟩ = pure [(nm nw,z)]
 cell:fd.scope.names.lookup (nm nw)=some .cell
 loc:fd.scope.names.lookup (nm np)=some .local
 cells:∀ n,cellsFrom n fd.scope.names []=[(nm nw,n)]
 push:∀ h,pushCells h fd.scope.names=h.push { cls:=.type "cell",data:=.cell none }
 body:∃ args bd scope pos rp rpos,fd.body = .stmts [.FunctionDef (nm np) args bd [] none [] scope none (nm np) pos,.Return (some (.Name (nm np) rp)) rpos]/\PlainDefTree (nm np) args bd scope pos/\docOf bd=none /\
  (∀ (ev:Env) a,ev.cells.lookup (nm nw)=some a->closureFor scope ev=pure [(nm nw,a)]) /\
  (∀ pm cc ct a,tC nm fp { name:=nm np,qualname:=fd.qualname++".<locals>."++nm np,params:=args,body:=.stmts bd,scope,globals:=mainGlobals,closure:=[(nm nw,a)],closureTuple:=ct,defaults:=.none,kwdefaults:=.none,pyModule:=pm,code:=cc,builtins:=builtinsNs } 1) /\
  ∃ c Pl tab,fd.code = .ref c/\jR base c Pl/\P.wl 0=some (Pl,tab)/\(∀ p∈tab,p.1.line=pos.line->p.1.col=pos.col->aA p.2=fd.qualname++".<locals>."++nm np)/\∃ p∈tab,p.1=pos
theorem sY (G:jp P nm base mg mb) {j:Nat} {fp:bu} {np:Nat} (hfp:P.fns j=some fp) {v:V} {z:Value} {σ:St} {A:Around} {xs ρ:List Addr} {s:Shared} {Q:PySem.Flow->Shared->Prop} {E:Value->Shared->Prop} {ev:Env} {L ca Pl:Addr} {tab:List (Pos × List Nat)} {pos rp rpos:Pos}
  (hk:ev.scope.kind = .function) (hloc:ev.kindOf (nm np)=some .local) (hL:ev.locals=L) (I:aG prog w P nm base σ ρ xs s.heap) (ha:ao ρ 0=some Pl) (hw0:ao σ 0=some (.wild 0)) (hl:P.wl 0=some (Pl,tab)) (rz:au P nm s.heap (ρ++xs) ρ v z) (hPs:s.heap.objs.size=L) (hca:ca=L + 1)
  {aR:Heap} {tk:Nat} {fd:FuncData} (S:tC nm fp fd 1) (hcl:fd.closure.map (·.2)=[ca]) (kk:∀ b o,b≠Pl->s.heap.get? b=some o->aR.get? b=some o) (ns:aR.Ns L (fun HC=>none)) (hcell:aR.get? ca=some { cls:=.type "cell",data:=.cell (some z) }) (hwl:gS aR (ρ++xs) Pl tab) (hcw:fU aR (ρ++xs) fd.qualname fd.code)
  (g:∀ h' a t,bq ρ ρ ρ s.heap h'->aG prog w P nm base σ ρ xs h'->au P nm h' (ρ++xs) ρ (.clo j [v]) (.ref a)->Q (.ret (.ref a)) { s with heap:=h',toks:=t }) :
  wpAny (model prog w) A (do standAt pos; bindName ev (nm np) (.ref aR.objs.size); pure PySem.Flow.next) (fun fl s'=>match fl with
    | .next=>wpAny (model prog w) A (execs [.Return (some (.Name (nm np) rp)) rpos] ev) Q E s'
    | fl=>Q fl s') E { s with heap:=aR.push { cls:=.type "function",data:=.func fd },toks:=tk }:=by
 subst hPs hca
 have dead:∀ a∈ρ++xs,a < s.heap.objs.size:=fun a m=>let ⟨o,e⟩:=(I.new a m).2; Heap.lt_size e
 have hPs:Pl < s.heap.objs.size:=dead _ (A1 (aT ha))
 have hLP:s.heap.objs.size≠Pl:=Nat.ne_of_gt hPs
 have hF:s.heap.objs.size < aR.objs.size:=ns.lt
 refine wpAny_bind (wpAny_standAt (wpAny_bind (wpAny_bindName (wpAny_storeName_local (env:=ev) hloc (hL▸ns.push _) (fun jW ns4 sb4=>wpAny_pure ?_) (by rw [hk]; rfl)))))
 rw [hL] at ns4 sb4
 have k4:∀ b o,b≠s.heap.objs.size->aR.get? b=some o->jW.get? b=some o:=fun b o hb e=>(sb4.2 b hb).trans (A8 e)
 have fun4:=(sb4.2 _ (Nat.ne_of_gt hF)).trans (Heap.get?_push_size aR (o:={ cls:=.type "function",data:=.func fd }) rfl)
 have cw4:∀ {q:Str} {v:Value},fU aR (ρ++xs) q v->fU jW (ρ++xs) q v:=fun {q v} x=>by
  refine pd x fun cc oc ws t e g1 g2 g3 g4 g5=>?_; clear x
  exact ⟨cc,oc,ws,t,e,k4 _ _ (fun q=>by
    subst q
    refine de ns fun o' es ep e1 e2 HC=>?_; clear ns
    rw [g1] at e1; replace e1:=oi e1; subst e1; rw [g3] at e2; cases e2) g1,g2,g3,g4,g5⟩
 refine cL fun HC kG=>?_
 refine bD hwl fun ps h1 h2 h3=>?_; clear hwl
 refine ai (I.upd (o':=.wild 0) ha hw0 (fun b o hb e=>k4 b o (Nat.ne_of_lt (Heap.lt_size e)) (kk b o hb e)) ⟨_,k4 _ _ (Ne.symm hLP) h1⟩ ⟨tab,hl,ps,k4 _ _ (Ne.symm hLP) h1,h2,fun p m v e=>cw4 (h3 p m v e)⟩) fun S' I'=>?_
 refine kG ?_
 rw [iT hw0] at I'
 refine wpAny_execs_cons (wpAny_Return_some (wpAny_Name (wpAny_loadName_local (env:=ev) hk hloc (hL▸ns4) (if_pos rfl) ?_) (G.dbg np)))
 refine cL fun HC kG=>?_
 refine pd (cw4 hcw) fun cc oc ws t hcc g1 g2 g3 g4 g5=>?_
 refine kG ?_
 exact g jW _ _ S' I' (fF aR.objs.size [s.heap.objs.size + 1] [z] rfl ⟨_,fd,fp,cc,oc,ws,t,fun4,rfl,rfl,fun m=>Nat.lt_asymm hF (dead _ m),hfp,S,hcl,hcc,g1,g2,g3,g4,g5⟩ ⟨z,[],_,rfl,k4 _ _ (Nat.succ_ne_self _) hcell,rfl,rfl,fun m=>absurd (dead _ m) (Nat.not_lt.mpr (Nat.le_succ _)),rfl⟩ (db z [] rfl (rz.grow S'.growE) rfl))
theorem BO {σ:St} (hw:eX 0 σ = true):ao σ 0=some (.wild 0):=by
 unfold eX at hw
 cases hn:ao σ 0 with
 | none=>rw [hn] at hw; exact fT hw
 | some o=>
  rw [hn] at hw
  cases o with
  | wild j=>rw [A4 hw]
  | _=>exact fT hw
theorem sZ {M:Model} {A:Around} {E:Value->Shared->Prop} {s:Shared} {h:Heap} {c Pl:Addr} {tab:List (Pos × List Nat)} {R:List Addr} {q name:Str} {ev:Env} {pos:Pos} {fl:Nat} {params:Arguments} {scope:Scope} {body:FuncBody} {Q:Value->Shared->Prop}
  (hcode:ev.code = .ref c) (hc:jR base c Pl) (st:base.StaysIn h) (hPb:base.get? Pl=none) (hPm:Pl∈R) (dead:∀ a∈R,a < h.objs.size) (hw:gS h R Pl tab) (htab:∀ p∈tab,p.1.line=pos.line->p.1.col=pos.col->aA p.2=q) (hmem:∃ p∈tab,p.1=pos)
  (k:∀ cv h' tk,(∀ b o,b≠Pl->h.get? b=some o->h'.get? b=some o)->gS h' R Pl tab->fU h' R q cv->Q cv { s with heap:=h',toks:=tk }):wpAny M A (functionCode ev pos fl name q params scope body) Q E { s with heap:=h }:=by
 refine cL fun HC kG=>?_
 refine bD hw fun ps hps htr hcs=>?_; clear hw
 obtain ⟨oc,vs,file,tf,flags,tg,inF,text,tt,hoc,hcls,hcd,h11,h18,h7,h9,h10⟩:=hc
 refine kG ?_
 have hcP:c≠Pl:=fun e=>by rw [e,hPb] at hoc; exact nS hoc
 have hok:h.IsCode c Pl ps:=⟨oc,vs,file,tf,flags,tg,inF,text,tt,_,st _ _ hoc,hcd,by rw [Array.getD_eq_getD_getElem?,h11]; rfl,h18,h7,h9,h10,hps,rfl,htr,hcP⟩
 cases hf:codeAmong pos ps.toList with
 | some cv=>
  refine ae hmem fun p hp zq1=>?_; clear hmem; subst zq1
  exact wpAny_functionCode_hit hcode hok hf (k cv h s.toks (fun b o HC e=>e) (bY ps hps htr hcs) (htab p hp rfl rfl▸hcs p hp cv hf))
 | none=>
  refine wpAny_functionCodeX hcode hok ⟨(dW oc vs (st _ _ hoc) hcls hcd h11),hps⟩ hf fun c' h' tk hx hge hlt hok' hrec htb' ⟨P',_,hi',ht'⟩=>?_
  have hcw:fU h' R q (.ref c'):=by
   obtain ⟨Dc,nZ,uy,iQ,fH,aN,zr,zt⟩:=hrec
   cases fH
   refine ai ht' fun zq1 HC=>?_; clear ht'; refine aV zq1 fun Dd Bg dq gW HC=>?_
   rw [aN] at dq; replace dq:=oi dq; subst dq
   exact (rO c' nZ uy iQ rfl aN gW zr zt (fun m=>absurd (dead _ m) (Nat.not_lt.mpr hge)))
  refine k (.ref c') h' tk (fun b o hb e=>hx b o hb e) ⟨_,htb'.2,by
   have:=TriplesOk_snoc (pos.line:Int) (pos.col:Int) (.ref c') _ htr
   simpa using this,fun p hp v e=>?_⟩ hcw
  rcases iv (a:=pos.line) (b:=pos.col) (c:=.ref c') ps.toList htr (by simpa using e) with e | ⟨e1,e2,rfl⟩
  ·refine pd (hcs p hp v e) fun c2 oc2 ws t zq1 g1 g2 g3 g4 n=>?_; subst zq1
   exact (rO c2 oc2 ws t rfl (hx _ _ (fun z=>n (z▸hPm)) g1) g2 g3 g4 n)
  ·exact htab p hp (Int.ofNat.inj e1).symm (Int.ofNat.inj e2).symm▸hcw
theorem vL (G:jp P nm base mg mb) (NL:base.NoLimit) (BA:∃ bm o,mg "__builtins__" = some (.ref bm)/\bm≠builtinsNs/\bm≠mainGlobals/\base.get? bm=some o/\o.cls = .type "module"/\o.dict=some builtinsNs/\o.data = .plain)
  {j:Nat} {f fp:bu} {fd:FuncData} {nw np:Nat} (hfp:P.fns j=some fp) (K:yP base P nm f fp fd nw np) (v:V) (z:Value) (d:Nat) (hm:Bool) (σ:St) (A:Around) (fes:List Env) (xs ρ:List Addr) (s:Shared) (Q E:Value->Shared->Prop) (ht:1<=s.toks) (O:cV A fes d hm)
  (I:aG prog w P nm base σ ρ xs s.heap) (rz:au P nm s.heap (ρ++xs) ρ v z) (hw:eX 0 σ = true) (g:bh prog w base P nm (.ok (.clo j [v]) σ) ρ xs Q E s):wpAny (model prog w) A (call (.ref f.addr) [z]) Q E s:=by
 refine cL fun HC kG=>?_
 refine ae K.at_ fun o ho hd=>?_
 obtain ⟨args,bd,scope,pos,rp,rpos,hbody,hex,hdoc,hclo,hS,zq1⟩:=K.body; refine nj zq1 fun c Pl tab hcode hc hl htab hmem=>?_
 have hw0:=BO hw
 refine ay (dh (l:=ρ) (k:=0) (by rw [I.len]; exact b7 hw0)) fun a0 ha=>?_
 refine ae (I.obj _ _ _ hw0 ha) fun tab' hl' zq1=>?_; refine bD zq1 fun ps hps htr hcs=>?_
 refine kG ?_
 rw [hl] at hl'; cases hl'
 have hPm:Pl∈ρ++xs:=A1 (aT ha)
 have hPb:=(I.new Pl hPm).1
 refine wpAny_call (codeAny_call_function (pn O.dep) (I.stay _ _ ho) hd K.co K.gen hbody (K.codr.keeps I.stay) (BindsTo.of_eq (K.bind z) _ _ _ _ ?_))
 rw [K.clo,K.glo]
 refine mY K.kind K.cell (K.cells _) K.push fun h₁ vM kp hcell=>⟨NL.keeps fun b o e=>kp b o (I.stay b o e),codeAny_func ?_⟩
 let ev:Env:=newEnv fd.scope s.heap.objs.size mainGlobals [(nm nw,s.heap.objs.size + 1)] (fd.qualname++".<locals>.") (some f.addr) fd.code none fd.builtins
 show wpAny (model prog w) (A.deeper ev) (execs _ ev) _ _ _
 have dead:∀ a∈ρ++xs,a < s.heap.objs.size:=fun a m=>let ⟨o,e⟩:=(I.new a m).2; Heap.lt_size e
 have hq:qualnameIn ev (nm np) (nm np)=fd.qualname++".<locals>."++nm np:=by
  unfold qualnameIn
  rw [show ev.kindOf (nm np)=some .local from K.loc]; rfl
 refine wpAny_execs_cons ?_
 rw [hex,hq]
 refine wpAny_bind (wpAny_standAt (wpAny_bind (wpAny_holding (vK (s:=s) (h:=h₁) (mg:=mg) (Pl:=Pl) (hclo ev _ (by show List.lookup (nm nw) [(nm nw,_)]=_; rw [List.lookup_cons,beq_self_eq_true])) hdoc ?_))))
 have kt:∀ b o,h₁.get? b=some o->(h₁.push { cls:=.type "tuple",data:=.seq ([Value.ref (s.heap.objs.size + 1)]:List Value).toArray }).get? b=some o:=fun b o e=>A8 e
 generalize h₁.push { cls:=.type "tuple",data:=.seq ([Value.ref (s.heap.objs.size + 1)]:List Value).toArray } = aq at kt
 have yQ:∀ {h:Heap},(∀ b o,b≠Pl->aq.get? b=some o->h.get? b=some o)->h.Ns s.heap.objs.size (fun HC=>none):=fun {h} hx=>by
  refine fE vM fun o es ep e1 r=>?_; clear vM
  exact (hM o es ep (hx _ _ (Nat.ne_of_gt (dead _ hPm)) (kt _ _ e1)) r)
 refine sZ (s:=s) (h:=aq) (R:=ρ++xs) hcode hc (fun b o e=>kt b o (kp b o (I.stay b o e))) hPb hPm (fun a m=>Nat.lt_trans (dead a m) (yQ fun HC HC HC e=>e).lt) (bY ps (kt _ _ (kp _ _ hps)) htr (fun p m v e=>?_)) htab hmem fun cv h' tk hx hw' hcw=>?_
 ·refine nn (hcs p m v e) fun cc oc ws t e g1 g2=>?_
  exact ⟨cc,oc,ws,t,e,kt _ _ (kp _ _ g1),g2⟩
 have hx':∀ b o,b≠Pl->s.heap.get? b=some o->h'.get? b=some o:=fun b o hb e=>hx b o hb (kt b o (kp b o e))
 have stb:base.StaysIn h':=fun b o e=>hx' b o (fun q=>by rw [q,hPb] at e; exact nS e) (I.stay b o e)
 refine cL fun HC kG=>?_
 refine jz BA fun bm ob b1 b2 b3 b4 b5=>?_; clear BA
 refine kG ?_
 exact (cF (G.g.keeps stb) ⟨bm,ob,b1,b2,b3,(fun e=>by rw [e,hPb] at b4; exact nS b4),stb _ _ b4,b5⟩ (sY (A:=A.deeper ev) (ev:=ev) (L:=s.heap.objs.size) (v:=v) G hfp K.kind K.loc rfl I ha hw0 hl rz rfl rfl (hS _ _ _ _) rfl hx' (yQ hx) (hx _ _ (Nat.ne_of_gt (Nat.lt_succ_of_lt (dead _ hPm))) (kt _ _ hcell)) hw' hcw fun jW a t S I' r=>g (.ref a) jW t ρ S I' r))
end
end Mine
end
section
set_option backward.match.sparseCases true
open PySem PySem.Calls PyProof.Rows PySem.W PySem.SeqAt
namespace Mine
section
variable {prog:Program} {w:World} {base:Heap} {P:cz} {nm:Nat->Str} {mg mb:Str->Option Value}
theorem lX:∀ {l:List (Nat × Nat)} {i c q:Nat},gQ l=true->ao l i=some (c,q)->q<=1
 | _ :: _,0,_,_,h,e=>by replace e:=oi e; subst e; exact A5 (aD h)
 | _ :: l,i + 1,_,_,h,e=>lX (l:=l) (i:=i) (al h) e
theorem vN {f:bu} {fd:FuncData} {k:Nat} (S:CloS0 nm f fd (k + 1)) (h:gQ f.vars=true):False:=by
 have hl:=S.le
 have hn:=S.np
 have hv:=S.nv
 obtain ⟨⟨c,q⟩,e⟩:=dh (l:=f.vars) (k:=f.np - (k + 1)) (by omega)
 have:=lX h e
 rcases S.var _ _ _ e with ⟨_,_,h⟩ | ⟨_,_,h⟩ | ⟨rfl,_⟩ <;> omega
theorem vO {C:aS} (G:jp P nm base mg mb) (NL:base.NoLimit) {fp:bu} {c0 c1 cw:Nat} {ta tb:List Nat} {k1 k2 k3 k4:Nat} {p1 p2 p3 p4 p5 p6:Pos} (hvars:fp.vars=[(c0,0),(c1,0),(cw,2)]) (hnp:fp.np=3)
  (hb:fp.body = .cons (.ret (.tup (.cons (.name 2 p1) (.cons (.tup (.cons (.const (.str ta) k1 p2) (.cons (.const (.str tb) k2 p3) .nil)) k3 p4) .nil)) k4 p5) p6) .nil) (hP:∀ i f,P.fns i=some f->gQ f.vars=true\/f=fp) (n:Nat):sz prog w base P nm (run P C n):=by
 intro i f v fv vs x zs d hm σ A fes xs ρ s Q E hf ht O ff I rx rs hv g
 refine cL fun HC kG=>?_
 obtain ⟨a,as,ys,rfl,⟨o,fd,f',c,oc,ws,t,h1,h2,h3,h4,h5,h6,h7,h8,g1,g2,g3,g4,g5⟩,hc,hys⟩:=rx
 refine kG ?_
 rw [hf] at h5; replace h5:=oi h5; subst h5
 refine aV hys fun y ys' zq1 ry hys'=>?_; clear hys; subst zq1
 match as,hc with
 | [],hc=>cases hc
 | ca :: as,hc=>
 refine cL fun HC kG=>?_
 obtain ⟨FZ,EG,oc',e,hcg,hcc,hcd,hcn,hc'⟩:=hc
 cases e
 refine kG ?_
 have S:=h6.toCloS0
 rcases hP i f hf with hnf | rfl
 ·exact (vN S hnf).elim
 have hle:=S.le
 rw [hnp] at hle
 have v0:=S.var 0 c0 0 (by rw [hvars]; rfl)
 have v1:=S.var 1 c1 0 (by rw [hvars]; rfl)
 have v2:=S.var 2 cw 2 (by rw [hvars]; rfl)
 rw [hnp] at v0 v1 v2
 have has:as=[]:=by
  cases as with
  | nil=>rfl
  | cons b as=>
   simp only [List.length_cons] at hle v0 v1
   rcases v1 with h | h | h <;> omega
 subst has
 have hS:=S.clo
 have l0:fd.scope.names.lookup (nm c0)=some .local:=by
  rcases v0 with h | h | h
  ·exact h.2.1
  ·cases h.1
  ·cases h.1
 have l1:fd.scope.names.lookup (nm c1)=some .local:=by
  rcases v1 with h | h | h
  ·exact h.2.1
  ·cases h.1
  ·cases h.1
 have l2:fd.scope.names.lookup (nm cw)=some .free:=by
  rcases v2 with h | h | h
  ·cases h.1
  ·cases h.1
  ·exact h.2.1
 have hfv:fv=[]:=by
  cases fv with
  | nil=>rfl
  | cons b fv=>refine fL hys' fun HC HC e HC=>?_; clear hys'; have:ys'=[]:=hc'; rw [this] at e; cases e
 subst hfv
 rw [hnp,hvars] at hS
 have hcl:fd.closure=[(nm cw,ca)]:=by
  have h7':=h7
  have hS':fd.closure.map (·.1)=[nm cw]:=hS
  generalize fd.closure=L at h7' hS'
  match L,h7',hS' with
  | [(_,_)],h,h'=>cases h; cases h'; rfl
  | [],h,_=>cases h
  | _ :: _ :: _,h,_=>cases h
 rw [hnp] at hv
 refine cL fun HC kG=>?_
 obtain ⟨cC,BP,rfl⟩:∃ cC BP,vs=[cC,BP]:=by
  match vs,hv with
  | [a,b],_=>exact (gP a b rfl)
  | [],h=>simp at h
  | [_],h=>simp at h
  | _ :: _ :: _ :: l,h=>simp only [List.length_cons,List.length_nil] at h; omega
 refine aV (ak.two rs) fun BQ BR zq1 r0 r1=>?_; subst zq1
 refine kG ?_
 have hbind:=S.bind [BQ,BR] (by rw [hnp]; rfl)
 rw [hnp,hvars] at hbind
 have g':bh prog w base P nm (.ok (.tup [v,.tup [.str ta,.str tb]]) σ) ρ xs (T1 Q) (T1 E) s:=by
  rw [hb] at g
  match n,g with
  | 0,g=>exact g.elim
  | 1,g=>exact g.elim
  | 2,g=>exact g.elim
  | 3,g=>exact g.elim
  | n + 4,g=>exact g
 refine wpAny_call (codeAny_call_function (pn O.dep) h1 h3 S.co S.gen h6.body ⟨c,oc,ws,t,h8,g1,g3,g4⟩ (BindsTo.of_eq hbind _ _ _ _ ?_))
 refine wpAny_newFunctionEnv h6.nc (fun x hx=>?_) (fun h₁ hns hsb=>⟨(NL.keeps I.stay).fresh _ hsb,codeAny_func ?_⟩) S.kind
 ·have hx':x∈[(nm c0,BQ),(nm c1,BR)]:=hx
  rcases A7 hx' with rfl | hx'
  ·exact l0
  ·rw [A2 hx']; exact l1
 rw [hcl,hb]
 let ev:Env:=newEnv fd.scope s.heap.objs.size fd.globals [(nm cw,ca)] (fd.qualname++".<locals>.") (some a) fd.code none fd.builtins
 have kp:∀ b o,s.heap.get? b=some o->h₁.get? b=some o:=fun b o e=>hsb.extBut b o (Nat.ne_of_lt (Heap.lt_size e)) (A8 e)
 have fin:∀ t0 t1 tk,1<=tk->Q (.ref (h₁.push { cls:=.type "tuple",data:=.seq ([Value.str (aA ta) t0,Value.str (aA tb) t1]:List Value).toArray }).objs.size) { s with heap:=(h₁.push { cls:=.type "tuple",data:=.seq ([Value.str (aA ta) t0,Value.str (aA tb) t1]:List Value).toArray }).push { cls:=.type "tuple",data:=.seq ([y,.ref h₁.objs.size]:List Value).toArray },toks:=tk }:=fun t0 t1 tk htk=>by
  refine cL fun HC kG=>?_
  refine ai (I.grown kp) fun S1 I1=>?_
  refine ai (I1.grown (h':=h₁.push { cls:=.type "tuple",data:=.seq ([Value.str (aA ta) t0,Value.str (aA tb) t1]:List Value).toArray }) fun b o e=>A8 e) fun S2 I2=>?_
  have rt:au P nm (h₁.push { cls:=.type "tuple",data:=.seq ([Value.str (aA ta) t0,Value.str (aA tb) t1]:List Value).toArray }) (ρ++xs) ρ (.tup [.str ta,.str tb]) (.ref h₁.objs.size):=.tup (vs:=[.str (aA ta) t0,.str (aA tb) t1]) ⟨_,Heap.get?_push_size _ rfl,rfl,0,rfl⟩ (fun m=>az (aZ _) (I1.new _ m).2) (.cons (.str _ _) (.cons (.str _ _) .nil))
  have S3:=S1.transE S2
  refine ai (I2.grown (h':=(h₁.push { cls:=.type "tuple",data:=.seq ([Value.str (aA ta) t0,Value.str (aA tb) t1]:List Value).toArray }).push { cls:=.type "tuple",data:=.seq ([y,.ref h₁.objs.size]:List Value).toArray }) fun b o e=>A8 e) fun S4 I4=>?_
  refine kG ?_
  exact g' _ _ tk ρ (S3.transE S4) I4 (.tup (vs:=[y,.ref h₁.objs.size]) ⟨_,Heap.get?_push_size _ rfl,rfl,0,rfl⟩ (fun m=>az (aZ _) (I2.new _ m).2) (.cons (ry.grow (S3.transE S4).growE) (.cons (rt.grow S4.growE) .nil))) htk
 show wpAny (model prog w) (A.deeper ev) (execs [.Return (some (.Tuple [.Name (nm (f.vars.getD 2 (0,0)).1) p1,.Tuple [.Constant (.str (aA ta)) k1 p2,.Constant (.str (aA tb)) k2 p3] k3 p4] k4 p5)) p6] ev) _ _ _
 rw [hvars]
 refine wpAny_execs_cons (wpAny_Return_some (wpAny_Tuple ?_))
 refine spliced_cons (wpAny_Name (wpAny_loadName_free (env:=ev) (c:=ca) (v:=y) S.kind l2 (by show List.lookup (nm cw) [(nm cw,ca)]=_; rw [List.lookup_cons,beq_self_eq_true]) (ax oc' (kp _ _ hcg) hcd) ?_ (G.cld cw)) (G.dbg cw))
 refine spliced_cons (wpAny_Tuple (k:=k3) (pos:=p4) (spliced_cons (wpAny_Constant_str (k:=k1) (pos:=p2) (spliced_cons (wpAny_Constant_str (k:=k2) (pos:=p3) (spliced_nil ⟨by show 2<=sizeLine; decide,?_⟩))))))
 exact spliced_nil ⟨by show 2<=sizeLine; decide,fin _ _ _ (by dsimp only; omega)⟩
end
end Mine
end
section
set_option backward.match.sparseCases true
open PySem PySem.Calls PyProof.Rows PySem.W PySem.SeqAt
namespace Mine
noncomputable def vP:FuncBody->List Stmt
 | .stmts l=>l
 | _=>[]
noncomputable def kC:Stmt->Arguments
 | .FunctionDef _ a ..=>a
 | _=>default
noncomputable def iE:Stmt->List Stmt
 | .FunctionDef _ _ b ..=>b
 | _=>[]
noncomputable def eg:Stmt->Scope
 | .FunctionDef _ _ _ _ _ _ s ..=>s
 | _=>default
noncomputable def xQ:Value->Addr
 | .ref a=>a
 | _=>0
noncomputable def EH:Data->Option (Array Value)
 | .fields vs=>some vs
 | _=>none
theorem z5 {d:Data} {vs:Array Value} (h:EH d=some vs):d = .fields vs:=by
 cases d with
 | fields _=>replace h:=oi h; subst h; rfl
 | _=>exact nS h
noncomputable def qc:Value->Nat
 | .str ..=>1
 | .int ..=>2
 | .bool _=>3
 | _=>0
theorem Dn {v:Value} (h:Nat.beq (qc v) 1=true):∃ a b,v = .str a b:=by
 cases v with
 | str a b=>exact (gP a b rfl)
 | _=>exact fT h
theorem BU {v:Value} (h:Nat.beq (qc v) 2=true):∃ a b,v = .int a b:=by
 cases v with
 | int a b=>exact (gP a b rfl)
 | _=>exact fT h
theorem Do {v:Value} (h:Nat.beq (qc v) 3=true):∃ a,v = .bool a:=by
 cases v with
 | bool a=>exact ⟨a,rfl⟩
 | _=>exact fT h
noncomputable def z6 (K:Frag) (c Pl:Addr):Bool:=kc (K.lookup c) fun o=>o.cls == .type "code" && kc (EH o.data) fun vs=>vs[11]? == some (.ref Pl) && (Nat.beq (qc (vs.getD 18 .none)) 1 && (Nat.beq (qc (vs.getD 7 .none)) 2 && (Nat.beq (qc (vs.getD 9 .none)) 3 && Nat.beq (qc (vs.getD 10 .none)) 2)))
theorem iF {K:Frag} {base:Heap} (X:K.In base) {c Pl:Addr} (h:z6 K c Pl=true):jR base c Pl:=by
 refine ae (bS h) fun o ho h=>?_
 refine ae (bS (al h)) fun vs hd e=>?_
 refine eE (Dn (aD (al e))) fun HC HC h18=>?_
 refine eE (BU (aD (al (al e)))) fun HC HC h7=>?_
 refine ay (Do (aD (al (al (al e))))) fun HC h9=>?_
 refine eE (BU (al (al (al (al e))))) fun HC HC h10=>?_
 exact ⟨o,vs,_,_,_,_,_,_,_,X _ _ ho,eq_of_beq (aD h),z5 hd,eq_of_beq (aD e),h18,h7,h9,h10⟩
theorem z7 {names:List (Str × NameKind)} {k:NameKind} (h:(names.all fun x=>!(x.2 == k))=true):∀ x∈names,x.2≠k:=fun x m e=>by
 have:=A6 h x m
 rw [e,beq_self_eq_true] at this; exact fT this
theorem kE {nm:Nat->Str} {fk:bu} {st:Stmt} {name q:Str} {pos:Pos} (h0:st = .FunctionDef name (kC st) (iE st) [] none [] (eg st) none name pos) (h1:PlainDefTree name (kC st) (iE st) (eg st) pos) (h2:docOf (iE st)=none)
  (h3:((eg st).names.all fun x=>!(x.2 == .free))=true) (h4:((eg st).names.all fun x=>!(x.2 == .cell))=true)
  (h5:∀ pm c,mI nm fk { name,qualname:=q,params:=kC st,body:=.stmts (iE st),scope:=eg st,globals:=mainGlobals,closure:=[],defaults:=.none,kwdefaults:=.none,pyModule:=pm,code:=c,builtins:=builtinsNs } = true)
  (h6:∀ pm c,∀ zs:List Value,zs.length=fk.np->bindArgs { name,qualname:=q,params:=kC st,body:=.stmts (iE st),scope:=eg st,globals:=mainGlobals,closure:=[],defaults:=.none,kwdefaults:=.none,pyModule:=pm,code:=c,builtins:=builtinsNs } ⟨zs,[]⟩ = pure (((fk.vars.take fk.np).map fun p=>nm p.1).zip zs))
  (h7:iE st=fk.body.toS nm fun i=>(fk.vars.getD i (0,0)).1) (h8:fk.pre=[]):lG nm fk st name pos q:=
 ⟨_,_,_,h0,h1,h2,z7 h3,fun pm c=>⟨mJ (h5 pm c) (h6 pm c),congrArg FuncBody.stmts h7,h8,z7 h4⟩⟩
theorem z8 {P:cz} {K:Frag} {base:Heap} {nm:Nat->Str} (X:K.In base) {f:bu} (h1:kh K f.addr=true) (hc:codeIn K (dL K f.addr).code (dL K f.addr).qualname=true) (hk:mI nm f (dL K f.addr)=true) {sts:List Stmt} (h2:(dL K f.addr).body = .stmts (sts++f.body.toS nm fun i=>(f.vars.getD i (0,0)).1))
  (h3:∀ zs:List Value,zs.length=f.np->bindArgs (dL K f.addr) ⟨zs,[]⟩ = pure (((f.vars.take f.np).map fun p=>nm p.1).zip zs)) (hh:pJ P nm base f (dL K f.addr) sts):cy P nm base f:=
 let ⟨o,ho,hd,hcl⟩:=eM h1
 ⟨o,dL K f.addr,sts,X _ _ ho,hd,hcl,codeRec_of X hc,h2,mJ hk h3,hh⟩
end Mine
end
section
namespace Mine.H
open PySem PySem.W PySem.Calls PyProof.Rows
noncomputable abbrev pw:Program:=PySem.Challenge.pw_pq0364_01
noncomputable def z9:Nat->List Stmt->Stmt
 | _,[]=>.Pass (pZ 0 0 0)
 | n,s :: l=>match n with | 0=>s | k + 1=>z9 k l
noncomputable def st (i:Nat):Stmt:=z9 i pw.main.body
noncomputable def mt (i j:Nat):Stmt:=match st i with
 | .ClassDef _ _ _ b ..=>z9 j b
 | s=>s
noncomputable def fd:Stmt->Arguments × List Stmt × Scope
 | .FunctionDef _ a b _ _ _ s _ _ _=>(a,b,s)
 | _=>(⟨[],[],none,[],[],none,[]⟩,[],pw.main.scope)
noncomputable abbrev q (s:String):Str:=Str.ofString s
noncomputable def S (s:String) (t:Nat):Value:=.str (q s) t
noncomputable def E (P:Params) (s:String) (t:Nat) (v:Value):DictEntry:=⟨PyData.keyHash P (q s),.str (q s) t,v⟩
noncomputable def tp (l:List Value):Obj:=⟨.type "tuple",none,.seq ⟨l⟩ 0,#[]⟩
noncomputable def fl (l:List Value):Obj:=⟨.none,none,.fields ⟨l⟩,#[]⟩
noncomputable def fn (c:Value) (f:FuncData):Obj:=⟨c,none,.func f,#[]⟩
noncomputable def co (n m:String) (t:Nat) (l ac fg:Int) (a1:Nat) (b:Bool) (u:Int) (a2:Nat) (x y z k:Value) (u2:Int) (t4:Nat):Obj:=
 ⟨.type "code",none,.fields ⟨[S n t,S m (t + 1),S "/claim/cut.py" (t + 2),.int l 0,.int ac 0,.int 0 0,.int 0 0,.int fg 0,.ref a1,.bool b,.int u 0,.ref a2,x,y,z,k,.int u2 0,.int l 0,S "/claim/cut.py" t4]⟩,#[]⟩
noncomputable def fo (d:Arguments × List Stmt × Scope) (n m:String) (g:Nat) (pm cd:Value):FuncData:=
 { name:=q n,qualname:=q m,params:=d.1,body:=.stmts d.2.1,scope:=d.2.2,globals:=g,closure:=[],defaults:=.none,kwdefaults:=.none,pyModule:=pm,code:=cd }
noncomputable def sn:Nat->List String->List Value
 | _,[]=>[]
 | t,s :: l=>S s t :: sn (t + 1) l
/-- a def's seven objects -/
noncomputable def fb (a t i:Nat) (l ac:Int) (n:String) (m:Value) (ls:List String) (r:List Obj):List Obj:=
 tp [] :: fl [] :: tp (sn (t + 3) ls) :: tp [] :: fn .none (fo (fd (st i)) n n 0 .none .none) :: co n n t l ac 3 a true 181 (a + 1) .none (.ref (a + 2)) (.ref (a + 3)) (.ref (a + 4)) (t + 3 + ls.length) (t + 4 + ls.length) :: fn (.type "function") (fo (fd (st i)) n n 3 m (.ref (a + 5))) :: r
noncomputable def li (l:List Value):Obj:=⟨.type "list",none,.seq ⟨l⟩ 0,#[]⟩
noncomputable def BV:List (Nat × DictEntry)->List DictEntry->List DictEntry
 | [],l=>l
 | p :: r,l=>BV r (l.set p.1 p.2)
noncomputable def fK:List Obj->Nat->BT->BT
 | [],_,t=>t
 | o :: l,n,t=>fK l (n + 1) (t.ins n o)
noncomputable def gn:List (Nat × Obj)->BT->BT
 | [],t=>t
 | p :: l,t=>gn l (t.set p.1 fun HC=>p.2)
noncomputable def EI:Nat->List Obj->Frag
 | _,[]=>[]
 | n,o :: l=>(n,o) :: EI (n + 1) l
noncomputable def ge (P:Params):List DictEntry:=[E P "__name__" 165 (S "law_pq0364_01" 1367),E P "__doc__" 166 .none,E P "__package__" 167 .none,E P "__loader__" 168 (.builtin "__main__.__loader__#opaque"),E P "__spec__" 169 .none,E P "__annotations__" 170 (.ref 6),E P "__builtins__" 171 (.ref 4),E P "__file__" 173 (S "/claim/cut.py" 172),E P "__cached__" 174 .none,E P "F77Error" 217 (.ref 31),E P "SourceError" 243 (.ref 51),E P "LexFault" 269 (.ref 70),E P "SyntaxFault" 285 (.ref 82),E P "DIGITS_squeeze" 289 (S "0123456789" 288),E P "AHEAD_OF_COUNT" 291 (S "(,/:" 290),E P "capital" 298 (.ref 91),E P "constant_end" 307 (.ref 98),E P "count_end" 317 (.ref 105),E P "hollerith" 328 (.ref 112),E P "squeeze" 342 (.ref 119),E P "squeezed" 352 (.ref 126),E P "depths" 363 (.ref 133),E P "closing" 373 (.ref 140),E P "DIGITS_classify" 377 (S "0123456789" 376),E P "LETTERS_classify" 379 (S "ABCDEFGHIJKLMNOPQRSTUVWXYZ" 378),E P "WHOLE" 388 (.ref 145),E P "TYPES" 401 (.ref 152),E P "BEGINS" 458 (.ref 181),E P "name_end" 467 (.ref 188),E P "digits_end" 476 (.ref 195),E P "is_target" 485 (.ref 202),E P "is_balanced" 495 (.ref 209),E P "equals_at" 505 (.ref 216),E P "is_do_head" 513 (.ref 223),E P "word_of_if" 521 (.ref 230),E P "word_of_goto" 528 (.ref 237),E P "word_of_type" 539 (.ref 244),E P "word_by_begin" 548 (.ref 251),E P "classify" 558 (.ref 258),E P "kind_at" 568 (.ref 265),E P "is_op" 577 (.ref 272),E P "need_op" 586 (.ref 279),E P "need_name" 594 (.ref 286),E P "need_int" 602 (.ref 293),E P "need_end" 610 (.ref 300),E P "close_at" 620 (.ref 307),E P "EQUIVALENCE" 624 (.int 1 623),E P "NEGATION" 626 (.int 4 625),E P "RELATION" 628 (.int 5 627),E P "SUM" 630 (.int 7 629),E P "POWER" 632 (.int 9 631),E P "MOST_DEEP" 634 (.int 40 633),E P "MOST_HIGH" 636 (.int 100 635),E P "PLACE_TAGS" 640 (.ref 308),E P "PRIORITIES" 689 (.ref 309),E P "priority_at" 697 (.ref 316),E P "higher" 704 (.ref 323),E P "deeper" 711 (.ref 330),E P "parse_expr" 719 (.ref 337),E P "read_binary" 736 (.ref 344),E P "read_first" 750 (.ref 351),E P "read_primary" 763 (.ref 358),E P "constant_of" 772 (.ref 365),E P "parse_bracket" 784 (.ref 372),E P "part_end" 792 (.ref 379),E P "is_complex" 802 (.ref 386),E P "complex_part" 811 (.ref 393),E P "read_named" 827 (.ref 400),E P "holds_mark" 839 (.ref 407),E P "read_ends" 852 (.ref 414),E P "read_arguments" 868 (.ref 421),E P "whole_expr" 877 (.ref 428),E P "INTEGER" 879 (.int 0 878),E P "REAL" 881 (.int 1 880),E P "DOUBLE" 883 (.int 2 882),E P "COMPLEX" 885 (.int 3 884),E P "LOGICAL" 887 (.int 4 886),E P "CHARACTER" 889 (.int 5 888),E P "LETTERS_lex" 893 (S "ABCDEFGHIJKLMNOPQRSTUVWXYZ" 892),E P "DIGITS_lex" 895 (S "0123456789" 894),E P "DOTTED" 907 (.ref 429),E P "TRUTHS" 910 (.ref 430),E P "SIGNS" 912 (S "+-*/(),=:" 911),E P "MOST_NAME" 914 (.int 6 913),E P "MOST_DIGITS" 916 (.int 1000 915),E P "run_of" 926 (.ref 437),E P "dotted_at" 936 (.ref 444),E P "told_pair" 945 (.ref 451),E P "power_at" 956 (.ref 458),E P "number_at" 972 (.ref 465),E P "quoted_at" 982 (.ref 472),E P "name_at" 991 (.ref 479),E P "point_at" 1000 (.ref 486),E P "token_at" 1010 (.ref 493),E P "tokens_of" 1020 (.ref 500),E P "dummy_list" 1032 (.ref 507),E P "named_list" 1043 (.ref 514),E P "MAIN_NAME" 1047 (S "$MAIN" 1046),E P "BLOCK_NAME" 1049 (S "$BLOCK" 1048),E P "HEAD_WORDS" 1054 (.ref 515),E P "TYPE_WORDS" 1061 (.ref 516),E P "SPEC_WORDS" 1068 (.ref 518),E P "BLOCK_WORDS" 1077 (.ref 520),E P "LAST_OF_LOOP" 1093 (.ref 521),E P "PREFIXES" 1099 (.ref 527),E P "IMPLICIT_STAGE" 1101 (.int 1 1100),E P "SPEC_STAGE" 1103 (.int 2 1102),E P "DATA_STAGE" 1105 (.int 3 1104),E P "RUN_STAGE" 1107 (.int 4 1106),E P "RawUnit" 1148 (.ref 544),E P "UnitMaker" 1185 (.ref 565),E P "result_of" 1194 (.ref 576),E P "head_unit" 1205 (.ref 583),E P "note_label" 1214 (.ref 590),E P "turn_arm" 1222 (.ref 597),E P "enter" 1232 (.ref 604),E P "close_loops" 1241 (.ref 611),E P "note_arrays" 1252 (.ref 618),E P "add_spec" 1265 (.ref 625),E P "add_format" 1274 (.ref 632),E P "is_stfunc" 1283 (.ref 639),E P "add_stfunc" 1289 (.ref 644),E P "add_body" 1300 (.ref 651),E P "add_executable" 1312 (.ref 658),E P "add_row" 1324 (.ref 665),E P "begin_unit" 1337 (.ref 672),E P "take_row" 1350 (.ref 679),E P "units_of" 1366 (.ref 686),E P "_law_specs" 1372 (.ref 687),E P "_law_acts" 1376 (.ref 688),E P "_law_cases" 1486 (.ref 791),E P "_law_heads" 1492 (.ref 798),E P "_law_kinds" 1498 (.ref 805),E P "_law_words" 1504 (.ref 812),E P "_law_deal" 1513 (.ref 819),E P "_law_told" 1522 (.ref 826),E P "_law_hands" 1528 (.ref 831),E P "_law_rows" 1540 (.ref 838),E P "_law_is_body" 1547 (.ref 845),E P "_law_heard" 1558 (.ref 852),E P "law" 1564 (.ref 857)]
noncomputable def fx:List (Int × Nat)->List Value
 | []=>[]
 | (a,b) :: l=>.int a 0 :: .int 0 0 :: .ref b :: fx l
noncomputable def fe:List Value:=fx [(2,20),(7,40),(12,59),(17,78),(22,90),(26,97),(35,104),(45,111),(53,118),(78,125),(83,132),(104,139),(116,187),(123,194),(128,201),(138,208),(148,215),(156,222),(163,229),(172,236),(180,243),(194,250),(210,257),(225,264),(229,271),(231,278),(235,285),(239,292),(243,299),(246,306),(266,315),(270,322),(274,329),(278,336),(280,343),(296,350),(310,357),(323,364),(333,371),(337,378),(343,385),(349,392),(356,399),(370,406),(381,413),(393,420),(411,427),(430,436),(435,443),(441,450),(449,457),(464,464),(482,471),(495,478),(500,485),(509,492),(525,499),(533,506),(552,513),(571,533),(584,554),(594,575),(607,582),(628,589),(634,596),(639,603),(656,610),(663,617),(668,624),(687,631),(693,638),(700,643),(706,650),(717,657),(732,664),(751,671),(759,678),(765,685),(784,797),(786,804),(788,811),(790,818),(794,825),(799,830),(813,837),(820,844),(822,851),(828,856)]
noncomputable def gl (P:Params) (n c:Nat) (ds:List (Nat × DictEntry)):Obj:=⟨.type "dict",none,.dict ⟨BV ds ((ge P).take n)⟩ c,#[]⟩
noncomputable def ff (n:Nat):Obj:=⟨.none,none,.fields ⟨fe.take n⟩,#[]⟩
noncomputable abbrev M0:Value:=S "f77.squeeze" 286
noncomputable abbrev M1:Value:=S "f77.classify" 374
noncomputable abbrev M2:Value:=S "f77.peek" 559
noncomputable abbrev M3:Value:=S "f77.exprs" 621
noncomputable abbrev M4:Value:=S "f77.lex" 890
noncomputable abbrev M5:Value:=S "f77.stmts" 1021
noncomputable abbrev M6:Value:=S "f77.units" 1044
noncomputable abbrev M7:Value:=S "law_pq0364_01" 1367
noncomputable def n1 (x:Obj) (P:Params):List Obj:=tp [(.type "Exception")] ::
⟨(.type "builtin_function_or_method"),none,(.fields ⟨[(.builtin "type.__prepare__"),(.type "type")]⟩),⟨[]⟩⟩ ::
⟨(.type "dict"),none,(.dict ⟨[E P "__module__" 196 (S "f77.errors" 187),E P "__qualname__" 198 (S "F77Error" 197),E P "__firstlineno__" 200 (.int 2 199),E P "__init__" 208 (.ref 28),E P "__static_attributes__" 210 (.ref 29)]⟩ 5),⟨[]⟩⟩ ::
tp [] ::
fl [(.int 4 0),(.int 4 0),(.ref 27)] ::
co "F77Error" "F77Error" 191 2 0 0 18 false 181 19 .none .none .none .none 194 195 ::
⟨(.type "frame"),none,.plain,⟨[some (.ref 20),some (.ref 3),some (.ref 17),none,some (S "f77.errors" 187),none,some (.ref 0)]⟩⟩ ::
tp [] ::
fl [] ::
tp [(S "self" 204),(S "text" 205)] ::
tp [] ::
fn .none (fo (fd (mt 1 0)) "__init__" "F77Error.__init__" 0 .none .none) ::
co "__init__" "F77Error.__init__" 201 4 2 3 22 true 181 23 .none (.ref 24) (.ref 25) (.ref 26) 206 207 ::
fn (.type "function") (fo (fd (mt 1 0)) "__init__" "F77Error.__init__" 3 (S "f77.errors" 187) (.ref 27)) ::
tp [(S "text" 209)] ::
⟨(.type "dict"),none,(.dict ⟨[E P "__module__" 196 (S "f77.errors" 187),E P "__firstlineno__" 200 (.int 2 199),E P "__init__" 208 (.ref 28),E P "__static_attributes__" 210 (.ref 29),E P "__weakref__" 212 (.ref 32),E P "__doc__" 213 .none]⟩ 3),⟨[]⟩⟩ ::
x ::
⟨(.type "getset_descriptor"),none,(.fields ⟨[(S "__weakref__" 211),(.ref 31),(.builtin "ExceptionGroup.__weakref__"),.none]⟩),⟨[]⟩⟩ ::
⟨(.type "super"),none,(.fields ⟨[(.ref 31),(.ref 31),(.ref 31)]⟩),⟨[]⟩⟩ ::
⟨(.type "builtin_function_or_method"),none,(.fields ⟨[(.builtin "object.__init_subclass__"),(.ref 31)]⟩),⟨[]⟩⟩ ::
[]
noncomputable def u1 (P:Params):List (Nat × Obj):=[(2,⟨.none,none,(.dict ⟨[E P "type.__subclasses__.Exception.0" 214 (.int 31 0),E P "type.__subclasses__.Exception.n" 215 (.int 1 0)]⟩ 2),⟨[]⟩⟩),(3,gl P 10 10 [(0,E P "__name__" 165 (S "f77.errors" 187))]),(12,ff 3)]
noncomputable def n2 (P:Params):List Obj:=tp [(.ref 31)] ::
⟨(.type "builtin_function_or_method"),none,(.fields ⟨[(.builtin "type.__prepare__"),(.type "type")]⟩),⟨[]⟩⟩ ::
⟨(.type "dict"),none,(.dict ⟨[E P "__module__" 225 (S "f77.errors" 187),E P "__qualname__" 227 (S "SourceError" 226),E P "__firstlineno__" 229 (.int 7 228),E P "__init__" 238 (.ref 48),E P "__static_attributes__" 240 (.ref 49)]⟩ 5),⟨[]⟩⟩ ::
tp [] ::
fl [(.int 9 0),(.int 4 0),(.ref 47)] ::
co "SourceError" "SourceError" 220 7 0 0 38 false 181 39 .none .none .none .none 223 224 ::
⟨(.type "frame"),none,.plain,⟨[some (.ref 40),some (.ref 3),some (.ref 37),none,some (S "f77.errors" 187),none,some (.ref 0)]⟩⟩ ::
tp [] ::
fl [] ::
tp [(S "self" 233),(S "line" 234),(S "text" 235)] ::
tp [] ::
fn .none (fo (fd (mt 2 0)) "__init__" "SourceError.__init__" 0 .none .none) ::
co "__init__" "SourceError.__init__" 230 9 3 3 42 true 181 43 .none (.ref 44) (.ref 45) (.ref 46) 236 237 ::
fn (.type "function") (fo (fd (mt 2 0)) "__init__" "SourceError.__init__" 3 (S "f77.errors" 187) (.ref 47)) ::
tp [(S "line" 239)] ::
⟨(.type "dict"),none,(.dict ⟨[E P "__module__" 225 (S "f77.errors" 187),E P "__firstlineno__" 229 (.int 7 228),E P "__init__" 238 (.ref 48),E P "__static_attributes__" 240 (.ref 49),E P "__doc__" 241 .none]⟩ 2),⟨[]⟩⟩ ::
⟨(.type "type"),none,(.cls ⟨q "SourceError",[(.ref 31)],[(.ref 51),(.ref 31),(.type "Exception"),(.type "BaseException"),(.type "object")],50,q "SourceError",true,[],[],false,none,false⟩),⟨[some (.ref 35),none,some (S "SourceError" 218),some (S "SourceError" 226),some (.builtin "Exception.__new__"),some (.bool true)]⟩⟩ ::
⟨(.type "super"),none,(.fields ⟨[(.ref 51),(.ref 51),(.ref 51)]⟩),⟨[]⟩⟩ ::
⟨(.type "builtin_function_or_method"),none,(.fields ⟨[(.builtin "object.__init_subclass__"),(.ref 51)]⟩),⟨[]⟩⟩ ::
[]
noncomputable def u2 (P:Params):List (Nat × Obj):=[(3,gl P 11 11 [(0,E P "__name__" 165 (S "f77.errors" 187))]),(12,ff 6),(31,⟨(.type "type"),none,(.cls ⟨q "F77Error",[(.type "Exception")],[(.ref 31),(.type "Exception"),(.type "BaseException"),(.type "object")],30,q "F77Error",true,[],[(.ref 51)],false,none,false⟩),⟨[some (.ref 15),none,some (S "F77Error" 189),some (S "F77Error" 197),some (.builtin "Exception.__new__"),some (.bool true)]⟩⟩)]
noncomputable def n3 (P:Params):List Obj:=tp [(.ref 31)] ::
⟨(.type "builtin_function_or_method"),none,(.fields ⟨[(.builtin "type.__prepare__"),(.type "type")]⟩),⟨[]⟩⟩ ::
⟨(.type "dict"),none,(.dict ⟨[E P "__module__" 251 (S "f77.errors" 187),E P "__qualname__" 253 (S "LexFault" 252),E P "__firstlineno__" 255 (.int 12 254),E P "__init__" 264 (.ref 67),E P "__static_attributes__" 266 (.ref 68)]⟩ 5),⟨[]⟩⟩ ::
tp [] ::
fl [(.int 14 0),(.int 4 0),(.ref 66)] ::
co "LexFault" "LexFault" 246 12 0 0 57 false 181 58 .none .none .none .none 249 250 ::
⟨(.type "frame"),none,.plain,⟨[some (.ref 59),some (.ref 3),some (.ref 56),none,some (S "f77.errors" 187),none,some (.ref 0)]⟩⟩ ::
tp [] ::
fl [] ::
tp [(S "self" 259),(S "at" 260),(S "text" 261)] ::
tp [] ::
fn .none (fo (fd (mt 3 0)) "__init__" "LexFault.__init__" 0 .none .none) ::
co "__init__" "LexFault.__init__" 256 14 3 3 61 true 181 62 .none (.ref 63) (.ref 64) (.ref 65) 262 263 ::
fn (.type "function") (fo (fd (mt 3 0)) "__init__" "LexFault.__init__" 3 (S "f77.errors" 187) (.ref 66)) ::
tp [(S "at" 265)] ::
⟨(.type "dict"),none,(.dict ⟨[E P "__module__" 251 (S "f77.errors" 187),E P "__firstlineno__" 255 (.int 12 254),E P "__init__" 264 (.ref 67),E P "__static_attributes__" 266 (.ref 68),E P "__doc__" 267 .none]⟩ 2),⟨[]⟩⟩ ::
⟨(.type "type"),none,(.cls ⟨q "LexFault",[(.ref 31)],[(.ref 70),(.ref 31),(.type "Exception"),(.type "BaseException"),(.type "object")],69,q "LexFault",true,[],[],false,none,false⟩),⟨[some (.ref 54),none,some (S "LexFault" 244),some (S "LexFault" 252),some (.builtin "Exception.__new__"),some (.bool true)]⟩⟩ ::
⟨(.type "super"),none,(.fields ⟨[(.ref 70),(.ref 70),(.ref 70)]⟩),⟨[]⟩⟩ ::
⟨(.type "builtin_function_or_method"),none,(.fields ⟨[(.builtin "object.__init_subclass__"),(.ref 70)]⟩),⟨[]⟩⟩ ::
[]
noncomputable def u3 (P:Params):List (Nat × Obj):=[(3,gl P 12 12 [(0,E P "__name__" 165 (S "f77.errors" 187))]),(12,ff 9),(31,⟨(.type "type"),none,(.cls ⟨q "F77Error",[(.type "Exception")],[(.ref 31),(.type "Exception"),(.type "BaseException"),(.type "object")],30,q "F77Error",true,[],[(.ref 51),(.ref 70)],false,none,false⟩),⟨[some (.ref 15),none,some (S "F77Error" 189),some (S "F77Error" 197),some (.builtin "Exception.__new__"),some (.bool true)]⟩⟩)]
noncomputable def n4 (P:Params):List Obj:=tp [(.ref 31)] ::
⟨(.type "builtin_function_or_method"),none,(.fields ⟨[(.builtin "type.__prepare__"),(.type "type")]⟩),⟨[]⟩⟩ ::
⟨(.type "dict"),none,(.dict ⟨[E P "__module__" 277 (S "f77.errors" 187),E P "__qualname__" 279 (S "SyntaxFault" 278),E P "__firstlineno__" 281 (.int 17 280),E P "__static_attributes__" 282 (.ref 80)]⟩ 4),⟨[]⟩⟩ ::
tp [] ::
fl [] ::
co "SyntaxFault" "SyntaxFault" 272 17 0 0 76 false 181 77 .none .none .none .none 275 276 ::
⟨(.type "frame"),none,.plain,⟨[some (.ref 78),some (.ref 3),some (.ref 75),none,some (S "f77.errors" 187),none,some (.ref 0)]⟩⟩ ::
tp [] ::
⟨(.type "dict"),none,(.dict ⟨[E P "__module__" 277 (S "f77.errors" 187),E P "__firstlineno__" 281 (.int 17 280),E P "__static_attributes__" 282 (.ref 80),E P "__doc__" 283 .none]⟩ 2),⟨[]⟩⟩ ::
⟨(.type "type"),none,(.cls ⟨q "SyntaxFault",[(.ref 31)],[(.ref 82),(.ref 31),(.type "Exception"),(.type "BaseException"),(.type "object")],81,q "SyntaxFault",true,[],[],false,none,false⟩),⟨[some (.ref 73),none,some (S "SyntaxFault" 270),some (S "SyntaxFault" 278),some (.builtin "Exception.__new__"),some (.bool true)]⟩⟩ ::
⟨(.type "super"),none,(.fields ⟨[(.ref 82),(.ref 82),(.ref 82)]⟩),⟨[]⟩⟩ ::
⟨(.type "builtin_function_or_method"),none,(.fields ⟨[(.builtin "object.__init_subclass__"),(.ref 82)]⟩),⟨[]⟩⟩ ::
(fb 85 292 8 22 1 "capital" M0 ["sign"] <|
fb 92 299 9 26 2 "constant_end" M0 ["text","at","end"] <|
fb 99 308 10 35 2 "count_end" M0 ["text","at","count","end"] <|
fb 106 318 11 45 2 "hollerith" M0 ["text","at","count","begin","inner"] <|
[])
noncomputable def u4 (P:Params):List (Nat × Obj):=[(3,gl P 19 19 [(0,E P "__name__" 165 (S "f77.squeeze" 286))]),(12,ff 24),(31,⟨(.type "type"),none,(.cls ⟨q "F77Error",[(.type "Exception")],[(.ref 31),(.type "Exception"),(.type "BaseException"),(.type "object")],30,q "F77Error",true,[],[(.ref 51),(.ref 70),(.ref 82)],false,none,false⟩),⟨[some (.ref 15),none,some (S "F77Error" 189),some (S "F77Error" 197),some (.builtin "Exception.__new__"),some (.bool true)]⟩⟩)]
noncomputable def n5 (P:Params):List Obj:=fb 113 329 12 53 1 "squeeze" M0 ["text","out","last","at","sign","constant","end","part"] <|
fb 120 343 13 78 1 "squeezed" M0 ["text","row","sign","is_inside"] <|
fb 127 353 14 83 1 "depths" M0 ["row","out","depth","is_inside","sign"] <|
fb 134 364 15 104 2 "closing" M0 ["row","at","levels","end"] <|
tp [(S "ELSE" 380),(S "else" 381)] ::
tp [(S "ENDIF" 382),(S "endif" 383)] ::
tp [(S "END" 384),(S "end" 385)] ::
tp [(S "CONTINUE" 386),(S "continue" 387)] ::
li [(.ref 141),(.ref 142),(.ref 143),(.ref 144)] ::
tp [(S "INTEGER" 389),(S "integer" 390)] ::
tp [(S "REAL" 391),(S "real" 392)] ::
tp [(S "DOUBLEPRECISION" 393),(S "doubleprecision" 394)] ::
tp [(S "COMPLEX" 395),(S "complex" 396)] ::
tp [(S "LOGICAL" 397),(S "logical" 398)] ::
tp [(S "CHARACTER" 399),(S "character" 400)] ::
li [(.ref 146),(.ref 147),(.ref 148),(.ref 149),(.ref 150),(.ref 151)] ::
tp [(S "FORMAT(" 402),(S "format" 403)] ::
tp [(S "CALL" 404),(S "call" 405)] ::
tp [(S "RETURN" 406),(S "return" 407)] ::
tp [(S "STOP" 408),(S "stop" 409)] ::
tp [(S "PAUSE" 410),(S "pause" 411)] ::
tp [(S "READ" 412),(S "read" 413)] ::
tp [(S "WRITE(" 414),(S "write" 415)] ::
tp [(S "PRINT" 416),(S "print" 417)] ::
tp [(S "OPEN(" 418),(S "open" 419)] ::
tp [(S "CLOSE(" 420),(S "close" 421)] ::
tp [(S "INQUIRE(" 422),(S "inquire" 423)] ::
tp [(S "BACKSPACE" 424),(S "backspace" 425)] ::
tp [(S "REWIND" 426),(S "rewind" 427)] ::
tp [(S "ENDFILE" 428),(S "endfile" 429)] ::
tp [(S "IMPLICIT" 430),(S "implicit" 431)] ::
tp [(S "PARAMETER(" 432),(S "parameter" 433)] ::
tp [(S "DIMENSION" 434),(S "dimension" 435)] ::
tp [(S "COMMON" 436),(S "common" 437)] ::
tp [(S "EQUIVALENCE(" 438),(S "equivalence" 439)] ::
tp [(S "EXTERNAL" 440),(S "external" 441)] ::
tp [(S "INTRINSIC" 442),(S "intrinsic" 443)] ::
tp [(S "SAVE" 444),(S "save" 445)] ::
tp [(S "DATA" 446),(S "data" 447)] ::
tp [(S "PROGRAM" 448),(S "program" 449)] ::
tp [(S "SUBROUTINE" 450),(S "subroutine" 451)] ::
tp [(S "FUNCTION" 452),(S "function" 453)] ::
tp [(S "BLOCKDATA" 454),(S "blockdata" 455)] ::
tp [(S "ENTRY" 456),(S "entry" 457)] ::
li [(.ref 153),(.ref 154),(.ref 155),(.ref 156),(.ref 157),(.ref 158),(.ref 159),(.ref 160),(.ref 161),(.ref 162),(.ref 163),(.ref 164),(.ref 165),(.ref 166),(.ref 167),(.ref 168),(.ref 169),(.ref 170),(.ref 171),(.ref 172),(.ref 173),(.ref 174),(.ref 175),(.ref 176),(.ref 177),(.ref 178),(.ref 179),(.ref 180)] ::
(fb 182 459 22 116 2 "name_end" M1 ["row","at","end"] <|
[])
noncomputable def u5 (P:Params):List (Nat × Obj):=[(3,gl P 29 29 [(0,E P "__name__" 165 (S "f77.classify" 374))]),(12,ff 39)]
noncomputable def n6 (P:Params):List Obj:=fb 189 468 23 123 2 "digits_end" M1 ["row","at","end"] <|
fb 196 477 24 128 1 "is_target" M1 ["text","at","turn"] <|
fb 203 486 25 138 2 "is_balanced" M1 ["row","levels","depth","place"] <|
fb 210 496 26 148 2 "equals_at" M1 ["row","levels","found","place"] <|
fb 217 506 27 156 1 "is_do_head" M1 ["head","end"] <|
fb 224 514 28 163 1 "word_of_if" M1 ["row","rest"] <|
fb 231 522 29 172 1 "word_of_goto" M1 ["row"] <|
fb 238 529 30 180 1 "word_of_type" M1 ["row","text","word","at","end"] <|
fb 245 540 31 194 1 "word_by_begin" M1 ["row","text","word"] <|
fb 252 549 32 210 1 "classify" M1 ["row","levels","at","has_comma"] <|
fb 259 561 34 225 2 "kind_at" M2 ["tokens","at"] <|
fb 266 569 35 229 3 "is_op" M2 ["tokens","at","text"] <|
[]
noncomputable def u6 (P:Params):List (Nat × Obj):=[(3,gl P 41 41 [(0,E P "__name__" 165 (S "f77.peek" 559))]),(12,ff 75)]
noncomputable def n7 (P:Params):List Obj:=fb 273 578 36 231 3 "need_op" M2 ["tokens","at","text"] <|
fb 280 587 37 235 2 "need_name" M2 ["tokens","at"] <|
fb 287 595 38 239 2 "need_int" M2 ["tokens","at"] <|
fb 294 603 39 243 2 "need_end" M2 ["tokens","at"] <|
fb 301 611 40 246 2 "close_at" M2 ["tokens","at","depth","place"] <|
tp [(S "name" 637),(S "ref" 638),(S "sub" 639)] ::
[]
noncomputable def u7 (P:Params):List (Nat × Obj):=[(3,gl P 54 54 [(0,E P "__name__" 165 (S "f77.exprs" 621))]),(12,ff 90)]
noncomputable def n8 (P:Params):List Obj:=⟨(.type "dict"),none,(.dict ⟨[E P ".EQV." 641 (.int 1 642),E P ".NEQV." 644 (.int 1 645),E P ".OR." 647 (.int 2 648),E P ".AND." 650 (.int 3 651),E P ".EQ." 653 (.int 5 654),E P ".NE." 656 (.int 5 657),E P ".LT." 659 (.int 5 660),E P ".LE." 662 (.int 5 663),E P ".GT." 665 (.int 5 666),E P ".GE." 668 (.int 5 669),E P "//" 671 (.int 6 672),E P "+" 674 (.int 7 675),E P "-" 677 (.int 7 678),E P "*" 680 (.int 8 681),E P "/" 683 (.int 8 684),E P "**" 686 (.int 9 687)]⟩ 16),⟨[]⟩⟩ ::
(fb 310 690 51 266 2 "priority_at" M3 ["tokens","at"] <|
fb 317 698 52 270 1 "higher" M3 ["height"] <|
fb 324 705 53 274 1 "deeper" M3 ["deep"] <|
fb 331 712 54 278 2 "parse_expr" M3 ["tokens","at"] <|
[])
noncomputable def u8 (P:Params):List (Nat × Obj):=[(3,gl P 59 59 [(0,E P "__name__" 165 (S "f77.exprs" 621))]),(12,ff 102)]
noncomputable def n9 (P:Params):List Obj:=fb 338 720 55 280 4 "read_binary" M3 ["tokens","at","least","deep","tree","height","was_relation","level","op","right","other"] <|
fb 345 737 56 296 4 "read_first" M3 ["tokens","at","least","deep","inner","tree","end","height"] <|
fb 352 751 57 310 3 "read_primary" M3 ["tokens","at","deep","kind","tree","end","height"] <|
fb 359 764 58 323 3 "constant_of" M3 ["kind","value","sign"] <|
fb 366 773 59 333 2 "parse_bracket" M3 ["tokens","at","left","comma","right","end"] <|
fb 373 785 60 337 2 "part_end" M3 ["tokens","at"] <|
fb 380 793 61 343 2 "is_complex" M3 ["tokens","at","comma","end"] <|
fb 387 803 62 349 2 "complex_part" M3 ["tokens","at","sign"] <|
fb 394 812 63 356 3 "read_named" M3 ["tokens","at","deep","name","tree","height","rows","low","high","other"] <|
fb 401 828 64 370 3 "holds_mark" M3 ["tokens","at","mark","end","depth","place"] <|
fb 408 840 65 381 3 "read_ends" M3 ["tokens","at","deep","low","high","height","other"] <|
[]
noncomputable def u9 (P:Params):List (Nat × Obj):=[(3,gl P 70 70 [(0,E P "__name__" 165 (S "f77.exprs" 621))]),(12,ff 135)]
noncomputable def EJ (P:Params):List Obj:=fb 415 853 66 393 4 "read_arguments" M3 ["tokens","at","may_return","deep","rows","height","label","is_inner","tree","other"] <|
fb 422 869 67 411 1 "whole_expr" M3 ["tokens","tree","at"] <|
tp [(S ".EQ." 896),(S ".NE." 897),(S ".LT." 898),(S ".LE." 899),(S ".GT." 900),(S ".GE." 901),(S ".NOT." 902),(S ".AND." 903),(S ".OR." 904),(S ".EQV." 905),(S ".NEQV." 906)] ::
tp [(S ".TRUE." 908),(S ".FALSE." 909)] ::
(fb 431 917 82 430 3 "run_of" M4 ["text","at","signs","end"] <|
fb 438 927 83 435 2 "dotted_at" M4 ["text","at","end","word"] <|
fb 445 937 84 441 2 "told_pair" M4 ["digits","power","m"] <|
fb 452 946 85 449 2 "power_at" M4 ["text","at","begun","end","power"] <|
fb 459 957 86 464 2 "number_at" M4 ["text","at","end","digits","fraction","has_point","behind","letter","power","pair"] <|
[])
noncomputable def CT (P:Params):List (Nat × Obj):=[(3,gl P 90 90 [(0,E P "__name__" 165 (S "f77.lex" 890))]),(12,ff 156)]
noncomputable def EK (P:Params):List Obj:=fb 466 973 87 482 2 "quoted_at" M4 ["text","at","signs","here"] <|
fb 473 983 88 495 2 "name_at" M4 ["text","at","end"] <|
fb 480 992 89 500 2 "point_at" M4 ["text","at","word"] <|
fb 487 1001 90 509 2 "token_at" M4 ["text","at","sign","end"] <|
fb 494 1011 91 525 1 "tokens_of" M4 ["squeezed","out","at","token"] <|
fb 501 1023 93 533 2 "dummy_list" M5 ["tokens","at","dummies","name"] <|
fb 508 1033 94 552 1 "named_list" M5 ["row","tokens","name","at","dummies"] <|
tp [(S "program" 1050),(S "subroutine" 1051),(S "function" 1052),(S "blockdata" 1053)] ::
tp [(S "integer" 1055),(S "real" 1056),(S "doubleprecision" 1057),(S "complex" 1058),(S "logical" 1059),(S "character" 1060)] ::
tp [(S "dimension" 1062),(S "common" 1063),(S "equivalence" 1064),(S "external" 1065),(S "intrinsic" 1066),(S "save" 1067)] ::
tp [(S "integer" 1055),(S "real" 1056),(S "doubleprecision" 1057),(S "complex" 1058),(S "logical" 1059),(S "character" 1060),(S "dimension" 1062),(S "common" 1063),(S "equivalence" 1064),(S "external" 1065),(S "intrinsic" 1066),(S "save" 1067)] ::
tp [(S "dimension" 1069),(S "common" 1070),(S "equivalence" 1071),(S "save" 1072),(S "implicit" 1073),(S "parameter" 1074),(S "data" 1075),(S "end" 1076)] ::
tp [(S "integer" 1055),(S "real" 1056),(S "doubleprecision" 1057),(S "complex" 1058),(S "logical" 1059),(S "character" 1060),(S "dimension" 1069),(S "common" 1070),(S "equivalence" 1071),(S "save" 1072),(S "implicit" 1073),(S "parameter" 1074),(S "data" 1075),(S "end" 1076)] ::
tp [(S "assign" 1078),(S "setlabel" 1079),(S "cgoto" 1080),(S "lif" 1081),(S "continue" 1082),(S "call" 1083),(S "pause" 1084),(S "read" 1085),(S "write" 1086),(S "open" 1087),(S "close" 1088),(S "inquire" 1089),(S "backspace" 1090),(S "rewind" 1091),(S "endfile" 1092)] ::
[]
noncomputable def F0 (P:Params):List (Nat × Obj):=[(3,gl P 104 104 [(0,E P "__name__" 165 (S "f77.units" 1044))]),(12,ff 177)]
noncomputable def EL (P:Params):List Obj:=tp [(S "INTEGER" 1094),(.int 0 878)] ::
tp [(S "REAL" 1095),(.int 1 880)] ::
tp [(S "DOUBLEPRECISION" 1096),(.int 2 882)] ::
tp [(S "COMPLEX" 1097),(.int 3 884)] ::
tp [(S "LOGICAL" 1098),(.int 4 886)] ::
tp [(.ref 522),(.ref 523),(.ref 524),(.ref 525),(.ref 526)] ::
tp [] ::
⟨(.type "builtin_function_or_method"),none,(.fields ⟨[(.builtin "type.__prepare__"),(.type "type")]⟩),⟨[]⟩⟩ ::
⟨(.type "dict"),none,(.dict ⟨[E P "__module__" 1115 (S "f77.units" 1044),E P "__qualname__" 1117 (S "RawUnit" 1116),E P "__firstlineno__" 1119 (.int 571 1118),E P "__init__" 1130 (.ref 541),E P "__static_attributes__" 1141 (.ref 542)]⟩ 5),⟨[]⟩⟩ ::
tp [] ::
fl [(.int 573 0),(.int 4 0),(.ref 540)] ::
co "RawUnit" "RawUnit" 1110 571 0 0 531 false 181 532 .none .none .none .none 1113 1114 ::
⟨(.type "frame"),none,.plain,⟨[some (.ref 533),some (.ref 3),some (.ref 530),none,some (S "f77.units" 1044),none,some (.ref 0)]⟩⟩ ::
tp [] ::
fl [] ::
tp [(S "self" 1123),(S "kind" 1124),(S "name" 1125),(S "dummies" 1126),(S "result" 1127)] ::
tp [] ::
fn .none (fo (fd (mt 108 0)) "__init__" "RawUnit.__init__" 0 .none .none) ::
co "__init__" "RawUnit.__init__" 1120 573 5 3 535 true 181 536 .none (.ref 537) (.ref 538) (.ref 539) 1128 1129 ::
fn (.type "function") (fo (fd (mt 108 0)) "__init__" "RawUnit.__init__" 3 (S "f77.units" 1044) (.ref 540)) ::
tp [(S "body" 1131),(S "dummies" 1132),(S "entries" 1133),(S "formats" 1134),(S "kind" 1135),(S "labels" 1136),(S "name" 1137),(S "result" 1138),(S "specs" 1139),(S "stfuncs" 1140)] ::
⟨(.type "dict"),none,(.dict ⟨[E P "__module__" 1115 (S "f77.units" 1044),E P "__firstlineno__" 1119 (.int 571 1118),E P "__init__" 1130 (.ref 541),E P "__static_attributes__" 1141 (.ref 542),E P "__dict__" 1143 (.ref 545),E P "__weakref__" 1145 (.ref 546),E P "__doc__" 1146 .none]⟩ 4),⟨[]⟩⟩ ::
⟨(.type "type"),none,(.cls ⟨q "RawUnit",[(.type "object")],[(.ref 544),(.type "object")],543,q "RawUnit",true,[],[],false,none,false⟩),⟨[none,none,some (S "RawUnit" 1108),some (S "RawUnit" 1116),some (.builtin "object.__new__"),some (.bool true)]⟩⟩ ::
⟨(.type "getset_descriptor"),none,(.fields ⟨[(S "__dict__" 1142),(.ref 544),(.builtin "function.__dict__"),(.builtin "function.__dict__#set")]⟩),⟨[]⟩⟩ ::
⟨(.type "getset_descriptor"),none,(.fields ⟨[(S "__weakref__" 1144),(.ref 544),(.builtin "ExceptionGroup.__weakref__"),.none]⟩),⟨[]⟩⟩ ::
⟨(.type "super"),none,(.fields ⟨[(.ref 544),(.ref 544),(.ref 544)]⟩),⟨[]⟩⟩ ::
⟨(.type "builtin_function_or_method"),none,(.fields ⟨[(.builtin "object.__init_subclass__"),(.ref 544)]⟩),⟨[]⟩⟩ ::
[]
noncomputable def F1 (P:Params):List (Nat × Obj):=[(3,gl P 110 110 [(0,E P "__name__" 165 (S "f77.units" 1044))]),(12,ff 180)]
noncomputable def EP (P:Params):List Obj:=tp [] ::
⟨(.type "builtin_function_or_method"),none,(.fields ⟨[(.builtin "type.__prepare__"),(.type "type")]⟩),⟨[]⟩⟩ ::
⟨(.type "dict"),none,(.dict ⟨[E P "__module__" 1156 (S "f77.units" 1044),E P "__qualname__" 1158 (S "UnitMaker" 1157),E P "__firstlineno__" 1160 (.int 584 1159),E P "__init__" 1170 (.ref 562),E P "__static_attributes__" 1178 (.ref 563)]⟩ 5),⟨[]⟩⟩ ::
tp [] ::
fl [(.int 586 0),(.int 4 0),(.ref 561)] ::
co "UnitMaker" "UnitMaker" 1151 584 0 0 552 false 181 553 .none .none .none .none 1154 1155 ::
⟨(.type "frame"),none,.plain,⟨[some (.ref 554),some (.ref 3),some (.ref 551),none,some (S "f77.units" 1044),none,some (.ref 0)]⟩⟩ ::
tp [] ::
fl [] ::
tp [(S "self" 1164),(S "unit" 1165),(S "parsers" 1166),(S "specs" 1167)] ::
tp [] ::
fn .none (fo (fd (mt 109 0)) "__init__" "UnitMaker.__init__" 0 .none .none) ::
co "__init__" "UnitMaker.__init__" 1161 586 4 3 556 true 181 557 .none (.ref 558) (.ref 559) (.ref 560) 1168 1169 ::
fn (.type "function") (fo (fd (mt 109 0)) "__init__" "UnitMaker.__init__" 3 (S "f77.units" 1044) (.ref 561)) ::
tp [(S "arrays" 1171),(S "labels" 1172),(S "nest" 1173),(S "parsers" 1174),(S "specs" 1175),(S "stage" 1176),(S "unit" 1177)] ::
⟨(.type "dict"),none,(.dict ⟨[E P "__module__" 1156 (S "f77.units" 1044),E P "__firstlineno__" 1160 (.int 584 1159),E P "__init__" 1170 (.ref 562),E P "__static_attributes__" 1178 (.ref 563),E P "__dict__" 1180 (.ref 566),E P "__weakref__" 1182 (.ref 567),E P "__doc__" 1183 .none]⟩ 4),⟨[]⟩⟩ ::
⟨(.type "type"),none,(.cls ⟨q "UnitMaker",[(.type "object")],[(.ref 565),(.type "object")],564,q "UnitMaker",true,[],[],false,none,false⟩),⟨[none,none,some (S "UnitMaker" 1149),some (S "UnitMaker" 1157),some (.builtin "object.__new__"),some (.bool true)]⟩⟩ ::
⟨(.type "getset_descriptor"),none,(.fields ⟨[(S "__dict__" 1179),(.ref 565),(.builtin "function.__dict__"),(.builtin "function.__dict__#set")]⟩),⟨[]⟩⟩ ::
⟨(.type "getset_descriptor"),none,(.fields ⟨[(S "__weakref__" 1181),(.ref 565),(.builtin "ExceptionGroup.__weakref__"),.none]⟩),⟨[]⟩⟩ ::
⟨(.type "super"),none,(.fields ⟨[(.ref 565),(.ref 565),(.ref 565)]⟩),⟨[]⟩⟩ ::
⟨(.type "builtin_function_or_method"),none,(.fields ⟨[(.builtin "object.__init_subclass__"),(.ref 565)]⟩),⟨[]⟩⟩ ::
(fb 570 1186 110 594 1 "result_of" M6 ["prefix","text","kind"] <|
fb 577 1195 111 607 2 "head_unit" M6 ["word","row","name","dummies","at"] <|
fb 584 1206 112 628 3 "note_label" M6 ["maker","label","line"] <|
fb 591 1215 113 634 2 "turn_arm" M6 ["nest","word"] <|
fb 598 1223 114 639 2 "enter" M6 ["maker","stmt","nest","word"] <|
[])
noncomputable def F2 (P:Params):List (Nat × Obj):=[(3,gl P 116 116 [(0,E P "__name__" 165 (S "f77.units" 1044))]),(12,ff 198)]
noncomputable def ER (P:Params):List Obj:=fb 605 1233 115 656 3 "close_loops" M6 ["nest","label","word"] <|
fb 612 1242 116 663 2 "note_arrays" M6 ["maker","spec","name","dims","length"] <|
fb 619 1253 117 668 4 "add_spec" M6 ["maker","line","word","row","stage","most","spec"] <|
fb 626 1266 118 687 3 "add_format" M6 ["maker","label","row"] <|
fb 633 1275 119 693 2 "is_stfunc" M6 ["maker","stmt","tree"] <|
tp [] ::
fl [] ::
fn .none (fo (fd (st 120)) "add_stfunc" "add_stfunc" 0 .none .none) ::
co "add_stfunc" "add_stfunc" 1284 700 4 3 640 true 181 641 .none .none .none (.ref 642) 1287 1288 ::
fn (.type "function") (fo (fd (st 120)) "add_stfunc" "add_stfunc" 3 (S "f77.units" 1044) (.ref 643)) ::
(fb 645 1290 121 706 4 "add_body" M6 ["maker","line","label","stmt","unit"] <|
fb 652 1301 122 717 5 "add_executable" M6 ["maker","line","label","word","row","stmt"] <|
fb 659 1313 123 732 5 "add_row" M6 ["maker","line","label","word","row","last"] <|
fb 666 1325 124 751 6 "begin_unit" M6 ["line","label","word","row","parsers","specs","maker"] <|
fb 673 1338 125 759 6 "take_row" M6 ["maker","line","label","row","parsers","specs","word"] <|
fb 680 1351 126 765 3 "units_of" M6 ["rows","parsers","specs","units","maker","line","label","text","word","fault"] <|
[])
noncomputable def F3 (P:Params):List (Nat × Obj):=[(3,gl P 128 128 [(0,E P "__name__" 165 (S "f77.units" 1044))]),(12,ff 234)]
noncomputable def EV (P:Params):List Obj:=li [(S "REAL X" 1369),(S "DIMENSION V(3)" 1370),(S "SAVE" 1371)] ::
li [(S "PAUSE" 1373),(S "CALL T" 1374),(S "READ *, A" 1375)] ::
li [(S "A = B" 1378)] ::
li [] ::
tp [(S "0123" 1377),(.ref 689),(S "INTEGER I" 1379),(.ref 690)] ::
li [(S "A = B" 1381)] ::
li [] ::
tp [(S "0123" 1380),(.ref 692),(S "IMPLICIT REAL (A)" 1382),(.ref 693)] ::
li [(S "REAL A" 1384)] ::
li [] ::
tp [(S "01234" 1383),(.ref 695),(S "IMPLICIT REAL (A)" 1385),(.ref 696)] ::
li [(S "DATA A /1/" 1387)] ::
li [] ::
tp [(S "01234" 1386),(.ref 698),(S "COMMON A" 1388),(.ref 699)] ::
li [(S "81 CONTINUE" 1390)] ::
li [] ::
tp [(S "0123" 1389),(.ref 701),(S "81 A = B" 1391),(.ref 702)] ::
li [] ::
li [] ::
tp [(S "0123" 1392),(.ref 704),(S "FORMAT (I3)" 1393),(.ref 705)] ::
li [] ::
li [] ::
tp [(S "01" 1394),(.ref 707),(S "ENTRY E" 1395),(.ref 708)] ::
li [] ::
li [] ::
tp [(S "01" 1396),(.ref 710),(S "RETURN" 1397),(.ref 711)] ::
li [] ::
li [] ::
tp [(S "4" 1398),(.ref 713),(S "A = B" 1399),(.ref 714)] ::
li [] ::
li [] ::
tp [(S "4" 1400),(.ref 716),(S "CALL T" 1401),(.ref 717)] ::
li [] ::
li [] ::
tp [(S "4" 1402),(.ref 719),(S "EXTERNAL G" 1403),(.ref 720)] ::
li [] ::
li [] ::
tp [(S "4" 1404),(.ref 722),(S "83 FORMAT (I3)" 1405),(.ref 723)] ::
li [] ::
li [] ::
tp [(S "0123" 1406),(.ref 725),(S "ELSE" 1407),(.ref 726)] ::
li [] ::
li [] ::
tp [(S "0123" 1408),(.ref 728),(S "END IF" 1409),(.ref 729)] ::
li [(S "IF (L) THEN" 1411),(S "ELSE" 1412)] ::
li [(S "END IF" 1414)] ::
tp [(S "0123" 1410),(.ref 731),(S "ELSE IF (L) THEN" 1413),(.ref 732)] ::
li [(S "IF (L) THEN" 1416),(S "ELSE" 1417)] ::
li [(S "END IF" 1419)] ::
tp [(S "0123" 1415),(.ref 734),(S "ELSE" 1418),(.ref 735)] ::
li [(S "DO 70 I = 1, 2" 1421)] ::
li [(S "70 CONTINUE" 1423)] ::
tp [(S "0123" 1420),(.ref 737),(S "70 GO TO 81" 1422),(.ref 738)] ::
li [(S "DO 70 I = 1, 2" 1425)] ::
li [(S "70 PAUSE" 1427)] ::
tp [(S "0123" 1424),(.ref 740),(S "70 IF (A) 81, 82, 81" 1426),(.ref 741)] ::
li [(S "DO 70 I = 1, 2" 1429)] ::
li [(S "70 A = B" 1431)] ::
tp [(S "0123" 1428),(.ref 743),(S "70 STOP" 1430),(.ref 744)] ::
li [(S "DO 70 I = 1, 2" 1433)] ::
li [(S "70 CALL T" 1435)] ::
tp [(S "0123" 1432),(.ref 746),(S "70 IF (L) THEN" 1434),(.ref 747)] ::
li [(S "DO 70 I = 1, 2" 1437)] ::
li [(S "70 READ *, A" 1439)] ::
tp [(S "23" 1436),(.ref 749),(S "70 RETURN" 1438),(.ref 750)] ::
li [(S "70 CONTINUE" 1441)] ::
li [] ::
tp [(S "0123" 1440),(.ref 752),(S "DO 70 I = 1, 2" 1442),(.ref 753)] ::
li [(S "DO 70 I = 1, 2" 1444)] ::
li [(S "70 IF (L) A = B" 1446)] ::
tp [(S "23" 1443),(.ref 755),(S "ENTRY E" 1445),(.ref 756)] ::
li [(S "IF (L) THEN" 1448)] ::
li [(S "END IF" 1450)] ::
tp [(S "23" 1447),(.ref 758),(S "ENTRY E" 1449),(.ref 759)] ::
li [(S "ENTRY E" 1452)] ::
li [] ::
tp [(S "23" 1451),(.ref 761),(S "ENTRY E" 1453),(.ref 762)] ::
li [] ::
li [] ::
tp [(S "2" 1454),(.ref 764),(S "ENTRY S" 1455),(.ref 765)] ::
li [] ::
li [] ::
tp [(S "3" 1456),(.ref 767),(S "ENTRY F" 1457),(.ref 768)] ::
li [(S "DO 70 I = 1, 2" 1459),(S "IF (L) THEN" 1460)] ::
li [(S "END IF" 1462),(S "70 CONTINUE" 1463)] ::
tp [(S "0123" 1458),(.ref 770),(S "70 CONTINUE" 1461),(.ref 771)] ::
li [(S "IF (L) THEN" 1465)] ::
li [(S "END IF" 1467)] ::
tp [(S "0123" 1464),(.ref 773),(S "END" 1466),(.ref 774)] ::
li [(S "DO 70 I = 1, 2" 1469)] ::
li [(S "70 CONTINUE" 1471)] ::
tp [(S "0123" 1468),(.ref 776),(S "END" 1470),(.ref 777)] ::
li [(S "IF (L) THEN" 1473),(S "DO 70 I = 1, 2" 1474)] ::
li [(S "70 CONTINUE" 1476),(S "END IF" 1477)] ::
tp [(S "0123" 1472),(.ref 779),(S "END IF" 1475),(.ref 780)] ::
li [(S "A = B" 1479)] ::
li [] ::
tp [(S "0123" 1478),(.ref 782),(S "SUBROUTINE U" 1480),(.ref 783)] ::
li [(S "A = B" 1482)] ::
li [] ::
tp [(S "0123" 1481),(.ref 785),(S "BLOCK DATA" 1483),(.ref 786)] ::
li [] ::
li [] ::
tp [(S "1234" 1484),(.ref 788),(S "PROGRAM Q" 1485),(.ref 789)] ::
li [(.ref 691),(.ref 694),(.ref 697),(.ref 700),(.ref 703),(.ref 706),(.ref 709),(.ref 712),(.ref 715),(.ref 718),(.ref 721),(.ref 724),(.ref 727),(.ref 730),(.ref 733),(.ref 736),(.ref 739),(.ref 742),(.ref 745),(.ref 748),(.ref 751),(.ref 754),(.ref 757),(.ref 760),(.ref 763),(.ref 766),(.ref 769),(.ref 772),(.ref 775),(.ref 778),(.ref 781),(.ref 784),(.ref 787),(.ref 790)] ::
(fb 792 1487 131 784 0 "_law_heads" M7 [] <|
[])
noncomputable def F4 (P:Params):List (Nat × Obj):=[(3,gl P 132 132 []),(12,ff 237)]
noncomputable def EW (P:Params):List Obj:=fb 799 1493 132 786 0 "_law_kinds" M7 [] <|
fb 806 1499 133 788 0 "_law_words" M7 [] <|
fb 813 1505 134 790 2 "_law_deal" M7 ["deck","many","at"] <|
tp [] ::
fl [] ::
tp [(S "word" 1517),(S "parse" 1518)] ::
tp [(S "word" 1519)] ::
fn .none (fo (fd (st 135)) "_law_told" "_law_told" 0 .none .none) ::
co "_law_told" "_law_told" 1514 794 1 3 820 true 181 821 .none (.ref 822) (.ref 823) (.ref 824) 1520 1521 ::
fn (.type "function") (fo (fd (st 135)) "_law_told" "_law_told" 3 (S "law_pq0364_01" 1367) (.ref 825)) ::
tp [] ::
fl [] ::
fn .none (fo (fd (st 136)) "_law_hands" "_law_hands" 0 .none .none) ::
co "_law_hands" "_law_hands" 1523 799 0 3 827 true 181 828 .none .none .none (.ref 829) 1526 1527 ::
fn (.type "function") (fo (fd (st 136)) "_law_hands" "_law_hands" 3 (S "law_pq0364_01" 1367) (.ref 830)) ::
(fb 832 1529 137 813 2 "_law_rows" M7 ["texts","gap","rows","at","text","label"] <|
fb 839 1541 138 820 1 "_law_is_body" M7 ["text"] <|
fb 846 1548 139 822 2 "_law_heard" M7 ["texts","gap","parsers","specs","fault"] <|
tp [] ::
fl [] ::
fn .none (fo (fd (st 140)) "law" "law" 0 .none .none) ::
co "law" "law" 1559 828 1 3 853 true 181 854 .none .none .none (.ref 855) 1562 1563 ::
fn (.type "function") (fo (fd (st 140)) "law" "law" 3 (S "law_pq0364_01" 1367) (.ref 856)) ::
[])
noncomputable def F5 (P:Params):List (Nat × Obj):=[(3,gl P 141 141 []),(12,ff 264)]
noncomputable def l0 (P:Params):List Obj:=[boot_o_0 P,boot_o_1 P,boot_o_2 P,boot_o_3 P,boot_o_4 P,boot_o_5 P,boot_o_6 P,boot_o_7 P,boot_o_8 P,boot_o_9 P,boot_o_10 P,tp [],fl [],co "<module>" "<module>" 182 1 0 0 11 false 181 12 .none .none .none .none 185 186,⟨(.type "frame"),none,.plain,⟨[some (.ref 13),some (.ref 3),some (.ref 3),none,some (S "__main__" 164),none,some (.ref 0)]⟩⟩]
noncomputable def t0 (P:Params):BT:=fK (l0 P) 0 .nil
noncomputable def t1 (P:Params):BT:=fK (n1 (⟨(.type "type"),none,(.cls ⟨q "F77Error",[(.type "Exception")],[(.ref 31),(.type "Exception"),(.type "BaseException"),(.type "object")],30,q "F77Error",true,[],[],false,none,false⟩),⟨[some (.ref 15),none,some (S "F77Error" 189),some (S "F77Error" 197),some (.builtin "Exception.__new__"),some (.bool true)]⟩⟩) P) 15 (gn (u1 P) (t0 P))
noncomputable def t2 (P:Params):BT:=fK (n2 P) 35 (gn (u2 P) (t1 P))
noncomputable def t3 (P:Params):BT:=fK (n3 P) 54 (gn (u3 P) (t2 P))
noncomputable def t4 (P:Params):BT:=fK (n4 P) 73 (gn (u4 P) (t3 P))
noncomputable def t5 (P:Params):BT:=fK (n5 P) 113 (gn (u5 P) (t4 P))
noncomputable def t6 (P:Params):BT:=fK (n6 P) 189 (gn (u6 P) (t5 P))
noncomputable def t7 (P:Params):BT:=fK (n7 P) 273 (gn (u7 P) (t6 P))
noncomputable def t8 (P:Params):BT:=fK (n8 P) 309 (gn (u8 P) (t7 P))
noncomputable def t9 (P:Params):BT:=fK (n9 P) 338 (gn (u9 P) (t8 P))
noncomputable def BW (P:Params):BT:=fK (EJ P) 415 (gn (CT P) (t9 P))
noncomputable def Dp (P:Params):BT:=fK (EK P) 466 (gn (F0 P) (BW P))
noncomputable def Dq (P:Params):BT:=fK (EL P) 522 (gn (F1 P) (Dp P))
noncomputable def Dr (P:Params):BT:=fK (EP P) 549 (gn (F2 P) (Dq P))
noncomputable def Ds (P:Params):BT:=fK (ER P) 605 (gn (F3 P) (Dr P))
noncomputable def Dt (P:Params):BT:=fK (EV P) 687 (gn (F4 P) (Ds P))
noncomputable def Du (P:Params):BT:=fK (EW P) 799 (gn (F5 P) (Dt P))
noncomputable def env:Env:={ scope:=pw.main.scope,locals:=mainNs,globals:=mainNs,cells:=[],code:=(.ref 13),frame:=some 14 }
noncomputable def bE:List Stmt:=pw.main.body
noncomputable abbrev cE:Code:=.body bE env
noncomputable abbrev z0:Pos:=(pZ 0 0 0)
noncomputable abbrev B:List Frame:=[topFrame z0]
noncomputable abbrev an:Option Value:=some (.ref 6)
noncomputable def sh (t:BT) (n k:Nat) (os:OsState):SharedT:=⟨t,n,{},#[],{},k,os⟩
theorem bK {w:World} {a b n N:Nat} {s s':SharedT} {r:Shared} {pos pos':Pos}
  (h:segRunT treeTable pw w 11 an 1 n s (piecesOf ((bE.drop a).take b) env cE pos B)=some (.next,s',cE,pos'))
  (k:topRun treeTable pw w 11 an N s'.abs (restOf (bE.drop (a + b)) env cE pos' B)=some r) :
  topRun treeTable pw w 11 an (n + N) s.abs (restOf (bE.drop a) env cE pos B)=some r:=by
 have z:=piece_app (rest:=bE.drop (a + b)) (segRun_of h) k
 rwa [<- List.drop_drop,List.take_append_drop] at z
theorem fw {w:World} {a b n:Nat} {s s':SharedT} {pos pos':Pos}
  (h:PySem.W.Fast.tw10110043849684766642 PySem.W.Fast.tw14364793385576792824 pw w 11 an 1 n s (piecesOf ((bE.drop a).take b) env cE pos B)=some (.next,s',cE,pos')) :
  segRunT treeTable pw w 11 an 1 n s (piecesOf ((bE.drop a).take b) env cE pos B)=some (.next,s',cE,pos'):=by
 rw [PySem.W.Fast.te10110043849684766642,PySem.W.Fast.te14364793385576792824]; exact h
theorem p1 (w:World) (os:OsState):segRunT treeTable pw w 11 an 1 238 (sh (t0 w.params) 15 187 os) (piecesOf ((bE.drop 0).take 2) env cE z0 B)=some (.next,sh (t1 w.params) 35 218 os,cE,⟨2,0,6,24⟩):=fw (by kernel_rfl)
theorem p2 (w:World) (os:OsState):segRunT treeTable pw w 11 an 1 247 (sh (t1 w.params) 35 218 os) (piecesOf ((bE.drop 2).take 1) env cE ⟨2,0,6,24⟩ B)=some (.next,sh (t2 w.params) 54 244 os,cE,⟨7,0,11,24⟩):=fw (by kernel_rfl)
theorem p3 (w:World) (os:OsState):segRunT treeTable pw w 11 an 1 247 (sh (t2 w.params) 54 244 os) (piecesOf ((bE.drop 3).take 1) env cE ⟨7,0,11,24⟩ B)=some (.next,sh (t3 w.params) 73 270 os,cE,⟨12,0,16,20⟩):=fw (by kernel_rfl)
theorem p4 (w:World) (os:OsState):segRunT treeTable pw w 11 an 1 366 (sh (t3 w.params) 73 270 os) (piecesOf ((bE.drop 4).take 8) env cE ⟨12,0,16,20⟩ B)=some (.next,sh (t4 w.params) 113 329 os,cE,⟨45,0,52,64⟩):=fw (by kernel_rfl)
theorem p5 (w:World) (os:OsState):segRunT treeTable pw w 11 an 1 374 (sh (t4 w.params) 113 329 os) (piecesOf ((bE.drop 12).take 11) env cE ⟨45,0,52,64⟩ B)=some (.next,sh (t5 w.params) 189 468 os,cE,⟨116,0,122,14⟩):=fw (by kernel_rfl)
theorem p6 (w:World) (os:OsState):segRunT treeTable pw w 11 an 1 382 (sh (t5 w.params) 189 468 os) (piecesOf ((bE.drop 23).take 13) env cE ⟨116,0,122,14⟩ B)=some (.next,sh (t6 w.params) 273 578 os,cE,⟨229,0,230,81⟩):=fw (by kernel_rfl)
theorem p7 (w:World) (os:OsState):segRunT treeTable pw w 11 an 1 239 (sh (t6 w.params) 273 578 os) (piecesOf ((bE.drop 36).take 14) env cE ⟨229,0,230,81⟩ B)=some (.next,sh (t7 w.params) 309 641 os,cE,(pZ 264 0 10)):=fw (by kernel_rfl)
theorem F6 (w:World) (os:OsState):(fun w:World=>PySem.W.Fast.tw10110043849684766642 PySem.W.Fast.tw14364793385576792824 pw w 11 an 1 370 (sh (t7 w.params) 309 641 os) (piecesOf ((bE.drop 50).take 5) env cE (pZ 264 0 10) B)=some (.next,sh (t8 w.params) 338 720 os,cE,⟨278,0,279,54⟩)) (w.withFollow "special-get-raises" false):=by kernel_rfl
theorem F7 (w:World) (os:OsState):(fun w:World=>PySem.W.Fast.tw10110043849684766642 PySem.W.Fast.tw14364793385576792824 pw w 11 an 1 370 (sh (t7 w.params) 309 641 os) (piecesOf ((bE.drop 50).take 5) env cE (pZ 264 0 10) B)=some (.next,sh (t8 w.params) 338 720 os,cE,⟨278,0,279,54⟩)) (w.withFollow "special-get-raises" true):=by kernel_rfl
theorem p8 (w:World) (os:OsState):segRunT treeTable pw w 11 an 1 370 (sh (t7 w.params) 309 641 os) (piecesOf ((bE.drop 50).take 5) env cE (pZ 264 0 10) B)=some (.next,sh (t8 w.params) 338 720 os,cE,⟨278,0,279,54⟩):=by
 cases e:w.params.followText "special-get-raises"
 ·have z:=F6 (w.withFollow "special-get-raises" false) os
  have s:=World.withFollow_self w "special-get-raises"
  rw [e] at s
  simp only [s] at z
  exact fw z
 ·have z:=F7 (w.withFollow "special-get-raises" true) os
  have s:=World.withFollow_self w "special-get-raises"
  rw [e] at s
  simp only [s] at z
  exact fw z
theorem p9 (w:World) (os:OsState):segRunT treeTable pw w 11 an 1 376 (sh (t8 w.params) 338 720 os) (piecesOf ((bE.drop 55).take 11) env cE ⟨278,0,279,54⟩ B)=some (.next,sh (t9 w.params) 415 853 os,cE,⟨381,0,392,68⟩):=fw (by kernel_rfl)
theorem F8 (w:World) (os:OsState):segRunT treeTable pw w 11 an 1 377 (sh (t9 w.params) 415 853 os) (piecesOf ((bE.drop 66).take 21) env cE ⟨381,0,392,68⟩ B)=some (.next,sh (BW w.params) 466 973 os,cE,⟨464,0,481,36⟩):=fw (by kernel_rfl)
theorem F9 (w:World) (os:OsState):segRunT treeTable pw w 11 an 1 381 (sh (BW w.params) 466 973 os) (piecesOf ((bE.drop 87).take 16) env cE ⟨464,0,481,36⟩ B)=some (.next,sh (Dp w.params) 522 1094 os,cE,(pZ 565 0 12)):=fw (by kernel_rfl)
theorem Ga (w:World) (os:OsState):segRunT treeTable pw w 11 an 1 306 (sh (Dp w.params) 522 1094 os) (piecesOf ((bE.drop 103).take 6) env cE (pZ 565 0 12) B)=some (.next,sh (Dq w.params) 549 1149 os,cE,⟨571,0,583,25⟩):=fw (by kernel_rfl)
theorem Gb (w:World) (os:OsState):segRunT treeTable pw w 11 an 1 388 (sh (Dq w.params) 549 1149 os) (piecesOf ((bE.drop 109).take 6) env cE ⟨571,0,583,25⟩ B)=some (.next,sh (Dr w.params) 605 1233 os,cE,⟨639,0,655,54⟩):=fw (by kernel_rfl)
theorem Gc (w:World) (os:OsState):segRunT treeTable pw w 11 an 1 397 (sh (Dr w.params) 605 1233 os) (piecesOf ((bE.drop 115).take 12) env cE ⟨639,0,655,54⟩ B)=some (.next,sh (Ds w.params) 687 1367 os,cE,⟨765,0,779,16⟩):=fw (by kernel_rfl)
theorem Gd (w:World) (os:OsState):segRunT treeTable pw w 11 an 1 387 (sh (Ds w.params) 687 1367 os) (piecesOf ((bE.drop 127).take 5) env cE ⟨765,0,779,16⟩ B)=some (.next,sh (Dt w.params) 799 1493 os,cE,⟨784,0,785,77⟩):=fw (by kernel_rfl)
theorem Ge (w:World) (os:OsState):segRunT treeTable pw w 11 an 1 267 (sh (Dt w.params) 799 1493 os) (piecesOf ((bE.drop 132).take 9) env cE ⟨784,0,785,77⟩ B)=some (.next,sh (Du w.params) 858 1565 os,cE,⟨828,0,844,15⟩):=fw (by kernel_rfl)
end Mine.H

end
section
namespace Mine.H
open PySem PySem.W PySem.Calls PyProof.Rows
theorem Aa:∀ w:World,(fencedOpening treeTable pw w 10778).map (fun s=>(s.heap,s.gens,s.drawn,s.toks))=some (boot_heap w.params,Array.mk [],boot_drawn,boot_toks):=
 boot_open (by kernel_rfl) (by kernel_rfl) fun s=>by kernel_rfl
theorem BX (w:World):((boot_heap w.params).isNs mainGlobals && (#[]:Array GenState).size == 0,(boot_heap w.params).objs.size,(boot_heap w.params).nsMap mainGlobals "__annotations__")=(true,11,an):=by kernel_rfl
theorem Dv (w:World) (os:OsState):topGo treeTable pw w 11 an 12 ⟨boot_heap w.params,Array.mk [],boot_drawn,boot_toks,os⟩ (topStub pw)=some ((sh (t0 w.params) 15 187 os).abs,⟨denote treeTable cE,cE,(pZ 0 0 0),B⟩):=by
 rw [PySem.W.Fast.te15667345088766844465,PySem.W.Fast.te14364793385576792824,PySem.W.Fast.te11892475500146522536]; kernel_rfl
theorem xR (w:World) (os:OsState):segRun treeTable pw w 11 an 1 1 (sh (t0 w.params) 15 187 os).abs (blockOf bE env cE (pZ 0 0 0) B)=some (.next,(sh (t0 w.params) 15 187 os).abs,cE,(pZ 0 0 0)):=by
 rw [PySem.W.Fast.te14374325043358763698,PySem.W.Fast.te14364793385576792824]; kernel_rfl
noncomputable def H1 (P:Params):Heap:=absHeap (Du P) 858 {}
theorem BZ (w:World) (os:OsState):topRun treeTable pw w 11 an 2 (sh (Du w.params) 858 1565 os).abs (restOf (bE.drop 141) env cE ⟨828,0,844,15⟩ B)=some ⟨H1 w.params,#[],{},1565,os⟩:=
 piece_nil (by rw [PySem.W.Fast.te14082659384304107361,PySem.W.Fast.te14364793385576792824]; kernel_rfl)
theorem Gf (w:World) (os:OsState):topRun treeTable pw w 11 an (12 + (1 + (238 + (247 + (247 + (366 + (374 + (382 + (239 + (370 + (376 + (377 + (381 + (306 + (388 + (397 + (387 + (267 + 2)))))))))))))))))) ⟨boot_heap w.params,Array.mk [],boot_drawn,boot_toks,os⟩ (topStub pw)=some ⟨H1 w.params,#[],{},1565,os⟩:=
 go_top (Dv w os) (piece_block (xR w os) (bK (p1 w os) (bK (p2 w os) (bK (p3 w os) (bK (p4 w os) (bK (p5 w os) (bK (p6 w os) (bK (p7 w os) (bK (p8 w os) (bK (p9 w os) (bK (F8 w os) (bK (F9 w os) (bK (Ga w os) (bK (Gb w os) (bK (Gc w os) (bK (Gd w os) (bK (Ge w os) (BZ w os))))))))))))))))))
noncomputable def vw:Program:=view pw [140]
noncomputable def loose:List Str:=[q "F77Error",q "SourceError",q "LexFault",q "SyntaxFault",q "DIGITS_squeeze",q "AHEAD_OF_COUNT",q "capital",q "constant_end",q "count_end",q "hollerith",q "squeeze",q "squeezed",q "depths",q "closing",q "DIGITS_classify",q "LETTERS_classify",q "WHOLE",q "TYPES",q "BEGINS",q "name_end",q "digits_end",q "is_target",q "is_balanced",q "equals_at",q "is_do_head",q "word_of_if",q "word_of_goto",q "word_of_type",q "word_by_begin",q "classify",q "kind_at",q "is_op",q "need_op",q "need_name",q "need_int",q "need_end",q "close_at",q "EQUIVALENCE",q "NEGATION",q "RELATION",q "SUM",q "POWER",q "MOST_DEEP",q "MOST_HIGH",q "PLACE_TAGS",q "PRIORITIES",q "priority_at",q "higher",q "deeper",q "parse_expr",q "read_binary",q "read_first",q "read_primary",q "constant_of",q "parse_bracket",q "part_end",q "is_complex",q "complex_part",q "read_named",q "holds_mark",q "read_ends",q "read_arguments",q "whole_expr",q "INTEGER",q "REAL",q "DOUBLE",q "COMPLEX",q "LOGICAL",q "CHARACTER",q "LETTERS_lex",q "DIGITS_lex",q "DOTTED",q "TRUTHS",q "SIGNS",q "MOST_NAME",q "MOST_DIGITS",q "run_of",q "dotted_at",q "told_pair",q "power_at",q "number_at",q "quoted_at",q "name_at",q "point_at",q "token_at",q "tokens_of",q "dummy_list",q "named_list",q "MAIN_NAME",q "BLOCK_NAME",q "HEAD_WORDS",q "TYPE_WORDS",q "SPEC_WORDS",q "BLOCK_WORDS",q "LAST_OF_LOOP",q "PREFIXES",q "IMPLICIT_STAGE",q "SPEC_STAGE",q "DATA_STAGE",q "RUN_STAGE",q "RawUnit",q "UnitMaker",q "result_of",q "head_unit",q "note_label",q "turn_arm",q "enter",q "close_loops",q "note_arrays",q "add_spec",q "add_format",q "is_stfunc",q "add_stfunc",q "add_body",q "add_executable",q "add_row",q "begin_unit",q "take_row",q "units_of",q "_law_specs",q "_law_acts",q "_law_cases",q "_law_heads",q "_law_kinds",q "_law_words",q "_law_deal",q "_law_told",q "_law_hands",q "_law_rows",q "_law_is_body",q "_law_heard"]
noncomputable def l1 (P:Params):List Obj:=[boot_o_0 P,boot_o_1 P,⟨.none,none,(.dict ⟨[E P "type.__subclasses__.Exception.0" 214 (.int 31 0),E P "type.__subclasses__.Exception.n" 215 (.int 1 0)]⟩ 2),⟨[]⟩⟩,gl P 141 141 [],boot_o_4 P,boot_o_5 P,boot_o_6 P,boot_o_7 P,boot_o_8 P,boot_o_9 P,boot_o_10 P,tp [],ff 264,co "<module>" "<module>" 182 1 0 0 11 false 181 12 .none .none .none .none 185 186,⟨(.type "frame"),none,.plain,⟨[some (.ref 13),some (.ref 3),some (.ref 3),none,some (S "__main__" 164),none,some (.ref 0)]⟩⟩]++(n1 (⟨(.type "type"),none,(.cls ⟨q "F77Error",[(.type "Exception")],[(.ref 31),(.type "Exception"),(.type "BaseException"),(.type "object")],30,q "F77Error",true,[],[(.ref 51),(.ref 70),(.ref 82)],false,none,false⟩),⟨[some (.ref 15),none,some (S "F77Error" 189),some (S "F77Error" 197),some (.builtin "Exception.__new__"),some (.bool true)]⟩⟩) P++(n2 P++(n3 P++(n4 P++(n5 P++(n6 P++(n7 P++(n8 P++(n9 P++(EJ P++(EK P++(EL P++(EP P++(ER P++(EV P++(EW P))))))))))))))))
noncomputable def K (P:Params):Frag:=EI 0 (l1 P)
noncomputable abbrev as:List Addr:=List.range 858
theorem Gg (P:Params):as=(K P).map (·.1):=by kernel_rfl
noncomputable abbrev k6:Hook:=kHook K as Gg
noncomputable abbrev R:RowW:=OpenRow.toRowW (OpenLaw.row PySem.Challenge.rw_pq0364_01)
theorem B0 (w:World) (os:OsState):(staticsOk (importedModules pw.main.body) (boot_heap w.params) (H1 w.params) && namesBound pw (H1 w.params) && gensDone ⟨H1 w.params,#[],{},1565,os⟩ && laidKept (boot_heap w.params) (H1 w.params))=true:=by kernel_rfl
theorem B1 (w:World) (os:OsState):openSeen vw loose (importedModules pw.main.body) (fun s=>xlAt vw [] s && recOk (RowW.records R) s) true ⟨H1 w.params,#[],{},1565,os⟩ = openGood vw loose:=by
 rw [PySem.W.Fast.te4187177175401517315]; kernel_rfl
theorem B2 (w:World) (os:OsState):Hook.obs k6 ⟨H1 w.params,#[],{},1565,os⟩ = Hook.val k6 w:=by kernel_rfl
theorem Dw:LeftO pw vw loose (fun s=>xlAt vw [] s && recOk (RowW.records R) s) (Hook.obs k6) (Hook.val k6) 10778:=
 LeftO.of_pieces Aa BX Gf (by kernel_rfl) fun w=>funext fun os=>looks_pair (B0 w os) (looks_pair (B1 w os) (B2 w os))
noncomputable def dk:DefRec × List (Str × Expr):=match defOf vw (q "law") with
 | some d=>d
 | none=>(⟨q "law",⟨[],[],none,[],[],none,[]⟩,[],pw.main.scope,(pZ 0 0 0)⟩,[])
theorem head (said:OpenLaw.wellSaid PySem.Challenge.rw_pq0364_01=true) (walk:WalkO vw loose (XL vw []) (Hook.says k6) R dk.1 dk.2 fun f vs=>PySem.call f vs):PySem.Challenge.rw_pq0364_01.Holds:=by
 refine holds_law said fun said=>holds_open (r:=OpenLaw.row PySem.Challenge.rw_pq0364_01) (q:=vw) (loose:=loose) (Xt:=fun s=>xlAt vw [] s && recOk (RowW.records R) s) (XP:=XL vw []) (Yf:=Hook.obs k6) (Ya:=Hook.val k6) (YP:=Hook.says k6) (d:=dk.1) (kwd:=dk.2) Dw (Hook.of k6) (Hook.keeps k6) (fun s e=>xl_of s (Bool.and_eq_true_iff.mp e).1) XL.keeps ?_ ?_ ?_ (fun s e=>recFacts_of (Bool.and_eq_true_iff.mp e).2) ?_ said ?_ ⟨?_,?_,?_,?_,?_,?_⟩ ?_ walk
 ·kernel_rfl
 ·kernel_rfl
 ·kernel_rfl
 ·kernel_rfl
 ·kernel_rfl
 ·kernel_rfl
 ·kernel_rfl
 ·kernel_rfl
 ·kernel_rfl
 ·kernel_rfl
 ·kernel_rfl
 ·w_witness2
end Mine.H

end
section
open PySem
open Mine
namespace Mine.Z
noncomputable def ME.q:ME->Pos
 | .const _ _ p=>p | .name _ p=>p | .glob _ p=>p | .bin _ _ _ p=>p | .un _ _ p=>p | .bools _ _ p=>p | .cmp _ _ _ p=>p | .cmp2 _ _ _ _ _ p=>p | .ifx _ _ _ p=>p | .tup _ _ p=>p | .list _ p=>p | .lstV _ p=>p | .addV _ _ p=>p
 | .dict _ _ p=>p | .attr _ _ p=>p | .sub _ _ p=>p | .slice _ _ _ _ p=>p | .callg _ _ _ p=>p | .calle _ _ p=>p | .meth _ _ _ _ p=>p | .comp _ _ _ _ _ _ _ p=>p | .dcomp _ _ _ _ _ _ _ p=>p
noncomputable def MT.q:MT->Pos
 | .name _ p=>p | .tup _ _ p=>p | .attr _ _ p=>p | .sub _ _ p=>p
noncomputable def dg:Nat->Nat->List Nat->List Nat
 | 0,_,a=>a
 | f + 1,n,a=>match Nat.beq n 0 with
  | true=>a
  | false=>dg f (Nat.div n 100) (Nat.add (Nat.mod n 100) 31 :: a)
noncomputable def d (n:Nat):List Nat:=dg 90 n []
noncomputable def z (k:Nat):Pos:=⟨Nat.div k 10000,Nat.mod (Nat.div k 100) 100,Nat.div k 10000,Nat.mod k 100⟩
noncomputable def sp (a b:Pos) (i j:Nat):Pos:=⟨a.line,Nat.sub a.col i,b.endLine,Nat.add b.endCol j⟩
noncomputable def fst:bP->Pos
 | .cons e _=>ME.q e
 | .nil=>z 0
noncomputable def lst:bP->Pos
 | .cons e .nil=>ME.q e
 | .cons _ l=>lst l
 | .nil=>z 0
noncomputable abbrev n (i k:Nat):ME:=.name i (z k)
noncomputable abbrev nt (i k:Nat):MT:=.name i (z k)
noncomputable abbrev g (i k:Nat):ME:=.glob i (z k)
noncomputable abbrev i (x:Int) (k:Nat):ME:=.const (.int x) 0 (z k)
noncomputable abbrev s (x k:Nat):ME:=.const (.str (d x)) 0 (z k)
noncomputable abbrev bo (x:Bool) (k:Nat):ME:=.const (.bool x) 0 (z k)
noncomputable abbrev b (a:ME) (o:Operator) (b:ME):ME:=.bin a o b (sp (ME.q a) (ME.q b) 0 0)
noncomputable abbrev m (a:ME) (o:CmpOp) (b:ME):ME:=.cmp a o b (sp (ME.q a) (ME.q b) 0 0)
noncomputable abbrev av (a b:ME):ME:=.addV a b (sp (ME.q a) (ME.q b) 0 0)
noncomputable abbrev us (a:ME):ME:=.un .USub a (sp (ME.q a) (ME.q a) 1 0)
noncomputable abbrev no (a:ME):ME:=.un .Not a (sp (ME.q a) (ME.q a) 4 0)
noncomputable abbrev o (op:BoolOp) (l:bP):ME:=.bools op l (sp (fst l) (lst l) 0 0)
noncomputable abbrev ix (t a b:ME):ME:=.ifx t a b (sp (ME.q a) (ME.q b) 0 0)
noncomputable abbrev y (l:bP):ME:=.tup l 0 (sp (fst l) (lst l) 1 1)
noncomputable abbrev l (l:bP):ME:=.list l (sp (fst l) (lst l) 1 1)
noncomputable abbrev lv (l:bP):ME:=.lstV l (sp (fst l) (lst l) 1 1)
noncomputable def Dx (p:Pos) (e:Nat):Pos:=⟨p.line,p.col,p.endLine,e⟩
noncomputable abbrev t (a:ME) (c e:Nat):ME:=.attr a c (Dx (ME.q a) e)
noncomputable abbrev tt (a:ME) (c e:Nat):MT:=.attr a c (Dx (ME.q a) e)
noncomputable abbrev u (a b:ME):ME:=.sub a b (sp (ME.q a) (ME.q b) 0 1)
noncomputable abbrev ut (a b:ME):MT:=.sub a b (sp (ME.q a) (ME.q b) 0 1)
noncomputable abbrev v (a x y:ME):ME:=.slice a (.some x) (.some y) (sp (ME.q x) (ME.q y) 0 0) (sp (ME.q a) (ME.q y) 0 1)
noncomputable abbrev vl (a x:ME):ME:=.slice a (.some x) .none (sp (ME.q x) (ME.q x) 0 1) (sp (ME.q a) (ME.q x) 0 2)
noncomputable abbrev vh (a y:ME):ME:=.slice a .none (.some y) (sp (ME.q y) (ME.q y) 1 0) (sp (ME.q a) (ME.q y) 0 1)
noncomputable abbrev f (x k:Nat) (l:bP):ME:=.callg x (z k) l (sp (z k) (lst l) 0 1)
noncomputable abbrev fz (x k:Nat):ME:=.callg x (z k) .nil (sp (z k) (z k) 0 2)
noncomputable abbrev h (a:ME) (c e:Nat) (l:bP):ME:=.meth a c (Dx (ME.q a) e) l (sp (ME.q a) (lst l) 0 1)
noncomputable abbrev k1 (a:ME):bP:=.cons a .nil
noncomputable abbrev k2 (a b:ME):bP:=.cons a (.cons b .nil)
noncomputable abbrev k3 (a b c:ME):bP:=.cons a (.cons b (.cons c .nil))
noncomputable abbrev k4 (a b c d:ME):bP:=.cons a (.cons b (.cons c (.cons d .nil)))
noncomputable abbrev k (a:ME) (l:bP):bP:=.cons a l
noncomputable abbrev j1 (a:MS):bL:=.cons a .nil
noncomputable abbrev j2 (a b:MS):bL:=.cons a (.cons b .nil)
noncomputable abbrev j (a:MS) (l:bL):bL:=.cons a l
noncomputable abbrev x (a:ME):MS:=.expr a (ME.q a)
noncomputable abbrev a (i k:Nat) (e:ME):MS:=.asg (.name i (z k)) e (sp (z k) (ME.q e) 0 0)
noncomputable abbrev as (t:MT) (e:ME):MS:=.asg t e (sp (MT.q t) (ME.q e) 0 0)
noncomputable abbrev q (i k:Nat) (o:Operator) (e:ME):MS:=.aug i (z k) o e (sp (z k) (ME.q e) 0 0)
noncomputable def ie (p:Pos) (w e:Nat):Pos:=⟨p.line,Nat.sub p.col w,Nat.div e 100,Nat.mod e 100⟩
noncomputable abbrev I (t:ME) (a b:bL) (e:Nat):MS:=.ife t a b (ie (ME.q t) 3 e)
noncomputable abbrev J (t:ME) (a b:bL) (e:Nat):MS:=.ife t a b (ie (ME.q t) 5 e)
noncomputable abbrev r (a:ME):MS:=.ret a (sp (ME.q a) (ME.q a) 7 0)
noncomputable abbrev R (x k:Nat) (l:bP):MS:=.rais x (z k) l (sp (z k) (lst l) 0 1) (sp (z k) (lst l) 6 1)
end Mine.Z
namespace Mine.T
open Mine.Z
noncomputable def b0:bL:=(j2 (I (.cmp2 (s 66 230710) .LtE (n 0 231418) .LtE (s 91 232225) (z 230725)) (j1 (r (f 8 241518 (k1 (b (f 9 241922 (k1 (n 0 242327))) .Sub (i 32 243133)))))) .nil 2434)
 (r (n 0 251115)))
noncomputable def b1:bL:=(j (a 2 270407 (b (n 1 271012) .Add (i 1 271516)))
 (j2 (.whl (m (n 2 281013) .Lt (f 11 281619 (k1 (n 0 282024)))) (j2 (I (m (u (n 0 291115) (n 2 291619)) .Eq (s 8 292427)) (j2 (I (m (v (n 0 301519) (b (n 2 302023) .Add (i 1 302627)) (b (n 2 302831) .Add (i 2 303435))) .NotEq (s 8 304043)) (j1 (r (b (n 2 312326) .Add (i 1 312930)))) .nil 3130)
 (q 2 321215 .Add (i 1 321920))) .nil 3220)
 (q 2 330811 .Add (i 1 331516))) ⟨28,4,33,16⟩)
 (R 12 341018 (k2 (n 1 341921) (s 6601687366836668857083016880798485667985018874857380868501667901707969 342360)))))
noncomputable def b2:bL:=(j (a 2 360409 (us (i 1 361314)))
 (j (a 3 370407 (n 1 371012))
 (j (.whl (.bools .And (k2 (m (n 3 381013) .Lt (f 11 381619 (k1 (n 0 382024)))) (o .Or (k2 (m (u (n 0 383135) (n 3 383639)) .Eq (s 1 384447)) (m (u (n 0 385155) (n 3 385659)) .In (g 15 386478))))) (z 381079)) (j2 (I (m (u (n 0 391115) (n 3 391619)) .NotEq (s 1 392427)) (j1 (a 2 401217 (b (b (f 16 402023 (k2 (n 2 402429) (i 0 403132))) .Mult (i 10 403638)) .Add (h (g 15 404155) 2 60 (k1 (u (n 0 406165) (n 3 406669))))))) .nil 4071)
 (q 3 410811 .Add (i 1 411516))) ⟨38,4,41,16⟩)
 (j2 (I (o .Or (k2 (m (n 2 420712) .Lt (i 0 421516)) (m (f 17 422027 (k1 (v (n 0 422832) (n 3 423336) (b (n 3 423740) .Add (i 1 424344))))) .NotEq (s 41 425053)))) (j1 (r (y (k2 (us (i 1 431718)) (n 1 432022))))) .nil 4323)
 (r (y (k2 (n 2 441217) (b (n 3 441922) .Add (i 1 442526)))))))))
noncomputable def b3:bL:=(j (as (.tup [(2,(z 460409)),(3,(z 461116))] 0 (z 460416)) (f 19 461928 (k2 (n 0 462933) (n 1 463537))))
 (j (I (m (n 2 470712) .Lt (i 0 471516)) (j1 (r (y (k2 (s 0 481618) (n 1 482022))))) .nil 4823)
 (j (I (o .Or (k2 (m (n 2 490712) .Eq (i 0 491617)) (m (n 2 492126) .Gt (b (f 11 492932 (k1 (n 0 493337))) .Sub (n 3 494146))))) (j1 (R 12 501422 (k2 (n 1 502325) (s 660141807777708374857301688086798501857366850174840185808001847866777701808301858080017283706685 502777)))) .nil 5078)
 (j2 (a 4 510409 (v (n 0 511216) (n 3 511722) (b (n 3 512328) .Add (n 2 513136))))
 (r (y (k2 (b (b (s 8 521215) .Add (h (n 4 521823) 3 31 (k2 (s 8 523235) (s 808 523741)))) .Add (s 8 524548)) (b (n 3 525055) .Add (n 2 525863)))))))))
noncomputable def b4:bL:=(j (a 1 540407 (.list .nil (z 541012)))
 (j (a 2 550408 (s 0 551113))
 (j (a 3 560406 (i 0 560910))
 (j2 (.whl (m (n 3 571012) .Lt (f 11 571518 (k1 (n 0 571923)))) (j (a 4 580812 (u (n 0 581519) (n 3 582022)))
 (j (I (m (n 4 591115) .Eq (s 1 591922)) (j2 (q 3 601214 .Add (i 1 601819))
 (.cont (z 611220))) .nil 6120)
 (j (a 5 620816 (s 0 621921))
 (j (a 6 630811 (n 3 631416))
 (j (I (m (n 4 641115) .Eq (s 8 641922)) (j2 (a 6 651215 (f 22 651830 (k2 (n 0 653135) (n 3 653739))))
 (a 5 661220 (v (n 0 662327) (n 3 662830) (n 6 663134)))) (j1 (J (.bools .And (k3 (m (n 4 671317) .In (g 15 672135)) (m (n 2 674044) .NotEq (s 0 674850)) (m (n 2 675660) .In (g 23 676478))) (z 671379)) (j1 (as (.tup [(5,(z 681220)),(6,(z 682225))] 0 (z 681225)) (f 24 682837 (k2 (n 0 683842) (n 3 684446))))) .nil 6847)) 6847)
 (j2 (I (m (n 5 691119) .Eq (s 0 692325)) (j2 (x (h (n 1 701215) 0 22 (k1 (y (k2 (f 17 702431 (k1 (n 4 703236))) (bo false 703944))))))
 (q 3 711214 .Add (i 1 711819))) (j2 (.forr (nt 7 731620) (n 5 732432) (j1 (x (h (n 1 741619) 0 26 (k1 (y (k2 (n 7 742832) (bo true 743438))))))) ⟨73,12,74,40⟩)
 (a 3 751214 (n 6 751720))) 7520)
 (a 2 760812 (n 4 761519)))))))) ⟨57,4,76,19⟩)
 (r (n 1 771114))))))
noncomputable def b5:bL:=(j (a 1 790407 (s 0 791012))
 (j2 (.forr (.tup [(2,(z 800812)),(3,(z 801423))] 0 (z 800823)) (f 29 802734 (k1 (n 0 803539))) (j1 (q 1 810811 .Add (n 2 811519))) ⟨80,4,81,19⟩)
 (r (n 1 821114))))
noncomputable def b6:bL:=(j (a 1 840407 (.list .nil (z 841012)))
 (j (a 2 850409 (i 0 851213))
 (j (a 3 860413 (bo false 861621))
 (j2 (.forr (nt 4 870812) (n 0 871619) (j1 (I (m (n 4 881115) .Eq (s 8 881922)) (j2 (a 3 891221 (no (n 3 892837)))
 (x (h (n 1 901215) 0 22 (k1 (us (i 1 902425)))))) (j1 (J (n 3 911322) (j1 (x (h (n 1 921215) 0 22 (k1 (us (i 1 922425)))))) (j1 (J (o .And (k2 (m (n 4 931317) .Eq (s 9 932124)) (m (n 2 932934) .GtE (i 0 933839)))) (j2 (x (h (n 1 941215) 0 22 (k1 (n 2 942328))))
 (q 2 951217 .Add (i 1 952122))) (j1 (J (o .And (k2 (m (n 4 961317) .Eq (s 10 962124)) (m (n 2 962934) .Gt (i 0 963738)))) (j2 (q 2 971217 .Sub (i 1 972122))
 (x (h (n 1 981215) 0 22 (k1 (n 2 982328))))) (j2 (I (m (n 4 1001519) .Eq (s 10 1002326)) (j1 (a 2 1011621 (us (i 2 1012526)))) .nil 10126)
 (x (h (n 1 1021215) 0 22 (k1 (n 2 1022328))))) 10229)) 10229)) 10229)) 10229)) ⟨87,4,102,29⟩)
 (r (n 1 1031114))))))
noncomputable def CU:bL:=(j (a 3 7660409 (.list .nil (z 7661214)))
 (j (a 4 7670409 (.const .none 0 (z 7671216)))
 (j (a 5 7680408 (i 0 7681112))
 (j (.forr (.tup [(5,(z 7690812)),(6,(z 7691419)),(7,(z 7692125))] 0 (z 7690825)) (n 0 7692933) (j2 (.tryx (.tup [(4,(z 7711217)),(8,(z 7711923))] 0 (z 7711223)) (f 138 7712634 (k (n 4 7713540) (k (n 5 7714246) (k4 (n 6 7714853) (f 74 7715563 (k1 (n 7 7716468))) (n 1 7717178) (n 2 7718085))))) (z 7711286) 139 (z 7721523) 9 (j1 (R 140 7731829 (k2 (n 5 7733034) (t (n 9 7733641) 6 46)))) ⟨772,8,773,47⟩ ⟨770,8,773,47⟩)
 (I (m (n 8 7741115) .Eq (s 707969 7741924)) (j2 (x (h (n 3 7751217) 0 24 (k1 (t (n 4 7752530) 92 35))))
 (a 4 7761217 (.const .none 0 (z 7762024)))) .nil 77624)) ⟨769,4,776,24⟩)
 (j2 (I (m (n 4 7770712) .IsNot (.const .none 0 (z 7772024))) (j1 (R 140 7781425 (k2 (n 5 7782630) (s 660186797485018874857380868501384737 7783252)))) .nil 77853)
 (r (n 3 7791116)))))))
noncomputable def yR:bL:=(j (a 2 7910406 (u (n 0 7910913) (i 1 7911415)))
 (j2 (as (ut (n 0 7920408) (i 1 7920910)) (b (n 2 7921416) .Add (i 1 7921920)))
 (r (ix (m (n 2 7933335) .Lt (f 11 7933841 (k1 (u (n 0 7934246) (i 0 7934748))))) (b (u (u (n 0 7931115) (i 0 7931617)) (n 2 7931921)) .Mod (n 1 7932529)) (.bin (b (b (b (i 11 7935759) .Mult (n 2 7936264)) .Add (b (n 2 7936769) .FloorDiv (i 2 7937374))) .Add (i 3 7937778)) .Mod (n 1 7938286) (z 7935686))))))
noncomputable def B3:bL:=(j (a 2 8140408 (.list .nil (z 8141113)))
 (j2 (.forr (nt 3 8150810) (f 34 8151419 (k1 (f 11 8152023 (k1 (n 0 8152429))))) (j (a 4 8160812 (u (n 0 8161520) (n 3 8162123)))
 (j2 (a 5 8170813 (ix (m (vh (n 4 8173337) (i 1 8173940)) .In (y (k2 (s 24 8174649) (s 25 8175154)))) (f 151 8171619 (k1 (vh (n 4 8172024) (i 2 8172627)))) (i 0 8176162)))
 (x (h (n 2 8180812) 0 19 (k1 (y (k3 (b (i 3 8182122) .Add (b (n 1 8182528) .Mult (n 3 8183133))) (n 5 8183540) (ix (m (n 5 8185459) .Gt (i 0 8186263)) (vl (n 4 8184246) (i 3 8184748)) (n 4 8186973))))))))) ⟨815,4,818,75⟩)
 (r (n 2 8191115))))
noncomputable def CV:bL:=(j2 (as (.tup [(2,(z 8230411)),(3,(z 8231318))] 0 (z 8230418)) (fz 154 8232131))
 (.tryr (f 155 8251523 (k3 (f 156 8252433 (k2 (n 0 8253439) (n 1 8254144))) (n 2 8254754) (n 3 8255661))) (z 8250862) 140 (z 8261122) 4 (j1 (r (t (n 4 8271520) 7 25))) ⟨826,4,827,25⟩ ⟨824,4,827,25⟩))
noncomputable def yS:bL:=(j (a 1 8290408 (l (k2 (vh (n 0 8291218) (i 40 8292022)) (i 0 8292526))))
 (j2 (.forr (nt 2 8300812) (f 34 8301621 (k1 (i 2 8302223))) (j (as (.tup [(3,(z 8310813)),(4,(z 8311520)),(5,(z 8312227)),(6,(z 8312935))] 0 (z 8310835)) (u (g 157 8313848) (f 158 8314958 (k2 (n 1 8315963) (f 11 8316568 (k1 (g 157 8316979)))))))
 (j (a 7 8320812 (f 151 8321518 (k1 (u (n 3 8321924) (f 158 8322534 (k2 (n 1 8323539) (f 11 8324144 (k1 (n 3 8324550)))))))))
 (j (a 8 8330813 (ix (m (n 7 8334044) .Gt (i 0 8334748)) (lv (k1 (u (fz 159 8331727) (n 7 8333034)))) (.lstV .nil (z 8335456))))
 (j (a 8 8340813 (av (n 8 8341621) (.comp (u (g 161 8342535) (f 158 8343645 (k2 (n 1 8344650) (i 3 8345253)))) (nt 0 8346061) (f 34 8346570 (k1 (f 158 8347180 (k2 (n 1 8348185) (i 3 8348788))))) .nil [(160,0),(161,1),(158,1),(144,2)] [(160,none),(144,(some 1))] [161,158] (z 8342491))))
 (j (I (o .And (k2 (m (n 7 8351115) .Lt (i 4 8351819)) (m (vh (n 4 8352429) (i 1 8353132)) .NotIn (y (k2 (lv (k1 (s 513834450134 8354351))) (lv (k1 (s 37345334013401161816 8355567)))))))) (j1 (a 8 8361217 (av (n 8 8362025) (.comp (u (g 162 8362938) (f 158 8363948 (k2 (n 1 8364953) (i 3 8365556)))) (nt 0 8366364) (f 34 8366873 (k1 (f 158 8367483 (k2 (n 1 8368488) (i 3 8369091))))) .nil [(160,0),(162,1),(158,1),(144,2)] [(160,none),(144,(some 1))] [162,158] (z 8362894))))) .nil 83694)
 (j (a 8 8370813 (av (n 8 8371621) (n 4 8372429)))
 (j (a 9 8380811 (b (i 1 8381415) .Add (f 158 8381827 (k2 (n 1 8382832) (i 4 8383435)))))
 (j (I (m (f 163 8391121 (k2 (b (av (av (n 8 8392227) (lv (k1 (n 5 8393136)))) (n 6 8394046)) .Add (lv (k1 (s 384737 8395055)))) (n 9 8395861))) .NotEq (b (i 3 8396667) .Add (b (n 9 8397073) .Mult (f 11 8397679 (k1 (n 8 8398085)))))) (j1 (r (bo false 8401924))) .nil 84024)
 (j2 (a 10 8410813 (f 163 8411626 (k2 (b (av (n 8 8412732) (n 6 8413541)) .Add (lv (k1 (s 384737 8414550)))) (n 9 8415356))))
 (I (o .Or (k2 (f 164 8421121 (k2 (n 10 8422227) (g 151 8422932))) (m (.comp (y (k2 (t (n 0 8423943) 83 48) (f 11 8425053 (k1 (t (n 0 8425458) 87 63))))) (nt 0 8427074) (n 10 8427883) .nil [(92,0),(11,1)] [(92,none)] [11] (z 8423784)) .NotEq (lv (k1 (y (k2 (u (.callg 165 (pZ 842 90 100) .nil (pZ 842 90 102)) (.name 7 (pZ 842 103 107))) (.callg 11 (pZ 842 110 113) (k1 (.comp (.name 0 (pZ 842 115 119)) (.name 0 (pZ 842 124 128)) (av (av (.name 8 (pZ 842 132 137)) (.name 6 (pZ 842 140 146))) (lv (k1 (.const (.str (d 384737)) 0 (pZ 842 150 155))))) (k1 (.callg 166 (pZ 842 160 172) (k1 (.name 0 (pZ 842 173 177))) (pZ 842 160 178))) [(6,0),(166,1)] [(6,none)] [166] (pZ 842 114 179))) (pZ 842 110 180))))))))) (j1 (r (bo false 8431924))) .nil 84324)))))))))) ⟨830,4,843,24⟩)
 (r (bo true 8441115))))
 noncomputable def f0:bu:=⟨91,1,1,true,false,[(10,0)],[8,9],b0,[],0⟩
 noncomputable def f1:bu:=⟨98,2,3,true,false,[(6,0),(13,0),(14,0)],[11,12],b1,[],0⟩
 noncomputable def f2:bu:=⟨105,2,4,true,false,[(6,0),(13,0),(18,0),(14,0)],[11,15,16,17],b2,[],0⟩
 noncomputable def f3:bu:=⟨112,2,5,true,false,[(6,0),(13,0),(18,0),(20,0),(21,0)],[19,11,12],b3,[],0⟩
 noncomputable def f4:bu:=⟨119,1,8,true,false,[(6,0),(25,0),(26,0),(13,0),(10,0),(27,0),(14,0),(28,0)],[11,22,15,23,24,17],b4,[],0⟩
 noncomputable def f5:bu:=⟨126,1,4,true,false,[(6,0),(30,0),(10,0),(31,0)],[29],b5,[],0⟩
 noncomputable def f6:bu:=⟨133,1,5,true,false,[(30,0),(25,0),(32,0),(31,0),(10,0)],[],b6,[],0⟩
 noncomputable def f7:bu:=⟨140,2,4,true,false,[(30,0),(13,0),(35,0),(14,0)],[33,34,11],(j (a 2 1050410 (f 33 1051319 (k1 (n 0 1052023))))
 (j2 (.forr (nt 3 1060811) (f 34 1061520 (k2 (b (n 1 1062123) .Add (i 1 1062627)) (f 11 1062932 (k1 (n 0 1063336))))) (j1 (I (o .And (k2 (m (u (n 0 1071114) (n 3 1071518)) .Eq (s 10 1072326)) (m (u (n 2 1073137) (n 3 1073841)) .Eq (u (n 2 1074652) (n 1 1075355))))) (j1 (r (n 3 1081922))) .nil 10822)) ⟨106,4,108,22⟩)
 (r (us (i 1 1091213))))),[],0⟩
 noncomputable def f8:bu:=⟨188,2,3,true,false,[(30,0),(13,0),(14,0)],[36,11,37],(j (I (o .Or (k2 (m (v (n 0 1170710) (n 1 1171113) (b (n 1 1171416) .Add (i 1 1171920))) .Eq (s 0 1172527)) (m (u (n 0 1173134) (n 1 1173537)) .NotIn (g 36 1174662)))) (j1 (r (n 1 1181517))) .nil 11817)
 (j (a 2 1190407 (n 1 1191012))
 (j2 (.whl (.bools .And (k2 (m (n 2 1201013) .Lt (f 11 1201619 (k1 (n 0 1202023)))) (o .Or (k2 (m (u (n 0 1203033) (n 2 1203437)) .In (g 36 1204258)) (m (u (n 0 1206265) (n 2 1206669)) .In (g 37 1207489))))) (z 1201090)) (j1 (q 2 1210811 .Add (i 1 1211516))) ⟨120,4,121,16⟩)
 (r (n 2 1221114))))),[],0⟩
 noncomputable def f9:bu:=⟨195,2,3,true,false,[(30,0),(13,0),(14,0)],[11,37],(j (a 2 1240407 (n 1 1241012))
 (j2 (.whl (o .And (k2 (m (n 2 1251013) .Lt (f 11 1251619 (k1 (n 0 1252023)))) (m (u (n 0 1252932) (n 2 1253336)) .In (g 37 1254156)))) (j1 (q 2 1260811 .Add (i 1 1261516))) ⟨125,4,126,16⟩)
 (r (n 2 1271114)))),[],0⟩
 noncomputable def EX:bu:=⟨202,1,3,true,false,[(6,0),(13,0),(40,0)],[38,34,39,11],(j (a 1 1290406 (f 38 1290917 (k2 (n 0 1291822) (i 0 1292425))))
 (j (I (m (n 1 1300709) .Eq (i 0 1301314)) (j1 (r (bo false 1311520))) .nil 13120)
 (j2 (.forr (nt 2 1320812) (f 34 1321621 (k1 (i 2 1322223))) (j1 (I (m (v (n 0 1331115) (n 1 1331618) (b (n 1 1331921) .Add (i 1 1332425))) .Eq (s 9 1333033)) (j2 (a 1 1341214 (b (f 39 1341724 (k2 (n 0 1342529) (n 1 1343133))) .Add (i 1 1343738)))
 (I (m (n 1 1351517) .Eq (i 0 1352122)) (j1 (r (bo false 1362328))) .nil 13628)) .nil 13628)) ⟨132,4,136,28⟩)
 (r (m (n 1 1371113) .Eq (f 11 1371720 (k1 (n 0 1372125)))))))),[],0⟩
 noncomputable def EZ:bu:=⟨209,2,4,true,false,[(30,0),(35,0),(32,0),(41,0)],[34,11],(j (a 2 1390409 (i 0 1391213))
 (j2 (.forr (nt 3 1400813) (f 34 1401722 (k1 (f 11 1402326 (k1 (n 0 1402730))))) (j (I (m (u (n 1 1411117) (n 3 1411823)) .Eq (us (i 2 1412930))) (j1 (r (bo false 1421924))) .nil 14224)
 (j2 (I (o .And (k2 (m (u (n 1 1431117) (n 3 1431823)) .GtE (i 0 1432829)) (m (u (n 0 1433437) (n 3 1433843)) .Eq (s 9 1434851)))) (j1 (q 2 1441217 .Add (i 1 1442122))) .nil 14422)
 (I (o .And (k2 (m (u (n 1 1451117) (n 3 1451823)) .GtE (i 0 1452829)) (m (u (n 0 1453437) (n 3 1453843)) .Eq (s 10 1454851)))) (j1 (q 2 1461217 .Sub (i 1 1462122))) .nil 14622))) ⟨140,4,146,22⟩)
 (r (m (n 2 1471116) .Eq (i 0 1472021))))),[],0⟩
 noncomputable def E1:bu:=⟨216,2,4,true,false,[(30,0),(35,0),(42,0),(41,0)],[34,11],(j (a 2 1490409 (us (i 1 1491314)))
 (j2 (.forr (nt 3 1500813) (f 34 1501722 (k1 (f 11 1502326 (k1 (n 0 1502730))))) (j2 (I (.bools .And (k3 (m (u (n 1 1511117) (n 3 1511823)) .Eq (i 0 1512829)) (m (u (n 0 1513437) (n 3 1513843)) .Eq (s 30 1514851)) (m (n 2 1515762) .Lt (i 0 1516566))) (z 1511167)) (j1 (a 2 1521217 (n 3 1522025))) .nil 15225)
 (I (.bools .And (k3 (m (u (n 1 1531117) (n 3 1531823)) .Eq (i 0 1532829)) (m (u (n 0 1533437) (n 3 1533843)) .Eq (s 13 1534851)) (m (n 2 1535762) .GtE (i 0 1536667))) (z 1531168)) (j1 (r (y (k2 (n 2 1542025) (bo true 1542731))))) .nil 15432)) ⟨150,4,154,32⟩)
 (r (y (k2 (n 2 1551217) (bo false 1551924)))))),[],0⟩
 noncomputable def E2:bu:=⟨223,1,2,true,false,[(44,0),(14,0)],[43,38,11],(j (a 1 1570407 (f 43 1571020 (k2 (n 0 1572125) (i 2 1572728))))
 (j (I (o .Or (k2 (m (vh (n 0 1580711) (i 2 1581314)) .NotEq (s 3748 1581923)) (m (n 1 1582730) .Eq (i 2 1583435)))) (j1 (r (bo false 1591520))) .nil 15920)
 (j2 (I (m (v (n 0 1600711) (n 1 1601215) (b (n 1 1601619) .Add (i 1 1602223))) .Eq (s 13 1602831)) (j1 (q 1 1610811 .Add (i 1 1611516))) .nil 16116)
 (r (o .And (k2 (m (f 38 1621119 (k2 (n 0 1622024) (n 1 1622629))) .Eq (f 11 1623437 (k1 (n 0 1623842)))) (m (n 1 1624851) .Lt (f 11 1625457 (k1 (n 0 1625862)))))))))),[],0⟩
 noncomputable def E3:bu:=⟨230,1,2,true,false,[(30,0),(45,0)],[39,37],(j (a 1 1640408 (vl (n 0 1641114) (b (f 39 1641522 (k2 (n 0 1642326) (i 2 1642829))) .Add (i 1 1643334))))
 (j (I (m (n 1 1650711) .Eq (s 53413847 1651521)) (j1 (r (s 7471 1661519))) .nil 16619)
 (j (I (m (n 1 1670711) .Eq (s 0 1671517)) (j1 (r (s 0 1681517))) .nil 16817)
 (j2 (I (m (u (n 1 1690711) (i 0 1691213)) .In (g 37 1691833)) (j1 (r (s 667471 1701520))) .nil 17020)
 (r (s 777471 1711116)))))),[],0⟩
 noncomputable def E4:bu:=⟨237,1,1,true,false,[(30,0)],[43,11,38],(j (I (m (v (n 0 1730710) (i 4 1731112) (i 5 1731314)) .Eq (s 9 1731922)) (j1 (r (s 6872808580 1741522))) .nil 17422)
 (j (I (o .And (k2 (m (v (n 0 1750710) (i 4 1751112) (i 5 1751314)) .NotEq (s 0 1751921)) (m (f 43 1752636 (k2 (n 0 1753740) (i 4 1754243))) .Eq (f 11 1754851 (k1 (n 0 1755255)))))) (j1 (r (s 72808580 1761521))) .nil 17621)
 (j2 (I (m (f 38 1770715 (k2 (n 0 1771619) (i 4 1772122))) .Gt (i 4 1772627)) (j1 (r (s 6672808580 1781522))) .nil 17822)
 (r (s 0 1791113))))),[],0⟩
 noncomputable def E5:bu:=⟨244,1,5,true,false,[(30,0),(6,0),(47,0),(13,0),(14,0)],[46,11,43,39,38],(j2 (.forr (.tup [(1,(z 1810812)),(2,(z 1811418))] 0 (z 1810818)) (g 46 1812227) (j1 (I (m (vh (n 0 1821114) (f 11 1821619 (k1 (n 1 1822024)))) .Eq (n 1 1823034)) (j (a 3 1831214 (f 11 1831720 (k1 (n 1 1832125))))
 (j (I (o .And (k2 (m (n 2 1841519) .Eq (s 687366836668857083 1842334)) (m (v (n 0 1843942) (n 3 1844345) (b (n 3 1844648) .Add (i 1 1845152))) .Eq (s 11 1845760)))) (j2 (a 3 1851618 (f 43 1852131 (k2 (n 0 1853235) (b (n 3 1853739) .Add (i 1 1854243)))))
 (I (m (v (n 0 1861922) (n 3 1862325) (b (n 3 1862628) .Add (i 1 1863132))) .Eq (s 9 1863740)) (j1 (a 3 1872022 (b (f 39 1872532 (k2 (n 0 1873336) (n 3 1873840))) .Add (i 1 1874445)))) .nil 18745)) .nil 18745)
 (j2 (I (m (v (n 0 1881518) (n 3 1881921) (b (n 3 1882224) .Add (i 8 1882728))) .Eq (s 3954473653424847 1883343)) (j2 (a 4 1891619 (f 38 1892230 (k2 (n 0 1893134) (b (n 3 1893638) .Add (i 8 1894142)))))
 (I (o .And (k2 (m (n 4 1901922) .Gt (b (n 3 1902527) .Add (i 8 1903031))) (m (v (n 0 1903639) (n 4 1904043) (b (n 4 1904447) .Add (i 1 1905051))) .Eq (s 9 1905659)))) (j1 (r (s 7186796885748079 1912737))) .nil 19137)) .nil 19137)
 (r (n 2 1921923))))) .nil 19223)) ⟨181,4,192,23⟩)
 (r (s 0 1931113))),[],0⟩
 noncomputable def E6:bu:=⟨251,1,3,true,false,[(30,0),(6,0),(47,0)],[48,49,39,50,43,51,11,52],(j (.forr (.tup [(1,(z 1950812)),(2,(z 1951418))] 0 (z 1950818)) (g 48 1952227) (j1 (I (m (n 0 1961114) .Eq (n 1 1961822)) (j1 (r (n 2 1971923))) .nil 19723)) ⟨195,4,197,23⟩)
 (j (I (m (vh (n 0 1980710) (i 3 1981213)) .Eq (s 423909 1981823)) (j1 (r (f 49 1991525 (k1 (n 0 1992629))))) .nil 19930)
 (j (I (m (vh (n 0 2000710) (i 7 2001213)) .Eq (s 38455238423909 2001827)) (j1 (r (ix (m (vl (n 0 2012730) (b (f 39 2013138 (k2 (n 0 2013942) (i 6 2014445))) .Add (i 1 2014950))) .Eq (s 53413847 2015662)) (s 707784707471 2011523) (s 0 2016870)))) .nil 20170)
 (j (I (m (vh (n 0 2020710) (i 4 2021213)) .Eq (s 40485348 2021824)) (j1 (r (f 50 2031527 (k1 (n 0 2032831))))) .nil 20332)
 (j (I (o .And (k2 (m (vh (n 0 2040710) (i 6 2041213)) .Eq (s 345252424047 2041826)) (m (f 43 2043141 (k2 (n 0 2044245) (i 6 2044748))) .Gt (i 6 2045253)))) (j1 (r (s 8470857766677077 2051525))) .nil 20525)
 (j2 (.forr (.tup [(1,(z 2060812)),(2,(z 2061418))] 0 (z 2060818)) (g 51 2062228) (j1 (I (m (vh (n 0 2071114) (f 11 2071619 (k1 (n 1 2072024)))) .Eq (n 1 2073034)) (j1 (r (n 2 2081923))) .nil 20823)) ⟨206,4,208,23⟩)
 (r (f 52 2091123 (k1 (n 0 2092427)))))))))),[],0⟩
 noncomputable def E7:bu:=⟨258,1,4,true,false,[(30,0),(35,0),(13,0),(58,0)],[33,53,54,55,56,57,39],(j (a 1 2110410 (f 33 2111319 (k1 (n 0 2112023))))
 (j (I (no (f 53 2121122 (k2 (n 0 2122326) (n 1 2122834)))) (j1 (r (s 0 2131517))) .nil 21317)
 (j (as (.tup [(2,(z 2140406)),(3,(z 2140817))] 0 (z 2140417)) (f 54 2142029 (k2 (n 0 2143033) (n 1 2143541))))
 (j (I (m (n 2 2150709) .Lt (i 0 2151213)) (j1 (r (f 55 2161528 (k1 (n 0 2162932))))) .nil 21633)
 (j (I (n 3 2170716) (j1 (r (ix (f 56 2182333 (k1 (vh (n 0 2183437) (n 2 2183941)))) (s 6980 2181519) (s 0 2184951)))) .nil 21851)
 (j (I (f 57 2190716 (k1 (vh (n 0 2191720) (n 2 2192224)))) (j1 (r (s 668484747279 2201523))) .nil 22023)
 (j2 (I (o .And (k2 (m (vh (n 0 2210710) (i 3 2211213)) .Eq (s 423909 2211823)) (f 57 2212837 (k1 (v (n 0 2213841) (b (f 39 2214249 (k2 (n 0 2215053) (i 2 2215556))) .Add (i 1 2216061)) (n 2 2216264)))))) (j1 (r (s 777471 2221520))) .nil 22220)
 (r (s 0 2231113))))))))),[],0⟩
 noncomputable def E8:bu:=⟨265,2,2,true,false,[(59,0),(13,0)],[11],(j2 (I (m (n 1 2260709) .Lt (f 11 2261215 (k1 (n 0 2261622)))) (j1 (r (u (u (n 0 2271521) (n 1 2272224)) (i 0 2272627)))) .nil 22728)
 (r (s 0 2281113))),[],0⟩
 noncomputable def E9:bu:=⟨272,3,3,true,false,[(59,0),(13,0),(6,0)],[11],(j1 (r (.bools .And (k3 (m (n 1 2301113) .Lt (f 11 2301619 (k1 (n 0 2302026)))) (m (u (u (n 0 2303238) (n 1 2303941)) (i 0 2304344)) .Eq (s 4849 2304953)) (m (u (u (n 0 2305965) (n 1 2306668)) (i 1 2307071)) .Eq (n 2 2307680))) (z 2301181)))),[],0⟩
 noncomputable def Fa:bu:=⟨279,3,3,true,false,[(59,0),(13,0),(6,0)],[60,61],(j2 (I (no (f 60 2321116 (k3 (n 0 2321723) (n 1 2322527) (n 2 2322933)))) (j1 (R 61 2331425 (k1 (b (s 66017866837601748401787484847479722701 2332647) .Add (n 2 2335054))))) .nil 23355)
 (r (b (n 1 2341113) .Add (i 1 2341617)))),[],0⟩
 noncomputable def Fb:bu:=⟨286,2,2,true,false,[(59,0),(13,0)],[62,61],(j2 (I (m (f 62 2360714 (k2 (n 0 2361521) (n 1 2362325))) .NotEq (s 47344638 2363036)) (j1 (R 61 2371425 (k1 (s 6601796678700174840178748484747972 2372645)))) .nil 23746)
 (r (y (k2 (u (u (n 0 2381218) (n 1 2381921)) (i 1 2382324)) (b (n 1 2382729) .Add (i 1 2383233)))))),[],0⟩
 noncomputable def Fd:bu:=⟨300,2,2,true,false,[(59,0),(13,0)],[11,61],(j1 (I (m (n 1 2440709) .Lt (f 11 2441215 (k1 (n 0 2441622)))) (j1 (R 61 2451425 (k1 (s 788083700185736679016601848566857078707985 2452649)))) .nil 24550)),[],0⟩
 noncomputable def Fe:bu:=⟨437,3,4,true,false,[(6,0),(13,0),(63,0),(14,0)],[11],(j (a 3 4310407 (n 1 4311012))
 (j2 (.whl (o .And (k2 (m (n 3 4321013) .Lt (f 11 4321619 (k1 (n 0 4322024)))) (m (u (n 0 4323034) (n 3 4323538)) .In (n 2 4324348)))) (j1 (q 3 4330811 .Add (i 1 4331516))) ⟨432,4,433,16⟩)
 (r (n 3 4341114)))),[],0⟩
 noncomputable def Ff:bu:=⟨479,2,3,true,false,[(6,0),(13,0),(14,0)],[64,65,66,67,12],(j (a 2 4960407 (f 64 4961016 (k3 (n 0 4961721) (n 1 4962325) (b (g 65 4962738) .Add (g 66 4964151)))))
 (j2 (I (m (b (n 2 4970710) .Sub (n 1 4971315)) .Gt (g 67 4971827)) (j1 (R 12 4981422 (k2 (n 1 4982325) (s 660179667870017366840178808370018573667901847489018474727984 4982759)))) .nil 49860)
 (r (y (k2 (y (k3 (s 47344638 4991319) (v (n 0 4992125) (n 1 4992628) (n 2 4992932)) (n 1 4993537))) (n 2 4994043)))))),[],0⟩
 noncomputable def Fg:bu:=⟨493,2,4,true,false,[(6,0),(13,0),(10,0),(14,0)],[65,68,66,69,70,71,72,12],(j (a 2 5100408 (u (n 0 5101115) (n 1 5101618)))
 (j (I (m (n 2 5110711) .In (g 65 5111526)) (j1 (r (f 68 5121522 (k2 (n 0 5122327) (n 1 5122931))))) .nil 51232)
 (j (I (m (n 2 5130711) .In (g 66 5131525)) (j1 (r (f 69 5141524 (k2 (n 0 5142529) (n 1 5143133))))) .nil 51434)
 (j (I (m (n 2 5150711) .Eq (s 15 5151518)) (j1 (r (f 70 5161523 (k2 (n 0 5162428) (n 1 5163032))))) .nil 51633)
 (j (I (m (n 2 5170711) .Eq (s 8 5171518)) (j1 (r (f 71 5181524 (k2 (n 0 5182529) (n 1 5183133))))) .nil 51834)
 (j (I (m (n 2 5190711) .NotIn (g 72 5191924)) (j1 (R 12 5201422 (k2 (n 1 5202325) (s 6601847472790185736685016770727479840179808573747972 5202755)))) .nil 52056)
 (j (a 3 5210407 (b (n 1 5211012) .Add (i 1 5211516)))
 (j2 (I (o .And (k2 (m (n 2 5220711) .In (s 1116 5221519)) (m (v (n 0 5222428) (n 3 5222932) (b (n 3 5223336) .Add (i 1 5223940))) .Eq (n 2 5224549)))) (j1 (q 3 5230811 .Add (i 1 5231516))) .nil 52316)
 (r (y (k2 (y (k3 (s 4849 5241317) (v (n 0 5241923) (n 1 5242426) (n 3 5242730)) (n 1 5243335))) (n 3 5243841)))))))))))),[],0⟩
 noncomputable def Fh:bu:=⟨500,1,4,true,false,[(74,0),(25,0),(13,0),(75,0)],[11,73],(j (a 1 5260407 (.list .nil (z 5261012)))
 (j (a 2 5270406 (i 0 5270910))
 (j2 (.whl (m (n 2 5281012) .Lt (f 11 5281518 (k1 (n 0 5281927)))) (j2 (as (.tup [(3,(z 5290813)),(2,(z 5291517))] 0 (z 5290817)) (f 73 5292028 (k2 (n 0 5292937) (n 2 5293941))))
 (x (h (n 1 5300811) 0 18 (k1 (n 3 5301924))))) ⟨528,4,530,25⟩)
 (r (n 1 5311114))))),[],0⟩
 noncomputable def Fi:bu:=⟨507,2,4,true,false,[(59,0),(13,0),(78,0),(79,0)],[60,76,61,77],(j (a 2 5340411 (.list .nil (z 5341416)))
 (j (I (no (f 60 5351116 (k3 (n 0 5351723) (n 1 5352527) (s 9 5352932)))) (j1 (r (y (k2 (n 2 5361623) (n 1 5362527))))) .nil 53628)
 (j (q 1 5370406 .Add (i 1 5371011))
 (j2 (I (f 60 5380712 (k3 (n 0 5381319) (n 1 5382123) (s 10 5382528))) (j1 (r (y (k2 (n 2 5391623) (b (n 1 5392527) .Add (i 1 5393031)))))) .nil 53932)
 (.whl (bo true 5401014) (j (I (f 60 5411116 (k3 (n 0 5411723) (n 1 5412527) (s 11 5412932))) (j2 (a 3 5421216 (s 11 5421922))
 (q 1 5431214 .Add (i 1 5431819))) (j2 (as (.tup [(3,(z 5451216)),(1,(z 5451820))] 0 (z 5451220)) (f 76 5452332 (k2 (n 0 5453339) (n 1 5454143))))
 (I (m (n 3 5461519) .In (n 2 5462330)) (j1 (R 61 5472233 (k1 (s 6601698678789001668372867870798501848566796984018588746870 5473465)))) .nil 54766)) 54766)
 (j (x (h (n 2 5480815) 0 22 (k1 (n 3 5482327))))
 (j2 (I (no (f 60 5491520 (k3 (n 0 5492127) (n 1 5492931) (s 13 5493336)))) (j1 (r (y (k2 (n 2 5502027) (f 77 5502936 (k3 (n 0 5503743) (n 1 5504547) (s 10 5504952))))))) .nil 55054)
 (q 1 5510810 .Add (i 1 5511415))))) ⟨540,4,551,15⟩))))),[],0⟩
 noncomputable def Fj:bu:=⟨514,1,5,true,false,[(30,0),(59,0),(79,0),(13,0),(78,0)],[80,76,81,82],(j (a 1 5530410 (f 80 5531322 (k1 (n 0 5532326))))
 (j (as (.tup [(2,(z 5540408)),(3,(z 5541012))] 0 (z 5540412)) (f 76 5541524 (k2 (n 1 5542531) (i 0 5543334))))
 (j (as (.tup [(4,(z 5550411)),(3,(z 5551315))] 0 (z 5550415)) (f 81 5551828 (k2 (n 1 5552935) (n 3 5553739))))
 (j2 (x (f 82 5560412 (k2 (n 1 5561319) (n 3 5562123))))
 (r (y (k2 (n 2 5571216) (n 4 5571825)))))))),[],0⟩
 noncomputable def Fk:bu:=⟨541,5,5,false,false,[(91,0),(83,0),(79,0),(78,0),(84,0)],[],(j (as (tt (n 0 5740812) 83 17) (n 1 5742024))
 (j (as (tt (n 0 5750812) 79 17) (n 2 5752024))
 (j (as (tt (n 0 5760812) 78 20) (n 3 5762330))
 (j (as (tt (n 0 5770812) 84 19) (n 4 5772228))
 (j (as (tt (n 0 5780812) 85 18) (.list .nil (z 5782123)))
 (j (as (tt (n 0 5790812) 86 20) (.list .nil (z 5792325)))
 (j (as (tt (n 0 5800812) 87 17) (.list .nil (z 5802022)))
 (j (as (tt (n 0 5810812) 88 20) (.dict .nil .nil (z 5812325)))
 (j2 (as (tt (n 0 5820812) 89 19) (.dict .nil .nil (z 5822224)))
 (as (tt (n 0 5830812) 90 20) (.dict .nil .nil (z 5832325)))))))))))),[],0⟩
 noncomputable def Fl:bu:=⟨562,4,4,false,false,[(91,0),(92,0),(93,0),(85,0)],[],(j (as (tt (n 0 5870812) 92 17) (n 1 5872024))
 (j (as (tt (n 0 5880812) 93 20) (n 2 5882330))
 (j (as (tt (n 0 5890812) 85 18) (n 3 5892126))
 (j (as (tt (n 0 5900812) 94 18) (i 0 5902122))
 (j (as (tt (n 0 5910812) 95 17) (.list .nil (z 5912022)))
 (j2 (as (tt (n 0 5920812) 89 19) (.dict .nil .nil (z 5922224)))
 (as (tt (n 0 5930812) 96 19) (.dict .nil .nil (z 5932224))))))))),[],0⟩
 noncomputable def Fm:bu:=⟨576,1,3,true,false,[(100,0),(6,0),(83,0)],[97,98,61,99,80],(j (I (m (n 0 5950713) .Eq (s 0 5951719)) (j1 (r (.const .none 0 (z 5961519)))) .nil 59619)
 (j (.forr (.tup [(1,(z 5970812)),(2,(z 5971418))] 0 (z 5970818)) (g 97 5972230) (j1 (I (m (n 0 5981117) .Eq (n 1 5982125)) (j1 (r (y (k2 (n 2 5992024) (.const .none 0 (z 5992630)))))) .nil 59931)) ⟨597,4,599,31⟩)
 (j (I (m (n 0 6000713) .Eq (s 364134513436533851 6001728)) (j1 (r (y (k2 (g 98 6011625) (.const .none 0 (z 6012731)))))) .nil 60132)
 (j (I (m (n 0 6020713) .Eq (s 36413451343653385111091110 6021732)) (j1 (r (y (k2 (g 98 6031625) (s 11 6032730))))) .nil 60331)
 (j2 (I (m (vh (n 0 6040713) (i 10 6041517)) .NotEq (s 36413451343653385111 6042234)) (j1 (R 61 6051425 (k1 (s 79800176747969016673706669018071013954473653424847 6052653)))) .nil 60554)
 (r (y (k2 (g 98 6061221) (f 99 6062333 (k1 (f 80 6063443 (k1 (vl (n 0 6064450) (i 10 6065153)))))))))))))),[],0⟩
 noncomputable def Fn:bu:=⟨583,2,5,false,false,[(47,0),(30,0),(79,0),(78,0),(13,0)],[101,11,61,102,103,104],(j (I (m (n 0 6080711) .Eq (s 81838072836678 6081524)) (j (as (.tup [(2,(z 6090812)),(3,(z 6091421))] 0 (z 6090821)) (f 101 6092434 (k1 (vl (n 1 6093538) (i 7 6093940)))))
 (j2 (I (m (f 11 6101114 (k1 (n 1 6101518))) .NotEq (b (i 7 6102324) .Add (f 11 6102730 (k1 (n 2 6103135))))) (j1 (R 61 6111829 (k1 (s 66017866747901818380728366780173668401798001668372867870798584 6113063)))) .nil 61164)
 (r (f 102 6121522 (k4 (s 81838072836678 6122332) (n 2 6123438) (.lstV .nil (z 6124042)) (.const .none 0 (z 6124448))))))) .nil 61249)
 (j (I (m (n 0 6130711) .Eq (s 84866783808685747970 6131527)) (j2 (as (.tup [(2,(z 6140812)),(3,(z 6141421))] 0 (z 6140821)) (f 101 6142434 (k1 (vl (n 1 6143538) (i 10 6143941)))))
 (r (f 102 6151522 (k4 (s 84866783808685747970 6152335) (n 2 6153741) (n 3 6154350) (.const .none 0 (z 6155256)))))) .nil 61557)
 (j (I (m (n 0 6160711) .Eq (s 677780687669668566 6161526)) (j (a 2 6170812 (g 103 6171525))
 (j2 (I (m (f 11 6181114 (k1 (n 1 6181518))) .Gt (i 9 6182223)) (j2 (as (.tup [(2,(z 6191216)),(3,(z 6191825))] 0 (z 6191225)) (f 101 6192838 (k1 (vl (n 1 6193942) (i 9 6194344)))))
 (I (m (f 11 6201518 (k1 (n 1 6201922))) .NotEq (b (i 9 6202728) .Add (f 11 6203134 (k1 (n 2 6203539))))) (j1 (R 61 6212233 (k1 (s 354548364401373453340173668401798001668372867870798584 6213463)))) .nil 62164)) .nil 62164)
 (r (f 102 6221522 (k4 (s 6777806876 6222330) (n 2 6223236) (.lstV .nil (z 6223840)) (.const .none 0 (z 6224246))))))) .nil 62247)
 (j (a 4 6230406 (h (n 1 6230912) 2 17 (k1 (s 3954473653424847 6231828))))
 (j (as (.tup [(2,(z 6240408)),(3,(z 6241017))] 0 (z 6240417)) (f 101 6242030 (k1 (vl (n 1 6243134) (b (n 4 6243537) .Add (i 8 6244041))))))
 (j2 (I (o .Or (k2 (m (f 11 6250710 (k1 (n 1 6251114))) .Eq (b (b (n 4 6251921) .Add (i 8 6252425)) .Add (f 11 6252831 (k1 (n 2 6253236))))) (m (s 11 6254144) .In (n 3 6254855)))) (j1 (R 61 6261425 (k1 (s 660171867968857480790173668401748584016683728678707985840174790167836668767085841301667969017980018085737083018866900167666876 6262691)))) .nil 62692)
 (r (f 102 6271118 (k4 (s 7186796885748079 6271929) (n 2 6273135) (n 3 6273744) (f 104 6274655 (k1 (vh (n 1 6275659) (n 4 6276163))))))))))))),[],0⟩
 noncomputable def Fo:bu:=⟨590,3,3,false,false,[(105,0),(106,0),(7,0)],[61],(j (I (m (n 1 6290712) .Eq (i 0 6291617)) (j1 (.ret0 (z 6300814))) .nil 63014)
 (j2 (I (m (n 1 6310712) .In (t (n 0 6311621) 89 28)) (j1 (R 61 6321425 (k1 (s 6601776667707701848566796984018588746870 6322648)))) .nil 63249)
 (as (ut (t (n 0 6330409) 89 16) (n 1 6331722)) (n 2 6332630)))),[],0⟩
 noncomputable def Fp:bu:=⟨611,3,3,false,false,[(95,0),(106,0),(47,0)],[107,61],(j2 (.whl (o .And (k2 (m (n 0 6571014) .NotEq (.lstV .nil (z 6571820))) (m (u (n 0 6572529) (us (i 1 6573132))) .Eq (y (k2 (s 6980 6573842) (n 1 6574449)))))) (j2 (I (m (n 2 6581115) .NotIn (g 107 6582335)) (j1 (R 61 6591829 (k1 (s 6601848566857078707985018573668501686679017079690179800177808081 6593064)))) .nil 65965)
 (x (.meth (n 0 6600812) 1 (z 6600816) .nil (z 6600818)))) ⟨657,4,660,18⟩)
 (I (m (y (k2 (s 6980 6610812) (n 1 6611419))) .In (n 0 6612428)) (j1 (R 61 6621425 (k1 (s 660177808081018573668501707969840188748573747901887366850174850169807084017980850173807769 6622673)))) .nil 66274)),[],0⟩
 noncomputable def Fq:bu:=⟨604,2,4,false,false,[(105,0),(109,0),(95,0),(47,0)],[61,108],(j (a 2 6400408 (t (n 0 6401116) 95 21))
 (j2 (a 3 6410408 (u (n 1 6411115) (i 0 6411617)))
 (I (m (n 3 6420711) .Eq (s 6980 6421519)) (j2 (I (m (u (n 1 6431115) (i 1 6431617)) .In (t (n 0 6432227) 89 34)) (j1 (R 61 6441829 (k1 (s 6601778080810188738084700170796901848566796984016673706669018071017485 6443067)))) .nil 64468)
 (x (h (n 2 6450812) 0 19 (k1 (y (k2 (s 6980 6452125) (u (n 1 6452731) (i 1 6453233)))))))) (j1 (J (m (n 3 6460913) .Eq (s 7471 6461721)) (j1 (x (h (n 2 6470812) 0 19 (k1 (y (k2 (s 7471 6472125) (i 0 6472728))))))) (j1 (J (o .Or (k2 (m (n 3 6480913) .Eq (s 707784707471 6481725)) (m (n 3 6482933) .Eq (s 70778470 6483743)))) (j1 (x (f 108 6490816 (k2 (n 2 6491721) (n 3 6492327))))) (j1 (J (m (n 3 6500913) .Eq (s 7079697471 6501724)) (j2 (I (o .Or (k2 (m (n 2 6511115) .Eq (.lstV .nil (z 6511921))) (m (u (u (n 2 6512529) (us (i 1 6513132))) (i 0 6513435)) .NotEq (s 7471 6514044)))) (j1 (R 61 6521829 (k1 (s 38473701423901887485738086850166790180817079016777806876 6523060)))) .nil 65261)
 (x (.meth (n 2 6530812) 1 (z 6530816) .nil (z 6530818)))) (j1 (J (.bools .And (k2 (o .Or (k2 (m (n 3 6541014) .Eq (s 7079858390 6541825)) (m (n 3 6542933) .Eq (s 707969 6543742)))) (m (n 2 6544852) .NotEq (.lstV .nil (z 6545658)))) (z 6540958)) (j1 (R 61 6551425 (k1 (s 66017780808101808301660167778068760174840180817079 6552653)))) .nil 65554)) 65554)) 65554)) 65554)) 65554))),[],0⟩
 noncomputable def Fs:bu:=⟨597,2,2,false,false,[(95,0),(47,0)],[61],(j2 (I (o .Or (k2 (m (n 0 6350711) .Eq (.lstV .nil (z 6351517))) (m (u (n 0 6352125) (us (i 1 6352728))) .NotEq (y (k2 (s 7471 6353438) (i 0 6354041)))))) (j1 (R 61 6361425 (k1 (s 3845523801887485738086850166790180817079016777806876 6362654)))) .nil 63655)
 (I (m (n 1 6370711) .Eq (s 70778470 6371521)) (j1 (as (ut (n 0 6380812) (us (i 1 6381415))) (y (k2 (s 7471 6382024) (i 1 6382627))))) .nil 63828)),[],0⟩
 noncomputable def Ft:bu:=⟨618,2,5,false,false,[(105,0),(110,0),(79,0),(111,0),(112,0)],[],(j1 (I (m (u (n 1 6640711) (i 0 6641213)) .In (y (k3 (s 85908170 6641925) (s 697478707984748079 6642738) (s 688078788079 6644048)))) (j1 (.forr (.tup [(2,(z 6651216)),(3,(z 6651822)),(4,(z 6652430))] 0 (z 6651230)) (u (n 1 6653438) (us (i 1 6654041))) (j1 (I (m (n 3 6661519) .NotEq (.list .nil (z 6662325))) (j1 (as (ut (t (n 0 6671621) 96 28) (n 2 6672933)) (bo true 6673741))) .nil 66741)) ⟨665,8,667,41⟩)) .nil 66741)),[],0⟩
 noncomputable def Fu:bu:=⟨625,4,7,false,false,[(105,0),(7,0),(47,0),(30,0),(94,0),(118,0),(110,0)],[113,114,115,116,61,16,117],(j (a 4 6690409 (g 113 6691222))
 (j (a 5 6700408 (g 113 6701121))
 (j (I (m (n 2 6710711) .Eq (s 7478817774687485 6711525)) (j2 (a 4 6720813 (g 114 6721630))
 (a 5 6730812 (g 114 6731529))) (j1 (J (m (n 2 6740913) .Eq (s 816683667870857083 6741728)) (j1 (a 4 6750813 (i 0 6751617))) (j1 (J (m (n 2 6760913) .Eq (s 69668566 6761723)) (j2 (a 4 6770813 (g 115 6771626))
 (a 5 6780812 (g 116 6781524))) .nil 67824)) 67824)) 67824)
 (j (I (m (t (n 0 6790712) 94 18) .Gt (n 5 6792125)) (j1 (R 61 6801425 (k1 (s 660184817068747174686685748079018580800177668570 6802652)))) .nil 68053)
 (j (as (tt (n 0 6810409) 94 15) (f 16 6811821 (k2 (t (n 0 6812227) 94 33) (n 4 6813540))))
 (j2 (I (m (n 2 6820711) .NotIn (t (n 0 6821924) 85 30)) (j1 (R 61 6831425 (k1 (s 798001848668730184817068747174686685748079 6832649)))) .nil 68350)
 (.forr (nt 6 6840812) (.calle (u (t (n 0 6841621) 85 27) (n 2 6842832)) (k1 (n 3 6843437)) (z 6841638)) (j2 (x (f 117 6850819 (k2 (n 0 6852025) (n 6 6852731))))
 (x (h (t (t (n 0 6860813) 92 18) 85 24) 0 31 (k1 (y (k2 (n 1 6863337) (n 6 6863943))))))) ⟨684,4,686,45⟩))))))),[],0⟩
 noncomputable def Fv:bu:=⟨632,3,3,false,false,[(105,0),(106,0),(30,0)],[61,39,11],(j (I (m (n 1 6880712) .Eq (i 0 6881617)) (j1 (R 61 6891425 (k1 (s 660171808378668501887485738086850166017766677077 6892652)))) .nil 68953)
 (j2 (I (m (f 39 6900714 (k2 (n 2 6901518) (i 6 6902021))) .NotEq (b (f 11 6902629 (k1 (n 2 6903033))) .Sub (i 1 6903738))) (j1 (R 61 6911425 (k1 (s 848078708573747972016770737479690185737001718083786685 6912655)))) .nil 69156)
 (as (ut (t (t (n 0 6920409) 92 14) 88 22) (n 1 6922328)) (vl (n 2 6923235) (i 6 6923637))))),[],0⟩
 noncomputable def Fw:bu:=⟨639,2,3,false,false,[(105,0),(109,0),(119,0)],[116],(j (I (.bools .Or (k4 (m (t (n 0 6940712) 94 18) .Eq (g 116 6942231)) (m (u (n 1 6943539) (i 0 6944041)) .NotEq (s 668484747279 6944654)) (m (u (u (n 1 6945862) (i 1 6946364)) (i 0 6946667)) .NotEq (s 837071 6947277)) (m (u (u (n 1 6948286) (i 1 6948788)) (i 1 6949091)) .In (t (.name 0 (pZ 694 96 101)) 96 108))) (pZ 694 7 109)) (j1 (r (bo false 6951520))) .nil 69520)
 (j2 (.forr (nt 2 6960812) (u (u (n 1 6961620) (i 1 6962122)) (i 2 6962425)) (j1 (I (m (u (n 2 6971115) (i 0 6971617)) .NotEq (s 79667870 6972228)) (j1 (r (bo false 6981924))) .nil 69824)) ⟨696,4,698,24⟩)
 (r (bo true 6991115)))),[],0⟩
 noncomputable def Fx:bu:=⟨644,4,5,false,false,[(105,0),(7,0),(106,0),(109,0),(78,0)],[61,16,115],(j (I (m (n 2 7010712) .Gt (i 0 7011516)) (j1 (R 61 7021425 (k1 (s 660184856685707870798501718679688574807901887485730166017766677077 7022661)))) .nil 70262)
 (j (as (tt (n 0 7030409) 94 15) (f 16 7031821 (k2 (t (n 0 7032227) 94 33) (g 115 7033545))))
 (j2 (a 4 7040411 (.comp (u (n 0 7041519) (i 1 7042021)) (nt 0 7042731) (u (u (n 3 7043539) (i 1 7044041)) (i 2 7044344)) .nil [(119,0)] [(119,none)] [] (z 7041446)))
 (x (h (t (t (n 0 7050409) 92 14) 86 22) 0 29 (k1 (y (k4 (n 1 7053135) (u (u (n 3 7053741) (i 1 7054243)) (i 1 7054546)) (n 4 7054956) (u (n 3 7055862) (i 2 7056364)))))))))),[],0⟩
 noncomputable def Fy:bu:=⟨651,4,5,false,false,[(105,0),(7,0),(106,0),(109,0),(92,0)],[11,61],(j (a 4 7070408 (t (n 0 7071116) 92 21))
 (j (I (m (n 2 7080712) .Gt (i 0 7081516)) (j1 (as (ut (t (n 4 7090812) 89 19) (n 2 7092025)) (f 11 7092932 (k1 (t (n 4 7093337) 87 42))))) .nil 70943)
 (j2 (I (m (u (n 3 7100711) (i 0 7101213)) .Eq (s 7079858390 7101825)) (j (I (o .Or (k2 (m (u (n 3 7111115) (i 1 7111617)) .In (t (n 4 7112226) 90 34)) (m (u (n 3 7113842) (i 1 7114344)) .Eq (t (n 4 7114953) 79 58)))) (j1 (R 61 7121829 (k1 (s 66790170798583900884017966787001848566796984018588746870 7123060)))) .nil 71261)
 (j2 (I (o .And (k2 (m (t (n 4 7131115) 83 20) .Eq (s 7186796885748079 7132434)) (m (s 11 7133942) .In (u (n 3 7134650) (i 2 7135152))))) (j1 (R 61 7141829 (k1 (s 6601718679688574807901736684017980018085737083018866900167666876 7143064)))) .nil 71465)
 (as (ut (t (n 4 7150812) 90 20) (u (n 3 7152125) (i 1 7152627))) (y (k2 (f 11 7153336 (k1 (t (n 4 7153741) 87 46))) (u (n 3 7154953) (i 2 7155455))))))) .nil 71557)
 (x (h (t (n 4 7160408) 87 13) 0 20 (k1 (y (k3 (n 2 7162227) (n 3 7162933) (n 1 7163539))))))))),[],0⟩
 noncomputable def Fz:bu:=⟨658,5,6,false,false,[(105,0),(7,0),(106,0),(47,0),(30,0),(109,0)],[61,120,121,116,122,123],(j (I (.bools .And (k2 (o .Or (k2 (m (n 3 7180812) .Eq (s 7079858390 7181623)) (m (n 3 7182731) .Eq (s 837085868379 7183543)))) (m (t (t (n 0 7184954) 92 59) 83 64) .Eq (s 81838072836678 7186877))) (z 7180777)) (j1 (R 61 7191425 (k1 (s 660184856685707870798501857366850166017866747901818380728366780169807084017980850173668770 7192673)))) .nil 71974)
 (j (I (m (n 3 7200711) .NotIn (t (n 0 7201924) 93 32)) (j1 (R 61 7211425 (k1 (s 7980018486687301848566857078707985 7212645)))) .nil 72146)
 (j (a 5 7220408 (.calle (u (t (n 0 7221116) 93 24) (n 3 7222529)) (k2 (t (n 0 7223136) 93 44) (n 4 7224649)) (z 7221150)))
 (j (I (.bools .And (k3 (m (t (t (n 0 7230712) 92 17) 83 22) .Eq (s 81838072836678 7232635)) (m (u (n 5 7234044) (i 0 7234546)) .Eq (s 777471 7235156)) (m (u (u (n 5 7236266) (us (i 1 7236869))) (i 0 7237172)) .Eq (s 837085868379 7237785))) (z 7230786)) (j1 (R 61 7241425 (k1 (s 660184856685707870798501857366850166017866747901818380728366780169807084017980850173668770 7242673)))) .nil 72474)
 (j (I (f 120 7250716 (k2 (n 0 7251722) (n 5 7252428))) (j2 (x (f 121 7260818 (k4 (n 0 7261924) (n 1 7262630) (n 2 7263237) (n 5 7263943))))
 (.ret0 (z 7270814))) .nil 72714)
 (j (I (o .And (k2 (m (u (n 5 7280711) (i 0 7281213)) .NotEq (s 7079858390 7281825)) (m (u (n 5 7283034) (i 0 7283536)) .NotEq (s 707969 7284146)))) (j1 (as (tt (n 0 7290813) 94 19) (g 116 7292231))) .nil 72931)
 (j2 (x (f 122 7300409 (k2 (n 0 7301015) (n 5 7301721))))
 (x (f 123 7310412 (k4 (n 0 7311318) (n 1 7312024) (n 2 7312631) (n 5 7313337))))))))))),[],0⟩
 noncomputable def FB:bu:=⟨665,5,6,false,false,[(105,0),(7,0),(106,0),(47,0),(30,0),(26,0)],[124,61,125,126,127,128,129,130,131],(j (I (o .And (k2 (m (t (t (n 0 7330712) 92 17) 83 22) .Eq (s 6777806876 7332633)) (m (n 3 7333842) .NotIn (g 124 7335061)))) (j1 (R 61 7341425 (k1 (s 6601848566857078707985018573668501354548364401373453340169807084017980850173668770 7342669)))) .nil 73470)
 (j (I (m (n 3 7350711) .Eq (s 0 7351517)) (j1 (R 61 7361425 (k1 (s 798001848566857078707985 7362640)))) .nil 73641)
 (j (I (m (n 3 7370711) .In (g 125 7371525)) (j1 (R 61 7381425 (k1 (s 66018679748501677072747984018874857374790166798085737083 7382656)))) .nil 73857)
 (j (x (f 126 7390414 (k3 (n 0 7391520) (n 2 7392227) (n 1 7392933))))
 (j2 (I (m (n 3 7400711) .Eq (s 718083786685 7401523)) (j1 (x (f 127 7410818 (k3 (n 0 7411924) (n 2 7412631) (n 4 7413336))))) (j1 (J (o .Or (k2 (m (n 3 7420913) .In (g 128 7421727)) (m (n 3 7423135) .In (y (k3 (s 7478817774687485 7424050) (s 816683667870857083 7425263) (s 69668566 7426571)))))) (j1 (x (f 129 7430816 (k4 (n 0 7431722) (n 1 7432428) (n 3 7433034) (n 4 7433639))))) (j1 (x (f 130 7450822 (k (n 0 7452328) (k4 (n 1 7453034) (n 2 7453641) (n 3 7454347) (n 4 7454952)))))) 74553)) 74553)
 (I (m (n 2 7460712) .Gt (i 0 7461516)) (j (a 5 7470812 (n 3 7471519))
 (j2 (I (m (n 3 7481115) .Eq (s 8183747985 7481926)) (j1 (a 5 7491216 (s 8883748570 7491926))) .nil 74926)
 (x (f 131 7500819 (k3 (t (n 0 7502025) 95 30) (n 2 7503237) (n 5 7503943)))))) .nil 75044)))))),[],0⟩
 noncomputable def FD:bu:=⟨672,6,7,false,false,[(7,0),(106,0),(47,0),(30,0),(93,0),(85,0),(105,0)],[125,132,133,126,102,134,135],(j (I (m (n 2 7520711) .In (g 125 7521525)) (j (a 6 7530813 (f 132 7531625 (k3 (f 133 7532635 (k2 (n 2 7533640) (n 3 7534245))) (n 4 7534855) (n 5 7535762))))
 (j2 (x (f 126 7540818 (k3 (n 6 7541924) (n 1 7542631) (n 0 7543337))))
 (r (n 6 7551520)))) .nil 75520)
 (j (a 6 7560409 (f 132 7561221 (k3 (f 102 7562229 (k4 (s 81838072836678 7563039) (g 134 7564150) (.lstV .nil (z 7565254)) (.const .none 0 (z 7565660)))) (n 4 7566370) (n 5 7567277))))
 (j2 (x (f 135 7570411 (k (n 6 7571217) (k4 (n 0 7571923) (n 1 7572530) (n 2 7573236) (n 3 7573841)))))
 (r (n 6 7581116))))),[],0⟩
 noncomputable def FE:bu:=⟨679,6,7,false,false,[(105,0),(7,0),(106,0),(30,0),(93,0),(85,0),(47,0)],[136,137,135],(j (a 6 7600408 (f 136 7601119 (k1 (n 3 7602023))))
 (j (I (m (n 0 7610712) .Is (.const .none 0 (z 7611620))) (j1 (r (y (k2 (f 137 7621626 (k (n 1 7622731) (k (n 2 7623338) (k4 (n 6 7624044) (n 3 7624649) (n 4 7625158) (n 5 7626065))))) (n 6 7626872))))) .nil 76273)
 (j2 (x (f 135 7630411 (k (n 0 7631217) (k4 (n 1 7631923) (n 2 7632530) (n 6 7633236) (n 3 7633841)))))
 (r (y (k2 (n 0 7641217) (n 6 7641923))))))),[],0⟩
 noncomputable def B4:bu:=⟨686,3,10,false,false,[(141,0),(93,0),(85,0),(142,0),(105,0),(7,0),(106,0),(6,0),(47,0),(143,0)],[138,74,139,140],CU,[],0⟩
 noncomputable def FG:bu:=⟨798,0,0,true,false,[],[],(j1 (r (l (k (s 0 7851214) (k4 (s 495148405134460149 7851627) (s 525435514854534247380152 7852943) (s 39544736534248470139095710 7854560) (s 354548364401373453340150 7856276)))))),[],0⟩
 noncomputable def FH:bu:=⟨805,0,0,true,false,[],[],(j1 (r (l (k (s 81838072836678 7871221) (k4 (s 81838072836678 7872332) (s 84866783808685747970 7873446) (s 7186796885748079 7874858) (s 6777806876 7876067)))))),[],0⟩
 noncomputable def FI:bu:=⟨812,0,0,true,false,[],[],(j1 (r (l (k (s 668484747279 7891220) (k (s 6880798574798670 7892232) (k (s 68667777 7893440) (k (s 8166868470 7894249) (k (s 83706669 7895157) (k (s 777471 7895964) (k (s 72808580 7896672) (k (s 667471 7897479) (k (s 84858081 7898187) (k (s 837085868379 7898997) (k (.const (.str (d 7471)) 0 (pZ 789 99 103)) (k4 (.const (.str (d 707784707471)) 0 (pZ 789 105 113)) (.const (.str (d 70778470)) 0 (pZ 789 115 121)) (.const (.str (d 7079697471)) 0 (pZ 789 123 130)) (.const (.str (d 707969)) 0 (pZ 789 132 137))))))))))))))))),[],0⟩
 noncomputable def B5:bu:=⟨819,2,3,false,false,[(144,0),(145,0),(13,0)],[11],yR,[],0⟩
 noncomputable def Dy:bu:=⟨826,1,2,false,false,[(47,1),(146,0)],[],.nil,[],1000⟩
 noncomputable def Ab:bu:=⟨826,3,3,false,false,[(93,0),(30,0),(47,2)],[],(j1 (r (y (k2 (n 2 7971620) (y (k2 (s 79667870 7972329) (s 34 7973134))))))),[],1000⟩
 noncomputable def CW:bu:=⟨831,0,4,false,false,[(149,0),(150,0),(110,1),(93,0)],[147],(j (a 3 8090411 (.dcomp (n 0 8091519) (f 148 8092130 (k1 (n 0 8093135))) (nt 0 8094145) (fz 147 8094959) [(47,0),(148,1)] [(47,none)] [148] (z 8091462)))
 (j (as (ut (n 3 8100411) (s 6980 8101216)) (n 0 8102024))
 (j2 (as (ut (n 3 8110411) (s 7079858390 8111219)) (n 1 8112328))
 (r (y (k2 (n 3 8121219) (.dcomp (n 0 8122226) (n 1 8122832) (nt 0 8123741) (y (k (s 74798570727083 8124655) (k (s 83706677 8125763) (k (s 7478817774687485 8126575) (k (s 688078788079 8127785) (k4 (s 697478707984748079 8128798) (.const (.str (d 84668770)) 0 (pZ 812 100 106)) (.const (.str (d 69668566)) 0 (pZ 812 108 114)) (.const (.str (d 7089857083796677)) 0 (pZ 812 116 126)))))))) [(47,0),(110,2)] [(47,none),(110,(some 2))] [] (pZ 812 21 128)))))))),[(0,56),(1,57),(2,58)],1⟩
 noncomputable def Dz:bu:=⟨831,2,2,false,false,[(93,0),(30,0)],[],(j1 (r (y (k2 (s 6980 8021620) (i 70 8022224))))),[],1000⟩
 noncomputable def DA:bu:=⟨831,2,2,false,false,[(93,0),(30,0)],[],(j1 (r (y (k3 (s 7079858390 8051623) (vl (n 1 8052528) (i 5 8052930)) (.lstV .nil (z 8053436)))))),[],1000⟩
 noncomputable def DB:bu:=⟨831,1,1,false,false,[(30,0)],[],(j1 (r (lv (k1 (y (k2 (s 85807769 8081723) (n 0 8082528))))))),[],1000⟩
 noncomputable def B6:bu:=⟨838,2,6,false,false,[(152,0),(153,0),(141,0),(13,0),(6,0),(106,0)],[34,11,151],B3,[],0⟩
 noncomputable def FJ:bu:=⟨845,1,1,true,false,[(6,0)],[],(j1 (r (m (u (h (n 0 8211115) 5 21 (k1 (s 1 8212225))) (i 0 8212728)) .NotIn (y (k (s 51383445 8213844) (k (s 374246384752424847 8214657) (k (s 52345538 8215965) (k (s 37345334 8216773) (k4 (s 49514840513446 8217584) (s 52543551485453424738 8218698) (.const (.str (d 3954473653424847)) 0 (pZ 821 100 110)) (.const (.str (d 3545483644)) 0 (pZ 821 112 119))))))))))),[],0⟩
 noncomputable def B7:bu:=⟨852,2,5,false,true,[(152,0),(153,0),(93,0),(85,0),(143,0)],[154,155,156,140],CV,[],0⟩
 noncomputable def kQ:bu:=⟨857,1,11,false,false,[(167,0),(144,1),(40,0),(168,0),(169,0),(170,0),(171,0),(172,0),(152,0),(153,0),(142,0)],[34,157,158,11,151,159,163,164,165],yS,[],0⟩
 noncomputable def CX:bu:=⟨28,2,2,false,false,[(91,0),(6,0)],[173],(j2 (x (h (g 173 50817) 174 26 (k2 (n 0 52731) (n 1 53337))))
 (as (tt (n 0 60812) 6 17) (n 1 62024))),[],0⟩
 noncomputable def DC:bu:=⟨48,3,3,false,false,[(91,0),(7,0),(6,0)],[139],(j2 (x (h (g 139 100816) 174 25 (k2 (n 0 102630) (n 2 103236))))
 (as (tt (n 0 110812) 7 17) (n 1 112024))),[],0⟩
noncomputable def Ac:List (Nat × GV):=[(8,.bi 2),
 (9,.bi 3),
 (11,.bi 0),
 (12,.cls 4),
 (15,.val (.str (d 17181920212223242526))),
 (16,.bi 4),
 (17,.fn 0),
 (19,.fn 2),
 (22,.fn 1),
 (23,.val (.str (d 9131627))),
 (24,.fn 3),
 (29,.fn 4),
 (33,.fn 6),
 (34,.bi 1),
 (36,.val (.str (d 3435363738394041424344454647484950515253545556575859))),
 (37,.val (.str (d 17181920212223242526))),
 (38,.fn 8),
 (39,.fn 7),
 (43,.fn 9),
 (46,.val (.lst [(.tup [(.str (d 42475338403851)),(.str (d 74798570727083))]),(.tup [(.str (d 51383445)),(.str (d 83706677))]),(.tup [(.str (d 374854354538495138364252424847)),(.str (d 698086677770818370687484748079))]),(.tup [(.str (d 36484649453857)),(.str (d 68807881777089))]),(.tup [(.str (d 45484042363445)),(.str (d 77807274686677))]),(.tup [(.str (d 364134513436533851)),(.str (d 687366836668857083))])])),
 (48,.val (.lst [(.tup [(.str (d 38455238)),(.str (d 70778470))]),(.tup [(.str (d 3847374239)),(.str (d 7079697471))]),(.tup [(.str (d 384737)),(.str (d 707969))]),(.tup [(.str (d 3648475342475438)),(.str (d 6880798574798670))])])),
 (49,.fn 14),
 (50,.fn 15),
 (51,.val (.lst [(.tup [(.str (d 39485146345309)),(.str (d 718083786685))]),(.tup [(.str (d 36344545)),(.str (d 68667777))]),(.tup [(.str (d 513853545147)),(.str (d 837085868379))]),(.tup [(.str (d 52534849)),(.str (d 84858081))]),(.tup [(.str (d 4934545238)),(.str (d 8166868470))]),(.tup [(.str (d 51383437)),(.str (d 83706669))]),(.tup [(.str (d 565142533809)),(.str (d 8883748570))]),(.tup [(.str (d 4951424753)),(.str (d 8183747985))]),(.tup [(.str (d 4849384709)),(.str (d 80817079))]),(.tup [(.str (d 364548523809)),(.str (d 6877808470))]),(.tup [(.str (d 4247505442513809)),(.str (d 74798286748370))]),(.tup [(.str (d 353436445249343638)),(.str (d 676668768481666870))]),(.tup [(.str (d 513856424737)),(.str (d 837088747969))]),(.tup [(.str (d 38473739424538)),(.str (d 70796971747770))]),(.tup [(.str (d 4246494542364253)),(.str (d 7478817774687485))]),(.tup [(.str (d 49345134463853385109)),(.str (d 816683667870857083))]),(.tup [(.str (d 374246384752424847)),(.str (d 697478707984748079))]),(.tup [(.str (d 364846464847)),(.str (d 688078788079))]),(.tup [(.str (d 385054425534453847363809)),(.str (d 7082867487667770796870))]),(.tup [(.str (d 3857533851473445)),(.str (d 7089857083796677))]),(.tup [(.str (d 424753514247524236)),(.str (d 747985837479847468))]),(.tup [(.str (d 52345538)),(.str (d 84668770))]),(.tup [(.str (d 37345334)),(.str (d 69668566))]),(.tup [(.str (d 49514840513446)),(.str (d 81838072836678))]),(.tup [(.str (d 52543551485453424738)),(.str (d 84866783808685747970))]),(.tup [(.str (d 3954473653424847)),(.str (d 7186796885748079))]),(.tup [(.str (d 354548364437345334)),(.str (d 677780687669668566))]),(.tup [(.str (d 3847535158)),(.str (d 7079858390))])])),
 (52,.fn 16),
 (53,.fn 11),
 (54,.fn 12),
 (55,.fn 17),
 (56,.fn 13),
 (57,.fn 10),
 (60,.fn 20),
 (61,.cls 5),
 (62,.fn 19),
 (64,.fn 24),
 (65,.val (.str (d 3435363738394041424344454647484950515253545556575859))),
 (66,.val (.str (d 17181920212223242526))),
 (67,.val (.int 6)),
 (68,.fn 25),
 (72,.val (.str (d 121411160910133027))),
 (73,.fn 26),
 (74,.fn 5),
 (76,.fn 22),
 (77,.fn 21),
 (80,.fn 27),
 (81,.fn 28),
 (82,.fn 23),
 (97,.val (.tup [(.tup [(.str (d 42475338403851)),(.int 0)]),(.tup [(.str (d 51383445)),(.int 1)]),(.tup [(.str (d 374854354538495138364252424847)),(.int 2)]),(.tup [(.str (d 36484649453857)),(.int 3)]),(.tup [(.str (d 45484042363445)),(.int 4)])])),
 (98,.val (.int 5)),
 (101,.fn 29),
 (102,.cls 0),
 (103,.val (.str (d 53545483644))),
 (104,.fn 32),
 (107,.val (.tup [(.str (d 668484747279)),(.str (d 8470857766677077)),(.str (d 6872808580)),(.str (d 777471)),(.str (d 6880798574798670)),(.str (d 68667777)),(.str (d 8166868470)),(.str (d 83706669)),(.str (d 8883748570)),(.str (d 80817079)),(.str (d 6877808470)),(.str (d 74798286748370)),(.str (d 676668768481666870)),(.str (d 837088747969)),(.str (d 70796971747770))])),
 (108,.fn 37),
 (113,.val (.int 2)),
 (114,.val (.int 1)),
 (115,.val (.int 3)),
 (116,.val (.int 4)),
 (117,.fn 38),
 (120,.fn 41),
 (121,.fn 42),
 (122,.fn 36),
 (123,.fn 43),
 (124,.val (.tup [(.str (d 74798570727083)),(.str (d 83706677)),(.str (d 698086677770818370687484748079)),(.str (d 68807881777089)),(.str (d 77807274686677)),(.str (d 687366836668857083)),(.str (d 697478707984748079)),(.str (d 688078788079)),(.str (d 7082867487667770796870)),(.str (d 84668770)),(.str (d 7478817774687485)),(.str (d 816683667870857083)),(.str (d 69668566)),(.str (d 707969))])),
 (125,.val (.tup [(.str (d 81838072836678)),(.str (d 84866783808685747970)),(.str (d 7186796885748079)),(.str (d 677780687669668566))])),
 (126,.fn 34),
 (127,.fn 40),
 (128,.val (.tup [(.str (d 74798570727083)),(.str (d 83706677)),(.str (d 698086677770818370687484748079)),(.str (d 68807881777089)),(.str (d 77807274686677)),(.str (d 687366836668857083)),(.str (d 697478707984748079)),(.str (d 688078788079)),(.str (d 7082867487667770796870)),(.str (d 7089857083796677)),(.str (d 747985837479847468)),(.str (d 84668770))])),
 (129,.fn 39),
 (130,.fn 44),
 (131,.fn 35),
 (132,.cls 1),
 (133,.fn 33),
 (134,.val (.str (d 546344247))),
 (135,.fn 45),
 (136,.fn 18),
 (137,.fn 46),
 (138,.fn 47),
 (139,.cls 2),
 (140,.cls 3),
 (147,.fn 51),
 (148,.mk 53 54),
 (151,.bi 5),
 (154,.fn 55),
 (155,.fn 48),
 (156,.fn 59),
 (157,.val (.lst [(.tup [(.str (d 17181920)),(.lst [(.str (d 3401300135))]),(.str (d 424753384038510142)),(.lst [])]),(.tup [(.str (d 17181920)),(.lst [(.str (d 3401300135))]),(.str (d 4246494542364253015138344501093410)),(.lst [])]),(.tup [(.str (d 1718192021)),(.lst [(.str (d 513834450134))]),(.str (d 4246494542364253015138344501093410)),(.lst [])]),(.tup [(.str (d 1718192021)),(.lst [(.str (d 37345334013401161816))]),(.str (d 3648464648470134)),(.lst [])]),(.tup [(.str (d 17181920)),(.lst [(.str (d 2518013648475342475438))]),(.str (d 2518013401300135)),(.lst [])]),(.tup [(.str (d 17181920)),(.lst []),(.str (d 3948514634530109422010)),(.lst [])]),(.tup [(.str (d 1718)),(.lst []),(.str (d 38475351580138)),(.lst [])]),(.tup [(.str (d 1718)),(.lst []),(.str (d 513853545147)),(.lst [])]),(.tup [(.str [52]),(.lst []),(.str (d 3401300135)),(.lst [])]),(.tup [(.str [52]),(.lst []),(.str (d 363445450153)),(.lst [])]),(.tup [(.str [52]),(.lst []),(.str (d 38575338514734450140)),(.lst [])]),(.tup [(.str [52]),(.lst []),(.str (d 2520013948514634530109422010)),(.lst [])]),(.tup [(.str (d 17181920)),(.lst []),(.str (d 38455238)),(.lst [])]),(.tup [(.str (d 17181920)),(.lst []),(.str (d 384737014239)),(.lst [])]),(.tup [(.str (d 17181920)),(.lst [(.str (d 4239010945100153413847)),(.str (d 38455238))]),(.str (d 38455238014239010945100153413847)),(.lst [(.str (d 384737014239))])]),(.tup [(.str (d 17181920)),(.lst [(.str (d 4239010945100153413847)),(.str (d 38455238))]),(.str (d 38455238)),(.lst [(.str (d 384737014239))])]),(.tup [(.str (d 17181920)),(.lst [(.str (d 3748012417014201300118130119))]),(.str (d 2417014048015348012518)),(.lst [(.str (d 2417013648475342475438))])]),(.tup [(.str (d 17181920)),(.lst [(.str (d 3748012417014201300118130119))]),(.str (d 2417014239010934100125181301251913012518)),(.lst [(.str (d 2417014934545238))])]),(.tup [(.str (d 17181920)),(.lst [(.str (d 3748012417014201300118130119))]),(.str (d 24170152534849)),(.lst [(.str (d 2417013401300135))])]),(.tup [(.str (d 17181920)),(.lst [(.str (d 3748012417014201300118130119))]),(.str (d 2417014239010945100153413847)),(.lst [(.str (d 241701363445450153))])]),(.tup [(.str (d 1920)),(.lst [(.str (d 3748012417014201300118130119))]),(.str (d 241701513853545147)),(.lst [(.str (d 241701513834370111130134))])]),(.tup [(.str (d 17181920)),(.lst [(.str (d 2417013648475342475438))]),(.str (d 3748012417014201300118130119)),(.lst [])]),(.tup [(.str (d 1920)),(.lst [(.str (d 3748012417014201300118130119))]),(.str (d 38475351580138)),(.lst [(.str (d 241701423901094510013401300135))])]),(.tup [(.str (d 1920)),(.lst [(.str (d 4239010945100153413847))]),(.str (d 38475351580138)),(.lst [(.str (d 384737014239))])]),(.tup [(.str (d 1920)),(.lst [(.str (d 38475351580138))]),(.str (d 38475351580138)),(.lst [])]),(.tup [(.str [50]),(.lst []),(.str (d 38475351580152)),(.lst [])]),(.tup [(.str [51]),(.lst []),(.str (d 38475351580139)),(.lst [])]),(.tup [(.str (d 17181920)),(.lst [(.str (d 3748012417014201300118130119)),(.str (d 4239010945100153413847))]),(.str (d 2417013648475342475438)),(.lst [(.str (d 384737014239)),(.str (d 2417013648475342475438))])]),(.tup [(.str (d 17181920)),(.lst [(.str (d 4239010945100153413847))]),(.str (d 384737)),(.lst [(.str (d 384737014239))])]),(.tup [(.str (d 17181920)),(.lst [(.str (d 3748012417014201300118130119))]),(.str (d 384737)),(.lst [(.str (d 2417013648475342475438))])]),(.tup [(.str (d 17181920)),(.lst [(.str (d 4239010945100153413847)),(.str (d 3748012417014201300118130119))]),(.str (d 384737014239)),(.lst [(.str (d 2417013648475342475438)),(.str (d 384737014239))])]),(.tup [(.str (d 17181920)),(.lst [(.str (d 3401300135))]),(.str (d 525435514854534247380154)),(.lst [])]),(.tup [(.str (d 17181920)),(.lst [(.str (d 3401300135))]),(.str (d 35454836440137345334)),(.lst [])]),(.tup [(.str (d 18192021)),(.lst []),(.str (d 495148405134460150)),(.lst [])])])),
 (158,.fn 52),
 (159,.fn 49),
 (161,.val (.lst [(.str (d 513834450157)),(.str (d 3742463847524248470155092010)),(.str (d 52345538))])),
 (162,.val (.lst [(.str (d 4934545238)),(.str (d 363445450153)),(.str (d 513834370111130134))])),
 (163,.fn 61),
 (164,.bi 6),
 (165,.fn 50),
 (166,.fn 60)]
noncomputable def gv (i:Nat):GV:=match find Ac i with
 | some v=>v
 | none=>.no
noncomputable def AH:List bu:=[f0,f1,f2,f3,f4,f5,f6,f7,f8,f9,EX,EZ,E1,E2,E3,E4,E5,E6,E7,E8,E9,Fa,Fb,Fd,Fe,Ff,Fg,Fh,Fi,Fj,Fk,Fl,Fm,Fn,Fo,Fp,Fq,Fs,Ft,Fu,Fv,Fw,Fx,Fy,Fz,FB,FD,FE,B4,FG,FH,FI,B5,Dy,Ab,CW,Dz,DA,DB,B6,FJ,B7,kQ,CX,DC]
noncomputable def fns (i:Nat):Option bu:=ao AH i
noncomputable def cls:Nat->Option lg
 | 0=>some ⟨544,30,0,[]⟩
 | 1=>some ⟨565,31,0,[]⟩
 | 2=>some ⟨31,63,1,[2]⟩
 | 3=>some ⟨51,64,2,[3,2]⟩
 | 4=>some ⟨70,999,3,[4,2]⟩
 | 5=>some ⟨82,63,1,[5,2]⟩
 | _=>none
noncomputable def Gh:List (Nat × List (Pos × List Nat)):=[(821,[(⟨796,4,797,36⟩,(d 647766886485807769152977806866778431158166838470))]),
 (828,[(⟨801,4,802,25⟩,(d 647766886473667969841529778068667784311577808081)),(⟨804,4,805,37⟩,(d 64776688647366796984152977806866778431157079858390)),(⟨807,4,808,30⟩,(d 647766886473667969841529778068667784311584817068))])]
noncomputable def wn:Nat:=2
noncomputable def names:List (List Nat):=[
  (d 668181707969),
  (d 818081),
  (d 71747969),
  (d 83708177666870),
  (d 8485837481),
  (d 8481777485),
  (d 85708985),
  (d 77747970),
  (d 687383),
  (d 808369),
  (d 84747279),
  (d 777079),
  (d 4570893966867785),
  (d 6685),
  (d 707969),
  (d 3742404253526484828670709170),
  (d 786689),
  (d 68668174856677),
  (d 6880867985),
  (d 688086798564707969),
  (d 6770727479),
  (d 7479797083),
  (d 688079848566798564707969),
  (d 3441383437644839643648544753),
  (d 738077777083748573),
  (d 808685),
  (d 77668485),
  (d 6880798485667985),
  (d 81668385),
  (d 84828670709170),
  (d 838088),
  (d 748464747984746970),
  (d 6970818573),
  (d 697081857384),
  (d 8366797270),
  (d 777087707784),
  (d 45385353385152646877668484747190),
  (d 374240425352646877668484747190),
  (d 7966787064707969),
  (d 68778084747972),
  (d 85868379),
  (d 8177666870),
  (d 7180867969),
  (d 69747274858464707969),
  (d 73706669),
  (d 83708485),
  (d 5358493852),
  (d 88808369),
  (d 5641484538),
  (d 88808369648071647471),
  (d 888083696480716472808580),
  (d 353840424752),
  (d 888083696480716485908170),
  (d 7484646766776679687069),
  (d 708286667784646685),
  (d 88808369646790646770727479),
  (d 74846469806473706669),
  (d 748464856683727085),
  (d 736684646880787866),
  (d 858076707984),
  (d 7484648081),
  (d 5290798566893966867785),
  (d 76747969646685),
  (d 8474727984),
  (d 838679648071),
  (d 4538535338515264777089),
  (d 37424042535264777089),
  (d 464852536447344638),
  (d 79667870646685),
  (d 798678677083646685),
  (d 8180747985646685),
  (d 828680857069646685),
  (d 5242404752),
  (d 8580767079646685),
  (d 8482867070917069),
  (d 8580767079),
  (d 797070696479667870),
  (d 79707069648081),
  (d 69867878747084),
  (d 79667870),
  (d 858076707984648071),
  (d 69867878906477748485),
  (d 7970706964707969),
  (d 76747969),
  (d 837084867785),
  (d 8481706884),
  (d 84857186796884),
  (d 67806990),
  (d 71808378668584),
  (d 776667707784),
  (d 70798583747084),
  (d 84707771),
  (d 86797485),
  (d 81668384708384),
  (d 8485667270),
  (d 79708485),
  (d 668383669084),
  (d 4951383942573852),
  (d 364134513436533851),
  (d 88738077706470898183),
  (d 818370717489),
  (d 79667870696477748485),
  (d 51668854797485),
  (d 35454836446447344638),
  (d 837084867785648071),
  (d 7866767083),
  (d 7766677077),
  (d 453452536448396445484849),
  (d 8586837964668378),
  (d 84857885),
  (d 84817068),
  (d 69747884),
  (d 777079728573),
  (d 52493836645253344038),
  (d 4246494542364253645253344038),
  (d 37345334645253344038),
  (d 515447645253344038),
  (d 7980857064668383669084),
  (d 78808485),
  (d 85837070),
  (d 748464848571867968),
  (d 66696964848571867968),
  (d 7079857083),
  (d 6669696467806990),
  (d 3545483644645648513752),
  (d 41383437645648513752),
  (d 79808570647766677077),
  (d 66696964718083786685),
  (d 52493836645648513752),
  (d 6669696484817068),
  (d 6669696470897068868566677770),
  (d 6877808470647780808184),
  (d 547974854666767083),
  (d 737066696486797485),
  (d 463442476447344638),
  (d 66696964838088),
  (d 6877668484747190),
  (d 67707274796486797485),
  (d 8566767064838088),
  (d 3924243883838083),
  (d 5280868368703883838083),
  (d 83808884),
  (d 8679748584),
  (d 7166867785),
  (d 69706876),
  (d 78667990),
  (d 8166838470),
  (d 64776688648880836984),
  (d 647766886485807769),
  (d 77808081),
  (d 7079858390),
  (d 747985),
  (d 8570898584),
  (d 726681),
  (d 64776688647366796984),
  (d 8679748584648071),
  (d 647766886483808884),
  (d 64776688646866847084),
  (d 647766886469706677),
  (d 64776688647370666984),
  [95],
  (d 64776688648481706884),
  (d 647766886466688584),
  (d 64776688647370668369),
  (d 74847479848566796870),
  (d 64776688647674796984),
  (d 647766886474846467806990),
  (d 846883748185),
  (d 8480838584),
  (d 6673706669),
  (d 8883807972),
  (d 677073747969),
  (d 84808385),
  (d 388968708185748079),
  (d 6464747974856464)]
end Mine.T
namespace Mine.T
noncomputable def P:cz:=⟨gv,fns,cls,ao Gh,wn⟩
noncomputable def C0:aS:=⟨0,1,2,3,5,6,7,fun HC HC HC=>none,[83,79,78,84,85,86,87,88,89,90,92,93,94,95,96]⟩
end Mine.T
end
section
open PySem PySem.W PySem.Calls PyProof.Rows Mine
namespace Mine.T
noncomputable def nm:Nat->Str:=sR names
noncomputable def yT (a:Nat):Bool:=Nat.beq a 821 || Nat.beq a 828
noncomputable def K (p:Params):Frag:=(Mine.H.K p).filter fun q=>!yT q.1
theorem Ad:kj names=true:=by kernel_rfl
theorem Ae:names.all iW=true:=by kernel_rfl
theorem qd:∀ a b,nm a=nm b->a=b:=vf Ad Ae
theorem qe:∀ a,(nm a == ("__debug__":Str))=false:=mM (l:=("__debug__":Str).cps.toList) (by kernel_rfl) (by kernel_rfl)
theorem Af:∀ a,(nm a == ("__classdict__":Str))=false:=mM (l:=("__classdict__":Str).cps.toList) (by kernel_rfl) (by kernel_rfl)
theorem Ag:∀ a,(nm a == (".0":Str))=false:=mM (l:=(".0":Str).cps.toList) (by kernel_rfl) (by kernel_rfl)
section
variable {p:Params} {base:Heap} (X:(K p).In base)
include X
theorem c0:cy P nm base f0:=aE X (by kernel_rfl) (by kernel_rfl) (fJ fun a=>by kernel_rfl)
theorem c1:cy P nm base f1:=aE X (by kernel_rfl) (by kernel_rfl) (dB fun a b=>by kernel_rfl)
theorem c2:cy P nm base f2:=aE X (by kernel_rfl) (by kernel_rfl) (dB fun a b=>by kernel_rfl)
theorem c3:cy P nm base f3:=aE X (by kernel_rfl) (by kernel_rfl) (dB fun a b=>by kernel_rfl)
theorem c4:cy P nm base f4:=aE X (by kernel_rfl) (by kernel_rfl) (fJ fun a=>by kernel_rfl)
theorem c5:cy P nm base f5:=aE X (by kernel_rfl) (by kernel_rfl) (fJ fun a=>by kernel_rfl)
theorem c6:cy P nm base f6:=aE X (by kernel_rfl) (by kernel_rfl) (fJ fun a=>by kernel_rfl)
theorem c7:cy P nm base f7:=aE X (by kernel_rfl) (by kernel_rfl) (dB fun a b=>by kernel_rfl)
theorem c8:cy P nm base f8:=aE X (by kernel_rfl) (by kernel_rfl) (dB fun a b=>by kernel_rfl)
theorem c9:cy P nm base f9:=aE X (by kernel_rfl) (by kernel_rfl) (dB fun a b=>by kernel_rfl)
theorem Gi:cy P nm base EX:=aE X (by kernel_rfl) (by kernel_rfl) (fJ fun a=>by kernel_rfl)
theorem Gj:cy P nm base EZ:=aE X (by kernel_rfl) (by kernel_rfl) (dB fun a b=>by kernel_rfl)
theorem Gk:cy P nm base E1:=aE X (by kernel_rfl) (by kernel_rfl) (dB fun a b=>by kernel_rfl)
theorem Gl:cy P nm base E2:=aE X (by kernel_rfl) (by kernel_rfl) (fJ fun a=>by kernel_rfl)
theorem Gm:cy P nm base E3:=aE X (by kernel_rfl) (by kernel_rfl) (fJ fun a=>by kernel_rfl)
theorem Gp:cy P nm base E4:=aE X (by kernel_rfl) (by kernel_rfl) (fJ fun a=>by kernel_rfl)
theorem Gq:cy P nm base E5:=aE X (by kernel_rfl) (by kernel_rfl) (fJ fun a=>by kernel_rfl)
theorem Gs:cy P nm base E6:=aE X (by kernel_rfl) (by kernel_rfl) (fJ fun a=>by kernel_rfl)
theorem Gu:cy P nm base E7:=aE X (by kernel_rfl) (by kernel_rfl) (fJ fun a=>by kernel_rfl)
theorem Gv:cy P nm base E8:=aE X (by kernel_rfl) (by kernel_rfl) (dB fun a b=>by kernel_rfl)
theorem Gw:cy P nm base E9:=aE X (by kernel_rfl) (by kernel_rfl) (mK fun a b c=>by kernel_rfl)
theorem Gx:cy P nm base Fa:=aE X (by kernel_rfl) (by kernel_rfl) (mK fun a b c=>by kernel_rfl)
theorem Gy:cy P nm base Fb:=aE X (by kernel_rfl) (by kernel_rfl) (dB fun a b=>by kernel_rfl)
theorem Gz:cy P nm base Fd:=aE X (by kernel_rfl) (by kernel_rfl) (dB fun a b=>by kernel_rfl)
theorem GA:cy P nm base Fe:=aE X (by kernel_rfl) (by kernel_rfl) (mK fun a b c=>by kernel_rfl)
theorem GB:cy P nm base Ff:=aE X (by kernel_rfl) (by kernel_rfl) (dB fun a b=>by kernel_rfl)
theorem GC:cy P nm base Fg:=aE X (by kernel_rfl) (by kernel_rfl) (dB fun a b=>by kernel_rfl)
theorem GD:cy P nm base Fh:=aE X (by kernel_rfl) (by kernel_rfl) (fJ fun a=>by kernel_rfl)
theorem GF:cy P nm base Fi:=aE X (by kernel_rfl) (by kernel_rfl) (dB fun a b=>by kernel_rfl)
theorem GH:cy P nm base Fj:=aE X (by kernel_rfl) (by kernel_rfl) (fJ fun a=>by kernel_rfl)
theorem GI:cy P nm base Fk:=aE X (by kernel_rfl) (by kernel_rfl) (xF fun a b c d e=>by kernel_rfl)
theorem GJ:cy P nm base Fl:=aE X (by kernel_rfl) (by kernel_rfl) (vd fun a b c d=>by kernel_rfl)
theorem GK:cy P nm base Fm:=aE X (by kernel_rfl) (by kernel_rfl) (fJ fun a=>by kernel_rfl)
theorem GM:cy P nm base Fn:=aE X (by kernel_rfl) (by kernel_rfl) (dB fun a b=>by kernel_rfl)
theorem GN:cy P nm base Fo:=aE X (by kernel_rfl) (by kernel_rfl) (mK fun a b c=>by kernel_rfl)
theorem GP:cy P nm base Fp:=aE X (by kernel_rfl) (by kernel_rfl) (mK fun a b c=>by kernel_rfl)
theorem GQ:cy P nm base Fq:=aE X (by kernel_rfl) (by kernel_rfl) (dB fun a b=>by kernel_rfl)
theorem GR:cy P nm base Fs:=aE X (by kernel_rfl) (by kernel_rfl) (dB fun a b=>by kernel_rfl)
theorem GU:cy P nm base Ft:=aE X (by kernel_rfl) (by kernel_rfl) (dB fun a b=>by kernel_rfl)
theorem GW:cy P nm base Fu:=aE X (by kernel_rfl) (by kernel_rfl) (vd fun a b c d=>by kernel_rfl)
theorem GX:cy P nm base Fv:=aE X (by kernel_rfl) (by kernel_rfl) (mK fun a b c=>by kernel_rfl)
theorem GY:cy P nm base Fw:=aE X (by kernel_rfl) (by kernel_rfl) (dB fun a b=>by kernel_rfl)
theorem GZ:cy P nm base Fx:=aE X (by kernel_rfl) (by kernel_rfl) (vd fun a b c d=>by kernel_rfl)
theorem G0:cy P nm base Fy:=aE X (by kernel_rfl) (by kernel_rfl) (vd fun a b c d=>by kernel_rfl)
theorem G3:cy P nm base Fz:=aE X (by kernel_rfl) (by kernel_rfl) (xF fun a b c d e=>by kernel_rfl)
theorem G4:cy P nm base FB:=aE X (by kernel_rfl) (by kernel_rfl) (xF fun a b c d e=>by kernel_rfl)
theorem G6:cy P nm base FD:=aE X (by kernel_rfl) (by kernel_rfl) (Bs fun a b c d e f=>by kernel_rfl)
theorem G7:cy P nm base FE:=aE X (by kernel_rfl) (by kernel_rfl) (Bs fun a b c d e f=>by kernel_rfl)
theorem G8:cy P nm base B4:=aE X (by kernel_rfl) (by kernel_rfl) (mK fun a b c=>by kernel_rfl)
theorem G9:cy P nm base FG:=aE X (by kernel_rfl) (by kernel_rfl) (vc (by kernel_rfl))
theorem Ha:cy P nm base FH:=aE X (by kernel_rfl) (by kernel_rfl) (vc (by kernel_rfl))
theorem Hb:cy P nm base FI:=aE X (by kernel_rfl) (by kernel_rfl) (vc (by kernel_rfl))
theorem Hc:cy P nm base B5:=aE X (by kernel_rfl) (by kernel_rfl) (dB fun a b=>by kernel_rfl)
theorem Hd:cy P nm base B6:=aE X (by kernel_rfl) (by kernel_rfl) (dB fun a b=>by kernel_rfl)
theorem He:cy P nm base FJ:=aE X (by kernel_rfl) (by kernel_rfl) (fJ fun a=>by kernel_rfl)
theorem Hf:cy P nm base B7:=aE X (by kernel_rfl) (by kernel_rfl) (dB fun a b=>by kernel_rfl)
theorem FK:cy P nm base kQ:=aE X (by kernel_rfl) (by kernel_rfl) (fJ fun a=>by kernel_rfl)
theorem DE:cy P nm base CX:=aE X (by kernel_rfl) (by kernel_rfl) (dB fun a b=>by kernel_rfl)
theorem FL:cy P nm base DC:=aE X (by kernel_rfl) (by kernel_rfl) (mK fun a b c=>by kernel_rfl)
omit X in
theorem B8 (p:Params):(AH.all fun f=>kh (K p) f.addr)=true:=by kernel_rfl
theorem FO:∀ i f,P.fns i=some f->zm nm base f:=fun i f e=>by
 obtain ⟨o,ho,hd,hc⟩:=eM (A6 (B8 p) f (aT e))
 exact ⟨o,_,X _ _ ho,hd,hc⟩
omit X in
theorem DG (p:Params):(Ac.all fun q=>mO P (K p) nm q.1)=true:=by kernel_rfl
omit X in
theorem DH (p:Params) (g:Nat) (ne:P.gv g≠.no):mO P (K p) nm g=true:=by
 have ne:(match find Ac g with | some v=>v | none=>.no)≠GV.no:=ne
 cases h:find Ac g with
 | none=>rw [h] at ne; exact absurd rfl ne
 | some v=>exact oJ (DG p) h
theorem GL {mg mb:Str->Option Value} (hg:base.Ns mainGlobals mg) (hb:base.Ns builtinsNs mb) (hbb:∀ x:Str,x≠"__name__"->mb x=bootBuiltins x) (sm:base.get? sysModules≠none):jp P nm base mg mb:=
 zO X hg hb hbb (DH p) qd qe Af Ag sm
end
noncomputable def s6 (p:Params) (i:Nat):Stmt:=(vP (dL (K p) 831).body).getD i (.Pass (pZ 0 0 0))
theorem Hg (p:Params):lG nm Dz (s6 p 0) (nm 149) ⟨801,4,802,25⟩ ((dL (K p) 831).qualname++".<locals>."++nm 149):=
 kE (by kernel_rfl) (fun env=>by kernel_rfl) (by kernel_rfl) (by kernel_rfl) (by kernel_rfl) (fun pm c=>by kernel_rfl) (fun pm c=>dB fun a b=>by kernel_rfl) (by kernel_rfl) rfl
theorem Hh (p:Params):lG nm DA (s6 p 1) (nm 150) ⟨804,4,805,37⟩ ((dL (K p) 831).qualname++".<locals>."++nm 150):=
 kE (by kernel_rfl) (fun env=>by kernel_rfl) (by kernel_rfl) (by kernel_rfl) (by kernel_rfl) (fun pm c=>by kernel_rfl) (fun pm c=>dB fun a b=>by kernel_rfl) (by kernel_rfl) rfl
theorem Hi (p:Params):lG nm DB (s6 p 2) (nm 110) ⟨807,4,808,30⟩ ((dL (K p) 831).qualname++".<locals>."++nm 110):=
 kE (by kernel_rfl) (fun env=>by kernel_rfl) (by kernel_rfl) (by kernel_rfl) (by kernel_rfl) (fun pm c=>by kernel_rfl) (fun pm c=>fJ fun a=>by kernel_rfl) (by kernel_rfl) rfl
noncomputable def kF (p:Params):Stmt:=(vP (dL (K p) 826).body).getD 0 (.Pass (pZ 0 0 0))
theorem gG {α:Prop} {n m:Nat} (h:Nat.beq n m=false) (e:n=m):α:=by
 subst e; rw [Nat.beq_refl] at h; exact tF h
section
variable {p:Params} {base:Heap} (X:(K p).In base)
include X
theorem Hj:cy P nm base CW:=
 z8 X (f:=CW) (sts:=[s6 p 0,s6 p 1,s6 p 2]) (by kernel_rfl) (by kernel_rfl) (by kernel_rfl) (by kernel_rfl) (vc (by kernel_rfl))
  (.inr ⟨(fun e=>nomatch e),xQ (dL (K p) 831).code,828,_,by kernel_rfl,iF X (by kernel_rfl),rfl,
   149,_,_,Dz,_,rfl,rfl,(ax 0 rfl (Nat.zero_le _)),by kernel_rfl,Hg p,(fun t m=>by
    rcases A7 m with rfl | m
    ·exact fun HC HC=>by kernel_rfl
    rcases A7 m with rfl | m
    ·exact fun e=>gG (by kernel_rfl) e
    rcases A7 m with rfl | m
    ·exact fun e=>gG (by kernel_rfl) e
    ·cases m),(ax _ (.head _) rfl),
   150,_,_,DA,_,rfl,rfl,(ax 0 rfl (Nat.zero_le _)),by kernel_rfl,Hh p,(fun t m=>by
    rcases A7 m with rfl | m
    ·exact fun e=>gG (by kernel_rfl) e
    rcases A7 m with rfl | m
    ·exact fun HC HC=>by kernel_rfl
    rcases A7 m with rfl | m
    ·exact fun e=>gG (by kernel_rfl) e
    ·cases m),(ax _ (.tail _ (.head _)) rfl),
   110,_,_,DB,_,rfl,rfl,(ax 1 rfl (Nat.le_refl _)),by kernel_rfl,Hi p,(fun t m=>by
    rcases A7 m with rfl | m
    ·exact fun e=>gG (by kernel_rfl) e
    rcases A7 m with rfl | m
    ·exact fun e=>gG (by kernel_rfl) e
    rcases A7 m with rfl | m
    ·exact fun HC HC=>by kernel_rfl
    ·cases m),(ax _ (.tail _ (.tail _ (.head _))) rfl),rfl⟩)
omit X in
theorem Hk (p:Params) (pm cc ct:Value) (a:Addr):tC nm Ab { name:=nm 146,qualname:=(dL (K p) 826).qualname++".<locals>."++nm 146,params:=kC (kF p),body:=.stmts (iE (kF p)),scope:=eg (kF p),globals:=mainGlobals,closure:=[(nm 47,a)],closureTuple:=ct,defaults:=.none,kwdefaults:=.none,pyModule:=pm,code:=cc,builtins:=builtinsNs } 1 where
 kind:=by kernel_rfl
 co:=by kernel_rfl
 gen:=by kernel_rfl
 glo:=rfl
 blt:=rfl
 bind:=dB fun a b=>by kernel_rfl
 clo:=rfl
 var i c q e:=by
  match i,e with
  | 0,e=>cases e; exact .inl (cF rfl (by kernel_rfl) (.inl (by decide)))
  | 1,e=>cases e; exact .inl (cF rfl (by kernel_rfl) (.inl (by decide)))
  | 2,e=>cases e; exact .inr (.inr ⟨rfl,by kernel_rfl,by decide,by decide⟩)
  | _ + 3,e=>exact nS e
 gl g e:=by exact fT e
 nd:=ki (by kernel_rfl)
 nv:=rfl
 np:=by decide
 le:=by decide
 sm i c q e:=by
  match i,e with
  | 0,e=>cases e; decide
  | 1,e=>cases e; decide
  | 2,e=>cases e; decide
  | _ + 3,e=>exact nS e
 few:=by decide
 body:=by kernel_rfl
 pre:=rfl
 nc:=z7 (by kernel_rfl)
theorem B9:yP base P nm Dy Ab (dL (K p) 826) 47 146 where
 at_:=by
  refine bD (eM (K:=K p) (a:=826) (by kernel_rfl)) fun o ho hd hc=>?_
  exact (ax o (X _ _ ho) hd)
 codr:=codeRec_of X (by kernel_rfl)
 kind:=by kernel_rfl
 co:=by kernel_rfl
 gen:=by kernel_rfl
 glo:=by kernel_rfl
 blt:=by kernel_rfl
 clo:=by kernel_rfl
 bind z:=by kernel_rfl
 cell:=by kernel_rfl
 loc:=by kernel_rfl
 cells n:=by kernel_rfl
 push h:=by kernel_rfl
 body:=⟨kC (kF p),iE (kF p),eg (kF p),_,_,_,(show _=FuncBody.stmts [.FunctionDef (nm 146) (kC (kF p)) (iE (kF p)) [] none [] (eg (kF p)) none (nm 146) ⟨796,4,797,36⟩,.Return (some (.Name (nm 146) (pZ 798 11 16))) (pZ 798 4 16)] from by kernel_rfl),(fun env=>by kernel_rfl),by kernel_rfl,
  (fun ev a e=>by
   have hn:(eg (kF p)).names=[(nm 93,.local),(nm 30,.local),(nm 47,.free)]:=by kernel_rfl
   have:=j8 (ev:=ev) (eg (kF p)).names [] (fun x m h=>by
    rw [hn] at m
    rcases A7 m with rfl | m
    ·cases h
    rcases A7 m with rfl | m
    ·cases h
    rw [A2 m]
    exact ⟨a,e⟩)
   unfold closureFor
   refine (congrArg (fun z:Sem (List (Str × Addr))=>z >>= fun s=>pure s) this).trans ((pure_bind _ _).trans ?_)
   rw [hn]
   show (pure [(nm 47,(ev.cells.lookup (nm 47)).getD 0)]:Sem (List (Str × Addr)))=_
   rw [e]; rfl),(fun pm cc ct a=>Hk p pm cc ct a),
  xQ (dL (K p) 826).code,821,_,by kernel_rfl,iF X (by kernel_rfl),rfl,(fun t m=>by
    rcases A7 m with rfl | m
    ·exact fun HC HC=>by kernel_rfl
    ·cases m),(ax _ (.head _) rfl)⟩
end
theorem FM (C:aS) (h1:C.append=0) (h2:C.pop=1) (h3:C.find=2) (h4:C.replace=3) (h5:C.split=5):nQ nm C:=by
 refine ⟨?_,?_,?_,?_,?_⟩
 ·rw [h1]; kernel_rfl
 ·rw [h2]; kernel_rfl
 ·rw [h3]; kernel_rfl
 ·rw [h4]; kernel_rfl
 ·rw [h5]; kernel_rfl
theorem DI:∀ a∈C0.attrs,typeLookup (.type "object") (nm a)=pure none:=by
 intro a m
 simp only [C0,List.mem_cons,List.not_mem_nil,or_false] at m
 rcases m with rfl | rfl | rfl | rfl | rfl | rfl | rfl | rfl | rfl | rfl | rfl | rfl | rfl | rfl | rfl <;> (rw [typeLookup_type,builtinLookup_eq_fast]; kernel_rfl)
theorem FN (a:Nat) (h:aQ C0.attrs a=true):typeLookup (.type "object") (nm a)=pure none:=by
 rw [d7] at h
 exact DI a (of_decide_eq_true h)
section
variable {p:Params} {base:Heap} (X:(K p).In base)
include X
theorem CK:∀ c cl,P.cls c=some cl->cl.kind=0->nP P nm C0 base cl
 | 0,cl,e,_=>by replace e:=oi e; subst e; exact oK X (by kernel_rfl) FN
 | 1,cl,e,_=>by replace e:=oi e; subst e; exact oK X (by kernel_rfl) FN
 | 2,cl,e,h=>by replace e:=oi e; subst e; cases h
 | 3,cl,e,h=>by replace e:=oi e; subst e; cases h
 | 4,cl,e,h=>by replace e:=oi e; subst e; cases h
 | 5,cl,e,h=>by replace e:=oi e; subst e; cases h
 | _ + 6,cl,e,_=>by exact nS e
variable {w:World} {mg mb:Str->Option Value} {prog:Program}
theorem i2 (hg:base.Ns mainGlobals mg) (hb:base.Ns builtinsNs mb) (hbb:∀ x:Str,x≠"__name__"->mb x=bootBuiltins x) (NL:base.NoLimit) (cl:lg) (Y:mF (K p) cl.addr [nm 6,nm 7]) (hs:subIn (K p) (.ref cl.addr) (.type "Exception")=some true):kf prog w base nm C0 cl 28:=by
 intro A s R e ws t0 x st hd Z he h0 hR
 refine zH (f:=CX) (K:=K p) (DE X) rfl hg hb qd qe NL X st hd (g0:=173) (ci:=174) (ct:=6) (c0:=91) (c1:=6) rfl rfl rfl rfl rfl rfl ⟨mg_none_of X hg (by kernel_rfl),(hbb _ (beq_eq_false_iff_ne.mp (by kernel_rfl))).trans (by kernel_rfl)⟩ (by kernel_rfl) (by kernel_rfl) Y (.head _) hs Z he h0 (ns:=[]) Within.nil (Nat.zero_le _) ?_
 intro h' t d ws' a1 a2 a3 a4 a5 a6 a7
 refine hR h' t d ws' a1 a2 a3 a5 (a6.elim (fun q=>by exact nS q) And.right) a7
theorem s7 (hg:base.Ns mainGlobals mg) (hb:base.Ns builtinsNs mb) (hbb:∀ x:Str,x≠"__name__"->mb x=bootBuiltins x) (NL:base.NoLimit) (cl:lg) (Y:mF (K p) cl.addr [nm 6,nm 7]) (hs:subIn (K p) (.ref cl.addr) (.type "Exception")=some true):kg prog w base nm C0 cl 48:=by
 intro A s R e ws t0 x y st hd Z he h0 hR
 refine zK (f:=DC) (f1:=CX) (K:=K p) (FL X) (DE X) rfl hg hb qd qe NL X st hd (g0:=139) (ci:=174) (ct:=7) (c0:=91) (c1:=7) (c2:=6) (D:=31) (mc:=.type "type") rfl rfl rfl rfl rfl rfl rfl (mg_of X hg (by kernel_rfl)) (by kernel_rfl) (by kernel_rfl) (by kernel_rfl) (by kernel_rfl) Y (.tail _ (.head _)) (n1:=nm 6) Z he (fun A' s' R' st' hd' Z' hR'=>?_) (ns:=[]) Within.nil (Nat.zero_le _) hR
 exact i2 X hg hb hbb NL cl Y hs A' s' R' e ws t0 y st' hd' Z' he h0 fun h' t d ws' a1 a2 a3 a4 a5 a6=>hR' h' t d ws' a1 a2 a3 a4 a5 a6
theorem XW (hg:base.Ns mainGlobals mg) (hb:base.Ns builtinsNs mb) (hbb:∀ x:Str,x≠"__name__"->mb x=bootBuiltins x) (NL:base.NoLimit):mH prog w (K p) base P nm C0:=by
 have xc:∀ i,i < 6->∀ cl,P.cls i=some cl->jv (K p) cl.addr [nm C0.text,nm C0.line]=true:=fun i hi cl e=>by
  match i,hi,e with
  | 0,_,e=>replace e:=oi e; subst e; kernel_rfl
  | 1,_,e=>replace e:=oi e; subst e; kernel_rfl
  | 2,_,e=>replace e:=oi e; subst e; kernel_rfl
  | 3,_,e=>replace e:=oi e; subst e; kernel_rfl
  | 4,_,e=>replace e:=oi e; subst e; kernel_rfl
  | 5,_,e=>replace e:=oi e; subst e; kernel_rfl
 refine sT X (n:=6) (fun i h=>by refine ay (Nat.exists_eq_add_of_le' h) fun k zq1=>?_; subst zq1; rfl) xc ?_ ?_ ?_ (beq_eq_false_iff_ne.mp (by kernel_rfl))
 ·intro i hi cl e hk
  match i,hi,e with
  | 0,_,e=>replace e:=oi e; subst e; cases hk
  | 1,_,e=>replace e:=oi e; subst e; cases hk
  | 2,_,e=>replace e:=oi e; subst e; kernel_rfl
  | 3,_,e=>replace e:=oi e; subst e; kernel_rfl
  | 4,_,e=>replace e:=oi e; subst e; kernel_rfl
  | 5,_,e=>replace e:=oi e; subst e; kernel_rfl
 ·intro i cl e hk
  match i,e with
  | 0,e=>replace e:=oi e; subst e; cases hk
  | 1,e=>replace e:=oi e; subst e; cases hk
  | 2,e=>replace e:=oi e; subst e; exact ⟨by kernel_rfl,28,by kernel_rfl,by kernel_rfl,i2 X hg hb hbb NL _ (jw (xc 2 (by decide) _ rfl)) (by kernel_rfl)⟩
  | 3,e=>replace e:=oi e; subst e; cases hk
  | 4,e=>replace e:=oi e; subst e; cases hk
  | 5,e=>replace e:=oi e; subst e; exact ⟨by kernel_rfl,28,by kernel_rfl,by kernel_rfl,i2 X hg hb hbb NL _ (jw (xc 5 (by decide) _ rfl)) (by kernel_rfl)⟩
  | _ + 6,e=>exact nS e
 ·intro i cl e hk
  match i,e with
  | 0,e=>replace e:=oi e; subst e; cases hk
  | 1,e=>replace e:=oi e; subst e; cases hk
  | 2,e=>replace e:=oi e; subst e; cases hk
  | 3,e=>replace e:=oi e; subst e; exact ⟨by kernel_rfl,48,by kernel_rfl,by kernel_rfl,s7 X hg hb hbb NL _ (jw (xc 3 (by decide) _ rfl)) (by kernel_rfl)⟩
  | 4,e=>replace e:=oi e; subst e; cases hk
  | 5,e=>replace e:=oi e; subst e; cases hk
  | _ + 6,e=>exact nS e
end
end Mine.T
end
section
open PySem
namespace Mine.T
open Mine.Z (d)
noncomputable def DJ:List (Nat × List Nat × V):=[
 (35765622129100675350927,(d 495148405134460149),.str (d 4951484051344649)),
 (608079724599068854224591495050,(d 525435514854534247380152),.str (d 5254355148545342473852)),
 (155197207574560384289231821712764,(d 39544736534248470139095710),.str (d 395447365342484739095710)),
 (602576693144235697734058493725,(d 354548364401373453340150),.str (d 35454836443734533450)),
 (2109194472674467,(d 513834450157),.str (d 5138344557)),
 (39842012022862214426849208982896807,(d 3742463847524248470155092010),.str (d 37424638475242484755092010)),
 (31950499382,(d 52345538),.str (d 52345538)),
 (8198190867589,(d 4934545238),.str (d 4934545238)),
 (2092359886117527,(d 363445450153),.str (d 3634454553)),
 (35802717722528681755642,(d 513834370111130134),.str (d 51383437111334)),
 (123399646,(d 384737),.str (d 384737)),
 (8132192051719,(d 3401300135),.str (d 343035)),
 (35632109326859150404478,(d 424753384038510142),.str (d 4247533840385142)),
 (678118515074073189708276775703104198682456,(d 4246494542364253015138344501093410),.str (d 424649454236425351383445093410)),
 (2109194472674444,(d 513834450134),.str (d 5138344534)),
 (9132749665703028856592689,(d 37345334013401161816),.str (d 3734533434161816)),
 (138202313159796541233,(d 3648464648470134),.str (d 36484646484734)),
 (138202314311386893164,(d 3648475342475438),.str (d 3648475342475438)),
 (2349699077580480018768422077,(d 3948514634530109422010),.str (d 39485146345309422010)),
 (538327374366207742,(d 38475351580138),.str (d 384753515838)),
 (2109194795799015,(d 513853545147),.str (d 513853545147)),
 (9138078388351579413720273,(d 38575338514734450140),.str (d 385753385147344540)),
 (31713580848,(d 38455238),.str (d 38455238)),
 (2094658769326477,(d 384737014239),.str (d 3847374239)),
 (2353425069123662313990430114,(d 4239010945100153413847),.str (d 423909451053413847)),
 (2632950909403612252711941193089571473387,(d 38455238014239010945100153413847),.str (d 38455238423909451053413847)),
 (39842495604966126695797799206731190,(d 3748012417014201300118130119),.str (d 374824174230181319)),
 (138498467376486701545,(d 4048015348012518),.str (d 404853482518)),
 (678108386143674379612295176489493883145020,(d 4239010934100125181301251913012518),.str (d 42390934102518132519132518)),
 (31951752525,(d 52534849),.str (d 52534849)),
 (604830242764781214611974077811,(d 423901094510013401300135),.str (d 4239094510343035)),
 (538327374366207756,(d 38475351580152),.str (d 384753515852)),
 (538327374366207743,(d 38475351580139),.str (d 384753515839)),
 (608079724599068854224591495052,(d 525435514854534247380154),.str (d 5254355148545342473854)),
 (9123176628627771771473580,(d 35454836440137345334),.str (d 354548364437345334)),
 (35765622129100675350928,(d 495148405134460150),.str (d 4951484051344650))]
noncomputable def DK:List (Nat × List Nat × V):=[
 (139165844860313911919,(d 4951484051344649),.str (d 81838072836678)),
 (2366068967311551961963391082,(d 5254355148545342473852),.str (d 84866783808685747970)),
 (603880185115020950542401126492,(d 395447365342484739095710),.str (d 7186796885748079)),
 (9123176628627928770734301,(d 35454836443734533450),.str (d 677780687669668566)),
 (8206982384003,(d 5138344557),.str (d 83706677)),
 (155027284135650639793188497183623,(d 37424638475242484755092010),.str (d 697478707984748079)),
 (31950499382,(d 52345538),.str (d 84668770)),
 (8198190867589,(d 4934545238),.str (d 8166868470)),
 (8141478156151,(d 3634454553),.str (d 68667777)),
 (542062979342190522,(d 51383437111334),.str (d 83706669)),
 (123399646,(d 384737),.str (d 707969)),
 (123131079,(d 343035),.str (d 668484747279)),
 (138646339793226266206,(d 4247533840385142),.str (d 74798570727083)),
 (10266900559797622821075676683941306136,(d 424649454236425351383445093410),.str (d 7478817774687485)),
 (8206982383980,(d 5138344534),.str (d 83706677)),
 (138272338199517763057,(d 3734533434161816),.str (d 69668566)),
 (537752191283255057,(d 36484646484734),.str (d 688078788079)),
 (138202314311386893164,(d 3648475342475438),.str (d 6880798574798670)),
 (9142797967239222000882845,(d 39485146345309422010),.str (d 718083786685)),
 (2094659044226526,(d 384753515838),.str (d 7079858390)),
 (2109194795799015,(d 513853545147),.str (d 837085868379)),
 (35556725246504200053425,(d 385753385147344540),.str (d 7089857083796677)),
 (31713580848,(d 38455238),.str (d 70778470)),
 (8150423237485,(d 3847374239),.str (d 7079697471)),
 (35631504247280831648866,(d 423909451053413847),.str (d 7471)),
 (155111283635304435370592393534603,(d 38455238423909451053413847),.str (d 707784707471)),
 (35537019258517592681750,(d 374824174230181319),.str (d 6980)),
 (2096905716276393,(d 404853482518),.str (d 72808580)),
 (155441382568065277320232187755708,(d 42390934102518132519132518),.str (d 667471)),
 (31951752525,(d 52534849),.str (d 84858081)),
 (138643985397978631923,(d 4239094510343035),.str (d 777471)),
 (2094659044226540,(d 384753515852),.str (d 7079858390)),
 (2094659044226527,(d 384753515839),.str (d 7079858390)),
 (2366068967311551961963391084,(d 5254355148545342473854),.str (d 84866783808685747970)),
 (35498741745633964088460,(d 354548364437345334),.str (d 677780687669668566)),
 (139165844860313911920,(d 4951484051344650),.str (d 81838072836678))]
noncomputable def DL:List (Nat × List Nat × V):=[
 (1879,[80],.tup [.str [80],.lst []]),
 (1882,[83],.tup [.str [83],.lst []]),
 (1880,[81],.tup [.str [81],.lst []]),
 (31728178934,(d 39095710),.tup [.str [70],.lst [.str [88]]])]
noncomputable def DM:List (Nat × List Nat × V):=[
 (7,[],.none)]
noncomputable def DN:List (Nat × List Nat × V):=[
 (35765622129100675350927,[80,82,79,71,82,65,77,32,80],.bool false),
 (608079724599068854224591495050,[83,85,66,82,79,85,84,73,78,69,32,83],.bool false),
 (155197207574560384289231821712764,[70,85,78,67,84,73,79,78,32,70,40,88,41],.bool false),
 (602576693144235697734058493725,[66,76,79,67,75,32,68,65,84,65,32,81],.bool false),
 (2109194472674467,[82,69,65,76,32,88],.bool false),
 (39842012022862214426849208982896807,[68,73,77,69,78,83,73,79,78,32,86,40,51,41],.bool false),
 (31950499382,[83,65,86,69],.bool false),
 (8198190867589,[80,65,85,83,69],.bool true),
 (2092359886117527,[67,65,76,76,32,84],.bool true),
 (35802717722528681755642,[82,69,65,68,32,42,44,32,65],.bool true),
 (123399646,[69,78,68],.bool true),
 (8132192051719,[65,32,61,32,66],.bool true),
 (35632109326859150404478,[73,78,84,69,71,69,82,32,73],.bool true),
 (678118515074073189708276775703104198682456,[73,77,80,76,73,67,73,84,32,82,69,65,76,32,40,65,41],.bool true),
 (2109194472674444,[82,69,65,76,32,65],.bool false),
 (9132749665703028856592689,[68,65,84,65,32,65,32,47,49,47],.bool false),
 (138202313159796541233,[67,79,77,77,79,78,32,65],.bool true),
 (2331953559016359791200537077,[56,49,32,67,79,78,84,73,78,85,69],.bool true),
 (137379055795605570960,[56,49,32,65,32,61,32,66],.bool true),
 (2349699077580480018768422077,[70,79,82,77,65,84,32,40,73,51,41],.bool true),
 (538327374366207742,[69,78,84,82,89,32,69],.bool true),
 (2109194795799015,[82,69,84,85,82,78],.bool true),
 (9138078388351579413720273,[69,88,84,69,82,78,65,76,32,71],.bool true),
 (39584128608614918904130442798306888,[56,51,32,70,79,82,77,65,84,32,40,73,51,41],.bool true),
 (31713580848,[69,76,83,69],.bool true),
 (2094658769326477,[69,78,68,32,73,70],.bool true),
 (2353425069123662313990430114,[73,70,32,40,76,41,32,84,72,69,78],.bool true),
 (2632950909403612252711941193089571473387,[69,76,83,69,32,73,70,32,40,76,41,32,84,72,69,78],.bool true),
 (39842495604966126695797799206731190,[68,79,32,55,48,32,73,32,61,32,49,44,32,50],.bool true),
 (2330691680013251305710634352,[55,48,32,71,79,32,84,79,32,56,49],.bool true),
 (2330691679717098240610825971,[55,48,32,67,79,78,84,73,78,85,69],.bool true),
 (11399424744780861685780737646159239172989957895619,[55,48,32,73,70,32,40,65,41,32,56,49,44,32,56,50,44,32,56,49],.bool true),
 (137304716565265349388,[55,48,32,80,65,85,83,69],.bool true),
 (534259597582392532,[55,48,32,83,84,79,80],.bool true),
 (137304716499266533518,[55,48,32,65,32,61,32,66],.bool true),
 (39562542679181129805179379248602665,[55,48,32,73,70,32,40,76,41,32,84,72,69,78],.bool true),
 (35287312142698027939870,[55,48,32,67,65,76,76,32,84],.bool true),
 (35287312159532937621358,[55,48,32,82,69,84,85,82,78],.bool true),
 (598987761972017192339232487041,[55,48,32,82,69,65,68,32,42,44,32,65],.bool true),
 (10167573468549550359931100383324423418,[55,48,32,73,70,32,40,76,41,32,65,32,61,32,66],.bool true),
 (538327374366207756,[69,78,84,82,89,32,83],.bool true),
 (538327374366207743,[69,78,84,82,89,32,70],.bool true),
 (608079724599068854224591495052,[83,85,66,82,79,85,84,73,78,69,32,85],.bool false),
 (9123176628627771771473580,[66,76,79,67,75,32,68,65,84,65],.bool false),
 (35765622129100675350928,[80,82,79,71,82,65,77,32,81],.bool false)]
noncomputable def FP:V:=.lst [.str [],.str (d 495148405134460149),.str (d 525435514854534247380152),.str (d 39544736534248470139095710),.str (d 354548364401373453340150)]
noncomputable def FQ:V:=.lst [.str (d 81838072836678),.str (d 81838072836678),.str (d 84866783808685747970),.str (d 7186796885748079),.str (d 6777806876)]
noncomputable def FR:V:=.lst [.str (d 668484747279),.str (d 6880798574798670),.str (d 68667777),.str (d 8166868470),.str (d 83706669),.str (d 777471),.str (d 72808580),.str (d 667471),.str (d 84858081),.str (d 837085868379),.str (d 7471),.str (d 707784707471),.str (d 70778470),.str (d 7079697471),.str (d 707969)]
end Mine.T
namespace Mine.T
open Mine.Z (d)
noncomputable def FT:List Nat->Nat->Nat
 | [],a=>a
 | c :: l,a=>FT l (Nat.add (Nat.mul a 257) c)
noncomputable def rd:List (Nat × List Nat × V)->List Nat->Nat->Option V
 | [],_,_=>none
 | p :: l,k,h=>match Nat.beq p.1 h with
  | true=>grd (nu p.2.1 k) (some p.2.2)
  | false=>rd l k h
noncomputable def DP:List (Nat × V):=[(49,FP),(50,FQ),(51,FR)]
noncomputable def DQ:List (Nat × List (Nat × List Nat × V)):=[(5,DJ),(18,DK),(29,DL),(32,DM),(60,DN)]
noncomputable def yU (i:Nat) (vs:List V) (d:Nat):Option V:=grd (Nat.ble 8 d) (match vs with
 | []=>find DP i
 | v :: l=>(sO v).bind fun k=>grd l.isEmpty ((find DQ i).bind fun t=>rd t k (FT k 7)))
noncomputable def C1:aS:={C0 with memo:=yU}
structure Rw where
 t:List Nat
 lab:Int
 r:List Nat
 q:List Nat
 w:List Nat
 s:V
 b:Bool
structure As where
 kd:Nat
 sg:Int
 ne:List Nat
 ul:List Int
 en:Bool
 ml:List Int
structure Tr where
 a:Nat
 c:Nat
 h:Nat
 b:Nat
 sp:Bool
 bd:Bool
 n1:Bool
 n2:Bool
 nm:Nat
noncomputable abbrev e0 (a c h b n:Nat):Tr:=⟨a,c,h,b,false,false,false,false,n⟩
noncomputable abbrev e1 (a c h b n:Nat):Tr:=⟨a,c,h,b,false,true,false,false,n⟩
noncomputable abbrev e2 (a c h b n:Nat):Tr:=⟨a,c,h,b,false,true,true,true,n⟩
noncomputable abbrev e3 (a c h b n:Nat):Tr:=⟨a,c,h,b,true,false,false,false,n⟩
noncomputable abbrev e4 (a c h b n:Nat):Tr:=⟨a,c,h,b,false,true,true,false,n⟩
structure Ca where
 so:List Nat
 ah:List Nat
 wr:Nat
 be:List Nat
end Mine.T
namespace Mine.T
open Mine.Z (d)
noncomputable def k7:List Rw:=[
 ⟨(d 495148405134460149),0,(d 495148405134460149),(d 4951484051344649),(d 81838072836678),.none,false⟩,
 ⟨(d 525435514854534247380152),0,(d 525435514854534247380152),(d 5254355148545342473852),(d 84866783808685747970),.none,false⟩,
 ⟨(d 39544736534248470139095710),0,(d 39544736534248470139095710),(d 395447365342484739095710),(d 7186796885748079),.none,false⟩,
 ⟨(d 354548364401373453340150),0,(d 354548364401373453340150),(d 35454836443734533450),(d 677780687669668566),.none,false⟩,
 ⟨(d 513834450157),0,(d 513834450157),(d 5138344557),(d 83706677),.none,false⟩,
 ⟨(d 3742463847524248470155092010),0,(d 3742463847524248470155092010),(d 37424638475242484755092010),(d 697478707984748079),.none,false⟩,
 ⟨(d 52345538),0,(d 52345538),(d 52345538),(d 84668770),.none,false⟩,
 ⟨(d 4934545238),0,(d 4934545238),(d 4934545238),(d 8166868470),.tup [.str (d 8166868470),.tup [.str (d 79667870),.str [65]]],true⟩,
 ⟨(d 363445450153),0,(d 363445450153),(d 3634454553),(d 68667777),.tup [.str (d 68667777),.tup [.str (d 79667870),.str [65]]],true⟩,
 ⟨(d 513834370111130134),0,(d 513834370111130134),(d 51383437111334),(d 83706669),.tup [.str (d 83706669),.tup [.str (d 79667870),.str [65]]],true⟩,
 ⟨(d 384737),0,(d 384737),(d 384737),(d 707969),.tup [.str (d 707969),.tup [.str (d 79667870),.str [65]]],true⟩,
 ⟨(d 3401300135),0,(d 3401300135),(d 343035),(d 668484747279),.tup [.str (d 668484747279),.tup [.str (d 79667870),.str [65]]],true⟩,
 ⟨(d 424753384038510142),0,(d 424753384038510142),(d 4247533840385142),(d 74798570727083),.none,true⟩,
 ⟨(d 4246494542364253015138344501093410),0,(d 4246494542364253015138344501093410),(d 424649454236425351383445093410),(d 7478817774687485),.none,true⟩,
 ⟨(d 513834450134),0,(d 513834450134),(d 5138344534),(d 83706677),.none,false⟩,
 ⟨(d 37345334013401161816),0,(d 37345334013401161816),(d 3734533434161816),(d 69668566),.none,false⟩,
 ⟨(d 3648464648470134),0,(d 3648464648470134),(d 36484646484734),(d 688078788079),.none,true⟩,
 ⟨(d 2518013648475342475438),81,(d 3648475342475438),(d 3648475342475438),(d 6880798574798670),.tup [.str (d 6880798574798670),.tup [.str (d 79667870),.str [65]]],true⟩,
 ⟨(d 2518013401300135),81,(d 3401300135),(d 343035),(d 668484747279),.none,true⟩,
 ⟨(d 3948514634530109422010),0,(d 3948514634530109422010),(d 39485146345309422010),(d 718083786685),.none,true⟩,
 ⟨(d 38475351580138),0,(d 38475351580138),(d 384753515838),(d 7079858390),.tup [.str (d 7079858390),.str [69],.lst []],true⟩,
 ⟨(d 513853545147),0,(d 513853545147),(d 513853545147),(d 837085868379),.none,true⟩,
 ⟨(d 38575338514734450140),0,(d 38575338514734450140),(d 385753385147344540),(d 7089857083796677),.none,true⟩,
 ⟨(d 2520013948514634530109422010),83,(d 3948514634530109422010),(d 39485146345309422010),(d 718083786685),.none,true⟩,
 ⟨(d 38455238),0,(d 38455238),(d 38455238),(d 70778470),.tup [.str (d 70778470),.tup [.str (d 79667870),.str [65]]],true⟩,
 ⟨(d 384737014239),0,(d 384737014239),(d 3847374239),(d 7079697471),.tup [.str (d 7079697471),.tup [.str (d 79667870),.str [65]]],true⟩,
 ⟨(d 4239010945100153413847),0,(d 4239010945100153413847),(d 423909451053413847),(d 7471),.tup [.str (d 7471),.tup [.str (d 79667870),.str [65]]],true⟩,
 ⟨(d 38455238014239010945100153413847),0,(d 38455238014239010945100153413847),(d 38455238423909451053413847),(d 707784707471),.none,true⟩,
 ⟨(d 3748012417014201300118130119),0,(d 3748012417014201300118130119),(d 374824174230181319),(d 6980),.tup [.str (d 6980),.int 70],true⟩,
 ⟨(d 2417014048015348012518),70,(d 4048015348012518),(d 404853482518),(d 72808580),.tup [.str (d 72808580),.tup [.str (d 79667870),.str [65]]],true⟩,
 ⟨(d 2417013648475342475438),70,(d 3648475342475438),(d 3648475342475438),(d 6880798574798670),.tup [.str (d 6880798574798670),.tup [.str (d 79667870),.str [65]]],true⟩,
 ⟨(d 2417014239010934100125181301251913012518),70,(d 4239010934100125181301251913012518),(d 42390934102518132519132518),(d 667471),.tup [.str (d 667471),.tup [.str (d 79667870),.str [65]]],true⟩,
 ⟨(d 2417014934545238),70,(d 4934545238),(d 4934545238),(d 8166868470),.tup [.str (d 8166868470),.tup [.str (d 79667870),.str [65]]],true⟩,
 ⟨(d 24170152534849),70,(d 52534849),(d 52534849),(d 84858081),.tup [.str (d 84858081),.tup [.str (d 79667870),.str [65]]],true⟩,
 ⟨(d 2417013401300135),70,(d 3401300135),(d 343035),(d 668484747279),.tup [.str (d 668484747279),.tup [.str (d 79667870),.str [65]]],true⟩,
 ⟨(d 2417014239010945100153413847),70,(d 4239010945100153413847),(d 423909451053413847),(d 7471),.tup [.str (d 7471),.tup [.str (d 79667870),.str [65]]],true⟩,
 ⟨(d 241701363445450153),70,(d 363445450153),(d 3634454553),(d 68667777),.tup [.str (d 68667777),.tup [.str (d 79667870),.str [65]]],true⟩,
 ⟨(d 241701513853545147),70,(d 513853545147),(d 513853545147),(d 837085868379),.tup [.str (d 837085868379),.tup [.str (d 79667870),.str [65]]],true⟩,
 ⟨(d 241701513834370111130134),70,(d 513834370111130134),(d 51383437111334),(d 83706669),.tup [.str (d 83706669),.tup [.str (d 79667870),.str [65]]],true⟩,
 ⟨(d 241701423901094510013401300135),70,(d 423901094510013401300135),(d 4239094510343035),(d 777471),.tup [.str (d 777471),.tup [.str (d 79667870),.str [65]]],true⟩,
 ⟨(d 38475351580152),0,(d 38475351580152),(d 384753515852),(d 7079858390),.none,true⟩,
 ⟨(d 38475351580139),0,(d 38475351580139),(d 384753515839),(d 7079858390),.none,true⟩,
 ⟨(d 525435514854534247380154),0,(d 525435514854534247380154),(d 5254355148545342473854),(d 84866783808685747970),.none,false⟩,
 ⟨(d 35454836440137345334),0,(d 35454836440137345334),(d 354548364437345334),(d 677780687669668566),.none,false⟩,
 ⟨(d 495148405134460150),0,(d 495148405134460150),(d 4951484051344650),(d 81838072836678),.none,false⟩]
noncomputable def DR:List As:=[⟨0,4,[],[],false,[]⟩,⟨0,2,[],[],false,[]⟩,⟨0,0,[],[],false,[]⟩,⟨1,0,[],[],false,[]⟩,⟨1,4,[],[],false,[]⟩,⟨1,2,[],[],false,[]⟩,⟨2,0,[],[],false,[]⟩,⟨2,4,[],[],false,[]⟩,⟨2,2,[],[],false,[]⟩,⟨3,0,[],[],false,[]⟩,⟨3,2,[],[],false,[]⟩,⟨0,3,[],[],false,[]⟩,⟨1,3,[],[],false,[]⟩,⟨2,3,[],[],false,[]⟩,⟨3,3,[],[],false,[]⟩,⟨0,4,[],[81],false,[81]⟩,⟨1,4,[],[81],false,[81]⟩,⟨2,4,[],[81],false,[81]⟩,⟨0,4,[0],[],false,[]⟩,⟨0,4,[1],[],false,[]⟩,⟨1,4,[0],[],false,[]⟩,⟨1,4,[1],[],false,[]⟩,⟨2,4,[0],[],false,[]⟩,⟨2,4,[1],[],false,[]⟩,⟨0,4,[2],[],false,[]⟩,⟨0,4,[2],[70],false,[70]⟩,⟨0,4,[],[70],false,[70]⟩,⟨1,4,[2],[],false,[]⟩,⟨1,4,[2],[70],false,[70]⟩,⟨1,4,[],[70],false,[70]⟩,⟨2,4,[2],[],false,[]⟩,⟨2,4,[2],[70],false,[70]⟩,⟨2,4,[],[70],false,[70]⟩,⟨0,4,[2,0],[70],false,[70]⟩,⟨1,4,[2,0],[70],false,[70]⟩,⟨2,4,[2,0],[70],false,[70]⟩,⟨1,0,[],[],true,[]⟩,⟨1,4,[],[],true,[]⟩,⟨1,2,[],[],true,[]⟩,⟨2,0,[],[],true,[]⟩,⟨2,4,[],[],true,[]⟩,⟨2,2,[],[],true,[]⟩,⟨0,4,[2,0],[],false,[]⟩,⟨1,4,[2,0],[],false,[]⟩,⟨2,4,[2,0],[],false,[]⟩,⟨0,4,[0,2],[],false,[]⟩,⟨0,4,[0],[70],false,[70]⟩,⟨1,4,[0,2],[],false,[]⟩,⟨1,4,[0],[70],false,[70]⟩,⟨2,4,[0,2],[],false,[]⟩,⟨2,4,[0],[70],false,[70]⟩]
noncomputable def DS:List V:=[.str (d 660184817068747174686685748079018580800177668570),.str (d 6601776667707701848566796984018588746870),.str (d 660171808378668501887485738086850166017766677077),.str (d 660184856685707870798501857366850166017866747901818380728366780169807084017980850173668770),.str (d 6601848566857078707985018573668501354548364401373453340169807084017980850173668770),.str (d 3845523801887485738086850166790180817079016777806876),.str (d 38473701423901887485738086850166790180817079016777806876),.str (d 6601848566857078707985018573668501686679017079690179800177808081),.str (d 660177808081018573668501707969840188748573747901887366850174850169807084017980850173807769),.str (d 6601778080810188738084700170796901848566796984016673706669018071017485),.str (d 66017780808101808301660167778068760174840180817079),.str (d 66790170798583900884017966787001848566796984018588746870),.str (d 66018679748501677072747984018874857374790166798085737083)]
noncomputable def s8:List Ca:=[
 ⟨[0,1,2,3],[11],12,[]⟩,
 ⟨[0,1,2,3],[11],13,[]⟩,
 ⟨[0,1,2,3,4],[14],13,[]⟩,
 ⟨[0,1,2,3,4],[15],16,[]⟩,
 ⟨[0,1,2,3],[17],18,[]⟩,
 ⟨[0,1,2,3],[],19,[]⟩,
 ⟨[0,1],[],20,[]⟩,
 ⟨[0,1],[],21,[]⟩,
 ⟨[4],[],11,[]⟩,
 ⟨[4],[],8,[]⟩,
 ⟨[4],[],22,[]⟩,
 ⟨[4],[],23,[]⟩,
 ⟨[0,1,2,3],[],24,[]⟩,
 ⟨[0,1,2,3],[],25,[]⟩,
 ⟨[0,1,2,3],[26,24],27,[25]⟩,
 ⟨[0,1,2,3],[26,24],24,[25]⟩,
 ⟨[0,1,2,3],[28],29,[30]⟩,
 ⟨[0,1,2,3],[28],31,[32]⟩,
 ⟨[0,1,2,3],[28],33,[34]⟩,
 ⟨[0,1,2,3],[28],35,[36]⟩,
 ⟨[2,3],[28],37,[38]⟩,
 ⟨[0,1,2,3],[30],28,[]⟩,
 ⟨[2,3],[28],20,[39]⟩,
 ⟨[2,3],[26],20,[25]⟩,
 ⟨[2,3],[20],20,[]⟩,
 ⟨[2],[],40,[]⟩,
 ⟨[3],[],41,[]⟩,
 ⟨[0,1,2,3],[28,26],30,[25,30]⟩,
 ⟨[0,1,2,3],[26],10,[25]⟩,
 ⟨[0,1,2,3],[28],10,[30]⟩,
 ⟨[0,1,2,3],[26,28],25,[30,25]⟩,
 ⟨[0,1,2,3],[11],42,[]⟩,
 ⟨[0,1,2,3],[11],43,[]⟩,
 ⟨[1,2,3,4],[],44,[]⟩]
noncomputable def DT:List (Nat × List Tr):=[(0,[e1 0 7 0 0 0,e1 0 8 0 0 0,e1 0 9 0 0 0,e1 0 10 1 0 0,e1 0 11 0 0 0,e0 0 12 2 0 0,e0 0 13 2 0 0,e2 0 17 0 15 0,e0 0 19 4 0 0,e0 0 20 5 0 0,e0 0 21 5 0 0,e0 0 24 7 0 0,e0 0 25 8 0 0,e1 0 26 0 18 0,e1 0 28 0 24 0,e2 0 30 0 26 0,e0 0 42 14 0 0,e0 0 43 14 0 0,e0 0 44 14 0 0])]
noncomputable def DU:List (Nat × List Tr):=[(1,[e3 1 4 0 1 0,e3 1 5 0 1 0,e3 1 6 0 1 0,e1 1 7 0 0 0,e1 1 8 0 0 0,e1 1 9 0 0 0,e1 1 10 1 1 0,e1 1 11 0 0 0,e0 1 13 2 1 0,e3 1 14 0 1 0,e3 1 15 0 11 0,e2 1 17 0 15 0,e0 1 19 4 1 0,e0 1 20 5 1 0,e0 1 21 5 1 0,e0 1 24 7 0 0,e0 1 25 8 0 0,e1 1 26 0 18 0,e1 1 28 0 24 0,e2 1 30 0 26 0,e0 1 44 14 1 0])]
noncomputable def DV:List (Nat × List Tr):=[(2,[e3 2 4 0 1 0,e3 2 5 0 1 0,e3 2 6 0 1 0,e1 2 7 0 0 0,e1 2 8 0 0 0,e1 2 9 0 0 0,e1 2 10 1 2 0,e1 2 11 0 0 0,e3 2 14 0 1 0,e3 2 15 0 11 0,e2 2 17 0 15 0,e0 2 19 4 2 0,e0 2 20 5 2 0,e0 2 21 5 2 0,e0 2 24 7 0 0,e0 2 25 8 0 0,e1 2 26 0 18 0,e1 2 28 0 24 0,e2 2 30 0 26 0,e0 2 44 14 2 0])]
noncomputable def DW:List (Nat × List Tr):=[(3,[e3 3 4 0 5 0,e3 3 5 0 5 0,e3 3 6 0 5 0,e1 3 7 0 4 0,e1 3 8 0 4 0,e1 3 9 0 4 0,e1 3 10 1 3 0,e1 3 11 0 4 0,e3 3 14 0 5 0,e3 3 15 0 12 0,e2 3 17 0 16 0,e0 3 19 4 3 0,e4 3 20 0 36 0,e0 3 24 7 4 0,e0 3 25 8 4 0,e1 3 26 0 20 0,e1 3 28 0 27 0,e2 3 30 0 29 0,e0 3 40 13 3 0,e0 3 44 14 3 0])]
noncomputable def DX:List (Nat × List Tr):=[(4,[e1 4 7 0 4 0,e1 4 8 0 4 0,e1 4 9 0 4 0,e1 4 10 1 4 0,e1 4 11 0 4 0,e0 4 12 2 4 0,e0 4 13 2 4 0,e2 4 17 0 16 0,e0 4 19 4 4 0,e4 4 20 0 37 0,e0 4 24 7 4 0,e0 4 25 8 4 0,e1 4 26 0 20 0,e1 4 28 0 27 0,e2 4 30 0 29 0,e0 4 40 13 4 0,e0 4 42 14 4 0,e0 4 43 14 4 0,e0 4 44 14 4 0])]
noncomputable def DY:List (Nat × List Tr):=[(5,[e3 5 4 0 5 0,e3 5 5 0 5 0,e3 5 6 0 5 0,e1 5 7 0 4 0,e1 5 8 0 4 0,e1 5 9 0 4 0,e1 5 10 1 5 0,e1 5 11 0 4 0,e0 5 13 2 5 0,e3 5 14 0 5 0,e3 5 15 0 12 0,e2 5 17 0 16 0,e0 5 19 4 5 0,e4 5 20 0 38 0,e0 5 24 7 4 0,e0 5 25 8 4 0,e1 5 26 0 20 0,e1 5 28 0 27 0,e2 5 30 0 29 0,e0 5 40 13 5 0,e0 5 44 14 5 0])]
noncomputable def DZ:List (Nat × List Tr):=[(6,[e3 6 4 0 8 0,e3 6 5 0 8 0,e3 6 6 0 8 0,e1 6 7 0 7 0,e1 6 8 0 7 0,e1 6 9 0 7 0,e1 6 10 1 6 0,e1 6 11 0 7 0,e3 6 14 0 8 0,e3 6 15 0 13 0,e2 6 17 0 17 0,e0 6 19 4 6 0,e4 6 20 0 39 0,e0 6 24 7 7 0,e0 6 25 8 7 0,e1 6 26 0 22 0,e1 6 28 0 30 0,e2 6 30 0 32 0,e0 6 41 13 6 0,e0 6 44 14 6 0])]
noncomputable def D0:List (Nat × List Tr):=[(7,[e1 7 7 0 7 0,e1 7 8 0 7 0,e1 7 9 0 7 0,e1 7 10 1 7 0,e1 7 11 0 7 0,e0 7 12 2 7 0,e0 7 13 2 7 0,e2 7 17 0 17 0,e0 7 19 4 7 0,e4 7 20 0 40 0,e0 7 24 7 7 0,e0 7 25 8 7 0,e1 7 26 0 22 0,e1 7 28 0 30 0,e2 7 30 0 32 0,e0 7 41 13 7 0,e0 7 42 14 7 0,e0 7 43 14 7 0,e0 7 44 14 7 0])]
noncomputable def D1:List (Nat × List Tr):=[(8,[e3 8 4 0 8 0,e3 8 5 0 8 0,e3 8 6 0 8 0,e1 8 7 0 7 0,e1 8 8 0 7 0,e1 8 9 0 7 0,e1 8 10 1 8 0,e1 8 11 0 7 0,e0 8 13 2 8 0,e3 8 14 0 8 0,e3 8 15 0 13 0,e2 8 17 0 17 0,e0 8 19 4 8 0,e4 8 20 0 41 0,e0 8 24 7 7 0,e0 8 25 8 7 0,e1 8 26 0 22 0,e1 8 28 0 30 0,e2 8 30 0 32 0,e0 8 41 13 8 0,e0 8 44 14 8 0])]
noncomputable def D2:List (Nat × List Tr):=[(9,[e3 9 4 0 10 0,e3 9 5 0 10 0,e3 9 6 0 10 0,e0 9 8 6 9 0,e1 9 10 1 9 0,e0 9 11 6 9 0,e3 9 14 0 10 0,e3 9 15 0 14 0,e0 9 22 6 9 0,e0 9 23 6 9 0,e0 9 44 6 9 0]),
 (10,[e3 10 4 0 10 0,e3 10 5 0 10 0,e3 10 6 0 10 0,e0 10 8 6 10 0,e1 10 10 1 10 0,e0 10 11 6 10 0,e0 10 13 2 10 0,e3 10 14 0 10 0,e3 10 15 0 14 0,e0 10 22 6 10 0,e0 10 23 6 10 0,e0 10 44 6 10 0]),
 (11,[e1 11 10 1 11 0,e0 11 16 2 11 0]),
 (12,[e1 12 10 1 12 0,e0 12 16 2 12 0]),
 (13,[e1 13 10 1 13 0,e0 13 16 2 13 0])]
noncomputable def Ah:List (Nat × List Tr):=[(14,[e1 14 10 1 14 0,e0 14 16 2 14 0]),
 (15,[e1 15 10 1 15 0,e0 15 18 3 15 0]),
 (16,[e1 16 10 1 16 0,e0 16 18 3 16 0]),
 (17,[e1 17 10 1 17 0,e0 17 18 3 17 0]),
 (18,[e0 18 10 12 18 0,e1 18 24 0 19 0,e1 18 25 0 0 0,e1 18 28 0 45 0]),
 (19,[e0 19 24 7 19 0,e1 19 25 0 0 0,e0 19 27 7 19 0]),
 (20,[e0 20 10 12 20 0,e0 20 20 12 20 0,e1 20 24 0 21 0,e1 20 25 0 4 0,e1 20 28 0 47 0]),
 (21,[e0 21 24 7 21 0,e1 21 25 0 4 0,e0 21 27 7 21 0]),
 (22,[e0 22 10 12 22 0,e0 22 20 12 22 0,e1 22 24 0 23 0,e1 22 25 0 7 0,e1 22 28 0 49 0])]
noncomputable def Ai:List (Nat × List Tr):=[(23,[e0 23 24 7 23 0,e1 23 25 0 7 0,e0 23 27 7 23 0]),
 (24,[e0 24 10 12 24 0,e1 24 26 0 42 0,e2 24 29 9 25 0,e2 24 30 0 26 0,e2 24 31 9 25 0,e2 24 32 0 26 0,e2 24 33 9 25 0,e2 24 34 0 26 0,e2 24 35 10 33 0,e2 24 36 0 26 0]),
 (26,[e1 26 10 1 26 0,e0 26 28 11 26 0]),
 (27,[e0 27 10 12 27 0,e0 27 20 12 27 0,e1 27 26 0 43 0,e2 27 29 9 28 0,e2 27 30 0 29 0,e2 27 31 9 28 0,e2 27 32 0 29 0,e2 27 33 9 28 0,e2 27 34 0 29 0,e2 27 35 10 34 0,e2 27 36 0 29 0,e2 27 37 9 28 0,e2 27 38 0 29 0,e2 27 39 0 29 0])]
noncomputable def Aj:List (Nat × List Tr):=[(29,[e1 29 10 1 29 0,e0 29 28 11 29 0]),
 (30,[e0 30 10 12 30 0,e0 30 20 12 30 0,e1 30 26 0 44 0,e2 30 29 9 31 0,e2 30 30 0 32 0,e2 30 31 9 31 0,e2 30 32 0 32 0,e2 30 33 9 31 0,e2 30 34 0 32 0,e2 30 35 10 35 0,e2 30 36 0 32 0,e2 30 37 9 31 0,e2 30 38 0 32 0,e2 30 39 0 32 0]),
 (32,[e1 32 10 1 32 0,e0 32 28 11 32 0]),
 (36,[e1 36 10 1 36 0,e0 36 20 13 36 0]),
 (37,[e1 37 10 1 37 0,e0 37 20 13 37 0]),
 (38,[e1 38 10 1 38 0,e0 38 20 13 38 0]),
 (39,[e1 39 10 1 39 0,e0 39 20 13 39 0]),
 (40,[e1 40 10 1 40 0,e0 40 20 13 40 0]),
 (41,[e1 41 10 1 41 0,e0 41 20 13 41 0])]
noncomputable def Ak:List (Nat × List Tr):=[(42,[e1 42 25 0 24 0,e2 42 30 10 33 0]),
 (43,[e1 43 25 0 27 0,e2 43 30 10 34 0]),
 (44,[e1 44 25 0 30 0,e2 44 30 10 35 0]),
 (45,[e0 45 25 8 45 0,e2 45 30 0 46 0]),
 (46,[e1 46 25 0 26 0]),
 (47,[e0 47 25 8 47 0,e2 47 30 0 48 0]),
 (48,[e1 48 25 0 29 0]),
 (49,[e0 49 25 8 49 0,e2 49 30 0 50 0]),
 (50,[e1 50 25 0 32 0])]
noncomputable def Al:List (Nat × List Tr):=[(1000,[e0 1000 0 0 2 1,e0 1000 1 0 3 0,e0 1000 2 0 6 0,e0 1000 3 0 9 0,e3 1000 4 0 1 2,e3 1000 5 0 1 2,e3 1000 6 0 1 2,e1 1000 7 0 0 2,e1 1000 8 0 0 2,e1 1000 9 0 0 2,e1 1000 10 1 2 2,e1 1000 11 0 0 2,e3 1000 14 0 1 2,e3 1000 15 0 11 2,e2 1000 17 0 15 2,e0 1000 19 4 2 2,e0 1000 20 5 2 2,e0 1000 21 5 2 2,e0 1000 24 7 0 2,e0 1000 25 8 0 2,e1 1000 26 0 18 2,e1 1000 28 0 24 2,e2 1000 30 0 26 2])]
end Mine.T
end
section
open PySem
namespace Mine.T
noncomputable def kH:bL->MT × bL
 | .cons (.forr t _ b _) _=>(t,b)
 | .cons _ l=>kH l
 | .nil=>(.name 0 (pZ 0 0 0),.nil)
noncomputable def lb:bL:=(kH CU).2
noncomputable def lt:MT:=(kH CU).1
structure Da where
 n:Nat
 tl:List V
 rl:List V
 ps:List V
 pb:List V
 nme:V
 v1:V
 v2:V
 line:Int
 o1:Option V
 o2:Option V
 o3:Option V
 o4:Option V
noncomputable def aM (c:Nat):Rw:=match ao k7 c with
 | some r=>r
 | none=>⟨[],0,[],[],[],.none,false⟩
noncomputable def du (a:Nat):As:=match ao DR a with
 | some r=>r
 | none=>⟨0,0,[],[],false,[]⟩
noncomputable def rg:Nat->List Nat
 | 0=>[112,114,111,103,114,97,109]
 | 1=>[115,117,98,114,111,117,116,105,110,101]
 | 2=>[102,117,110,99,116,105,111,110]
 | _=>[98,108,111,99,107]
noncomputable def Cb (k:Nat) (x:V):V:=match k with
 | 0=>x
 | 1=>.str [83]
 | 2=>.str [70]
 | _=>.str [81]
noncomputable def Cd (k:Nat):V:=match k with
 | 2=>.lst [.str [88]]
 | _=>.lst []
noncomputable def D3:Nat->V
 | 0=>.tup [.str [105,102],.int 0]
 | 1=>.tup [.str [105,102],.int 1]
 | _=>.tup [.str [100,111],.int 70]
noncomputable def qf (v:V):List Int->List (V × V)
 | []=>[]
 | i :: l=>(.int i,v) :: qf v l
noncomputable def D4 (v:V):Bool->List (V × V)
 | true=>[(.str [69],.tup [v,.lst []])]
 | false=>[]
noncomputable def Hl (l:List (List Nat)):List (V × V):=l.map fun w=>(.str w,.clo 54 [.str w])
noncomputable def qg:O:=.dict (Hl [[97,115,115,105,103,110],[99,111,110,116,105,110,117,101],[99,97,108,108],[112,97,117,115,101],[114,101,97,100],[108,105,102],[103,111,116,111],[97,105,102],[115,116,111,112],[114,101,116,117,114,110],[105,102],[101,108,115,101,105,102],[101,108,115,101],[101,110,100,105,102],[101,110,100]]++[(.str [100,111],.clo 56 []),(.str [101,110,116,114,121],.clo 57 [])])
noncomputable def qh:O:=.dict (([[105,110,116,101,103,101,114],[114,101,97,108],[105,109,112,108,105,99,105,116],[99,111,109,109,111,110],[100,105,109,101,110,115,105,111,110],[115,97,118,101],[100,97,116,97],[101,120,116,101,114,110,97,108]]:List (List Nat)).map fun w=>(.str w,.clo 58 []))
noncomputable def Ce (h:Bool) (p x:List V):O:=match h with
 | true=>.list x
 | false=>.hid p x
noncomputable def xS (a:As) (D:Da) (os ob:O) (us:List V):St:=
 [.wild 0,.wild 1,.list D.tl,qg,qh,.list D.rl,.list us,.inst 0,.ns [(83,.str (rg a.kd)),(79,Cb a.kd D.nme),(78,Cd a.kd),(84,.none),(85,.obj 9),(86,.obj 10),(87,.obj 11),(88,.obj 12),(89,.obj 13),(90,.obj 14)],os,.list [],ob,.dict [],.dict (qf D.v1 a.ul),.dict (D4 D.v1 a.en),.inst 1,.ns [(92,.obj 7),(93,.obj 3),(85,.obj 4),(94,.int a.sg),(95,.obj 17),(89,.obj 18),(96,.obj 19)],.list (a.ne.map D3),.dict (qf D.v2 a.ml),.dict []]
noncomputable def tm (D:Da):St:=[.wild 0,.wild 1,.list D.tl,qg,qh,.list D.rl,.list []]
noncomputable def qi (a:Nat) (D:Da):St:=match Nat.beq a 1000 with
 | true=>tm D
 | false=>xS (du a) D (.hid D.ps []) (.hid D.pb []) []
noncomputable def k8 (a:Nat):V:=match Nat.beq a 1000 with
 | true=>.none
 | false=>.obj 15
noncomputable def lo (m:V) (a b t w:Option V):List (Option V):=[some (.obj 5),some (.obj 3),some (.obj 4),some (.obj 6),some m,a,b,t,w,none]
noncomputable def cx (l:List (Option V)):Mine.Ctx:=⟨l,20,false,B4.gl,[],[]⟩
noncomputable def Cg:List Nat:=[116,111,108,100]
noncomputable def FU (t:Tr) (D:Da):Da:={ D with
 nme:=match t.nm with | 0=>D.nme | 1=>.str [80] | _=>.str [36,77,65,73,78]
 v1:=match t.n1 with | true=>.int ((D.pb.length + 0:Nat):Int) | false=>D.v1
 v2:=match t.n2 with | true=>.int D.line | false=>D.v2 }
noncomputable def yV (t:Tr) (D:Da):List V:=match t.sp with
 | true=>[.tup [.int D.line,.tup [.str Cg,.str (aM t.c).q]]]
 | false=>[]
noncomputable def yW (t:Tr) (D:Da):List V:=match t.bd with
 | true=>[.tup [.int (aM t.c).lab,(aM t.c).s,.int D.line]]
 | false=>[]
noncomputable def mZ (t:Tr) (D:Da):aU (Mine.Flow × Mine.Loc):=rB P C1 (D.n + 60) lb (cx (lo (k8 t.a) (some (.int D.line)) (some (.int (aM t.c).lab)) (some (.str (aM t.c).r)) D.o4)) (qi t.a D)
noncomputable def Am (k:Nat):V:=match ao DS k with
 | some m=>m
 | none=>.none
noncomputable def Tr.i (t:Tr):Bool:=Nat.beq t.a 1000
noncomputable def Da.i (D:Da) (h:Bool):Da:=match h with
 | true=>{ D with ps:=[],pb:=[] }
 | false=>D
noncomputable def Ci (t:Tr) (D:Da) (us:List V):St:=xS (du t.b) (FU t (D.i t.i)) (Ce t.i D.ps (yV t D)) (Ce t.i D.pb (yW t D)) us
noncomputable def k9 (t:Tr) (D:Da):aU (Mine.Flow × Mine.Loc):=match t.h with
 | 0=>.ok (.next,lo (.obj 15) (some (.int D.line)) (some (.int (aM t.c).lab)) (some (.str (aM t.c).r)) (some (.str (aM t.c).w))) (Ci t D [])
 | 1=>.ok (.next,lo .none (some (.int D.line)) (some (.int (aM t.c).lab)) (some (.str (aM t.c).r)) (some (.str (aM t.c).w))) (Ci t D [.obj 7])
 | k + 2=>.exc 3 [(6,Am k),(7,.int D.line)] (Ci t D [])
theorem D5:(fun D=>DT.map fun p=>p.2.map fun t=>mZ t D)=fun D=>DT.map fun p=>p.2.map fun t=>k9 t D:=by kernel_rfl
theorem D6:(fun D=>DU.map fun p=>p.2.map fun t=>mZ t D)=fun D=>DU.map fun p=>p.2.map fun t=>k9 t D:=by kernel_rfl
theorem D7:(fun D=>DV.map fun p=>p.2.map fun t=>mZ t D)=fun D=>DV.map fun p=>p.2.map fun t=>k9 t D:=by kernel_rfl
theorem D8:(fun D=>DW.map fun p=>p.2.map fun t=>mZ t D)=fun D=>DW.map fun p=>p.2.map fun t=>k9 t D:=by kernel_rfl
theorem D9:(fun D=>DX.map fun p=>p.2.map fun t=>mZ t D)=fun D=>DX.map fun p=>p.2.map fun t=>k9 t D:=by kernel_rfl
theorem Eb:(fun D=>DY.map fun p=>p.2.map fun t=>mZ t D)=fun D=>DY.map fun p=>p.2.map fun t=>k9 t D:=by kernel_rfl
theorem Ec:(fun D=>DZ.map fun p=>p.2.map fun t=>mZ t D)=fun D=>DZ.map fun p=>p.2.map fun t=>k9 t D:=by kernel_rfl
theorem Ed:(fun D=>D0.map fun p=>p.2.map fun t=>mZ t D)=fun D=>D0.map fun p=>p.2.map fun t=>k9 t D:=by kernel_rfl
theorem Ee:(fun D=>D1.map fun p=>p.2.map fun t=>mZ t D)=fun D=>D1.map fun p=>p.2.map fun t=>k9 t D:=by kernel_rfl
theorem Ef:(fun D=>D2.map fun p=>p.2.map fun t=>mZ t D)=fun D=>D2.map fun p=>p.2.map fun t=>k9 t D:=by kernel_rfl
theorem Cj:(fun D=>Ah.map fun p=>p.2.map fun t=>mZ t D)=fun D=>Ah.map fun p=>p.2.map fun t=>k9 t D:=by kernel_rfl
theorem Ck:(fun D=>Ai.map fun p=>p.2.map fun t=>mZ t D)=fun D=>Ai.map fun p=>p.2.map fun t=>k9 t D:=by kernel_rfl
theorem Cm:(fun D=>Aj.map fun p=>p.2.map fun t=>mZ t D)=fun D=>Aj.map fun p=>p.2.map fun t=>k9 t D:=by kernel_rfl
theorem Cp:(fun D=>Ak.map fun p=>p.2.map fun t=>mZ t D)=fun D=>Ak.map fun p=>p.2.map fun t=>k9 t D:=by kernel_rfl
theorem Cq:(fun D=>Al.map fun p=>p.2.map fun t=>mZ t D)=fun D=>Al.map fun p=>p.2.map fun t=>k9 t D:=by kernel_rfl
noncomputable def FV:List (Nat × List Tr):=DT++(DU++(DV++(DW++(DX++(DY++(DZ++(D0++(D1++(D2++(Ah++(Ai++(Aj++(Ak++(Al))))))))))))))
noncomputable def rh:List Tr->Nat->Nat->Option Tr
 | [],_,_=>none
 | t :: l,a,c=>match Nat.beq t.c c with
  | true=>grd (Nat.beq t.a a && Nat.blt t.b 1000) (some t)
  | false=>rh l a c
noncomputable def look (a c:Nat):Option Tr:=(find FV a).bind fun l=>rh l a c
theorem oP {a c:Nat} {t':Tr}:∀ {l:List Tr},rh l a c=some t'->t'∈l/\t'.a=a/\t'.c=c/\t'.b < 1000
 | [],h=>nS h
 | t :: l,h=>by
  have h:(match Nat.beq t.c c with | true=>grd (Nat.beq t.a a && Nat.blt t.b 1000) (some t) | false=>rh l a c)=some t':=h
  cases q:Nat.beq t.c c with
  | true=>
   rw [q] at h
   refine ai (aO h) fun h1 h2=>?_
   replace h2:=oi h2; subst h2
   exact ⟨.head _,A4 (aD h1),A4 q,A5 (al h1)⟩
  | false=>
   rw [q] at h
   refine ai (oP h) fun h1 h2=>?_
   exact ⟨.tail _ h1,h2⟩
theorem rk {α:Type}:∀ {l:List (Nat × α)} {a:Nat} {x:α},find l a=some x->∃ p∈l,p.2=x
 | p :: l,a,x,h=>by
  have h:(match Nat.beq p.1 a with | true=>some p.2 | false=>find l a)=some x:=h
  cases q:Nat.beq p.1 a with
  | true=>rw [q] at h; exact (ax p (.head _) (oi h))
  | false=>
   rw [q] at h
   refine ae (rk h) fun p' h1 h2=>?_
   exact (ax p' (.tail _ h1) h2)
noncomputable def kI (l:List (Nat × List Tr)):Prop:=∀ p∈l,∀ t∈p.2,∀ D,mZ t D=k9 t D
theorem eC {α β:Type} {f g:α->β}:∀ {l:List α},l.map f=l.map g->∀ x∈l,f x=g x
 | [],_,_,m=>nomatch m
 | y :: l,h,x,m=>(A7 m).elim (fun e=>e▸(List.cons.inj h).1) fun m=>eC (List.cons.inj h).2 x m
theorem cU {l:List (Nat × List Tr)} (h:(fun D=>l.map fun p=>p.2.map fun t=>mZ t D)=fun D=>l.map fun p=>p.2.map fun t=>k9 t D):kI l:=fun p hp t ht D=>eC (eC (congrFun h D) p hp) t ht
theorem cu {l m:List (Nat × List Tr)} (h:kI l) (k:kI m):kI (l++m):=fun p hp=>(A3 hp).elim (h p) (k p)
theorem vQ:kI FV:=cu (cU D5) (cu (cU D6) (cu (cU D7) (cu (cU D8) (cu (cU D9) (cu (cU Eb) (cu (cU Ec) (cu (cU Ed) (cu (cU Ee) (cu (cU Ef) (cu (cU Cj) (cu (cU Ck) (cu (cU Cm) (cu (cU Cp) (cU Cq))))))))))))))
theorem xT {a c:Nat} {t:Tr} (h:look a c=some t):(∀ D,mZ t D=k9 t D)/\t.a=a/\t.c=c/\t.b < 1000:=by
 refine ae (bnd h) fun l h1 h2=>?_
 refine ae (rk h1) fun p hp zq1=>?_; subst zq1
 refine ai (oP h2) fun k1 k2=>?_
 exact ⟨vQ p hp t k1,k2⟩
noncomputable def oZ (a:Nat) (D:Da) (us:List V):St:=xS (du a) D (.list D.ps) (.list D.pb) us
noncomputable def we (a:Nat) (D:Da):St:=match Nat.beq a 1000 with
 | true=>tm D
 | false=>oZ a D []
noncomputable def o0 (t:Tr) (D:Da):Da:={ FU t (D.i t.i) with ps:=(D.i t.i).ps++yV t D,pb:=(D.i t.i).pb++yW t D }
theorem xU (a:As) (D:Da) (os ob:O) (us:List V):bH (xS a D os ob us)=xS a D (un os) (un ob) us:=rfl
theorem jx {o:O} {s:St} (a:Bv o) (b:wf s):wf (o :: s):=fun x m=>(A7 m).elim (fun e=>e▸a) (b x)
theorem vR:wf []:=fun HC m=>nomatch m
theorem xV (a:Nat) (D:Da):bH (qi a D)=we a D:=by
 unfold qi we
 cases Nat.beq a 1000 with
 | true=>rfl
 | false=>
  show xS (du a) D (.list (D.ps++[])) (.list (D.pb++[])) []=_
  rw [List.append_nil,List.append_nil]; rfl
theorem qj (t:Tr) (D:Da) (us:List V):bH (Ci t D us)=oZ t.b (o0 t D) us:=by
 unfold Ci
 rw [xU]
 show xS _ _ _ _ _=xS (du t.b) (o0 t D) (.list ((D.i t.i).ps++yV t D)) (.list ((D.i t.i).pb++yW t D)) us
 unfold o0
 cases t.i <;> rfl
theorem xW (a:Nat) (D:Da) (h1:D.ps.length<=1000) (h2:D.pb.length<=1000):wf (qi a D):=by
 unfold qi
 cases Nat.beq a 1000 with
 | true=>repeat first | exact vR | refine jx trivial ?_
 | false=>
  dsimp only [xS,qg,qh]
  repeat first | exact vR | refine jx trivial ?_ | refine jx h1 ?_ | refine jx h2 ?_
noncomputable def CY (t:Tr) (D:Da):aU (Mine.Flow × Mine.Loc):=match t.h with
 | 0=>.ok (.next,lo (.obj 15) (some (.int D.line)) (some (.int (aM t.c).lab)) (some (.str (aM t.c).r)) (some (.str (aM t.c).w))) (oZ t.b (o0 t D) [])
 | 1=>.ok (.next,lo .none (some (.int D.line)) (some (.int (aM t.c).lab)) (some (.str (aM t.c).r)) (some (.str (aM t.c).w))) (oZ t.b (o0 t D) [.obj 7])
 | k + 2=>.exc 3 [(6,Am k),(7,.int D.line)] (oZ t.b (o0 t D) [])
theorem s9 {t:Tr} (h:∀ D,mZ t D=k9 t D) (D:Da) (h1:D.ps.length<=1000) (h2:D.pb.length<=1000) :
  rB P C1 (D.n + 60) lb (cx (lo (k8 t.a) (some (.int D.line)) (some (.int (aM t.c).lab)) (some (.str (aM t.c).r)) D.o4)) (we t.a D)=CY t D:=by
 have S:=(q8 (P:=P) (C:=C1) (D.n + 60)).b lb (cx (lo (k8 t.a) (some (.int D.line)) (some (.int (aM t.c).lab)) (some (.str (aM t.c).r)) D.o4)) (qi t.a D) (xW _ _ h1 h2)
 rw [xV] at S
 have e:(run P C1 (D.n + 60)).b lb (cx (lo (k8 t.a) (some (.int D.line)) (some (.int (aM t.c).lab)) (some (.str (aM t.c).r)) D.o4)) (qi t.a D)=k9 t D:=h D
 rw [e] at S
 show (run P C1 (D.n + 60)).b lb _ _=_
 unfold k9 at S
 unfold CY
 match t.h,S with
 | 0,S=>rw [S.2,qj]
 | 1,S=>rw [S.2,qj]
 | k + 2,S=>rw [S.2,qj]
inductive Rs where
 | bad
 | ref (i:Nat)
 | fin (k b:Nat)
noncomputable def bn (t:Tr):Nat:=match t.bd with
 | true=>1
 | false=>0
noncomputable def Rs.up (b:Nat):Rs->Rs
 | .bad=>.bad
 | .ref i=>.ref (i + 1)
 | .fin k c=>.fin k (b + c)
noncomputable def dM:Nat->List Nat->Rs
 | _,[]=>.bad
 | a,c :: cs=>match look a c with
  | none=>.bad
  | some t=>match t.h with
   | 0=>(dM t.b cs).up (bn t)
   | 1=>match cs with
    | []=>.fin (du t.b).kd (bn t)
    | _ :: _=>.bad
   | _=>.ref 0
noncomputable def td (g:Int) (i:Nat) (c:Nat):V:=.tup [.int (3 + g * (i:Int)),.int (aM c).lab,.str (aM c).r]
noncomputable def bV (g:Int):Nat->List Nat->List V
 | _,[]=>[]
 | i,c :: cs=>td g i c :: bV g (i + 1) cs
noncomputable def eD:Nat->V->Bool
 | 0,_=>false
 | n + 1,v=>match v with
  | .tup l=>l.all (eD n)
  | .lst l=>l.all (eD n)
  | .clo _ l=>l.all (eD n)
  | .obj k=>Nat.ble 2 k
  | .exc ..=>false
  | .rng ..=>false
  | _=>true
structure iG (D:Da):Prop where
 tl:D.tl.all (eD 9)=true
 rl:D.rl.all (eD 9)=true
 ps:D.ps.all (eD 9)=true
 pb:D.pb.all (eD 9)=true
 nme:eD 9 D.nme=true
 v1:eD 8 D.v1=true
 v2:eD 9 D.v2=true
theorem qk:∀ (n:Nat) (v:V),eD n v=true->eD (n + 1) v=true
 | n + 1,v,h=>by
  have all:∀ l:List V,l.all (eD n)=true->l.all (eD (n + 1))=true:=fun l h=>List.all_eq_true.mpr fun x m=>qk n x (A6 h x m)
  cases v with
  | tup l=>exact all l h
  | lst l=>exact all l h
  | clo i l=>exact all l h
  | _=>exact h
theorem Cr (c:Nat):eD 7 (aM c).s=true:=by
 unfold aM
 cases q:ao k7 c with
 | none=>rfl
 | some r=>exact A6 (show k7.all (fun r=>eD 7 r.s)=true by kernel_rfl) r (aT q)
theorem iG.next {D:Da} (h:iG D) (t:Tr):iG (o0 t D):=by
 have hi:(D.i t.i).ps.all (eD 9)=true/\(D.i t.i).pb.all (eD 9)=true:=by
  cases t.i
  ·exact ⟨h.ps,h.pb⟩
  ·exact ⟨rfl,rfl⟩
 have hj:(D.i t.i).tl=D.tl/\(D.i t.i).rl=D.rl/\(D.i t.i).nme=D.nme/\(D.i t.i).v1=D.v1/\(D.i t.i).v2=D.v2/\(D.i t.i).line=D.line:=by
  cases t.i <;> exact ⟨rfl,rfl,rfl,rfl,rfl,rfl⟩
 obtain ⟨j1,j2,j3,j4,j5,j6⟩:=hj
 refine ⟨?_,?_,?_,?_,?_,?_,?_⟩
 ·show (D.i t.i).tl.all _=true; rw [j1]; exact h.tl
 ·show (D.i t.i).rl.all _=true; rw [j2]; exact h.rl
 ·show ((D.i t.i).ps++yV t D).all _=true
  rw [List.all_append,hi.1]
  unfold yV
  cases t.sp <;> rfl
 ·show ((D.i t.i).pb++yW t D).all _=true
  rw [List.all_append,hi.2]
  unfold yW
  cases t.bd with
  | false=>rfl
  | true=>
   show ((true && (eD 8 (aM t.c).s && true)) && true)=true
   rw [qk _ _ (Cr t.c)]; rfl
 ·show eD 9 (match t.nm with | 0=>(D.i t.i).nme | 1=>_ | _=>_)=true
  match t.nm with
  | 0=>exact j3▸h.nme
  | 1=>rfl
  | _ + 2=>rfl
 ·show eD 8 (match t.n1 with | true=>_ | false=>(D.i t.i).v1)=true
  cases t.n1
  ·exact j4▸h.v1
  ·rfl
 ·show eD 9 (match t.n2 with | true=>_ | false=>(D.i t.i).v2)=true
  cases t.n2
  ·exact j5▸h.v2
  ·rfl
theorem xX (t:Tr) (D:Da):(yW t D).length=bn t:=by
 unfold yW bn
 cases t.bd <;> rfl
theorem xY (t:Tr) (D:Da):(yV t D).length<=1:=by
 unfold yV
 cases t.sp
 ·exact Nat.zero_le _
 ·exact Nat.le_refl _
theorem Ct (t:Tr):bn t<=1:=by
 unfold bn
 cases t.bd
 ·exact Nat.zero_le _
 ·exact Nat.le_refl _
noncomputable def Lp (N p:Nat) (m:V) (a b t w:Option V) (s:St):aU (Mine.Flow × Mine.Loc):=rF P C1 N lt (.obj 5 p) lb (cx (lo m a b t w)) s
theorem vS {s:St} {l:List V} {p:Nat} (h:ao s 5=some (.list l)):bx (.obj 5 p) s=some ((ao l p).map fun v=>(v,.obj 5 (p + 1))):=by
 show (jk (ao s 5)).map _=_
 rw [h]; rfl
theorem Eg (a:Nat) (D:Da):ao (we a D) 5=some (.list D.rl):=by
 unfold we
 cases Nat.beq a 1000 <;> rfl
theorem xZ (r:dv) (m:V) (a b t w:Option V) (va vb vt:V) (s:St):assign C1 r lt (.tup [va,vb,vt]) (cx (lo m a b t w)) s = .ok (lo m (some va) (some vb) (some vt) w) s:=rfl
noncomputable def Hm (n p:Nat) (o:aU (Mine.Flow × Mine.Loc)):aU (Mine.Flow × Mine.Loc):=o.bind fun fl s=>match fl.1 with
 | .next=>rF P C1 n lt (.obj 5 p) lb (cx fl.2) s
 | .cont=>rF P C1 n lt (.obj 5 p) lb (cx fl.2) s
 | .brk=>.ok (.next,fl.2) s
 | .ret v=>.ok (.ret v,fl.2) s
theorem fw {n p:Nat} {l:List V} {m:V} {a b t w:Option V} {va vb vt:V} {s:St} (h:ao s 5=some (.list l)) (hp:ao l p=some (.tup [va,vb,vt])) :
  Lp (n + 1) p m a b t w s=Hm n (p + 1) (rB P C1 n lb (cx (lo m (some va) (some vb) (some vt) w)) s):=by
 have e:bx (.obj 5 p) s=some (some (.tup [va,vb,vt],.obj 5 (p + 1))):=by rw [vS h,hp]; rfl
 refine (cD e).trans ?_
 show (assign C1 (run P C1 n) lt (.tup [va,vb,vt]) (cx (lo m a b t w)) s).bind _=_
 rw [xZ]; rfl
theorem last {n p:Nat} {l:List V} {m:V} {a b t w:Option V} {s:St} (h:ao s 5=some (.list l)) (hp:ao l p=none):Lp (n + 1) p m a b t w s = .ok (.next,lo m a b t w) s:=by
 have e:bx (.obj 5 p) s=some none:=by rw [vS h,hp]; rfl
 exact cD e
theorem rm {l:List V} {p:Nat} {v:V} {m:List V} (h:l.drop p=v :: m):ao l p=some v/\l.drop (p + 1)=m:=by
 constructor
 ·rw [aJ]
  have:=congrArg (fun z:List V=>z[0]?) h
  simpa [List.getElem?_drop] using this
 ·have:(l.drop p).drop 1=m:=by rw [h]; rfl
  rw [List.drop_drop] at this
  exact this
theorem vT {l:List V} {p:Nat} (h:l.drop p=[]):ao l p=none:=by
 rw [aJ]
 have:=congrArg (fun z:List V=>z[0]?) h
 simpa [List.getElem?_drop] using this
noncomputable def ji (g:Int) (p b0:Nat) (o:aU (Mine.Flow × Mine.Loc)):Rs->Prop
 | .bad=>True
 | .ref i=>∃ m a D,o = .exc 3 [(6,m),(7,.int (3 + g * ((p + i:Nat):Int)))] (oZ a D [])/\iG D
 | .fin k b=>∃ (l:Option V × Option V × Option V × Option V) (a:Nat) (D:Da),o = .ok (.next,lo .none l.1 l.2.1 l.2.2.1 l.2.2.2) (oZ a D [.obj 7])/\iG D/\(du a).kd=k/\D.pb.length=b0 + b
theorem ji.up {g:Int} {p b0 b:Nat} {o:aU (Mine.Flow × Mine.Loc)}:∀ {r:Rs},ji g (p + 1) (b0 + b) o r->ji g p b0 o (r.up b)
 | .bad,_=>trivial
 | .ref i,r=>by
  refine fE r fun m a D h h'=>?_; clear r
  exact (hM m a D (by rw [h,Nat.add_right_comm p 1 i]; rfl) h')
 | .fin k c,r=>by
  refine eS r fun l a D h1 h2 h3 h4=>?_; clear r
  exact (fF l a D h1 h2 h3 (by rw [h4]; exact Nat.add_assoc _ _ _))
theorem rn (g:Int):∀ (cs:List Nat) (a:Nat) (D:Da) (p n:Nat) (x y z w:Option V),D.rl.drop p=bV g p cs->iG D->(Nat.beq a 1000=true->D.pb=[])->D.ps.length + D.pb.length + cs.length * 2<=1000 ->
  ji g p D.pb.length (Lp (n + cs.length + 61) p (k8 a) x y z w (we a D)) (dM a cs)
 | [],_,_,_,_,_,_,_,_,_,_,_,_=>trivial
 | c :: cs,a,D,p,n,x,y,z,w,hr,hG,hI,hn=>by
  show ji _ _ _ _ (match look a c with | none=>_ | some t=>_)
  cases hl:look a c with
  | none=>exact trivial
  | some t=>
   dsimp only
   obtain ⟨hs,zq1,zq2,hb⟩:=(xT hl); subst zq1; subst zq2
   refine ai (rm (show D.rl.drop p=td g p t.c :: bV g (p + 1) cs from hr)) fun e1 e2=>?_
   rw [List.length_cons] at hn
   have tr:=fw (n:=n + (cs.length + 1) + 60) (m:=k8 t.a) (a:=x) (b:=y) (t:=z) (w:=w) (Eg t.a D) e1
   let D':Da:={ D with n:=n + (cs.length + 1),line:=3 + g * (p:Int),o4:=w }
   have rs:=s9 hs D' (show D.ps.length<=1000 by omega) (show D.pb.length<=1000 by omega)
   have rs:rB P C1 (n + (cs.length + 1) + 60) lb (cx (lo (k8 t.a) (some (.int (3 + g * (p:Int)))) (some (.int (aM t.c).lab)) (some (.str (aM t.c).r)) w)) (we t.a D)=CY t D':=rs
   rw [rs] at tr
   have G':iG D':=⟨hG.tl,hG.rl,hG.ps,hG.pb,hG.nme,hG.v1,hG.v2⟩
   have Gn:=G'.next t
   have hrl:(o0 t D').rl=D.rl:=by
    show (D'.i t.i).rl=D.rl
    cases t.i <;> rfl
   have hpb:(o0 t D').pb.length=D.pb.length + bn t:=by
    show ((D'.i t.i).pb++yW t D').length=_
    rw [List.length_append,xX]
    have:(D'.i t.i).pb=D.pb:=by
     cases q:t.i with
     | false=>rfl
     | true=>exact (hI q).symm
    rw [this]
   have hps:(o0 t D').ps.length<=D.ps.length + 1:=by
    show ((D'.i t.i).ps++yV t D').length<=_
    rw [List.length_append]
    have h1:=xY t D'
    have:(D'.i t.i).ps.length<=D.ps.length:=by
     cases t.i
     ·exact Nat.le_refl _
     ·exact Nat.zero_le _
    omega
   have h0:Nat.beq t.b 1000=false:=by
    cases q:Nat.beq t.b 1000 with
    | false=>rfl
    | true=>rw [A4 q] at hb; exact absurd hb (Nat.lt_irrefl _)
   have e15:k8 t.b = .obj 15:=by unfold k8; rw [h0]
   have eR:we t.b (o0 t D')=oZ t.b (o0 t D') []:=by unfold we; rw [h0]
   show ji g p D.pb.length (Lp (n + (cs.length + 1) + 60 + 1) p (k8 t.a) x y z w (we t.a D)) _
   rw [tr]
   unfold CY
   generalize t.h=th
   match th with
   | 0=>
    refine ji.up ?_
    have ih:=rn g cs t.b (o0 t D') (p + 1) n (some (.int (3 + g * (p:Int)))) (some (.int (aM t.c).lab)) (some (.str (aM t.c).r)) (some (.str (aM t.c).w)) (by rw [hrl]; exact e2) Gn (fun q=>by rw [h0] at q; exact fT q) (by have:=Ct t; omega)
    rw [hpb,e15,eR] at ih
    exact ih
   | 1=>
    cases cs with
    | cons _ _=>exact trivial
    | nil=>
     refine (fF (some (.int (3 + g * (p:Int))),some (.int (aM t.c).lab),some (.str (aM t.c).r),some (.str (aM t.c).w)) t.b (o0 t D') ?_ Gn rfl hpb)
     exact last (n:=n + 60) (l:=D.rl) (show ao (oZ t.b (o0 t D') [.obj 7]) 5=_ by rw [<- hrl]; rfl) (vT e2)
   | k + 2=>exact (hM (Am k) t.b (o0 t D') rfl Gn)
noncomputable def wg:bL:=(kH B3).2
noncomputable def CZ:MT:=(kH B3).1
noncomputable def nh:bL->bL
 | .cons _ l=>l
 | .nil=>.nil
noncomputable def bB:bL->ME
 | .cons (.asg _ e _) _=>e
 | .cons (.expr e _) _=>e
 | .cons (.ret e _) _=>e
 | .cons (.tryr e _ _ _ _ _ _ _) _=>e
 | _=>.glob 0 (pZ 0 0 0)
noncomputable def b8:ME->bP
 | .meth _ _ _ l _=>l
 | .callg _ _ l _=>l
 | .tup l _ _=>l
 | _=>.nil
noncomputable def gq:bP->ME
 | .cons e _=>e
 | .nil=>.glob 0 (pZ 0 0 0)
noncomputable def ya:bP->bP
 | .cons _ l=>l
 | .nil=>.nil
structure Ea where
 n:Nat
 a0:Option V
 a1:Option V
 a2:Option V
 a3:Option V
 a5:Option V
 s:St
noncomputable abbrev cr (l:List (Option V)):Mine.Ctx:=⟨l,20,false,B6.gl,[],[]⟩
noncomputable def e5:ME:=bB (nh wg)
noncomputable def e6:ME:=gq (ya (ya (b8 (gq (b8 (bB (nh (nh wg))))))))
theorem yb:(fun a:Ea=>k7.map fun r=>rE P C1 (a.n + 15) e5 (cr [a.a0,a.a1,a.a2,a.a3,some (.str r.t),a.a5]) a.s)=fun a:Ea=>k7.map fun r=>aU.ok (.int r.lab) a.s:=by kernel_rfl
theorem vU:(fun a:Ea=>k7.map fun r=>rE P C1 (a.n + 15) e6 (cr [a.a0,a.a1,a.a2,a.a3,some (.str r.t),some (.int r.lab)]) a.s)=fun a:Ea=>k7.map fun r=>aU.ok (.str r.r) a.s:=by kernel_rfl
theorem vV {c:Nat} (h:c < 45):aM c∈k7:=by
 have hl:k7.length=45:=by kernel_rfl
 refine ay (dh (l:=k7) (k:=c) (by rw [hl]; exact h)) fun r hr=>?_
 unfold aM
 rw [hr]; exact aT hr
theorem An {c:Nat} (h:c < 45) (n:Nat) (a0 a1 a2 a3 a5:Option V) (s:St):rE P C1 (n + 15) e5 (cr [a0,a1,a2,a3,some (.str (aM c).t),a5]) s = .ok (.int (aM c).lab) s:=eC (congrFun yb ⟨n,a0,a1,a2,a3,a5,s⟩) _ (vV h)
theorem yc {c:Nat} (h:c < 45) (n:Nat) (a0 a1 a2 a3:Option V) (s:St):rE P C1 (n + 15) e6 (cr [a0,a1,a2,a3,some (.str (aM c).t),some (.int (aM c).lab)]) s = .ok (.str (aM c).r) s:=eC (congrFun vU ⟨n,a0,a1,a2,a3,none,s⟩) _ (vV h)
noncomputable def fy (tl rl:List V):St:=[.wild 0,.wild 1,.list tl,qg,qh,.list rl]
theorem gA {l:List V} {i:Nat} {v:V} (h:ao l i=some v) (hi:i<=100000):item l (i:Int)=some v:=by
 unfold item
 rw [if_pos (Int.natCast_nonneg i),if_pos (by omega)]
 exact h
theorem ql {x y:Int} {s:St} (h:x.natAbs<=1000000/\y.natAbs<=1000000):eG .Mult (.int x) (.int y) s = .ok (.int (x * y)) s:=by
 show dN (grd (decide (x.natAbs<=1000000/\y.natAbs<=1000000)) _) s=_
 rw [decide_eq_true h]; rfl
theorem yd {tl rl:List V} {g:Int} (hg:1<=g/\g<=4) {i c:Nat} (hc:c < 45) (hi:i<=1000) (ht:ao tl i=some (.str (aM c).t)) (hl:rl.length<=1000) (n:Nat) (x y:Option V) :
  rB P C1 (n + 20) wg (cr [some (.obj 2),some (.int g),some (.obj 5),some (.int i),x,y]) (fy tl rl) = .ok (.next,[some (.obj 2),some (.int g),some (.obj 5),some (.int i),some (.str (aM c).t),some (.int (aM c).lab)]) (fy tl (rl++[td g i c])):=by
 have h1:rE P C1 (n + 19) (bB wg) (cr [some (.obj 2),some (.int g),some (.obj 5),some (.int i),x,y]) (fy tl rl) = .ok (.str (aM c).t) (fy tl rl):=by
  show dN (sub (.obj 2) (.int i) (fy tl rl)) (fy tl rl)=_
  rw [show sub (.obj 2) (.int i) (fy tl rl)=item tl (i:Int) from rfl,gA ht (by omega)]; rfl
 have h2:=An hc (n + 3) (some (.obj 2)) (some (.int g)) (some (.obj 5)) (some (.int i)) y (fy tl rl)
 have h3:=yc hc n (some (.obj 2)) (some (.int g)) (some (.obj 5)) (some (.int i)) (fy tl rl)
 refine (cm (n:=n + 19) (C:=C1) (l₁:=[some (.obj 2),some (.int g),some (.obj 5),some (.int i),some (.str (aM c).t),y]) (s₂:=fy tl rl) _ _ _ _ rfl h1 rfl).trans ?_
 refine (cm (n:=n + 18) (C:=C1) (l₁:=[some (.obj 2),some (.int g),some (.obj 5),some (.int i),some (.str (aM c).t),some (.int (aM c).lab)]) (s₂:=fy tl rl) _ _ _ _ rfl h2 rfl).trans ?_
 refine (z3 (n:=n + 17) (C:=C1) _ _ _ rfl).trans ?_
 refine (congrArg (aU.bind · _) (BM (n:=n + 16) (C:=C1) (k:=5) (ys:=rl) (s':=fy tl rl) _ _ _ _ _ rfl rfl rfl rfl)).trans ?_
 have h4:rE P C1 (n + 16) (gq (b8 (bB (nh (nh wg))))) (cr [some (.obj 2),some (.int g),some (.obj 5),some (.int i),some (.str (aM c).t),some (.int (aM c).lab)]) (fy tl rl) = .ok (td g i c) (fy tl rl):=by
  have k1:rE P C1 (n + 15) (gq (b8 (gq (b8 (bB (nh (nh wg))))))) (cr [some (.obj 2),some (.int g),some (.obj 5),some (.int i),some (.str (aM c).t),some (.int (aM c).lab)]) (fy tl rl) = .ok (.int (3 + g * (i:Int))) (fy tl rl):=by
   show (eG .Mult (.int g) (.int i) (fy tl rl)).bind _=_
   rw [ql ⟨by have:=hg; omega,CN (Nat.le_trans hi (by decide))⟩]; rfl
  exact aC (bR k1 (bR (v:=.int (aM c).lab) (s1:=fy tl rl) rfl (bR h3 cQ))) rfl
 exact aC (aC h4 (z4 (s:=fy tl rl) rfl (Nat.le_trans hl (by decide)))) rfl
noncomputable def aF (c:Nat):V:=.str (aM c).t
noncomputable def wh:Nat->Nat->List V
 | _,0=>[]
 | i,k + 1=>.int (i:Int) :: wh (i + 1) k
theorem i3:∀ (k i:Nat),(List.range' i k).map (fun j:Nat=>V.int (0 + (j:Int)))=wh i k
 | 0,_=>rfl
 | k + 1,i=>by
  rw [List.range'_succ,List.map_cons,i3 k (i + 1),Int.zero_add]; rfl
theorem rA {tl:List V} {g:Int} (hg:1<=g/\g<=4):∀ (cs:List Nat) (i n:Nat) (rl:List V) (x y z:Option V),(∀ c∈cs,c < 45)->tl.drop i=cs.map aF->i + cs.length<=100->rl.length + cs.length<=1000 ->
  ∃ x' y' z',rF P C1 (n + cs.length + 20) CZ (.seq 3 (wh i cs.length)) wg (cr [some (.obj 2),some (.int g),some (.obj 5),x,y,z]) (fy tl rl) = .ok (.next,[some (.obj 2),some (.int g),some (.obj 5),x',y',z']) (fy tl (rl++bV g i cs))
 | [],i,n,rl,x,y,z,_,_,_,_=>⟨x,y,z,by rw [show bV g i []=[] from rfl,List.append_nil]; exact BF (n:=n + 19) (C:=C1) CZ (.seq 3 []) wg rfl⟩
 | c :: cs,i,n,rl,x,y,z,hc,ht,hi,hl=>by
  rw [List.length_cons] at hi hl
  refine cL fun HC kG=>?_
  refine ai (rm (show tl.drop i=aF c :: cs.map aF from ht)) fun e1 e2=>?_
  obtain ⟨x',y',z',ih⟩:=(rA hg cs (i + 1) n (rl++[td g i c]) (some (.int i)) (some (.str (aM c).t)) (some (.int (aM c).lab)) (fun d m=>hc d (.tail _ m)) e2 (by omega) (by rw [List.length_append]; show rl.length + 1 + _<=_; omega))
  refine kG ?_
  refine ⟨x',y',z',?_⟩
  have ht:=yd (rl:=rl) hg (hc c (.head _)) (i:=i) (by omega) e1 (by omega) (n + cs.length) y z
  refine (z1 (n:=n + cs.length + 20) (C:=C1) CZ (.seq 3 (.int i :: wh (i + 1) cs.length)) (.seq 3 (wh (i + 1) cs.length)) wg (v:=.int i) rfl).trans ?_
  refine aC (v:=[some (.obj 2),some (.int g),some (.obj 5),some (.int i),y,z]) (s1:=fy tl rl) rfl ?_
  refine aC ht ?_
  rw [List.append_assoc] at ih
  exact ih
noncomputable def wi (tl:List V):St:=[.wild 0,.wild 1,.list tl,qg,qh]
noncomputable def rD:bL->ME
 | .cons (.forr _ it _ _) _=>it
 | .cons _ l=>rD l
 | .nil=>.glob 0 (pZ 0 0 0)
theorem rG {tl:List V} {g:Int} (hg:1<=g/\g<=4) {cs:List Nat} (hc:∀ c∈cs,c < 45) (ht:tl=cs.map aF) (hl:cs.length<=100) (n:Nat) :
  rC P C1 (n + cs.length + 30) 59 [.obj 2,.int g] 20 false (wi tl) = .ok (.obj 5) (fy tl (bV g 0 cs)):=by
 obtain ⟨x',y',z',hL⟩:=(rA (tl:=tl) hg cs 0 (n + 7) [] none none none hc ht (by omega) (by show 0 + _<=_; omega))
 have hlen:tl.length=cs.length:=by rw [ht,List.length_map]
 refine (CQ (n:=n + cs.length + 29) (C:=C1) 59 _ _ _ (f:=B6) rfl rfl).trans ?_
 have hb:Nat.ble tl.length aP=true:=Nat.ble_eq_true_of_le (by rw [hlen]; exact Nat.le_trans hl (by decide))
 have hr:rE P C1 (n + cs.length + 27) (rD B3) (cr [some (.obj 2),some (.int g),some (.obj 5),none,none,none]) (fy tl []) = .ok (.rng 0 cs.length) (fy tl []):=by
  refine (iD (n:=n + cs.length + 26) (C:=C1) _ 1 _ _ _ rfl rfl rfl rfl).trans ?_
  have k:rE P C1 (n + cs.length + 26) (gq (b8 (rD B3))) (cr [some (.obj 2),some (.int g),some (.obj 5),none,none,none]) (fy tl []) = .ok (.int cs.length) (fy tl []):=by
   refine (iD (n:=n + cs.length + 25) (C:=C1) _ 0 _ _ _ rfl rfl rfl rfl).trans ?_
   refine aC (bR (v:=.obj 2) (s1:=fy tl []) rfl cQ) ?_
   show dN (gK tl.length) _=_
   unfold gK
   rw [hb,hlen]; rfl
  refine aC (bR k cQ) ?_
  show dN (grd (decide (-1000<=(cs.length:Int)/\(cs.length:Int)<=100000)) _) _=_
  rw [decide_eq_true (show -1000<=(cs.length:Int)/\(cs.length:Int)<=100000 from by omega)]; rfl
 refine aC (v:=(.ret (.obj 5),[some (.obj 2),some (.int g),some (.obj 5),x',y',z'])) (s1:=fy tl (bV g 0 cs)) ?_ rfl
 refine (cm (n:=n + cs.length + 28) (C:=C1) (l₁:=[some (.obj 2),some (.int g),some (.obj 5),none,none,none]) (v:=.obj 5) (s₁:=fy tl []) (s₂:=fy tl []) _ _ _ _ rfl rfl rfl).trans ?_
 refine (vJ (n:=n + cs.length + 27) (C:=C1) _ _ _ _ _ rfl hr (q:=.seq 3 (wh 0 cs.length)) ?_).trans ?_
 ·show grd (decide (0<=(0:Int)/\(0:Int)<=100000/\-1000<=(cs.length:Int)/\(cs.length:Int)<=100000)) _=_
  rw [decide_eq_true (show 0<=(0:Int)/\(0:Int)<=100000/\-1000<=(cs.length:Int)/\(cs.length:Int)<=100000 from by omega),Int.sub_zero,Int.toNat_natCast,List.range_eq_range',i3]; rfl
 ·refine aC (show rF P C1 (n + cs.length + 27) CZ _ wg (cr [some (.obj 2),some (.int g),some (.obj 5),none,none,none]) (fy tl []) = .ok (.next,[some (.obj 2),some (.int g),some (.obj 5),x',y',z']) (fy tl (bV g 0 cs)) from ?_) rfl
  rw [show n + cs.length + 27=n + 7 + cs.length + 20 by omega]; exact hL
noncomputable def Ho:bL:=nh (nh (nh (nh CU)))
noncomputable def tn (tl rl:List V):Da:=⟨0,tl,rl,[],[],.none,.none,.none,0,none,none,none,none⟩
theorem all_map {α β:Type} {f:α->β} {p:β->Bool} {l:List α} (h:∀ x∈l,p (f x)=true):(l.map f).all p=true:=List.all_eq_true.mpr fun y m=>let ⟨x,hx,e⟩:=List.mem_map.mp m; e▸h x hx
theorem vW (g:Int):∀ (cs:List Nat) (i:Nat),(bV g i cs).all (eD 9)=true
 | [],_=>rfl
 | c :: cs,i=>by
  show (eD 9 (td g i c) && (bV g (i + 1) cs).all (eD 9))=true
  rw [vW g cs (i + 1)]; rfl
theorem Cu {cs:List Nat} {tl:List V} {g:Int} (ht:tl=cs.map aF):iG (tn tl (bV g 0 cs)):=
 ⟨ht▸all_map fun HC HC=>rfl,vW g cs 0,rfl,rfl,rfl,rfl,rfl⟩
noncomputable def Ao (g:Int) (o:aU V) (v:V) (us:List V):Rs->Prop
 | .bad=>True
 | .ref i=>∃ m a D,o = .exc 3 [(6,m),(7,.int (3 + g * ((0 + i:Nat):Int)))] (oZ a D [])/\iG D
 | .fin k b=>∃ a D,o = .ok v (oZ a D us)/\iG D/\(du a).kd=k/\D.pb.length=0 + b
theorem oQ {cs:List Nat} {tl:List V} {g:Int} (ht:tl=cs.map aF) (hl:cs.length<=100) (n:Nat) :
  Ao g (rC P C1 (n + cs.length + 70) 48 [.obj 5,.obj 3,.obj 4] 20 false (fy tl (bV g 0 cs))) (.obj 6) [.obj 7] (dM 1000 cs):=by
 have hL:=rn g cs 1000 (tn tl (bV g 0 cs)) 0 (n + 4) (some (.int 0)) none none none rfl (Cu ht) (fun HC=>rfl) (by show 0 + 0 + _<=_; omega)
 have e:rC P C1 (n + cs.length + 70) 48 [.obj 5,.obj 3,.obj 4] 20 false (fy tl (bV g 0 cs))=(((Lp (n + 4 + cs.length + 61) 0 .none (some (.int 0)) none none none (tm (tn tl (bV g 0 cs)))).bind fun fl s=>match fl.1 with
    | .next=>rB P C1 (n + cs.length + 65) Ho (cx fl.2) s
    | _=>.ok fl s):aU (Mine.Flow × Mine.Loc)).bind fC:=by
  refine (CQ (n:=n + cs.length + 69) (C:=C1) 48 _ _ _ (f:=B4) rfl rfl).trans (congrArg (aU.bind · fC) ?_)
  refine (cm (n:=n + cs.length + 68) (C:=C1) (l₁:=[some (.obj 5),some (.obj 3),some (.obj 4),some (.obj 6),none,none,none,none,none,none]) (v:=.obj 6) (s₁:=tm (tn tl (bV g 0 cs))) (s₂:=tm (tn tl (bV g 0 cs))) _ _ _ _ rfl rfl rfl).trans ?_
  refine (cm (n:=n + cs.length + 67) (C:=C1) (l₁:=[some (.obj 5),some (.obj 3),some (.obj 4),some (.obj 6),some .none,none,none,none,none,none]) (v:=.none) (s₁:=tm (tn tl (bV g 0 cs))) (s₂:=tm (tn tl (bV g 0 cs))) _ _ _ _ rfl rfl rfl).trans ?_
  refine (cm (n:=n + cs.length + 66) (C:=C1) (l₁:=lo .none (some (.int 0)) none none none) (v:=.int 0) (s₁:=tm (tn tl (bV g 0 cs))) (s₂:=tm (tn tl (bV g 0 cs))) _ _ _ _ rfl rfl rfl).trans ?_
  refine (vJ (n:=n + cs.length + 65) (C:=C1) _ _ _ _ _ rfl (x:=.obj 5) (s':=tm (tn tl (bV g 0 cs))) rfl (q:=.obj 5 0) rfl).trans ?_
  rw [show n + 4 + cs.length + 61=n + cs.length + 65 by omega]; rfl
 rw [e]
 have hL:ji g 0 0 (Lp (n + 4 + cs.length + 61) 0 .none (some (.int 0)) none none none (tm (tn tl (bV g 0 cs)))) (dM 1000 cs):=hL
 generalize Lp (n + 4 + cs.length + 61) 0 .none (some (.int 0)) none none none (tm (tn tl (bV g 0 cs)))=o at hL
 generalize dM 1000 cs=r at hL
 cases r with
 | bad=>exact trivial
 | ref i=>
  refine fE hL fun m a D zq1 hG=>?_; clear hL; subst zq1
  exact (hM m a D rfl hG)
 | fin k b=>
  refine fE hL fun l a D zq1 h=>?_; clear hL; subst zq1
  exact (rP a D rfl h)
noncomputable abbrev ch (l:List (Option V)):Mine.Ctx:=⟨l,21,false,B7.gl,[],[]⟩
theorem vX (n:Nat) (tl:List V):rC P C1 (n + 60) 55 [] 20 false [.wild 0,.wild 1,.list tl] = .ok (.tup [.obj 3,.obj 4]) (wi tl):=by
 have e:(fun q:Nat × List V=>rC P C1 (q.1 + 60) 55 [] 20 false [.wild 0,.wild 1,.list q.2])=fun q=>.ok (.tup [.obj 3,.obj 4]) (wi q.2):=by kernel_rfl
 exact congrFun e (n,tl)
noncomputable def Cv (g:Int) (o:aU V):Rs->Prop
 | .bad=>True
 | .ref i=>∃ a D,o = .ok (.int (3 + g * ((0 + i:Nat):Int))) (oZ a D [])/\iG D
 | .fin k b=>∃ a D,o = .ok (.obj 6) (oZ a D [.obj 7])/\iG D/\(du a).kd=k/\D.pb.length=0 + b
theorem vY {cs:List Nat} {g:Int} (hg:1<=g/\g<=4) (hc:∀ c∈cs,c < 45) (hl:cs.length<=100) (n:Nat):Cv g (rC P C1 (n + cs.length + 90) 61 [.obj 2,.int g] 21 false [.wild 0,.wild 1,.list (cs.map aF)]) (dM 1000 cs):=by
 have hU:=oQ (g:=g) (cs:=cs) rfl hl (n + 15)
 have hR:=rG (tl:=cs.map aF) hg hc rfl hl (n + 54)
 have e0:rC P C1 (n + cs.length + 90) 61 [.obj 2,.int g] 21 false [.wild 0,.wild 1,.list (cs.map aF)]=(rB P C1 (n + cs.length + 88) (nh CV) (ch [some (.obj 2),some (.int g),some (.obj 3),some (.obj 4),none]) (wi (cs.map aF))).bind fC:=by
  refine (CQ (n:=n + cs.length + 89) (C:=C1) 61 _ _ _ (f:=B7) rfl rfl).trans (congrArg (aU.bind · fC) ?_)
  refine cm (n:=n + cs.length + 88) (C:=C1) (l₁:=[some (.obj 2),some (.int g),some (.obj 3),some (.obj 4),none]) (v:=.tup [.obj 3,.obj 4]) (s₁:=wi (cs.map aF)) (s₂:=wi (cs.map aF)) _ _ _ _ rfl ?_ rfl
  refine (sW (n:=n + cs.length + 87) (C:=C1) _ 55 _ _ _ rfl rfl).trans ?_
  refine aC (cQ (P:=P) (C:=C1) (n:=n + cs.length + 87)) ?_
  refine (mX (C:=C1) 55 [] CW 20 rfl rfl rfl).trans ?_
  rw [show n + cs.length + 87=n + cs.length + 27 + 60 by omega]
  exact vX _ _
 rw [e0]
 have e1:rE P C1 (n + cs.length + 87) (bB (nh CV)) (ch [some (.obj 2),some (.int g),some (.obj 3),some (.obj 4),none]) (wi (cs.map aF))=rC P C1 (n + cs.length + 86) 48 [.obj 5,.obj 3,.obj 4] 20 false (fy (cs.map aF) (bV g 0 cs)):=by
  refine (sW (n:=n + cs.length + 86) (C:=C1) _ 48 _ _ _ rfl rfl).trans ?_
  have k:rE P C1 (n + cs.length + 86) (gq (b8 (bB (nh CV)))) (ch [some (.obj 2),some (.int g),some (.obj 3),some (.obj 4),none]) (wi (cs.map aF)) = .ok (.obj 5) (fy (cs.map aF) (bV g 0 cs)):=by
   refine (sW (n:=n + cs.length + 85) (C:=C1) _ 59 _ _ _ rfl rfl).trans ?_
   refine aC (bR (v:=.obj 2) (s1:=wi (cs.map aF)) rfl (bR (v:=.int g) (s1:=wi (cs.map aF)) rfl cQ)) ?_
   refine (mX (C:=C1) 59 _ B6 20 rfl rfl rfl).trans ?_
   rw [show n + cs.length + 85=n + 55 + cs.length + 30 by omega]
   exact rG (tl:=cs.map aF) hg hc rfl hl (n + 55)
  refine aC (bR k (bR (v:=.obj 3) (s1:=fy (cs.map aF) (bV g 0 cs)) rfl (bR (v:=.obj 4) (s1:=fy (cs.map aF) (bV g 0 cs)) rfl cQ))) ?_
  exact mX (C:=C1) 48 _ B4 20 rfl rfl rfl
 have hU:=oQ (g:=g) (cs:=cs) rfl hl (n + 16)
 rw [show n + 16 + cs.length + 70=n + cs.length + 86 by omega,<- e1] at hU
 cases hA:dM 1000 cs with
 | bad=>exact trivial
 | ref i=>
  rw [hA] at hU
  refine fE hU fun m a D h hG=>?_; clear hU
  refine (rP a D ?_ hG)
  refine aC (qb (n:=n + cs.length + 87) (C:=C1) (l:=[some (.obj 2),some (.int g),some (.obj 3),some (.obj 4),some (.exc 3 [(6,m),(7,.int (3 + g * ((0 + i:Nat):Int)))])]) (l2:=[some (.obj 2),some (.int g),some (.obj 3),some (.obj 4),some (.exc 3 [(6,m),(7,.int (3 + g * ((0 + i:Nat):Int)))])]) (v:=.int (3 + g * ((0 + i:Nat):Int))) (s'':=oZ a D []) _ _ _ _ _ _ _ _ _ rfl h rfl rfl rfl rfl rfl ?_) rfl
  rfl
 | fin k b=>
  rw [hA] at hU
  refine fL hU fun a D h hG=>?_; clear hU
  refine (rP a D ?_ hG)
  exact aC (sX (n:=n + cs.length + 87) (C:=C1) _ _ _ _ _ _ _ _ _ rfl h) rfl
theorem eP {α β:Type} {f:α->Option β}:∀ {l:List α},(∀ x∈l,∃ y,f x=some y)->∃ t,l.mapM f=some t
 | [],_=>⟨[],rfl⟩
 | x :: l,h=>by
  refine ay (h x (.head _)) fun y hy=>?_
  refine ay (eP (l:=l) fun z m=>h z (.tail _ m)) fun t ht=>?_
  exact ⟨y :: t,by rw [List.mapM_cons,hy,ht]; rfl⟩
theorem dH {α β:Type} {f:α->Option β}:∀ {l:List α} {t:List β} {i:Nat} {x:α},l.mapM f=some t->ao l i=some x->∃ y,f x=some y/\ao t i=some y
 | y :: l,t,i,x,h,hi=>by
  refine aV (mapM_cons h) fun u m' zq1 e1 e2=>?_; subst zq1
  cases i with
  | zero=>replace hi:=oi hi; subst hi; exact (ax u e1 rfl)
  | succ i=>exact dH (i:=i) e2 hi
theorem jj {α β:Type} {f:α->Option β}:∀ {l:List α} {t:List β},l.mapM f=some t->t.length=l.length
 | [],t,h=>by replace h:=oi h; subst h; rfl
 | y :: l,t,h=>by
  refine aV (mapM_cons h) fun u m' zq1 e1 e2=>?_; subst zq1
  exact congrArg Nat.succ (jj e2)
theorem g8 (m:Nat):∀ (n:Nat) (v:V),eD n v=true->∃ v',lq 2 m n v=some v'
 | n + 1,v,h=>by
  have all:∀ l:List V,l.all (eD n)=true->∃ t,l.mapM (lq 2 m n)=some t:=fun l h=>eP fun x mm=>g8 m n x (A6 h x mm)
  cases v with
  | tup l=>refine ay (all l h) fun t ht=>?_; exact ⟨.tup t,congrArg (Option.map V.tup) ht⟩
  | lst l=>refine ay (all l h) fun t ht=>?_; exact ⟨.lst t,congrArg (Option.map V.lst) ht⟩
  | clo i l=>refine ay (all l h) fun t ht=>?_; exact ⟨.clo i t,congrArg (Option.map (V.clo i)) ht⟩
  | obj k=>
   have h:Nat.ble 2 k=true:=h
   exact ⟨.obj (m + k),by show grd (Nat.ble 2 k) _=_; rw [h]; rfl⟩
  | exc _ _=>exact fT h
  | rng _ _=>exact fT h
  | none=>exact ⟨_,rfl⟩
  | bool _=>exact ⟨_,rfl⟩
  | int _=>exact ⟨_,rfl⟩
  | str _=>exact ⟨_,rfl⟩
  | fn _=>exact ⟨_,rfl⟩
noncomputable def o7:O->Bool
 | .list l=>l.all (eD 9)
 | .dict es=>es.all fun p=>eD 9 p.1 && eD 9 p.2
 | .inst _=>true
 | .ns fs=>fs.all fun p=>eD 9 p.2
 | _=>false
theorem Ap (m:Nat) (o:O) (h:o7 o=true):∃ o',wv 2 m o=some o':=by
 cases o with
 | list l=>
  refine ay (eP (f:=lq 2 m 9) (l:=l) fun x mm=>g8 m 9 x (A6 h x mm)) fun t ht=>?_
  exact ⟨.list t,congrArg (Option.map O.list) ht⟩
 | dict es=>
  obtain ⟨t,ht⟩:=eP (f:=zb 2 m) (l:=es) fun x mm=>by
   have q:=A6 h x mm
   refine ay (g8 m 9 _ (aD q)) fun a ha=>?_
   refine ay (g8 m 9 _ (al q)) fun b hb=>?_
   exact ⟨(a,b),by unfold zb; rw [ha,hb]; rfl⟩
  exact ⟨.dict t,congrArg (Option.map O.dict) ht⟩
 | inst c=>exact ⟨_,rfl⟩
 | ns fs=>
  obtain ⟨t,ht⟩:=eP (f:=AO 2 m) (l:=fs) fun x mm=>by
   refine ay (g8 m 9 _ (A6 h x mm)) fun a ha=>?_
   exact ⟨(x.1,a),by unfold AO; rw [ha]; rfl⟩
  exact ⟨.ns t,congrArg (Option.map O.ns) ht⟩
 | _=>exact fT h
theorem dy {o:O} {s:St} (h:o7 o=true) (k:s.all o7=true):(o :: s).all o7=true:=by
 show (o7 o && s.all o7)=true
 rw [h,k]; rfl
theorem vZ {v:V} (h:eD 9 v=true):∀ l:List Int,o7 (.dict (qf v l))=true
 | []=>rfl
 | i :: l=>by
  show ((true && eD 9 v) && o7 (.dict (qf v l)))=true
  rw [h,vZ h l]; rfl
theorem Cw {x:V} (h:eD 9 x=true) (k:Nat):eD 9 (Cb k x)=true:=by
 match k with
 | 0=>exact h
 | 1=>rfl
 | 2=>rfl
 | _ + 3=>rfl
theorem Cx (k:Nat):eD 9 (Cd k)=true:=by
 match k with
 | 0=>rfl
 | 1=>rfl
 | 2=>rfl
 | _ + 3=>rfl
theorem Eh {v:V} (h:eD 8 v=true) (b:Bool):o7 (.dict (D4 v b))=true:=by
 cases b with
 | false=>rfl
 | true=>
  show ((true && (eD 8 v && true)) && true)=true
  rw [h]; rfl
theorem Ei (l:List Nat):o7 (.list (l.map D3))=true:=all_map fun x HC=>by
 match x with
 | 0=>rfl
 | 1=>rfl
 | _ + 2=>rfl
theorem Cy:o7 qg=true:=by kernel_rfl
theorem Cz:o7 qh=true:=by kernel_rfl
theorem Hp (a:Nat) {D:Da} (h:iG D) {us:List V} (hu:us.all (eD 9)=true):((oZ a D us).drop 2).all o7=true:=by
 have h1:eD 9 D.v1=true:=qk _ _ h.v1
 have h2:o7 (O.ns [(83,.str (rg (du a).kd)),(79,Cb (du a).kd D.nme),(78,Cd (du a).kd),(84,.none),(85,.obj 9),(86,.obj 10),(87,.obj 11),(88,.obj 12),(89,.obj 13),(90,.obj 14)])=true:=by
  show (true && (eD 9 (Cb (du a).kd D.nme) && (eD 9 (Cd (du a).kd) && true)))=true
  rw [Cw h.nme,Cx]; rfl
 have h3:o7 (O.ns [(92,.obj 7),(93,.obj 3),(85,.obj 4),(94,.int (du a).sg),(95,.obj 17),(89,.obj 18),(96,.obj 19)])=true:=rfl
 show List.all (O.list D.tl :: qg :: qh :: O.list D.rl :: O.list us :: O.inst 0 :: (O.ns [(83,.str (rg (du a).kd)),(79,Cb (du a).kd D.nme),(78,Cd (du a).kd),(84,.none),(85,.obj 9),(86,.obj 10),(87,.obj 11),(88,.obj 12),(89,.obj 13),(90,.obj 14)]) :: O.list D.ps :: O.list [] :: O.list D.pb :: O.dict [] :: O.dict (qf D.v1 (du a).ul) :: O.dict (D4 D.v1 (du a).en) :: O.inst 1 :: (O.ns [(92,.obj 7),(93,.obj 3),(85,.obj 4),(94,.int (du a).sg),(95,.obj 17),(89,.obj 18),(96,.obj 19)]) :: O.list ((du a).ne.map D3) :: O.dict (qf D.v2 (du a).ml) :: O.dict [] :: []) o7=true
 exact dy h.tl (dy Cy (dy Cz (dy h.rl (dy hu (dy rfl (dy h2 (dy h.ps (dy rfl (dy h.pb (dy rfl (dy (vZ h1 _) (dy (Eh h.v1 _) (dy rfl (dy h3 (dy (Ei _) (dy (vZ h.v2 _) (dy rfl rfl)))))))))))))))))
theorem FW (a:Nat) {D:Da} (h:iG D) {us:List V} (hu:us.all (eD 9)=true) (m:Nat):∃ t,((oZ a D us).drop 2).mapM (wv 2 m)=some t:=eP fun o mm=>Ap m o (A6 (Hp a h hu) o mm)
section
variable {L:List V} {at_ g:Int} {G:St} {cs:List Nat}
noncomputable def dk (L:List V) (a:Int) (G:St):St:=.wild 0 :: .wild 1 :: .list [.lst L,.int a] :: G
theorem dR (L:List V) (a:Int) (G t:St) (i:Nat):ao (dk L a (G++t)) (G.length + 3 + i)=ao t i:=by
 rw [show G.length + 3 + i=G.length + i + 3 by omega]
 show ao (G++t) (G.length + i)=_
 rw [aK (Nat.le_add_right _ _),Nat.add_sub_cancel_left]
theorem oR {l:Mine.Loc} {gs ro ce:List Nat} (hc:∀ c∈cs,c < 45) (n:Nat) {v v':V} {s':St} {t:St} (h:rC P C1 n 61 [.obj 2,.int g] 21 false [.wild 0,.wild 1,.list (cs.map aF)] = .ok v (.wild 0 :: .wild 1 :: s')) (hv:lq 2 (G.length + 1) 9 v=some v') (ht:s'.mapM (wv 2 (G.length + 1))=some t) :
  cS P C1 (run P C1 n) 61 [.obj (G.length + 3),.int g] ⟨l,22,false,gs,ro,ce⟩ (dk L at_ (G++[O.list (cs.map aF)])) = .ok v' (dk L at_ (G++t)):=by
 have hi:i7 2 [.obj (G.length + 3),.int g] (dk L at_ (G++[O.list (cs.map aF)]))=some (G.length + 1,cs.map aF,[.int g]):=by
  show (jk (ao (dk L at_ (G++[O.list (cs.map aF)])) (G.length + 3))).bind _=_
  rw [show ao (dk L at_ (G++[O.list (cs.map aF)])) (G.length + 3)=some (.list (cs.map aF)) from dR L at_ G _ 0]
  show grd ((Nat.ble 2 (G.length + 3) && Nat.beq (G.length + 3 + 1) ((G++[O.list (cs.map aF)]).length + 3)) && (true && (true && (cs.map aF).all (bj 9)))) _=_
  rw [all_map (p:=bj 9) (f:=aF) (l:=cs) fun HC HC=>rfl,List.length_append,Nat.ble_eq_true_of_le (show 2<=G.length + 3 by omega),show Nat.beq (G.length + 3 + 1) (G.length + [O.list (cs.map aF)].length + 3)=true from (by rw [show G.length + [O.list (cs.map aF)].length + 3=G.length + 3 + 1 from rfl]; exact Nat.beq_refl _)]
  rfl
 have e2:P.wn=2:=rfl
 have e1:(dk L at_ (G++[O.list (cs.map aF)])).take 2++[O.list (cs.map aF)]=[.wild 0,.wild 1,.list (cs.map aF)]:=rfl
 refine (BL (P:=P) (n:=n) (C:=C1) (f:=B7) (d:=21) (q:=(G.length + 1,cs.map aF,[.int g])) (v:=v) (v':=v') (s':=.wild 0 :: .wild 1 :: s') (t:=t) rfl rfl rfl (by rw [e2]; exact hi) (by rw [e2,e1]; exact h) (by rw [e2]; rfl) (by rw [e2]; exact hv) (by rw [e2]; exact ht)).trans ?_
 rw [e2]
 show aU.ok v' (.wild 0 :: .wild 1 :: ((O.list [.lst L,.int at_] :: (G++[O.list (cs.map aF)])).take (G.length + 1)++t))=_
 rw [List.take_succ_cons,List.take_left]; rfl
noncomputable def Ej (g:Int) (L:List V) (at_:Int) (G:St) (o:aU V):Rs->Prop
 | .bad=>True
 | .ref i=>∃ t,o = .ok (.int (3 + g * (i:Int))) (dk L at_ (G++t))
 | .fin k b=>∃ t fs ob bd,o = .ok (.obj (G.length + 7)) (dk L at_ (G++t))/\ao (dk L at_ (G++t)) (G.length + 7)=some (.list [.obj (G.length + 8)])/\bW (G.length + 8) (dk L at_ (G++t))=some fs/\find fs 83=some (.str (rg k))/\find fs 87=some (.obj ob)/\ao (dk L at_ (G++t)) ob=some (.list bd)/\bd.length=b
theorem mx {l:Mine.Loc} {gs ro ce:List Nat} (hg:1<=g/\g<=4) (hc:∀ c∈cs,c < 45) (hl:cs.length<=100) (n:Nat) :
  Ej g L at_ G (cS P C1 (run P C1 (n + cs.length + 90)) 61 [.obj (G.length + 3),.int g] ⟨l,22,false,gs,ro,ce⟩ (dk L at_ (G++[O.list (cs.map aF)]))) (dM 1000 cs):=by
 have h:=vY (g:=g) hg hc hl n
 generalize dM 1000 cs=r at h
 cases r with
 | bad=>exact trivial
 | ref i=>
  refine cL fun HC kG=>?_
  refine fL h fun a D h hG=>?_
  refine ay (FW a hG (us:=[]) rfl (G.length + 1)) fun t ht=>?_
  refine kG ?_
  rw [Nat.zero_add] at h
  exact ⟨t,oR hc _ h rfl ht⟩
 | fin k b=>
  refine cL fun HC kG=>?_
  refine cJ h fun a D h hG hk hb=>?_
  refine ay (FW a hG (us:=[.obj 7]) rfl (G.length + 1)) fun t ht=>?_
  refine ae (dH (i:=4) ht rfl) fun o4 h4 n4=>?_
  refine ae (dH (i:=5) ht rfl) fun o5 h5 n5=>?_
  refine ae (dH (i:=6) ht rfl) fun o6 h6 n6=>?_
  refine ae (dH (i:=9) ht rfl) fun o9 h9 n9=>?_
  refine kG ?_
  replace h4:=oi h4; subst h4; replace h5:=oi h5; subst h5
  refine cL fun HC kG=>?_
  refine ae (mpd h9) fun bd hbd zq1=>?_; subst zq1
  refine ae (mpd h6) fun fs hfs zq1=>?_; subst zq1
  refine ay (g8 (G.length + 1) 9 _ (Cw hG.nme (du a).kd)) fun w1 hw1=>?_
  refine ay (g8 (G.length + 1) 9 _ (Cx (du a).kd)) fun w2 hw2=>?_
  refine kG ?_
  have e:fs=[(83,.str (rg (du a).kd)),(79,w1),(78,w2),(84,.none),(85,.obj (G.length + 1 + 9)),(86,.obj (G.length + 1 + 10)),(87,.obj (G.length + 1 + 11)),(88,.obj (G.length + 1 + 12)),(89,.obj (G.length + 1 + 13)),(90,.obj (G.length + 1 + 14))]:=by
   have:some fs=some _:=hfs.symm.trans (show _=some [(83,.str (rg (du a).kd)),(79,w1),(78,w2),(84,.none),(85,.obj (G.length + 1 + 9)),(86,.obj (G.length + 1 + 10)),(87,.obj (G.length + 1 + 11)),(88,.obj (G.length + 1 + 12)),(89,.obj (G.length + 1 + 13)),(90,.obj (G.length + 1 + 14))] from ?_)
   ·exact oi this
   ·simp only [List.mapM_cons,List.mapM_nil,AO,hw1,hw2]
    rfl
  subst e
  refine ⟨t,[(83,.str (rg (du a).kd)),(79,w1),(78,w2),(84,.none),(85,.obj (G.length + 1 + 9)),(86,.obj (G.length + 1 + 10)),(87,.obj (G.length + 1 + 11)),(88,.obj (G.length + 1 + 12)),(89,.obj (G.length + 1 + 13)),(90,.obj (G.length + 1 + 14))],G.length + 1 + 11,bd,oR hc _ h (by show some (V.obj (G.length + 1 + 6))=_; rfl) ht,?_,?_,by rw [<- hk]; rfl,rfl,?_,?_⟩
  ·exact (dR L at_ G t 4).trans n4
  ·unfold bW
   rw [show ao (dk L at_ (G++t)) (G.length + 8)=_ from (dR L at_ G t 5).trans n5]
   show (ao (dk L at_ (G++t)) (G.length + 3 + 6)).bind _=_
   rw [(dR L at_ G t 6).trans n6]; rfl
  ·exact (dR L at_ G t 9).trans n9
  ·rw [jj hbd,hb,Nat.zero_add]
end
theorem ye {x y:Int} {s:St} (h:0 < y/\y<=1000000):eG .FloorDiv (.int x) (.int y) s = .ok (.int (Int.fdiv x y)) s:=by
 show dN (grd (decide (0 < y/\y<=1000000)) _) s=_
 rw [decide_eq_true h]; rfl
theorem rH {x y:Int} {s:St} (h:0 < y/\y<=1000000):eG .Mod (.int x) (.int y) s = .ok (.int (Int.fmod x y)) s:=by
 show dN (grd (decide (0 < y/\y<=1000000)) _) s=_
 rw [decide_eq_true h]; rfl
theorem oS {x m:Int} (h:0 < m):∃ r:Nat,Int.fmod x m=(r:Int)/\(r:Int) < m:=by
 have h1:=Int.fmod_nonneg_of_pos x h
 have h2:=Int.fmod_lt_of_pos x h
 exact (ax ((Int.fmod x m).toNat) ((Int.toNat_of_nonneg h1).symm) (by rw [Int.toNat_of_nonneg h1]; exact h2))
noncomputable def oU:bL->ME
 | .cons (.ret e _) _=>e
 | .cons _ l=>oU l
 | .nil=>.glob 0 (pZ 0 0 0)
noncomputable def FX:ME->ME
 | .ifx t _ _ _=>t
 | e=>e
noncomputable def Hq:ME->ME
 | .ifx _ a _ _=>a
 | e=>e
noncomputable def Ek:ME->ME
 | .ifx _ _ b _=>b
 | e=>e
noncomputable def m4:ME->ME
 | .bin a _ _ _=>a
 | .addV a _ _=>a
 | .cmp a _ _ _=>a
 | .sub a _ _=>a
 | e=>e
noncomputable def o8:ME->ME
 | .bin _ _ b _=>b
 | .addV _ b _=>b
 | .cmp _ _ b _=>b
 | .sub _ b _=>b
 | e=>e
noncomputable abbrev cd (d:Nat) (l:List (Option V)):Mine.Ctx:=⟨l,d,false,B5.gl,[],[]⟩
noncomputable def yX (L:List V) (a:Nat) (m:Int) (r:Nat):Prop:=∀ (n d:Nat) (G:St),rC P C1 (n + 20) 52 [.obj 2,.int m] d false (dk L (a:Int) G) = .ok (.int (r:Int)) (dk L ((a + 1:Nat):Int) G)
theorem gH {L:List V} (hL:L.length<=40) (hi:∀ v∈L,∃ i:Int,v = .int i) {a:Nat} (ha:a<=1000) {m:Nat} (hm:1<=m/\m<=100):∃ r:Nat,r < m/\yX L a m r:=by
 have hmm:(0:Int) < (m:Int)/\(m:Int)<=1000000:=by omega
 have pre:∀ (n d:Nat) (G:St) {o:aU (Mine.Flow × Mine.Loc)} {r:Nat},rE P C1 (n + 16) (oU yR) (cd d [some (.obj 2),some (.int (m:Int)),some (.int (a:Int))]) (dk L ((a:Int) + 1) G) = .ok (.int (r:Int)) (dk L ((a:Int) + 1) G) ->
   rC P C1 (n + 20) 52 [.obj 2,.int (m:Int)] d false (dk L (a:Int) G) = .ok (.int (r:Int)) (dk L ((a + 1:Nat):Int) G):=fun n d G o r h=>by
  refine (CQ (n:=n + 19) (C:=C1) 52 _ _ _ (f:=B5) rfl rfl).trans ?_
  refine aC (v:=(.ret (.int (r:Int)),[some (.obj 2),some (.int (m:Int)),some (.int (a:Int))])) (s1:=dk L ((a:Int) + 1) G) ?_ rfl
  refine (cm (n:=n + 18) (C:=C1) (l₁:=[some (.obj 2),some (.int (m:Int)),some (.int (a:Int))]) (v:=.int (a:Int)) (s₁:=dk L (a:Int) G) (s₂:=dk L (a:Int) G) _ _ _ _ rfl rfl rfl).trans ?_
  refine (cm (n:=n + 17) (C:=C1) (l₁:=[some (.obj 2),some (.int (m:Int)),some (.int (a:Int))]) (v:=.int ((a:Int) + 1)) (s₁:=dk L (a:Int) G) (s₂:=dk L ((a:Int) + 1) G) _ _ _ _ rfl rfl rfl).trans ?_
  exact aC h rfl
 have hb:Nat.ble L.length aP=true:=Nat.ble_eq_true_of_le (by unfold aP; omega)
 have ht:∀ (n d:Nat) (G:St),rT P C1 (n + 15) (FX (oU yR)) (cd d [some (.obj 2),some (.int (m:Int)),some (.int (a:Int))]) (dk L ((a:Int) + 1) G) = .ok (decide ((a:Int) < (L.length:Int))) (dk L ((a:Int) + 1) G):=fun n d G=>by
  have k:rE P C1 (n + 14) (o8 (FX (oU yR))) (cd d [some (.obj 2),some (.int (m:Int)),some (.int (a:Int))]) (dk L ((a:Int) + 1) G) = .ok (.int L.length) (dk L ((a:Int) + 1) G):=by
   refine (iD (n:=n + 13) (C:=C1) _ 0 _ _ _ rfl rfl rfl rfl).trans ?_
   refine aC (bR (v:=.lst L) (s1:=dk L ((a:Int) + 1) G) rfl cQ) ?_
   show dN (gK L.length) _=_
   unfold gK
   rw [hb]; rfl
  refine (vD (n:=n + 14) (C:=C1) _ _ _ _).trans ?_
  refine aC (v:=.int (a:Int)) (s1:=dk L ((a:Int) + 1) G) rfl ?_
  exact aC k rfl
 by_cases h:(a:Int) < (L.length:Int)
 ·refine ay (dh (l:=L) (k:=a) (by omega)) fun v hv=>?_
  refine ay (hi v (aT hv)) fun i zq1=>?_; subst zq1
  refine ae (oS (x:=i) hmm.1) fun r hr hlt=>?_
  refine (ax r (by omega) (fun n d G=>pre n d G (o:=.stuck) ?_))
  refine (yM (n:=n + 15) (C:=C1) _ _ _ _).trans ?_
  refine aC (ht n d G) ?_
  rw [decide_eq_true h]
  refine (kB (n:=n + 14) (C:=C1) _ _ _ _).trans ?_
  have hit:sub (.lst L) (.int (a:Int)) (dk L ((a:Int) + 1) G)=some (.int i):=gA hv (by omega)
  have k:rE P C1 (n + 14) (m4 (Hq (oU yR))) (cd d [some (.obj 2),some (.int (m:Int)),some (.int (a:Int))]) (dk L ((a:Int) + 1) G) = .ok (.int i) (dk L ((a:Int) + 1) G):=by
   show dN (sub (.lst L) (.int (a:Int)) (dk L ((a:Int) + 1) G)) (dk L ((a:Int) + 1) G)=_
   rw [hit]; rfl
  refine aC k (aC (v:=.int (m:Int)) (s1:=dk L ((a:Int) + 1) G) rfl ?_)
  rw [rH hmm,hr]
 ·refine ae (oS (x:=11 * (a:Int) + Int.fdiv (a:Int) 2 + 3) hmm.1) fun r hr hlt=>?_
  refine (ax r (by omega) (fun n d G=>pre n d G (o:=.stuck) ?_))
  refine (yM (n:=n + 15) (C:=C1) _ _ _ _).trans ?_
  refine aC (ht n d G) ?_
  rw [decide_eq_false h]
  refine (kB (n:=n + 14) (C:=C1) _ _ _ _).trans ?_
  have k:rE P C1 (n + 14) (m4 (Ek (oU yR))) (cd d [some (.obj 2),some (.int (m:Int)),some (.int (a:Int))]) (dk L ((a:Int) + 1) G) = .ok (.int (11 * (a:Int) + Int.fdiv (a:Int) 2 + 3)) (dk L ((a:Int) + 1) G):=by
   have k1:rE P C1 (n + 12) (m4 (m4 (m4 (Ek (oU yR))))) (cd d [some (.obj 2),some (.int (m:Int)),some (.int (a:Int))]) (dk L ((a:Int) + 1) G) = .ok (.int (11 * (a:Int))) (dk L ((a:Int) + 1) G):=by
    show eG .Mult (.int 11) (.int (a:Int)) _=_
    rw [ql ⟨by decide,CN (Nat.le_trans ha (by decide))⟩]
   have k2:rE P C1 (n + 12) (o8 (m4 (m4 (Ek (oU yR))))) (cd d [some (.obj 2),some (.int (m:Int)),some (.int (a:Int))]) (dk L ((a:Int) + 1) G) = .ok (.int (Int.fdiv (a:Int) 2)) (dk L ((a:Int) + 1) G):=by
    show eG .FloorDiv (.int (a:Int)) (.int 2) _=_
    rw [ye (by omega)]
   refine (kB (n:=n + 13) (C:=C1) _ _ _ _).trans ?_
   refine aC (v:=.int (11 * (a:Int) + Int.fdiv (a:Int) 2)) (s1:=dk L ((a:Int) + 1) G) ?_ rfl
   refine (kB (n:=n + 12) (C:=C1) _ _ _ _).trans ?_
   exact aC k1 (aC k2 rfl)
  refine aC k (aC (v:=.int (m:Int)) (s1:=dk L ((a:Int) + 1) G) rfl ?_)
  rw [rH hmm,hr]
noncomputable def dC:bL:=(kH yS).2
noncomputable def C2:MT:=(kH yS).1
noncomputable def dS:Nat->bL->bL
 | 0,b=>b
 | k + 1,b=>dS k (nh b)
noncomputable abbrev cl (l:List (Option V)):Mine.Ctx:=⟨l,22,false,kQ.gl,lm 0 kQ.vars,jl 0 kQ.vars⟩
noncomputable def v3:ME:=o8 (bB (dS 3 dC))
noncomputable def El:bL->bL
 | .cons (.ife _ a _ _) _=>a
 | _=>.nil
noncomputable def ni:bL->ME
 | .cons (.ife t _ _ _) _=>t
 | _=>.glob 0 (pZ 0 0 0)
noncomputable def v4:ME:=o8 (bB (El (dS 4 dC)))
noncomputable def eQ:ME->ME
 | .comp e ..=>e
 | e=>e
noncomputable def m5:ME->ME
 | .comp _ _ i ..=>i
 | e=>e
noncomputable def yf:ME->Pos
 | .comp _ (.name _ p) ..=>p
 | _=>(pZ 0 0 0)
theorem oV:∀ (G:St) (o o':O),bc (G++[o]) G.length o'=G++[o']
 | [],_,_=>rfl
 | x :: G,o,o'=>congrArg (x :: ·) (oV G o o')
theorem m6 (L:List V) (a:Int) (G:St) (o o':O):bc (dk L a (G++[o])) (G.length + 3) o'=dk L a (G++[o']):=congrArg (dk L a) (oV G o o')
section
variable {L:List V} (hL:L.length<=40) (hi:∀ v∈L,∃ i:Int,v = .int i)
include hL hi
theorem g9 {a m r:Nat} (h:yX L a m r) {l:List (Option V)} {d:Nat} {gs ro ce:List Nat} {gp p:Pos} {x y:ME} (hg:aQ gs 158=true) (n:Nat) (G:St) (hx:rE P C1 (n + 20) x ⟨l,d + 1,false,gs,ro,ce⟩ (dk L (a:Int) G) = .ok (.obj 2) (dk L (a:Int) G)) (hy:rE P C1 (n + 20) y ⟨l,d + 1,false,gs,ro,ce⟩ (dk L (a:Int) G) = .ok (.int (m:Int)) (dk L (a:Int) G)) :
  rE P C1 (n + 21) (.callg 158 gp (.cons x (.cons y .nil)) p) ⟨l,d + 1,false,gs,ro,ce⟩ (dk L (a:Int) G) = .ok (.int (r:Int)) (dk L ((a + 1:Nat):Int) G):=by
 refine (sW (n:=n + 20) (C:=C1) 158 52 _ _ _ hg rfl).trans ?_
 refine aC (bR hx (bR hy cQ)) ?_
 exact (mX (C:=C1) 52 _ B5 d rfl rfl rfl).trans (h n d G)
theorem Aq {a:Nat} (ha:a<=900):∃ r:Nat,r < 3/\∀ (n:Nat) (l0:Option V) (G:St),rE P C1 (n + 22) (eQ v3) ⟨[l0,some (.obj 2)],22,false,[161,158],[1],[1]⟩ (dk L (a:Int) G) = .ok (aF (4 + r)) (dk L ((a + 1:Nat):Int) G):=by
 refine ae (gH hL hi (a:=a) (by omega) (m:=3) (by omega)) fun r hr hd=>?_
 refine (ax r hr (fun n l0 G=>?_))
 refine (q9 (n:=n + 21) (C:=C1) _ _ _).trans ?_
 refine aC (v:=.lst [aF 4,aF 5,aF 6]) (s1:=dk L (a:Int) G) rfl ?_
 refine aC (g9 hL hi hd (l:=[l0,some (.obj 2)]) (d:=21) rfl n G rfl rfl) ?_
 match r,hr with
 | 0,_=>rfl
 | 1,_=>rfl
 | 2,_=>rfl
 | k + 3,h=>exact absurd h (Nat.not_lt.mpr (Nat.le_add_left 3 k))
theorem CA {a:Nat} (ha:a<=900):∃ r:Nat,r < 3/\∀ (n:Nat) (l0:Option V) (G:St),rE P C1 (n + 22) (eQ v4) ⟨[l0,some (.obj 2)],22,false,[162,158],[1],[1]⟩ (dk L (a:Int) G) = .ok (aF (7 + r)) (dk L ((a + 1:Nat):Int) G):=by
 refine ae (gH hL hi (a:=a) (by omega) (m:=3) (by omega)) fun r hr hd=>?_
 refine (ax r hr (fun n l0 G=>?_))
 refine (q9 (n:=n + 21) (C:=C1) _ _ _).trans ?_
 refine aC (v:=.lst [aF 7,aF 8,aF 9]) (s1:=dk L (a:Int) G) rfl ?_
 refine aC (g9 hL hi hd (l:=[l0,some (.obj 2)]) (d:=21) rfl n G rfl rfl) ?_
 match r,hr with
 | 0,_=>rfl
 | 1,_=>rfl
 | 2,_=>rfl
 | k + 3,h=>exact absurd h (Nat.not_lt.mpr (Nat.le_add_left 3 k))
theorem yY {b:Nat} {elt:ME} {gs:List Nat} {p:Pos} (he:∀ a:Nat,a<=900->∃ r:Nat,r < 3/\∀ (n:Nat) (l0:Option V) (G:St),rE P C1 (n + 22) elt ⟨[l0,some (.obj 2)],22,false,gs,[1],[1]⟩ (dk L (a:Int) G) = .ok (aF (b + r)) (dk L ((a + 1:Nat):Int) G)) :
  ∀ (k i a:Nat) (xs:List V),a + k<=900->xs.length + k<=100->∃ l:List Nat,l.length=k/\(∀ c∈l,b<=c/\c < b + 3)/\∀ (n:Nat) (l0:Option V) (G:St),
   rL P C1 (n + k + 22) elt (.name 0 p) .nil (.seq 3 (wh i k)) (G.length + 3) ⟨[l0,some (.obj 2)],22,false,gs,[1],[1]⟩ (dk L (a:Int) (G++[.list xs])) = .ok () (dk L ((a + k:Nat):Int) (G++[.list (xs++l.map aF)]))
 | 0,i,a,xs,_,_=>⟨[],rfl,fun HC m=>(nomatch m),fun n l0 G=>by
  rw [List.map_nil,List.append_nil]
  exact vF (n:=n + 0 + 21) (C:=C1) _ _ _ _ _ rfl⟩
 | k + 1,i,a,xs,h,hx=>by
  refine cL fun HC kG=>?_
  obtain ⟨r,hr,hE⟩:=he a (by omega)
  obtain ⟨l,h1,h2,h3⟩:=yY he k (i + 1) (a + 1) (xs++[aF (b + r)]) (by omega) (by rw [List.length_append]; show xs.length + 1 + k<=100; omega)
  refine kG ?_
  refine (bY ((b + r) :: l) (congrArg Nat.succ h1) (fun c m=>?_) (fun n l0 G=>?_))
  ·rcases A7 m with rfl | m
   ·exact ⟨Nat.le_add_right _ _,by omega⟩
   ·exact h2 c m
  ·have hm:xs.length<=aP:=by unfold aP; omega
   refine (yO (n:=n + k + 22) (C:=C1) elt 0 p (.seq 3 (.int (i:Int) :: wh (i + 1) k)) (.seq 3 (wh (i + 1) k)) (G.length + 3) (v:=.int (i:Int)) (l:=[some (.int (i:Int)),some (.obj 2)]) (xs:=xs) rfl rfl (hE (n + k) _ _) (dR L _ G _ 0) hm).trans ?_
   rw [m6]
   have e:=h3 n (some (.int (i:Int))) G
   rw [List.append_assoc] at e
   rw [show a + (k + 1)=a + 1 + k by omega]
   exact e
theorem drawn {b:Nat} {elt iter:ME} {ns:List (Nat × Nat)} {vs:List (Nat × Option Nat)} {gs:List Nat} {tp p:Pos} (hvs:∀ l:List (Option V),ao l 1=some (some (.obj 2))->dD vs l=[none,some (.obj 2)]) (hro:eU 0 vs=[1]) (hck:eW (jl 0 kQ.vars) ns vs gs=true) (hit:iter=m5 v3\/iter=m5 v4)
  (he:∀ a:Nat,a<=900->∃ r:Nat,r < 3/\∀ (n:Nat) (l0:Option V) (G:St),rE P C1 (n + 22) elt ⟨[l0,some (.obj 2)],22,false,gs,[1],[1]⟩ (dk L (a:Int) G) = .ok (aF (b + r)) (dk L ((a + 1:Nat):Int) G)) {a:Nat} (ha:a<=800) :
  ∃ (l:List Nat) (a':Nat),a'<=a + 3/\l.length<=2/\(∀ c∈l,b<=c/\c < b + 3)/\∀ (n:Nat) (lc:List (Option V)) (G:St),ao lc 1=some (some (.obj 2)) ->
   rE P C1 (n + 30) (.comp elt (.name 0 tp) iter .nil ns vs gs p) (cl lc) (dk L (a:Int) G) = .ok (.obj (G.length + 3)) (dk L (a':Int) (G++[.list (l.map aF)])):=by
 refine ae (gH hL hi (a:=a) (by omega) (m:=3) (by omega)) fun r hr hd=>?_
 refine bD (yY hL hi (p:=tp) he r 0 (a + 1) [] (by omega) (by show 0 + r<=100; omega)) fun l h1 h2 h3=>?_
 refine (dW l (a + 1 + r) (by omega) (by omega) h2 (fun n lc G hlc=>?_))
 have hn1:∀ p,rE P C1 (n + 27) (.name 1 p) (cl lc) (dk L (a:Int) G) = .ok (.obj 2) (dk L (a:Int) G):=fun p=>by
  refine (vC (n:=n + 26) (C:=C1) _ _).trans ?_
  rw [show ao (cl lc).l 1=_ from hlc]
 have hI:rE P C1 (n + 29) iter (cl lc) (dk L (a:Int) G) = .ok (.rng 0 (r:Int)) (dk L ((a + 1:Nat):Int) G):=by
  have fin:∀ gp x l',(∀ p,rE P C1 (n + 28) (.callg 158 gp (.cons (.name 1 x) l') p) (cl lc) (dk L (a:Int) G) = .ok (.int (r:Int)) (dk L ((a + 1:Nat):Int) G))->∀ gp' p' p'',rE P C1 (n + 29) (.callg 34 gp' (.cons (.callg 158 gp (.cons (.name 1 x) l') p') .nil) p'') (cl lc) (dk L (a:Int) G) = .ok (.rng 0 (r:Int)) (dk L ((a + 1:Nat):Int) G):=fun gp x l' h gp' p' p''=>by
   refine (iD (n:=n + 28) (C:=C1) 34 1 _ _ _ rfl rfl rfl rfl).trans ?_
   refine aC (bR (h p') cQ) ?_
   show dN (grd (decide (-1000<=(r:Int)/\(r:Int)<=100000)) _) _=_
   rw [decide_eq_true (show -1000<=(r:Int)/\(r:Int)<=100000 by omega)]; rfl
  rcases hit with rfl | rfl
  ·exact fin _ _ _ (fun p=>g9 hL hi hd (d:=21) rfl (n + 7) G (hn1 _) rfl) _ _ _
  ·exact fin _ _ _ (fun p=>g9 hL hi hd (d:=21) rfl (n + 7) G (hn1 _) rfl) _ _ _
 refine qa (n:=n + 29) (C:=C1) elt (.name 0 tp) iter .nil ns vs gs p (x:=.rng 0 (r:Int)) (q:=.seq 3 (wh 0 r)) (s1:=dk L ((a + 1:Nat):Int) G) (s2:=dk L ((a + 1 + r:Nat):Int) (G++[.list (l.map aF)])) (by rw [show (jl 0 kQ.vars)=jl 0 kQ.vars from rfl,hck]; rfl) hI ?_ ?_
 ·show grd (decide (0<=(0:Int)/\(0:Int)<=100000/\-1000<=(r:Int)/\(r:Int)<=100000)) _=_
  rw [decide_eq_true (show 0<=(0:Int)/\(0:Int)<=100000/\-1000<=(r:Int)/\(r:Int)<=100000 from by omega),Int.sub_zero,Int.toNat_natCast,List.range_eq_range',i3]; rfl
 ·have e:=h3 (n + 7 - r) none G
  rw [Nat.sub_add_cancel (show r<=n + 7 from Nat.le_trans (Nat.le_of_lt hr) (Nat.le_trans (by decide) (Nat.le_add_left 7 n))),List.nil_append] at e
  rw [hvs _ hlc,hro]
  exact e
end
noncomputable def hd (so:Nat):List Nat:=match so with
 | 0=>[]
 | k + 1=>[k]
noncomputable def yg:Nat->List Nat->Option (Nat × Nat)
 | a,[]=>some (a,0)
 | a,c :: cs=>(look a c).bind fun t=>grd (Nat.beq t.h 0) ((yg t.b cs).map fun q=>(q.1,bn t + q.2))
noncomputable def Rs.ups (k b:Nat):Rs->Rs
 | .bad=>.bad
 | .ref i=>.ref (k + i)
 | .fin kd c=>.fin kd (b + c)
theorem Ar (k b c:Nat):∀ r:Rs,(r.ups k b).up c=r.ups (k + 1) (c + b)
 | .bad=>rfl
 | .ref i=>congrArg Rs.ref (show k + i + 1=k + 1 + i by omega)
 | .fin kd d=>congrArg (Rs.fin kd) (Nat.add_assoc c b d).symm
theorem Au {a c:Nat} {cs:List Nat} {t:Tr} (ht:look a c=some t) (h0:t.h=0):dM a (c :: cs)=(dM t.b cs).up (bn t):=by
 rw [dM,ht]
 show (match t.h with | 0=>(dM t.b cs).up (bn t) | 1=>_ | _=>_)=_
 rw [h0]
 rfl
theorem kJ:∀ (l:List Nat) {a a' b:Nat} {rest:List Nat},yg a l=some (a',b)->dM a (l++rest)=(dM a' rest).ups l.length b
 | [],a,a',b,rest,h=>by
  cases h
  show dM a rest=_
  cases dM a rest with
  | bad=>rfl
  | ref i=>exact congrArg Rs.ref (Nat.zero_add i).symm
  | fin k c=>exact congrArg (Rs.fin k) (Nat.zero_add c).symm
 | c :: l,a,a',b,rest,h=>by
  refine ae (bnd h) fun t ht h=>?_
  refine ai (aO h) fun h0 h=>?_
  refine ae (mpd h) fun q hq e=>?_
  cases e
  show dM a (c :: (l++rest))=_
  rw [Au ht (A4 h0)]
  rw [kJ l (a':=q.1) (b:=q.2) hq,Ar]; rfl
noncomputable def la (c:Nat):Bool:=(aM c).b
noncomputable def lY (l:List Nat):Nat:=(l.filter la).length
noncomputable def m7 (so:Nat):Nat:=match so with
 | 0=>0
 | k + 1=>k
noncomputable def Av (b:Nat):List (List Nat):=[[],[b],[b + 1],[b + 2],[b,b],[b,b + 1],[b,b + 2],[b + 1,b],[b + 1,b + 1],[b + 1,b + 2],[b + 2,b],[b + 2,b + 1],[b + 2,b + 2]]
theorem rI {b:Nat}:∀ {l:List Nat},l.length<=2->(∀ c∈l,b<=c/\c < b + 3)->l∈Av b
 | [],_,_=>.head _
 | [x],_,h=>by
  have hx:=h x (.head _)
  rcases tri hx with rfl | rfl | rfl
  ·exact .tail _ (.head _)
  ·exact .tail _ (.tail _ (.head _))
  ·exact .tail _ (.tail _ (.tail _ (.head _)))
 | [x,y],_,h=>by
  have hx:=h x (.head _)
  have hy:=h y (.tail _ (.head _))
  have h1:=tri hx
  have h2:=tri hy
  rcases h1 with rfl | rfl | rfl <;> rcases h2 with rfl | rfl | rfl
  ·exact List.mem_of_getElem? (i:=4) rfl
  ·exact List.mem_of_getElem? (i:=5) rfl
  ·exact List.mem_of_getElem? (i:=6) rfl
  ·exact List.mem_of_getElem? (i:=7) rfl
  ·exact List.mem_of_getElem? (i:=8) rfl
  ·exact List.mem_of_getElem? (i:=9) rfl
  ·exact List.mem_of_getElem? (i:=10) rfl
  ·exact List.mem_of_getElem? (i:=11) rfl
  ·exact List.mem_of_getElem? (i:=12) rfl
 | _ :: _ :: _ :: _,h,_=>absurd h (by simp only [List.length_cons]; omega)
noncomputable def wj (b:Nat):List Nat->List Nat
 | []=>[]
 | _ :: _=>[b]
noncomputable def yZ:Option (Nat × Nat)->Option (Nat × Nat)->Nat->Bool
 | some p,some q,n=>Nat.beq p.1 q.1 && Nat.beq p.2 n
 | _,_,_=>false
noncomputable def Em:Bool:=(List.range 5).all fun so=>(Av 4).all fun l1=>(Av 7).all fun l2=>(Nat.beq so 4 && !l2.isEmpty) || yZ (yg 1000 (hd so++(l1++l2))) (yg 1000 (hd so++(wj 4 l1++wj 7 l2))) l2.length
noncomputable def CB (c:Ca):Bool:=match c.ah with
 | []=>false
 | x :: _=>Nat.beq x 14 || Nat.beq x 15
noncomputable def kK (c:Ca) (so:Nat):Bool:=Nat.blt so 4 && !CB c
noncomputable def En:Rs->Nat->Bool
 | .ref i,n=>Nat.beq i n
 | _,_=>false
noncomputable def Eo:Rs->Nat->Nat->Bool
 | .fin k b,n,m=>Nat.beq k n && Nat.beq b m
 | _,_,_=>false
noncomputable def Aw (c:Ca) (so:Nat) (r1 r2:List Nat):Bool:=match yg 1000 (hd so++(r1++r2)) with
 | some q=>En (dM q.1 (c.ah++c.wr :: (c.be++[10]))) c.ah.length && Eo (dM q.1 (c.ah++(c.be++[10]))) (m7 so) (lY (c.ah++(c.be++[10])))
 | none=>false
noncomputable def Ep:Bool:=s8.all fun c=>c.so.all fun so=>[[],[4]].all fun r1=>[[],[7]].all fun r2=>(!kK c so && !r2.isEmpty) || Aw c so r1 r2
theorem yh:Em=true:=by kernel_rfl
theorem yi:Ep=true:=by kernel_rfl
noncomputable def Er:Bool:=s8.all fun c=>(Nat.blt 0 c.so.length && Nat.ble c.so.length 5) && (c.so.all (fun so=>Nat.blt so 5) && (c.ah.all (fun x=>Nat.blt x 45) && (Nat.blt c.wr 45 && (c.be.all (fun x=>Nat.blt x 45) && Nat.ble (c.ah.length + c.be.length) 10))))
theorem m8:Er=true:=by kernel_rfl
theorem m9 (l m:List Nat):lY (l++m)=lY l + lY m:=by
 unfold lY
 rw [List.filter_append,List.length_append]
theorem y0 {l:List Nat} (h:∀ c∈l,la c=false):lY l=0:=by
 unfold lY
 rw [List.filter_eq_nil_iff.mpr fun c m=>by rw [h c m]; decide]; rfl
theorem CC {l:List Nat} (h:∀ c∈l,la c=true):lY l=l.length:=by
 unfold lY
 rw [List.filter_eq_self.mpr h]
theorem CD:(List.range 7).all (fun c=>!la c)=true:=by kernel_rfl
theorem Es:[7,8,9].all la=true:=by kernel_rfl
theorem Et {c:Ca} (hc:c∈s8) {so:Nat} (hs:so∈c.so) {l1 l2:List Nat} (h1:l1.length<=2/\∀ x∈l1,4<=x/\x < 7) (h2:l2.length<=2/\∀ x∈l2,7<=x/\x < 10) (ha:kK c so=false->l2=[]) :
  dM 1000 ((hd so++(l1++l2))++(c.ah++c.wr :: (c.be++[10]))) = .ref ((hd so++(l1++l2))++c.ah).length/\dM 1000 ((hd so++(l1++l2))++(c.ah++(c.be++[10]))) = .fin (m7 so) (lY ((hd so++(l1++l2))++(c.ah++(c.be++[10])))):=by
 have k:=A6 m8 c hc
 have hso:so < 5:=A5 (A6 (aD (al k)) so hs)
 have m1:=rI h1.1 h1.2
 have m2:=rI h2.1 h2.2
 have p:=A6 (A6 (A6 yh so (List.mem_range.mpr hso)) l1 m1) l2 m2
 have h4:so=4->l2=[]:=fun e=>ha (by subst e; rfl)
 have hp:yZ (yg 1000 (hd so++(l1++l2))) (yg 1000 (hd so++(wj 4 l1++wj 7 l2))) l2.length=true:=by
  rcases (Bool.or_eq_true _ _).mp p with q | q
  ·have e:=h4 (A4 (aD q))
   rw [e] at q
   cases (al q)
  ·exact q
 have r1:wj 4 l1∈([[],[4]]:List (List Nat)):=by
  cases l1 with
  | nil=>exact .head _
  | cons _ _=>exact .tail _ (.head _)
 have r2:wj 7 l2∈([[],[7]]:List (List Nat)):=by
  cases l2 with
  | nil=>exact .head _
  | cons _ _=>exact .tail _ (.head _)
 have t:=A6 (A6 (A6 (A6 yi c hc) so hs) _ r1) _ r2
 have ht:Aw c so (wj 4 l1) (wj 7 l2)=true:=by
  rcases (Bool.or_eq_true _ _).mp t with q | q
  ·have e:=ha (by have:=aD q; cases z:kK c so with | false=>rfl | true=>rw [z] at this; exact fT this)
   rw [e] at q
   cases (al q)
  ·exact q
 unfold Aw at ht
 cases e1:yg 1000 (hd so++(l1++l2)) with
 | none=>rw [e1] at hp; exact fT hp
 | some q1=>
  cases e2:yg 1000 (hd so++(wj 4 l1++wj 7 l2)) with
  | none=>rw [e1,e2] at hp; exact fT hp
  | some q2=>
   rw [e1,e2] at hp
   rw [e2] at ht
   dsimp only at ht
   obtain ⟨a1,b1⟩:=q1
   have ea:a1=q2.1:=A4 (aD hp)
   have eb:b1=l2.length:=A4 (al hp)
   subst ea eb
   rw [kJ _ e1,kJ _ e1]
   have c1:lY l1=0:=y0 fun x m=>by
    have:=A6 CD x (List.mem_range.mpr (h1.2 x m).2)
    exact Bool.not_eq_true' _▸this
   have c2:lY l2=l2.length:=CC fun x m=>by
    have hx:=h2.2 x m
    have:=tri hx
    refine A6 Es x ?_
    rcases this with rfl | rfl | rfl
    ·exact .head _
    ·exact .tail _ (.head _)
    ·exact .tail _ (.tail _ (.head _))
   have c3:lY (hd so)=0:=y0 fun x m=>by
    cases so with
    | zero=>cases m
    | succ k=>
     rw [A2 m]
     have:=A6 CD k (List.mem_range.mpr (by omega))
     exact Bool.not_eq_true' _▸this
   have cb:lY (hd so++(l1++l2))=l2.length:=by
    rw [m9,m9,c1,c2,c3,Nat.zero_add,Nat.zero_add]
   refine ⟨?_,?_⟩
   ·have z:=aD ht
    cases e3:dM q2.1 (c.ah++c.wr :: (c.be++[10])) with
    | ref i=>
     rw [e3] at z
     rw [show i=c.ah.length from A4 z,List.length_append (bs:=c.ah)]; rfl
    | bad=>rw [e3] at z; exact fT z
    | fin _ _=>rw [e3] at z; exact fT z
   ·have z:=al ht
    cases e3:dM q2.1 (c.ah++(c.be++[10])) with
    | fin k b=>
     rw [e3] at z
     rw [show k=m7 so from A4 (aD z),show b=_ from A4 (al z),m9 (hd so++(l1++l2)),cb]; rfl
    | bad=>rw [e3] at z; exact fT z
    | ref _=>rw [e3] at z; exact fT z
noncomputable def C3 (c:Ca):V:=.tup [.str (c.so.map fun x=>x + 48),.lst (c.ah.map aF),aF c.wr,.lst (c.be.map aF)]
noncomputable def v5:ME->bP
 | .bools _ l _=>l
 | _=>.nil
noncomputable def kL:ME->bP
 | .lstV l _=>l
 | _=>.nil
noncomputable def CE:ME->bP
 | .comp _ _ _ f ..=>f
 | _=>.nil
noncomputable def oW:ME:=m4 (gq (ya (v5 (ni (dS 9 dC)))))
noncomputable def ti:ME:=o8 (gq (ya (v5 (ni (dS 9 dC)))))
noncomputable def kM:ME:=gq (b8 (gq (ya (b8 (gq (kL ti))))))
noncomputable def oX:ME:=gq (CE kM)
structure Qa where
 n:Nat
 l:List (Option V)
 s:St
theorem yj:(fun q:Qa=>rE P C1 (q.n + 10) (m4 (bB (dS 0 dC))) (cl q.l) q.s)=fun q:Qa=>.ok (.lst (s8.map C3)) q.s:=by kernel_rfl
theorem Ax:(fun q:Qa=>rE P C1 (q.n + 10) (gq (ya (b8 (o8 (bB (dS 0 dC)))))) (cl q.l) q.s)=fun q:Qa=>.ok (.int ((34:Nat):Int)) q.s:=by kernel_rfl
theorem yk:s8.length=34:=by kernel_rfl
structure Qb where
 n:Nat
 x0:Option V
 x1:Option V
 x2:Option V
 x3:Option V
 x4:Option V
 x5:Option V
 x6:Option V
 x8:Option V
 x9:Option V
 x10:Option V
 s:St
theorem yl:(fun q:Qb=>(List.range 5).map fun so=>rE P C1 (q.n + 15) (bB (dS 2 dC)) (cl [q.x0,q.x1,q.x2,q.x3,q.x4,q.x5,q.x6,some (.int ((so:Nat):Int)),q.x8,q.x9,q.x10]) q.s)=fun q:Qb=>(List.range 5).map fun so=>.ok (.lst ((hd so).map aF)) q.s:=by kernel_rfl
theorem ym:(fun q:Qb=>(List.range 5).map fun so=>rE P C1 (q.n + 15) (gq (b8 (gq (kL ti)))) (cl [q.x0,q.x1,q.x2,q.x3,q.x4,q.x5,q.x6,some (.int ((so:Nat):Int)),q.x8,q.x9,q.x10]) q.s)=fun q:Qb=>(List.range 5).map fun so=>.ok (.str (rg (m7 so))) q.s:=by kernel_rfl
theorem Ay:(fun q:Qb=>s8.map fun c=>(List.range 5).map fun so=>rT P C1 (q.n + 15) (ni (dS 4 dC)) (cl [q.x0,q.x1,q.x2,q.x3,some (.lst (c.ah.map aF)),q.x5,q.x6,some (.int ((so:Nat):Int)),q.x8,q.x9,q.x10]) q.s)=fun q:Qb=>s8.map fun c=>(List.range 5).map fun so=>.ok (kK c so) q.s:=by kernel_rfl
theorem CF:(fun q:Qa=>(List.range 45).map fun c=>rT P C1 (q.n + 15) oX ⟨[some (aF c)],22,false,[166],[],[]⟩ q.s)=fun q:Qa=>(List.range 45).map fun c=>.ok (la c) q.s:=by kernel_rfl
section
variable {L:List V} (hL:L.length<=40) (hi:∀ v∈L,∃ i:Int,v = .int i)
include hL hi
theorem t1 {a:Nat} (ha:a<=900):∃ c∈s8,∀ (n:Nat) (l:List (Option V)) (G:St),ao l 1=some (some (.obj 2))->rE P C1 (n + 40) (bB (dS 0 dC)) (cl l) (dk L (a:Int) G) = .ok (C3 c) (dk L ((a + 1:Nat):Int) G):=by
 refine ae (gH hL hi (a:=a) (by omega) (m:=34) (by omega)) fun r hr hd=>?_
 refine ay (dh (l:=s8) (k:=r) (by rw [yk]; exact hr)) fun c hc=>?_
 refine (ax c (aT hc) (fun n l G hl=>?_))
 refine (q9 (n:=n + 39) (C:=C1) _ _ _).trans ?_
 refine aC (congrFun yj ⟨n + 29,l,dk L (a:Int) G⟩) ?_
 refine aC (g9 hL hi hd (d:=21) rfl (n + 18) G (g7 (C:=C1) hl) (congrFun Ax ⟨n + 28,l,dk L (a:Int) G⟩)) ?_
 have e:sub (.lst (s8.map C3)) (.int (r:Int)) (dk L ((a + 1:Nat):Int) G)=some (C3 c):=gA (by rw [et,hc]; rfl) (by omega)
 rw [e]; rfl
theorem t2 {c:Ca} (hc:c∈s8) {a:Nat} (ha:a<=900):∃ so∈c.so,∀ (n:Nat) (l:List (Option V)) (G:St),ao l 1=some (some (.obj 2))->ao l 3=some (some (.str (c.so.map fun x=>x + 48)))->rE P C1 (n + 40) (bB (dS 1 dC)) (cl l) (dk L (a:Int) G) = .ok (.int (so:Int)) (dk L ((a + 1:Nat):Int) G):=by
 have k:=A6 m8 c hc
 have k1:0 < c.so.length:=A5 (aD (aD k))
 have k2:c.so.length<=5:=A5 (al (aD k))
 refine ae (gH hL hi (a:=a) (by omega) (m:=c.so.length) (by omega)) fun r hr hd=>?_
 refine ay (dh (l:=c.so) (k:=r) hr) fun so hso=>?_
 have h5:so < 5:=A5 (A6 (aD (al k)) so (aT hso))
 refine (ax so (aT hso) (fun n l G h1 h3=>?_))
 refine (iD (n:=n + 39) (C:=C1) _ 5 _ _ _ rfl rfl rfl rfl).trans ?_
 have hln:rE P C1 (n + 37) (gq (ya (b8 (o8 (gq (b8 (bB (dS 1 dC)))))))) (cl l) (dk L (a:Int) G) = .ok (.int (c.so.length:Int)) (dk L (a:Int) G):=by
  refine (iD (n:=n + 36) (C:=C1) _ 0 _ _ _ rfl rfl rfl rfl).trans ?_
  refine aC (bR (g7 (C:=C1) h3) cQ) ?_
  show dN (gK (c.so.map fun x=>x + 48).length) _=_
  unfold gK
  rw [List.length_map,Nat.ble_eq_true_of_le (show c.so.length<=aP by unfold aP; omega)]; rfl
 have hs:rE P C1 (n + 39) (gq (b8 (bB (dS 1 dC)))) (cl l) (dk L (a:Int) G) = .ok (.str [so + 48]) (dk L ((a + 1:Nat):Int) G):=by
  refine (q9 (n:=n + 38) (C:=C1) _ _ _).trans ?_
  refine aC (g7 (C:=C1) h3) ?_
  refine aC (g9 hL hi hd (d:=21) rfl (n + 17) G (g7 (C:=C1) h1) hln) ?_
  have e:sub (.str (c.so.map fun x=>x + 48)) (.int (r:Int)) (dk L ((a + 1:Nat):Int) G)=some (.str [so + 48]):=by
   show grd (decide (0<=(r:Int)/\(r:Int)<=100000)) ((ao (c.so.map fun x=>x + 48) (r:Int).toNat).map _)=_
   rw [decide_eq_true (show 0<=(r:Int)/\(r:Int)<=100000 by omega),Int.toNat_natCast,et,hso]; rfl
  rw [e]; rfl
 refine aC (bR hs cQ) ?_
 match so,h5 with
 | 0,_=>rfl
 | 1,_=>rfl
 | 2,_=>rfl
 | 3,_=>rfl
 | 4,_=>rfl
 | k + 5,h=>exact absurd h (Nat.not_lt.mpr (Nat.le_add_left 5 k))
end
theorem iH {n i:Nat} (h:i < n):i∈List.range n:=List.mem_range.mpr h
section
variable {L:List V} (hL:L.length<=40) (hi:∀ v∈L,∃ i:Int,v = .int i)
include hL hi
theorem t4 {a:Nat} (ha:a<=800):∃ (l1:List Nat) (a':Nat),a'<=a + 3/\l1.length<=2/\(∀ c∈l1,4<=c/\c < 7)/\∀ (n:Nat) (l:List (Option V)) (G:St) (T:List Nat),T.length<=50->ao l 1=some (some (.obj 2))->ao l 8=some (some (.lst (T.map aF))) ->
  rE P C1 (n + 31) (bB (dS 3 dC)) (cl l) (dk L (a:Int) G) = .ok (.lst ((T++l1).map aF)) (dk L (a':Int) (G++[.list (l1.map aF)])):=by
 refine cL fun HC kG=>?_
 refine cJ (drawn hL hi (b:=4) (elt:=eQ v3) (iter:=m5 v3) (ns:=[(160,0),(161,1),(158,1),(144,2)]) (vs:=[(160,none),(144,some 1)]) (gs:=[161,158]) (tp:=yf v3) (p:=(pZ 834 24 91)) (fun l h=>by show [none,match ao l 1 with | some v=>v | none=>none]=_; rw [h]) rfl (by kernel_rfl) (.inl rfl) (fun a h=>Aq hL hi h) ha) fun l1 a' h1 h2 h3 h4=>?_
 refine kG ?_
 refine (dW l1 a' h1 h2 h3 (fun n l G T hT hl h8=>?_))
 rw [List.map_append]
 exact gm (n:=n + 30) (C:=C1) (s1:=dk L (a:Int) G) (x:=.lst (T.map aF)) (g7 (C:=C1) h8) (h4 n l G hl) rfl (show jk (ao _ _)=_ by rw [dR L (a':Int) G [O.list (l1.map aF)] 0]; rfl) (by rw [List.length_map,List.length_map]; unfold aP; omega)
theorem t5 {a:Nat} (ha:a<=800):∃ (l2:List Nat) (a':Nat),a'<=a + 3/\l2.length<=2/\(∀ c∈l2,7<=c/\c < 10)/\∀ (n:Nat) (l:List (Option V)) (G:St) (T:List Nat),T.length<=50->ao l 1=some (some (.obj 2))->ao l 8=some (some (.lst (T.map aF))) ->
  rE P C1 (n + 31) (bB (El (dS 4 dC))) (cl l) (dk L (a:Int) G) = .ok (.lst ((T++l2).map aF)) (dk L (a':Int) (G++[.list (l2.map aF)])):=by
 refine cL fun HC kG=>?_
 refine cJ (drawn hL hi (b:=7) (elt:=eQ v4) (iter:=m5 v4) (ns:=[(160,0),(162,1),(158,1),(144,2)]) (vs:=[(160,none),(144,some 1)]) (gs:=[162,158]) (tp:=yf v4) (p:=(pZ 836 28 94)) (fun l h=>by show [none,match ao l 1 with | some v=>v | none=>none]=_; rw [h]) rfl (by kernel_rfl) (.inr rfl) (fun a h=>CA hL hi h) ha) fun l1 a' h1 h2 h3 h4=>?_
 refine kG ?_
 refine (dW l1 a' h1 h2 h3 (fun n l G T hT hl h8=>?_))
 rw [List.map_append]
 exact gm (n:=n + 30) (C:=C1) (s1:=dk L (a:Int) G) (x:=.lst (T.map aF)) (g7 (C:=C1) h8) (h4 n l G hl) rfl (show jk (ao _ _)=_ by rw [dR L (a':Int) G [O.list (l1.map aF)] 0]; rfl) (by rw [List.length_map,List.length_map]; unfold aP; omega)
theorem t7 {a:Nat} (ha:a<=900):∃ g:Nat,1<=g/\g<=4/\∀ (n:Nat) (l:List (Option V)) (G:St),ao l 1=some (some (.obj 2))->rE P C1 (n + 40) (bB (dS 6 dC)) (cl l) (dk L (a:Int) G) = .ok (.int (g:Int)) (dk L ((a + 1:Nat):Int) G):=by
 refine ae (gH hL hi (a:=a) (by omega) (m:=4) (by omega)) fun r hr hd=>?_
 refine (bY (r + 1) (by omega) (by omega) (fun n l G hl=>?_))
 refine (kB (n:=n + 39) (C:=C1) _ _ _ _).trans ?_
 refine aC (v:=.int 1) (s1:=dk L (a:Int) G) rfl ?_
 refine aC (g9 hL hi hd (d:=21) rfl (n + 18) G (g7 (C:=C1) hl) rfl) ?_
 show aU.ok (V.int (1 + (r:Int))) _=_
 rw [Int.add_comm]; rfl
end
theorem yn {L:List V} {a:Nat} {g:Nat} (hg:1<=g/\g<=4) {T be:List Nat} {w:Nat} (hc:∀ c∈T++(w :: (be++[10])),c < 45) (hl:T.length + be.length<=40) {i:Nat} (hA:dM 1000 (T++(w :: (be++[10]))) = .ref i) (n:Nat) (l:List (Option V)) (G:St)
  (h5:ao l 5=some (some (aF w))) (h6:ao l 6=some (some (.lst (be.map aF)))) (h8:ao l 8=some (some (.lst (T.map aF)))) (h9:ao l 9=some (some (.int (g:Int)))) :
  ∃ t,rE P C1 (n + 240) (m4 (ni (dS 7 dC))) (cl l) (dk L (a:Int) G) = .ok (.int (3 + (g:Int) * (i:Int))) (dk L (a:Int) (G++t)):=by
 have hn:(T++(w :: (be++[10]))).length=T.length + be.length + 2:=by simp only [List.length_append,List.length_cons,List.length_nil]; omega
 have hI:=mx (L:=L) (at_:=(a:Int)) (G:=G) (cs:=T++(w :: (be++[10]))) (g:=(g:Int)) (l:=l) (gs:=kQ.gl) (ro:=lm 0 kQ.vars) (ce:=jl 0 kQ.vars) (by omega) hc (by rw [hn]; omega) (n + 239 - 90 - (T.length + be.length + 2))
 rw [hA,hn,zg (Nat.le_trans (Nat.add_le_add_left (Nat.add_le_add_right hl 2) 90) (Nat.le_trans (by decide) (Nat.le_add_left 239 n)))] at hI
 refine ay hI fun t hI=>?_
 refine ⟨t,?_⟩
 refine (sW (n:=n + 239) (C:=C1) _ 61 _ _ _ rfl rfl).trans ?_
 have e:rE P C1 (n + 239) (gq (b8 (m4 (ni (dS 7 dC))))) (cl l) (dk L (a:Int) G) = .ok (.obj (G.length + 3)) (dk L (a:Int) (G++[.list ((T++(w :: (be++[10]))).map aF)])):=by
  have e1:rE P C1 (n + 237) (m4 (m4 (gq (b8 (m4 (ni (dS 7 dC))))))) (cl l) (dk L (a:Int) G) = .ok (.lst (T.map aF++[aF w])) (dk L (a:Int) G):=by
   refine gm (n:=n + 236) (C:=C1) (g7 (C:=C1) h8) (y:=.lst [aF w]) (s2:=dk L (a:Int) G) (aC (bR (g7 (C:=C1) h5) cQ) rfl) rfl rfl (by rw [List.length_map]; show T.length + 1<=aP; unfold aP; omega)
  have e2:rE P C1 (n + 238) (m4 (gq (b8 (m4 (ni (dS 7 dC)))))) (cl l) (dk L (a:Int) G) = .ok (.lst ((T.map aF++[aF w])++be.map aF)) (dk L (a:Int) G):=by
   refine gm (n:=n + 237) (C:=C1) e1 (g7 (C:=C1) h6) rfl rfl (by rw [List.length_append,List.length_map,List.length_map]; show T.length + 1 + _<=aP; unfold aP; omega)
  have e3:=vH (n:=n + 238) (C:=C1) (b:=o8 (gq (b8 (m4 (ni (dS 7 dC)))))) (p:=(pZ 839 22 56)) e2 (y:=.lst [aF 10]) (v:=[aF 10]) (s2:=dk L (a:Int) G) rfl rfl (by rw [List.length_append,List.length_append,List.length_map,List.length_map]; show T.length + 1 + be.length + 1<=aP; unfold aP; omega)
  have e4:((T.map aF++[aF w])++be.map aF)++[aF 10]=(T++(w :: (be++[10]))).map aF:=by
   simp only [List.map_append,List.map_cons,List.map_nil,List.append_assoc,List.cons_append,List.nil_append]
  rw [e4] at e3
  exact e3
 refine aC (bR e (bR (g7 (C:=C1) h9) cQ)) ?_
 exact hI
theorem yo {L:List V} {a:Nat} {g:Nat} (hg:1<=g/\g<=4) {T be:List Nat} (hc:∀ c∈T++(be++[10]),c < 45) (hl:T.length + be.length<=40) {k b:Nat} (hA:dM 1000 (T++(be++[10])) = .fin k b) (n:Nat) (l:List (Option V)) (G:St)
  (h6:ao l 6=some (some (.lst (be.map aF)))) (h8:ao l 8=some (some (.lst (T.map aF)))) (h9:ao l 9=some (some (.int (g:Int)))) :
  ∃ t fs ob bd,rE P C1 (n + 240) (bB (dS 8 dC)) (cl l) (dk L (a:Int) G) = .ok (.obj (G.length + 7)) (dk L (a:Int) (G++t))/\ao (dk L (a:Int) (G++t)) (G.length + 7)=some (.list [.obj (G.length + 8)])/\bW (G.length + 8) (dk L (a:Int) (G++t))=some fs/\find fs 83=some (.str (rg k))/\find fs 87=some (.obj ob)/\ao (dk L (a:Int) (G++t)) ob=some (.list bd)/\bd.length=b:=by
 have hn:(T++(be++[10])).length=T.length + be.length + 1:=by simp only [List.length_append,List.length_cons,List.length_nil]; omega
 have hI:=mx (L:=L) (at_:=(a:Int)) (G:=G) (cs:=T++(be++[10])) (g:=(g:Int)) (l:=l) (gs:=kQ.gl) (ro:=lm 0 kQ.vars) (ce:=jl 0 kQ.vars) (by omega) hc (by rw [hn]; omega) (n + 239 - 90 - (T.length + be.length + 1))
 rw [hA,hn,zg (Nat.le_trans (Nat.add_le_add_left (Nat.add_le_add_right hl 1) 90) (Nat.le_trans (by decide) (Nat.le_add_left 239 n)))] at hI
 refine cL fun HC kG=>?_
 obtain ⟨t,fs,ob,bd,hI,hr⟩:=hI
 refine kG ?_
 refine ⟨t,fs,ob,bd,?_,hr⟩
 refine (sW (n:=n + 239) (C:=C1) _ 61 _ _ _ rfl rfl).trans ?_
 have e:rE P C1 (n + 239) (gq (b8 (bB (dS 8 dC)))) (cl l) (dk L (a:Int) G) = .ok (.obj (G.length + 3)) (dk L (a:Int) (G++[.list ((T++(be++[10])).map aF)])):=by
  have e2:rE P C1 (n + 238) (m4 (gq (b8 (bB (dS 8 dC))))) (cl l) (dk L (a:Int) G) = .ok (.lst (T.map aF++be.map aF)) (dk L (a:Int) G):=by
   refine gm (n:=n + 237) (C:=C1) (g7 (C:=C1) h8) (g7 (C:=C1) h6) rfl rfl (by rw [List.length_map,List.length_map]; unfold aP; omega)
  have e3:=vH (n:=n + 238) (C:=C1) (b:=o8 (gq (b8 (bB (dS 8 dC))))) (p:=(pZ 841 27 51)) e2 (y:=.lst [aF 10]) (v:=[aF 10]) (s2:=dk L (a:Int) G) rfl rfl (by rw [List.length_append,List.length_map,List.length_map]; show T.length + be.length + 1<=aP; unfold aP; omega)
  have e4:(T.map aF++be.map aF)++[aF 10]=(T++(be++[10])).map aF:=by
   simp only [List.map_append,List.map_cons,List.map_nil,List.append_assoc]
  rw [e4] at e3
  exact e3
 refine aC (bR e (bR (g7 (C:=C1) h9) cQ)) ?_
 exact hI
theorem gI {s t:St} {i:Nat} {o:O} (h:ao s i=some o):ao (s++t) i=some o:=bz h
theorem i4:∀ (cs:List Nat) (xs:List Nat) (n:Nat) (l0:Option V) (L:List V) (a:Int) (G:St) (p:Pos),(∀ c∈cs,c < 45)->cs.length + xs.length<=100 ->
  rL P C1 (n + cs.length + 40) (eQ kM) (.name 0 p) (.cons oX .nil) (.seq 1 (cs.map aF)) (G.length + 3) ⟨[l0],22,false,[166],[],[]⟩ (dk L a (G++[.list (xs.map aF)])) = .ok () (dk L a (G++[.list ((xs++cs.filter la).map aF)]))
 | [],xs,n,l0,L,a,G,p,_,_=>by
  rw [List.filter_nil,List.append_nil]
  exact vF (n:=n + 0 + 39) (C:=C1) _ _ _ _ _ rfl
 | c :: cs,xs,n,l0,L,a,G,p,hc,hl=>by
  rw [List.length_cons] at hl
  have ht:rT P C1 (n + cs.length + 40) oX ⟨[some (aF c)],22,false,[166],[],[]⟩ (dk L a (G++[.list (xs.map aF)])) = .ok (la c) (dk L a (G++[.list (xs.map aF)])):=eC (congrFun CF ⟨n + cs.length + 25,[],_⟩) c (iH (hc c (.head _)))
  have hq:bx (.seq 1 (aF c :: cs.map aF)) (dk L a (G++[O.list (xs.map aF)]))=some (some (aF c,.seq 1 (cs.map aF))):=rfl
  cases hb:la c with
  | false=>
   rw [hb] at ht
   rw [List.filter_cons_of_neg (by rw [hb]; decide)]
   refine (BH (n:=n + cs.length + 40) (C:=C1) (eQ kM) oX 0 p _ _ (G.length + 3) (l0:=[l0]) (l:=[some (aF c)]) hq rfl ht).trans ?_
   exact i4 cs xs n _ L a G p (fun d m=>hc d (.tail _ m)) (by omega)
  | true=>
   rw [hb] at ht
   rw [List.filter_cons_of_pos hb]
   refine (BG (n:=n + cs.length + 40) (C:=C1) (eQ kM) oX 0 p _ _ (G.length + 3) (l0:=[l0]) (l:=[some (aF c)]) (x:=aF c) (s1:=dk L a (G++[O.list (xs.map aF)])) (xs:=xs.map aF) hq rfl ht rfl (dR L a G _ 0) (by rw [List.length_map]; unfold aP; omega)).trans ?_
   rw [m6]
   have e:=i4 cs (xs++[c]) n (some (aF c)) L a G p (fun d m=>hc d (.tail _ m)) (by rw [List.length_append]; show cs.length + (xs.length + 1)<=100; omega)
   rw [List.map_append,List.append_assoc] at e
   exact e
theorem rJ (T be:List Nat):(T++(be++[10])).length=T.length + be.length + 1:=by simp only [List.length_append,List.length_cons,List.length_nil]; omega
noncomputable def wk (so:Nat) (T be:List Nat) (K:Nat) (x0 x1 x2 x3 x4 x5 x9:Option V):List (Option V):=[x0,x1,x2,x3,x4,x5,some (.lst (be.map aF)),some (.int (so:Int)),some (.lst (T.map aF)),x9,some (.obj K)]
section
variable {L:List V} {a:Int} {T be:List Nat} {so K:Nat} {x0 x1 x2 x3 x4 x5 x9:Option V}
theorem CG (hl:T.length + be.length<=40) (n:Nat) (s:St):rE P C1 (n + 234) (m5 kM) (cl (wk so T be K x0 x1 x2 x3 x4 x5 x9)) s = .ok (.lst ((T++(be++[10])).map aF)) s:=by
 have a1:rE P C1 (n + 233) (m4 (m5 kM)) (cl (wk so T be K x0 x1 x2 x3 x4 x5 x9)) s = .ok (.lst (T.map aF++be.map aF)) s:=gm (n:=n + 232) (C:=C1) (x:=.lst (T.map aF)) (y:=.lst (be.map aF)) (s1:=s) rfl rfl rfl rfl (by rw [List.length_map,List.length_map]; unfold aP; omega)
 have a2:=gm (n:=n + 233) (C:=C1) (b:=o8 (m5 kM)) (p:=(pZ 842 132 156)) a1 (y:=.lst [aF 10]) (v:=[aF 10]) (s2:=s) rfl rfl rfl (by rw [List.length_append,List.length_map,List.length_map]; show T.length + be.length + 1<=aP; unfold aP; omega)
 rw [show (T.map aF++be.map aF)++[aF 10]=(T++(be++[10])).map aF by simp only [List.map_append,List.map_cons,List.map_nil,List.append_assoc]] at a2
 exact a2
theorem Eu (hc:∀ c∈T++(be++[10]),c < 45) (hl:T.length + be.length<=40) (n:Nat) (G:St):rE P C1 (n + 236) (gq (ya (b8 (gq (kL ti))))) (cl (wk so T be K x0 x1 x2 x3 x4 x5 x9)) (dk L a G) = .ok (.int ((lY (T++(be++[10])):Nat):Int)) (dk L a (G++[.list (((T++(be++[10])).filter la).map aF)])):=by
 refine (iD (n:=n + 235) (C:=C1) _ 0 _ _ _ rfl rfl rfl rfl).trans ?_
 have c0:rE P C1 (n + 235) kM (cl (wk so T be K x0 x1 x2 x3 x4 x5 x9)) (dk L a G) = .ok (.obj (G.length + 3)) (dk L a (G++[.list (((T++(be++[10])).filter la).map aF)])):=by
  refine qa (n:=n + 234) (C:=C1) (eQ kM) _ (m5 kM) _ _ _ _ _ (x:=.lst ((T++(be++[10])).map aF)) (q:=.seq 1 ((T++(be++[10])).map aF)) (s1:=dk L a G) rfl (CG hl n _) rfl ?_
  have b:=i4 (T++(be++[10])) [] (n + 234 - 40 - (T.length + be.length + 1)) none L a G (yf kM) hc (by rw [rJ]; show _ + 0<=100; omega)
  rw [rJ,zg (Nat.le_trans (Nat.add_le_add_left (Nat.add_le_add_right hl 1) 40) (Nat.le_trans (by decide) (Nat.le_add_left 234 n)))] at b
  exact b
 refine aC (bR c0 cQ) ?_
 have e:fO (.obj (G.length + 3)) (dk L a (G++[.list (((T++(be++[10])).filter la).map aF)]))=some (.int ((lY (T++(be++[10])):Nat):Int)):=by
  unfold fO
  dsimp only
  have e0:ao (dk L a (G++[O.list (((T++(be++[10])).filter la).map aF)])) (G.length + 3)=some (.list (((T++(be++[10])).filter la).map aF)):=dR L a G [O.list (((T++(be++[10])).filter la).map aF)] 0
  rw [e0]
  show gK (((T++(be++[10])).filter la).map aF).length=_
  unfold gK
  have:((T++(be++[10])).filter la).length<=(T++(be++[10])).length:=List.length_filter_le _ _
  rw [rJ] at this
  have hb:Nat.ble ((T++(be++[10])).filter la).length aP=true:=Nat.ble_eq_true_of_le (by unfold aP; omega)
  rw [List.length_map,hb]; rfl
 show dN (fO (.obj (G.length + 3)) (dk L a (G++[.list (((T++(be++[10])).filter la).map aF)]))) _=_
 rw [e]; rfl
theorem Az (hc:∀ c∈T++(be++[10]),c < 45) (hl:T.length + be.length<=40) (hso:so < 5) (n:Nat) (G:St):rE P C1 (n + 238) ti (cl (wk so T be K x0 x1 x2 x3 x4 x5 x9)) (dk L a G) = .ok (.lst [.tup [.str (rg (m7 so)),.int ((lY (T++(be++[10])):Nat):Int)]]) (dk L a (G++[.list (((T++(be++[10])).filter la).map aF)])):=by
 have k1:rE P C1 (n + 236) (gq (b8 (gq (kL ti)))) (cl (wk so T be K x0 x1 x2 x3 x4 x5 x9)) (dk L a G) = .ok (.str (rg (m7 so))) (dk L a G):=eC (congrFun ym ⟨n + 221,x0,x1,x2,x3,x4,x5,some (.lst (be.map aF)),some (.lst (T.map aF)),x9,some (.obj K),dk L a G⟩) so (iH hso)
 have k2:=Eu (L:=L) (a:=a) (so:=so) (K:=K) (x0:=x0) (x1:=x1) (x2:=x2) (x3:=x3) (x4:=x4) (x5:=x5) (x9:=x9) hc hl n G
 have k3:rE P C1 (n + 237) (gq (kL ti)) (cl (wk so T be K x0 x1 x2 x3 x4 x5 x9)) (dk L a G) = .ok (.tup [.str (rg (m7 so)),.int ((lY (T++(be++[10])):Nat):Int)]) (dk L a (G++[.list (((T++(be++[10])).filter la).map aF)])):=aC (bR k1 (bR k2 cQ)) rfl
 exact aC (bR k3 cQ) rfl
theorem AA {G:St} {fs:List (Nat × V)} {ob:Nat} {bd:List V} {kd:V} {l:List (Option V)} (hK:ao l 10=some (some (.obj K))) (h1:ao (dk L a G) K=some (.list [.obj (K + 1)])) (h2:bW (K + 1) (dk L a G)=some fs) (h3:find fs 83=some kd) (h4:find fs 87=some (.obj ob)) (h5:ao (dk L a G) ob=some (.list bd)) (hbl:bd.length<=aP) (n:Nat) :
  rE P C1 (n + 238) oW (cl l) (dk L a G) = .ok (.obj (G.length + 3)) (dk L a (G++[.list [.tup [kd,.int (bd.length:Int)]]])):=by
 have n2:bW (K + 1) (dk L a (G++[O.list []]))=some fs:=by
  refine ae (fj h2) fun i q1 q2=>?_
  unfold bW
  rw [show ao (dk L a (G++[O.list []])) (K + 1)=_ from gI (s:=dk L a G) q1,show ao (dk L a (G++[O.list []])) (K + 1 + 1)=_ from gI (s:=dk L a G) q2]; rfl
 have k1:rE P C1 (n + 235) (gq (b8 (eQ oW))) ⟨[some (.obj (K + 1))],22,false,[11],[],[]⟩ (dk L a (G++[O.list []])) = .ok kd (dk L a (G++[O.list []])):=vI (n:=n + 234) (C:=C1) _ _ _ rfl (k:=K + 1) rfl n2 rfl h3
 have k2:rE P C1 (n + 235) (gq (ya (b8 (eQ oW)))) ⟨[some (.obj (K + 1))],22,false,[11],[],[]⟩ (dk L a (G++[O.list []])) = .ok (.int (bd.length:Int)) (dk L a (G++[O.list []])):=by
  refine (iD (n:=n + 234) (C:=C1) _ 0 _ _ _ rfl rfl rfl rfl).trans ?_
  refine aC (bR (vI (n:=n + 233) (C:=C1) _ _ _ rfl (k:=K + 1) rfl n2 rfl h4) cQ) ?_
  have e:fO (.obj ob) (dk L a (G++[O.list []]))=some (.int (bd.length:Int)):=by
   unfold fO
   dsimp only
   rw [show ao (dk L a (G++[O.list []])) ob=_ from gI (s:=dk L a G) h5]
   show gK bd.length=_
   unfold gK
   rw [Nat.ble_eq_true_of_le hbl]; rfl
  show dN (fO (.obj ob) (dk L a (G++[O.list []]))) _=_
  rw [e]; rfl
 have k3:rE P C1 (n + 236) (eQ oW) ⟨[some (.obj (K + 1))],22,false,[11],[],[]⟩ (dk L a (G++[O.list []])) = .ok (.tup [kd,.int (bd.length:Int)]) (dk L a (G++[O.list []])):=aC (bR k1 (bR k2 cQ)) rfl
 have s1:bx (.obj K 0) (dk L a (G++[O.list []]))=some (some (.obj (K + 1),.obj K 1)):=by
  show (jk (ao (dk L a (G++[O.list []])) K)).map _=_
  rw [show ao (dk L a (G++[O.list []])) K=_ from gI (s:=dk L a G) h1]; rfl
 have s2:∀ o,bx (.obj K 1) (dk L a (G++[o]))=some none:=fun o=>by
  show (jk (ao (dk L a (G++[o])) K)).map _=_
  rw [show ao (dk L a (G++[o])) K=_ from gI (s:=dk L a G) h1]; rfl
 have sq:fN (.obj K) (dk L a G)=some (.obj K 0):=by
  show (jk (ao (dk L a G) K)).map _=_
  rw [h1]; rfl
 refine qa (n:=n + 237) (C:=C1) (eQ oW) _ (m5 oW) _ _ _ _ _ (x:=.obj K) (q:=.obj K 0) (s1:=dk L a G) rfl (g7 (C:=C1) hK) sq ?_
 refine (yO (n:=n + 236) (C:=C1) (eQ oW) 0 (yf oW) (.obj K 0) (.obj K 1) (G.length + 3) (v:=.obj (K + 1)) (l0:=[none]) (l:=[some (.obj (K + 1))]) (xs:=[]) s1 rfl k3 (dR L a G _ 0) (Nat.zero_le _)).trans ?_
 rw [m6]
 exact vF (n:=n + 235) (C:=C1) _ _ _ _ _ (s2 _)
theorem yp (s:St) {i:Nat} {k:List Nat} {b:Int} (h:ao s i=some (.list [.tup [.str k,.int b]])):wo s (.obj i) (.lst [.tup [.str k,.int b]])=some true:=by
 exact z2 (m:=8) h rfl (mW (xO (m:=7) rfl (mW (xP (m:=6) k) (mW (Dm (m:=6) b) rfl))) rfl)
theorem BW (hc:∀ c∈T++(be++[10]),c < 45) (hl:T.length + be.length<=40) (hso:so < 5) {G:St} {fs:List (Nat × V)} {ob:Nat} {bd:List V}
  (h1:ao (dk L a G) K=some (.list [.obj (K + 1)])) (h2:bW (K + 1) (dk L a G)=some fs) (h3:find fs 83=some (.str (rg (m7 so)))) (h4:find fs 87=some (.obj ob)) (h5:ao (dk L a G) ob=some (.list bd)) (h6:bd.length=lY (T++(be++[10]))) (n:Nat) :
  ∃ t,rT P C1 (n + 240) (ni (dS 9 dC)) (cl (wk so T be K x0 x1 x2 x3 x4 x5 x9)) (dk L a G) = .ok false (dk L a t):=by
 have hbl:bd.length<=aP:=by
  rw [h6]
  have:lY (T++(be++[10]))<=(T++(be++[10])).length:=List.length_filter_le _ _
  rw [rJ] at this
  unfold aP; omega
 refine ⟨_,(BI (n:=n + 239) (C:=C1) .Or _ _).trans (xM (s1:=dk L a G) ?_ (BK (n:=n + 238) (C:=C1) (AA (l:=wk so T be K x0 x1 x2 x3 x4 x5 x9) rfl h1 h2 h3 h4 h5 hbl n) (h6▸Az hc hl hso n _) (yp _ ?_)))⟩
 ·have e:rE P C1 (n + 238) (gq (v5 (ni (dS 9 dC)))) (cl (wk so T be K x0 x1 x2 x3 x4 x5 x9)) (dk L a G) = .ok (.bool false) (dk L a G):=by
   refine BJ (n:=n + 237) (C:=C1) _ _ _ _ (v:=.obj K) (s1:=dk L a G) rfl rfl rfl rfl rfl rfl ?_
   show (jk (ao (dk L a G) K)).map _=_
   rw [h1]; rfl
  exact aC e rfl
 ·exact gI (s:=dk L a (G++[O.list [.tup [.str (rg (m7 so)),.int (bd.length:Int)]]])) (dR L a G _ 0)
end
noncomputable def AB:ME->bP
 | .list l _=>l
 | _=>.nil
theorem v6 {so:Nat} (h:so < 5) (n:Nat) (x0 x1 x2 x3 x4 x5 x6 x8 x9 x10:Option V) (s:St):rE P C1 (n + 15) (bB (dS 2 dC)) (cl [x0,x1,x2,x3,x4,x5,x6,some (.int (so:Int)),x8,x9,x10]) s = .ok (.lst ((hd so).map aF)) s:=eC (congrFun yl ⟨n,x0,x1,x2,x3,x4,x5,x6,x8,x9,x10,s⟩) so (iH h)
theorem rK {c:Ca} (hc:c∈s8) {so:Nat} (h:so < 5) (n:Nat) (x0 x1 x2 x3 x5 x6 x8 x9 x10:Option V) (s:St):rT P C1 (n + 15) (ni (dS 4 dC)) (cl [x0,x1,x2,x3,some (.lst (c.ah.map aF)),x5,x6,some (.int (so:Int)),x8,x9,x10]) s = .ok (kK c so) s:=eC (eC (congrFun Ay ⟨n,x0,x1,x2,x3,none,x5,x6,x8,x9,x10,s⟩) c hc) so (iH h)
noncomputable def ll (x0 x2 x3 x4 x5 x6 x7 x8 x9 x10:Option V):List (Option V):=[x0,some (.obj 2),x2,x3,x4,x5,x6,x7,x8,x9,x10]
section
variable {L:List V} (hL:L.length<=40) (hi:∀ v∈L,∃ i:Int,v = .int i)
include hL hi
theorem CH {c:Ca} (hc:c∈s8) {so:Nat} (h:so < 5) {a:Nat} (ha:a<=700):∃ (l2:List Nat) (a':Nat),a'<=a + 3/\l2.length<=2/\(∀ c∈l2,7<=c/\c < 10)/\(kK c so=false->l2=[])/\∀ (n:Nat) (G:St) (T:List Nat) (x0 x2 x3 x5 x6 x9 x10:Option V),T.length<=50 ->
  ∃ G',rB P C1 (n + 256) (dS 4 dC) (cl (ll x0 x2 x3 (some (.lst (c.ah.map aF))) x5 x6 (some (.int (so:Int))) (some (.lst (T.map aF))) x9 x10)) (dk L (a:Int) G)=rB P C1 (n + 255) (dS 5 dC) (cl (ll x0 x2 x3 (some (.lst (c.ah.map aF))) x5 x6 (some (.int (so:Int))) (some (.lst ((T++l2).map aF))) x9 x10)) (dk L (a':Int) G'):=by
 cases hA:kK c so with
 | false=>
  refine (pf [] a (Nat.le_add_right _ _) (Nat.zero_le _) (fun HC m=>nomatch m) (fun HC=>rfl) (fun n G T x0 x2 x3 x5 x6 x9 x10 hT=>⟨G,?_⟩))
  rw [List.append_nil]
  exact mV (n:=n + 255) (C:=C1) (ni (dS 4 dC)) _ _ (dS 5 dC) (hA▸rK hc h (n + 240) x0 (some (.obj 2)) x2 x3 x5 x6 (some (.lst (T.map aF))) x9 x10 (dk L (a:Int) G)) fun s=>rfl
 | true=>
  refine cL fun HC kG=>?_
  refine cJ (t5 hL hi (a:=a) (by omega)) fun l2 a' h1 h2 h3 h4=>?_
  refine kG ?_
  refine (pf l2 a' h1 h2 h3 (fun q=>nomatch q) (fun n G T x0 x2 x3 x5 x6 x9 x10 hT=>⟨G++[.list (l2.map aF)],?_⟩))
  refine xL (n:=n + 255) (C:=C1) (ni (dS 4 dC)) (El (dS 4 dC)) _ _ (dS 5 dC) (hA▸rK hc h (n + 240) x0 (some (.obj 2)) x2 x3 x5 x6 (some (.lst (T.map aF))) x9 x10 (dk L (a:Int) G)) ?_
  exact cm (n:=n + 254) (C:=C1) _ _ _ _ rfl (h4 (n + 223) _ G T hT rfl rfl) rfl
theorem rM {a:Nat} (ha:a<=400) (n:Nat) (G:St) (x0 x2 x3 x4 x5 x6 x7 x8 x9 x10:Option V):∃ (a':Nat) (G':St) (y3 y4 y5 y6 y7 y8 y9 y10:Option V),a'<=a + 20 /\
  rB P C1 (n + 260) dC (cl (ll x0 x2 x3 x4 x5 x6 x7 x8 x9 x10)) (dk L (a:Int) G) = .ok (.next,ll x0 x2 y3 y4 y5 y6 y7 y8 y9 y10) (dk L (a':Int) G'):=by
 refine cL fun HC kG=>?_
 refine ae (t1 hL hi (a:=a) (Nat.le_trans ha (by decide))) fun c hc hT1=>?_
 refine ae (t2 hL hi hc (a:=a + 1) (Nat.le_trans (Nat.add_le_add_right ha 1) (by decide))) fun so hso hT2=>?_
 have k:=A6 m8 c hc
 have h5:so < 5:=A5 (A6 (aD (al k)) so hso)
 refine cJ (t4 hL hi (a:=a + 1 + 1) (Nat.le_trans (Nat.add_le_add_right ha 2) (by decide))) fun l1 a3 g1 g2 g3 hT4=>?_
 refine jz (CH hL hi hc h5 (a:=a3) (Nat.le_trans g1 (Nat.le_trans (Nat.add_le_add_right ha 5) (by decide)))) fun l2 a4 f1 f2 f3 f4 hT5=>?_
 refine bD (t7 hL hi (a:=a4) (Nat.le_trans f1 (Nat.le_trans (Nat.add_le_add_right g1 3) (Nat.le_trans (Nat.add_le_add_right ha 8) (by decide))))) fun g d1 d2 hT7=>?_
 refine ai (Et hc hso ⟨g2,g3⟩ ⟨f2,f3⟩ f4) fun cA cB=>?_
 refine kG ?_
 have hhd:(hd so).length<=1:=by
  cases so with
  | zero=>exact Nat.zero_le _
  | succ k=>exact Nat.le_refl _
 have hab:c.ah.length + c.be.length<=10:=A5 (al (al (al (al (al k)))))
 let T:List Nat:=((hd so++l1)++l2)++c.ah
 have eT:T=(hd so++(l1++l2))++c.ah:=by show ((hd so++l1)++l2)++c.ah=_; rw [List.append_assoc (hd so)]
 have hTl:T.length + c.be.length<=40:=by
  show (((hd so++l1)++l2)++c.ah).length + _<=_
  simp only [List.length_append]
  rw [Nat.add_assoc]
  exact Nat.le_trans (Nat.add_le_add (Nat.add_le_add (Nat.add_le_add hhd g2) f2) hab) (by decide)
 have hT45:∀ x∈T,x < 45:=fun x m=>by
  rcases A3 m with m | m
  ·rcases A3 m with m | m
   ·rcases A3 m with m | m
    ·cases so with
     | zero=>cases m
     | succ k=>rw [A2 m]; omega
    ·have:=(g3 x m).2; omega
   ·have:=(f3 x m).2; omega
  ·exact A5 (A6 (aD (al (al k))) x m)
 have hw45:c.wr < 45:=A5 (aD (al (al (al k))))
 have hb45:∀ x∈c.be++[10],x < 45:=fun x m=>by
  rcases A3 m with m | m
  ·exact A5 (A6 (aD (al (al (al (al k))))) x m)
  ·rw [A2 m]; decide
 have hcA:∀ x∈T++(c.wr :: (c.be++[10])),x < 45:=fun x m=>by
  rcases A3 m with m | m
  ·exact hT45 x m
  ·rcases A7 m with rfl | m
   ·exact hw45
   ·exact hb45 x m
 have hcB:∀ x∈T++(c.be++[10]),x < 45:=fun x m=>(A3 m).elim (hT45 x) (hb45 x)
 rw [<- List.append_assoc (hd so++(l1++l2)),<- eT] at cA
 rw [<- List.append_assoc (hd so++(l1++l2)),<- eT] at cB
 refine cL fun HC kG=>?_
 refine ay (hT5 n (G++[.list (l1.map aF)]) (hd so++l1) x0 x2 (some (.str (c.so.map fun x=>x + 48))) (some (aF c.wr)) (some (.lst (c.be.map aF))) x9 x10 (by rw [List.length_append]; omega)) fun G5 e5=>?_
 refine ay (yn (L:=L) (a:=a4 + 1) (g:=g) ⟨d1,d2⟩ hcA hTl cA (n + 11) (ll x0 x2 (some (.str (c.so.map fun x=>x + 48))) (some (.lst (c.ah.map aF))) (some (aF c.wr)) (some (.lst (c.be.map aF))) (some (.int (so:Int))) (some (.lst (T.map aF))) (some (.int (g:Int))) x10) G5 rfl rfl rfl rfl) fun t1_ e8=>?_
 obtain ⟨t2_,fs,ob,bd,e9,b1,b2,b3,b4,b5,b6⟩:=(yo (L:=L) (a:=a4 + 1) (g:=g) ⟨d1,d2⟩ hcB hTl cB (n + 11) (ll x0 x2 (some (.str (c.so.map fun x=>x + 48))) (some (.lst (c.ah.map aF))) (some (aF c.wr)) (some (.lst (c.be.map aF))) (some (.int (so:Int))) (some (.lst (T.map aF))) (some (.int (g:Int))) x10) (G5++t1_) rfl rfl rfl)
 refine ay (BW (x0:=x0) (x1:=some (.obj 2)) (x2:=x2) (x3:=some (.str (c.so.map fun x=>x + 48))) (x4:=some (.lst (c.ah.map aF))) (x5:=some (aF c.wr)) (x9:=some (.int (g:Int))) hcB hTl h5 b1 b2 b3 b4 b5 b6 (n + 10)) fun t3_ e10=>?_
 refine kG ?_
 refine ⟨a4 + 1,t3_,some (.str (c.so.map fun x=>x + 48)),some (.lst (c.ah.map aF)),some (aF c.wr),some (.lst (c.be.map aF)),some (.int (so:Int)),some (.lst (T.map aF)),some (.int (g:Int)),some (.obj ((G5++t1_).length + 7)),by omega,?_⟩
 refine (cm (n:=n + 259) (C:=C1) (l₁:=ll x0 x2 (some (.str (c.so.map fun x=>x + 48))) (some (.lst (c.ah.map aF))) (some (aF c.wr)) (some (.lst (c.be.map aF))) x7 x8 x9 x10) (s₂:=dk L ((a + 1:Nat):Int) G) _ _ _ (dS 1 dC) rfl (hT1 (n + 219) _ G rfl) rfl).trans ?_
 refine (cm (n:=n + 258) (C:=C1) (l₁:=ll x0 x2 (some (.str (c.so.map fun x=>x + 48))) (some (.lst (c.ah.map aF))) (some (aF c.wr)) (some (.lst (c.be.map aF))) (some (.int (so:Int))) x8 x9 x10) (s₂:=dk L ((a + 1 + 1:Nat):Int) G) _ _ _ (dS 2 dC) rfl (hT2 (n + 218) _ G rfl rfl) rfl).trans ?_
 refine (cm (n:=n + 257) (C:=C1) (l₁:=ll x0 x2 (some (.str (c.so.map fun x=>x + 48))) (some (.lst (c.ah.map aF))) (some (aF c.wr)) (some (.lst (c.be.map aF))) (some (.int (so:Int))) (some (.lst ((hd so).map aF))) x9 x10) (s₂:=dk L ((a + 1 + 1:Nat):Int) G) _ _ _ (dS 3 dC) rfl (v6 h5 (n + 242) x0 (some (.obj 2)) x2 (some (.str (c.so.map fun x=>x + 48))) (some (.lst (c.ah.map aF))) (some (aF c.wr)) (some (.lst (c.be.map aF))) x8 x9 x10 _) rfl).trans ?_
 refine (cm (n:=n + 256) (C:=C1) (l₁:=ll x0 x2 (some (.str (c.so.map fun x=>x + 48))) (some (.lst (c.ah.map aF))) (some (aF c.wr)) (some (.lst (c.be.map aF))) (some (.int (so:Int))) (some (.lst ((hd so++l1).map aF))) x9 x10) (s₂:=dk L (a3:Int) (G++[.list (l1.map aF)])) _ _ _ (dS 4 dC) rfl (hT4 (n + 225) _ G (hd so) (by omega) rfl rfl) rfl).trans ?_
 refine e5.trans ?_
 have e6:rE P C1 (n + 254) (bB (dS 5 dC)) (cl (ll x0 x2 (some (.str (c.so.map fun x=>x + 48))) (some (.lst (c.ah.map aF))) (some (aF c.wr)) (some (.lst (c.be.map aF))) (some (.int (so:Int))) (some (.lst (((hd so++l1)++l2).map aF))) x9 x10)) (dk L (a4:Int) G5) = .ok (.lst (T.map aF)) (dk L (a4:Int) G5):=by
  rw [show T.map aF=((hd so++l1)++l2).map aF++c.ah.map aF from List.map_append]
  exact gm (n:=n + 253) (C:=C1) (x:=.lst (((hd so++l1)++l2).map aF)) (y:=.lst (c.ah.map aF)) (s1:=dk L (a4:Int) G5) rfl rfl rfl rfl (by rw [List.length_map,List.length_map,<- List.length_append]; exact Nat.le_trans (Nat.le_trans (Nat.le_add_right _ c.be.length) hTl) (by decide))
 refine (cm (n:=n + 254) (C:=C1) (l₁:=ll x0 x2 (some (.str (c.so.map fun x=>x + 48))) (some (.lst (c.ah.map aF))) (some (aF c.wr)) (some (.lst (c.be.map aF))) (some (.int (so:Int))) (some (.lst (T.map aF))) x9 x10) (s₂:=dk L (a4:Int) G5) _ _ _ (dS 6 dC) rfl e6 rfl).trans ?_
 refine (cm (n:=n + 253) (C:=C1) (l₁:=ll x0 x2 (some (.str (c.so.map fun x=>x + 48))) (some (.lst (c.ah.map aF))) (some (aF c.wr)) (some (.lst (c.be.map aF))) (some (.int (so:Int))) (some (.lst (T.map aF))) (some (.int (g:Int))) x10) (s₂:=dk L ((a4 + 1:Nat):Int) G5) _ _ _ (dS 7 dC) rfl (hT7 (n + 213) _ G5 rfl) rfl).trans ?_
 have m1:rE P C1 (n + 251) (o8 (ni (dS 7 dC))) (cl (ll x0 x2 (some (.str (c.so.map fun x=>x + 48))) (some (.lst (c.ah.map aF))) (some (aF c.wr)) (some (.lst (c.be.map aF))) (some (.int (so:Int))) (some (.lst (T.map aF))) (some (.int (g:Int))) x10)) (dk L ((a4 + 1:Nat):Int) (G5++t1_)) = .ok (.int (3 + (g:Int) * (T.length:Int))) (dk L ((a4 + 1:Nat):Int) (G5++t1_)):=by
  have m2:rE P C1 (n + 249) (o8 (o8 (o8 (ni (dS 7 dC))))) (cl (ll x0 x2 (some (.str (c.so.map fun x=>x + 48))) (some (.lst (c.ah.map aF))) (some (aF c.wr)) (some (.lst (c.be.map aF))) (some (.int (so:Int))) (some (.lst (T.map aF))) (some (.int (g:Int))) x10)) (dk L ((a4 + 1:Nat):Int) (G5++t1_)) = .ok (.int (T.length:Int)) (dk L ((a4 + 1:Nat):Int) (G5++t1_)):=by
   refine (iD (n:=n + 248) (C:=C1) _ 0 _ _ _ rfl rfl rfl rfl).trans ?_
   refine aC (bR (v:=.lst (T.map aF)) (s1:=dk L ((a4 + 1:Nat):Int) (G5++t1_)) rfl cQ) ?_
   show dN (gK (T.map aF).length) _=_
   have hb:Nat.ble T.length aP=true:=Nat.ble_eq_true_of_le (Nat.le_trans (Nat.le_trans (Nat.le_add_right _ c.be.length) hTl) (by decide))
   unfold gK
   rw [List.length_map,hb]; rfl
  have m3:rE P C1 (n + 250) (o8 (o8 (ni (dS 7 dC)))) (cl (ll x0 x2 (some (.str (c.so.map fun x=>x + 48))) (some (.lst (c.ah.map aF))) (some (aF c.wr)) (some (.lst (c.be.map aF))) (some (.int (so:Int))) (some (.lst (T.map aF))) (some (.int (g:Int))) x10)) (dk L ((a4 + 1:Nat):Int) (G5++t1_)) = .ok (.int ((g:Int) * (T.length:Int))) (dk L ((a4 + 1:Nat):Int) (G5++t1_)):=by
   refine (kB (n:=n + 249) (C:=C1) _ _ _ _).trans ?_
   refine aC (v:=.int (g:Int)) (s1:=dk L ((a4 + 1:Nat):Int) (G5++t1_)) rfl (aC m2 ?_)
   exact ql ⟨CN (Nat.le_trans d2 (by decide)),CN (Nat.le_trans (Nat.le_trans (Nat.le_add_right _ c.be.length) hTl) (by decide))⟩
  refine (kB (n:=n + 250) (C:=C1) _ _ _ _).trans ?_
  exact aC (v:=.int 3) (s1:=dk L ((a4 + 1:Nat):Int) (G5++t1_)) rfl (aC m3 rfl)
 refine (mV (n:=n + 252) (C:=C1) (ni (dS 7 dC)) _ _ (dS 8 dC) (BK (n:=n + 251) (C:=C1) e8 m1 (xN _ _)) fun s=>rfl).trans ?_
 refine (cm (n:=n + 251) (C:=C1) (l₁:=ll x0 x2 (some (.str (c.so.map fun x=>x + 48))) (some (.lst (c.ah.map aF))) (some (aF c.wr)) (some (.lst (c.be.map aF))) (some (.int (so:Int))) (some (.lst (T.map aF))) (some (.int (g:Int))) (some (.obj ((G5++t1_).length + 7)))) (s₂:=dk L ((a4 + 1:Nat):Int) ((G5++t1_)++t2_)) _ _ _ (dS 9 dC) rfl e9 rfl).trans ?_
 exact (mV (n:=n + 250) (C:=C1) (ni (dS 9 dC)) _ _ (dS 10 dC) e10 fun s=>rfl).trans rfl
end
theorem AC {L0:List V} (hl:L0.length<=63) (hi:∀ v∈L0,∃ i:Int,v = .int i) (n:Nat):∃ l s,ao s 0=some (.wild 0)/\ao s 1=some (.wild 1)/\rB P C1 (n + 270) kQ.body (cl [some (.lst L0),none,none,none,none,none,none,none,none,none,none]) [.wild 0,.wild 1] = .ok (.ret (.bool true),l) s:=by
 have hL:(L0.take 40).length<=40:=by rw [List.length_take]; exact Nat.min_le_left _ _
 have hi':∀ v∈L0.take 40,∃ i:Int,v = .int i:=fun v m=>hi v (List.mem_of_mem_take m)
 refine cL fun HC kG=>?_
 obtain ⟨a1,G1,u3,u4,u5,u6,u7,u8,u9,CT,k1,e1⟩:=rM hL hi' (a:=0) (by omega) (n + 7) [] (some (.lst L0)) (some (.int 0)) none none none none none none none none
 obtain ⟨a2,G2,w3,w4,w5,w6,w7,w8,w9,w10,k2,e2⟩:=rM hL hi' (a:=a1) (by omega) (n + 6) G1 (some (.lst L0)) (some (.int 1)) u3 u4 u5 u6 u7 u8 u9 CT
 refine kG ?_
 refine (db (ll (some (.lst L0)) (some (.int 1)) w3 w4 w5 w6 w7 w8 w9 w10) (dk (L0.take 40) (a2:Int) G2) rfl rfl ?_)
 have e0:rE P C1 (n + 269) (bB yS) (cl [some (.lst L0),none,none,none,none,none,none,none,none,none,none]) [.wild 0,.wild 1] = .ok (.obj 2) (dk (L0.take 40) ((0:Nat):Int) []):=by
  have c0:wt (.lst L0) none (some 40) [.wild 0,.wild 1]=some (.lst (L0.take 40)):=by
   show (grd (Nat.ble L0.length aP && (true && true)) (some (L0.take 40))).map V.lst=_
   rw [Nat.ble_eq_true_of_le (show L0.length<=aP by unfold aP; omega)]; rfl
  have c1:rE P C1 (n + 268) (gq (AB (bB yS))) (cl [some (.lst L0),none,none,none,none,none,none,none,none,none,none]) [.wild 0,.wild 1] = .ok (.lst (L0.take 40)) [.wild 0,.wild 1]:=by
   show dN (wt (.lst L0) none (some 40) [.wild 0,.wild 1]) _=_
   rw [c0]; rfl
  exact aC (bR c1 (bR (v:=.int 0) (s1:=[.wild 0,.wild 1]) rfl cQ)) rfl
 refine (cm (n:=n + 269) (C:=C1) (l₁:=ll (some (.lst L0)) none none none none none none none none none) (s₂:=dk (L0.take 40) ((0:Nat):Int) []) _ _ _ (nh yS) rfl e0 rfl).trans ?_
 refine (vJ (n:=n + 268) (C:=C1) C2 (rD yS) dC _ (nh (nh yS)) rfl (x:=.rng 0 2) (s':=dk (L0.take 40) ((0:Nat):Int) []) rfl (q:=.seq 3 [.int 0,.int 1]) rfl).trans ?_
 refine aC (v:=(.next,ll (some (.lst L0)) (some (.int 1)) w3 w4 w5 w6 w7 w8 w9 w10)) (s1:=dk (L0.take 40) (a2:Int) G2) ?_ rfl
 refine (z1 (n:=n + 267) (C:=C1) C2 (.seq 3 [.int 0,.int 1]) (.seq 3 [.int 1]) dC (v:=.int 0) rfl).trans ?_
 refine aC (v:=ll (some (.lst L0)) (some (.int 0)) none none none none none none none none) (s1:=dk (L0.take 40) ((0:Nat):Int) []) rfl ?_
 refine aC e1 ?_
 refine (z1 (n:=n + 266) (C:=C1) C2 (.seq 3 [.int 1]) (.seq 3 []) dC (v:=.int 1) rfl).trans ?_
 refine aC (v:=ll (some (.lst L0)) (some (.int 1)) u3 u4 u5 u6 u7 u8 u9 CT) (s1:=dk (L0.take 40) (a1:Int) G1) rfl ?_
 refine aC e2 ?_
 exact BF (n:=n + 265) (C:=C1) C2 (.seq 3 []) dC rfl
end Mine.T
end
section
open PySem PySem.W PySem.Calls PyProof.Rows
namespace Mine.T
noncomputable def rN (i:Nat) (vs:List V):Option V:=match (run P C0 300).c i vs 8 false [] with
 | .ok v s=>d4 s 9 v
 | _=>none
set_option tactic.hygienic true in
theorem yq {i:Nat} {vs:List V} {v:V} (e:rN i vs=some v):∃ cC s',(run P C0 300).c i vs 8 false [] = .ok cC s'/\d4 s' 9 cC=some v:=by
 unfold rN at e
 split at e
 ·rename_i cC s' h; exact (rP cC s' h e)
 ·exact nS e
noncomputable def kN (f:Nat × List Nat × V->Prop):List (Nat × List Nat × V)->Prop
 | []=>True
 | p :: l=>f p/\kN f l
theorem kN.at {f:Nat × List Nat × V->Prop}:∀ {l:List (Nat × List Nat × V)},kN f l->∀ {k:List Nat} {h:Nat} {v:V},rd l k h=some v->∃ h',f (h',k,v)
 | [],_,_,_,_,e=>nomatch e
 | p :: l,a,k,h,v,e=>by
  have e':(match Nat.beq p.1 h with | true=>grd (nu p.2.1 k) (some p.2.2) | false=>rd l k h)=some v:=e
  cases b:Nat.beq p.1 h with
  | true=>
   rw [b] at e'
   refine ai (aO e') fun h2 e'=>?_
   exact ⟨p.1,(of_decide_eq_true ((fV _ _).symm.trans h2):p.2.1=k)▸oi e'▸a.1⟩
  | false=>rw [b] at e'; exact kN.at a.2 e'
theorem Hr:kN (fun p=>rN 5 [.str p.2.1]=some p.2.2) DJ:=by
 unfold DJ
 repeat (refine ⟨by kernel_rfl,?_⟩)
 trivial
theorem Hs:kN (fun p=>rN 18 [.str p.2.1]=some p.2.2) DK:=by
 unfold DK
 repeat (refine ⟨by kernel_rfl,?_⟩)
 trivial
theorem Ht:kN (fun p=>rN 29 [.str p.2.1]=some p.2.2) DL:=by
 unfold DL
 repeat (refine ⟨by kernel_rfl,?_⟩)
 trivial
theorem Hu:kN (fun p=>rN 32 [.str p.2.1]=some p.2.2) DM:=by
 unfold DM
 repeat (refine ⟨by kernel_rfl,?_⟩)
 trivial
theorem Hv:kN (fun p=>rN 60 [.str p.2.1]=some p.2.2) DN:=by
 unfold DN
 repeat (refine ⟨by kernel_rfl,?_⟩)
 trivial
theorem Hw:rN 49 []=some FP:=by kernel_rfl
theorem Hx:rN 50 []=some FQ:=by kernel_rfl
theorem Hy:rN 51 []=some FR:=by kernel_rfl
noncomputable def hJ (base:Heap) (mg:Str->Option Value):Prop:=∃ bm o,mg "__builtins__" = some (.ref bm)/\bm≠builtinsNs/\bm≠mainGlobals/\base.get? bm=some o/\o.cls = .type "module"/\o.dict=some builtinsNs/\o.data = .plain
noncomputable def Ew:GV->Bool
 | .mk i j=>Nat.beq i 53 && Nat.beq j 54
 | _=>true
theorem oY {α:Type} {q:α->Bool}:∀ {l:List (Nat × α)},(l.all fun p=>q p.2)=true->∀ {g:Nat} {a:α},find l g=some a->q a=true
 | [],_,_,_,e=>nomatch e
 | p :: l,h,g,a,e=>by
  have e':(match Nat.beq p.1 g with | true=>some p.2 | false=>find l g)=some a:=e
  have h':(q p.2 && l.all fun p=>q p.2)=true:=h
  cases b:Nat.beq p.1 g with
  | true=>rw [b] at e'; exact oi e'▸aD h'
  | false=>rw [b] at e'; exact oY (al h') e'
theorem Hz:(Ac.all fun q=>Ew q.2)=true:=by kernel_rfl
theorem yr {g i j:Nat} (h:P.gv g = .mk i j):i=53/\j=54:=by
 have h':(match find Ac g with | some v=>v | none=>.no)=GV.mk i j:=h
 cases hf:find Ac g with
 | none=>rw [hf] at h'; cases h'
 | some v=>
  rw [hf] at h'
  have q:=oY Hz hf
  rw [show v=GV.mk i j from h'] at q
  exact ⟨A4 (aD q),A4 (al q)⟩
theorem ng {α:Type} {q:Nat->α->Prop}:∀ {l:List (Nat × α)},kn (fun p=>q p.1 p.2) l->∀ {g:Nat} {a:α},find l g=some a->q g a
 | [],_,_,_,e=>nomatch e
 | p :: l,h,g,a,e=>by
  have e':(match Nat.beq p.1 g with | true=>some p.2 | false=>find l g)=some a:=e
  cases b:Nat.beq p.1 g with
  | true=>rw [b] at e'; exact A4 b▸oi e'▸h.1
  | false=>rw [b] at e'; exact ng h.2 e'
theorem v7 {i:Nat}:∀ {vs:List V} {d:Nat} {v:V},yU i vs d=some v->8<=d/\vs.all (bj 9)=true/\rN i vs=some v
 | [],d,v,e=>let ⟨hd,e⟩:=aO e; (cF (A5 hd) rfl (ng (q:=fun i v=>rN i []=some v) (l:=DP) (show kn _ DP from ⟨Hw,Hx,Hy,trivial⟩) e))
 | x :: l,d,v,e=>by
  refine ai (aO e) fun hd e=>?_
  refine ae (bnd e) fun k hk e=>?_
  rw [d6 hk]
  refine ai (aO e) fun h1 e=>?_
  refine ae (bnd e) fun t h2 e=>?_
  rw [List.isEmpty_iff.mp h1]
  have a:kN (fun p=>rN i [.str p.2.1]=some p.2.2) t:=ng (q:=fun i t=>kN (fun p=>rN i [.str p.2.1]=some p.2.2) t) (l:=DQ) (show kn _ DQ from ⟨Hr,Hs,Ht,Hu,Hv,trivial⟩) h2
  exact (cF (A5 hd) rfl ((a.at e).choose_spec))
theorem tj (i:Nat) (f:bu) (vs:List V) (d:Nat) (v:V) (_:P.fns i=some f) (e:C1.memo i vs d=some v):vs.all (bj 9)=true/\∃ n d' cC s',d'<=d/\(run P C0 n).c i vs d' false [] = .ok cC s'/\d4 s' 9 cC=some v:=
 let ⟨hd,hf,hr⟩:=v7 e
 let ⟨cC,s',h1,h2⟩:=yq hr
 ⟨hf,300,8,cC,s',hd,h1,h2⟩
section
variable {p:Params} {base:Heap} (X:(K p).In base) {w:World} {mg mb:Str->Option Value} {prog:Program}
include X
theorem FC:∀ i f,P.fns i=some f->yx f=true->cy P nm base f:=fun i f e=>kn.at (p:=fun f=>yx f=true->cy P nm base f) (l:=AH) (show kn _ AH from ⟨fun HC=>c0 X,fun HC=>c1 X,fun HC=>c2 X,fun HC=>c3 X,fun HC=>c4 X,fun HC=>c5 X,fun HC=>c6 X,fun HC=>c7 X,fun HC=>c8 X,fun HC=>c9 X,fun HC=>Gi X,fun HC=>Gj X,fun HC=>Gk X,fun HC=>Gl X,fun HC=>Gm X,fun HC=>Gp X,fun HC=>Gq X,fun HC=>Gs X,fun HC=>Gu X,fun HC=>Gv X,fun HC=>Gw X,fun HC=>Gx X,fun HC=>Gy X,fun HC=>Gz X,fun HC=>GA X,fun HC=>GB X,fun HC=>GC X,fun HC=>GD X,fun HC=>GF X,fun HC=>GH X,fun HC=>GI X,fun HC=>GJ X,fun HC=>GK X,fun HC=>GM X,fun HC=>GN X,fun HC=>GP X,fun HC=>GQ X,fun HC=>GR X,fun HC=>GU X,fun HC=>GW X,fun HC=>GX X,fun HC=>GY X,fun HC=>GZ X,fun HC=>G0 X,fun HC=>G3 X,fun HC=>G4 X,fun HC=>G6 X,fun HC=>G7 X,fun HC=>G8 X,fun HC=>G9 X,fun HC=>Ha X,fun HC=>Hb X,fun HC=>Hc X,nofun,nofun,fun HC=>Hj X,nofun,nofun,nofun,fun HC=>Hd X,fun HC=>He X,fun HC=>Hf X,fun HC=>FK X,fun HC=>DE X,fun HC=>FL X,trivial⟩) e
omit X in
theorem hP:∀ i f,P.fns i=some f->gQ f.vars=true\/f=Ab:=fun i f e=>kn.at (p:=fun f=>gQ f.vars=true\/f=Ab) (l:=AH) (show kn _ AH from ⟨.inl rfl,.inl rfl,.inl rfl,.inl rfl,.inl rfl,.inl rfl,.inl rfl,.inl rfl,.inl rfl,.inl rfl,.inl rfl,.inl rfl,.inl rfl,.inl rfl,.inl rfl,.inl rfl,.inl rfl,.inl rfl,.inl rfl,.inl rfl,.inl rfl,.inl rfl,.inl rfl,.inl rfl,.inl rfl,.inl rfl,.inl rfl,.inl rfl,.inl rfl,.inl rfl,.inl rfl,.inl rfl,.inl rfl,.inl rfl,.inl rfl,.inl rfl,.inl rfl,.inl rfl,.inl rfl,.inl rfl,.inl rfl,.inl rfl,.inl rfl,.inl rfl,.inl rfl,.inl rfl,.inl rfl,.inl rfl,.inl rfl,.inl rfl,.inl rfl,.inl rfl,.inl rfl,.inl rfl,.inr rfl,.inl rfl,.inl rfl,.inl rfl,.inl rfl,.inl rfl,.inl rfl,.inl rfl,.inl rfl,.inl rfl,.inl rfl,trivial⟩) e
theorem MK (hg:base.Ns mainGlobals mg) (hb:base.Ns builtinsNs mb) (hbb:∀ x:Str,x≠"__name__"->mb x=bootBuiltins x) (NL:base.NoLimit) (sm:base.get? sysModules≠none) (BA:hJ base mg):qE prog w base P nm:=by
 intro g i j f v z d hm σ A fes xs ρ s Q E hgv hf ht O ff I rv hfr hw gd
 refine ai (yr hgv) fun zq1 zq2=>?_; subst zq1; subst zq2
 replace hf:=oi hf; subst hf
 exact vL (GL X hg hb hbb sm) NL BA (f:=Dy) (fp:=Ab) rfl (B9 X) v z d hm σ A fes xs ρ s Q E ht O I rv hw gd
theorem SF {C:aS} (hg:base.Ns mainGlobals mg) (hb:base.Ns builtinsNs mb) (hbb:∀ x:Str,x≠"__name__"->mb x=bootBuiltins x) (NL:base.NoLimit) (sm:base.get? sysModules≠none) (n:Nat):sz prog w base P nm (run P C n):=
 vO (GL X hg hb hbb sm) NL (fp:=Ab) rfl rfl rfl hP n
theorem W0 (hg:base.Ns mainGlobals mg) (hb:base.Ns builtinsNs mb) (hbb:∀ x:Str,x≠"__name__"->mb x=bootBuiltins x) (NL:base.NoLimit) (sm:base.get? sysModules≠none) (BA:hJ base mg):aY prog w base P nm C0 mg mb:=
 ⟨GL X hg hb hbb sm,FM C0 rfl rfl rfl rfl rfl,CK X,FO X,pW (XW X hg hb hbb NL),NL,fun HC HC HC HC HC HC e=>(by exact nS e),MK X hg hb hbb NL sm BA,BA⟩
theorem HA (hg:base.Ns mainGlobals mg) (hb:base.Ns builtinsNs mb) (hbb:∀ x:Str,x≠"__name__"->mb x=bootBuiltins x) (NL:base.NoLimit) (sm:base.get? sysModules≠none) (BA:hJ base mg) (n:Nat):pL prog w base P nm C0 n:=
 yG (W0 X hg hb hbb NL sm BA) (gO (XW X hg hb hbb NL)) (FC X) (SF X hg hb hbb NL sm) n
theorem W1 (hg:base.Ns mainGlobals mg) (hb:base.Ns builtinsNs mb) (hbb:∀ x:Str,x≠"__name__"->mb x=bootBuiltins x) (NL:base.NoLimit) (sm:base.get? sysModules≠none) (BA:hJ base mg):aY prog w base P nm C1 mg mb:=
 have W:=W0 (prog:=prog) (w:=w) X hg hb hbb NL sm BA
 ⟨W.G,FM C1 rfl rfl rfl rfl rfl,fun c cl h k=>⟨(W.K c cl h k).at_,(W.K c cl h k).look⟩,W.FO,W.X,NL,xB (fun n=>(HA X hg hb hbb NL sm BA n).c) tj,W.MK,BA⟩
theorem HB (hg:base.Ns mainGlobals mg) (hb:base.Ns builtinsNs mb) (hbb:∀ x:Str,x≠"__name__"->mb x=bootBuiltins x) (NL:base.NoLimit) (sm:base.get? sysModules≠none) (BA:hJ base mg) (n:Nat):pL prog w base P nm C1 n:=
 have FA:=gO (XW (prog:=prog) (w:=w) X hg hb hbb NL)
 yG (W1 X hg hb hbb NL sm BA) ⟨FA.cls,FA.make⟩ (FC X) (SF X hg hb hbb NL sm) n
end
end Mine.T
end
section
set_option backward.match.sparseCases true
open PySem PySem.W PySem.Calls PyProof.Rows
set_option maxHeartbeats 400000
namespace Mine.T
theorem v8 {h:Heap} {ow ρ:List Addr}:∀ {vs:List Value} {ns:List Int},IntsAre vs ns->ak P nm h ow ρ (ns.map .int) vs:=by
 intro vs ns h
 induction h with
 | nil=>exact .nil
 | cons n t r ih=>exact .cons (.int n t) ih
noncomputable def Ex:Obj->Obj:=fun HC=>{ cls:=.none,data:=.freed }
noncomputable def kO (h:Heap):Heap:=(h.update 821 Ex).update 828 Ex
theorem lZ (h:Heap) (a:Addr):(h.update a Ex).get? a=none:=by
 cases h with
 | mk objs l=>
  simp only [Heap.update,Heap.get?,Array.getElem?_modify,if_true]
  cases objs[a]? <;> rfl
theorem fA (h:Heap) {b:Addr} (h1:821≠b) (h2:828≠b):(kO h).get? b=h.get? b:=(Heap.get?_update_other _ _ h2).trans (Heap.get?_update_other _ _ h1)
theorem v9 (h:Heap):(kO h).get? 821=none:=(Heap.get?_update_other _ _ (by decide)).trans (lZ h 821)
theorem wa (h:Heap):(kO h).get? 828=none:=lZ _ 828
theorem i5 {h:Heap} {b:Addr} {o:Obj} (e:(kO h).get? b=some o):821≠b/\828≠b/\h.get? b=some o:=by
 have h1:821≠b:=fun q=>by subst q; rw [v9] at e; exact nS e
 have h2:828≠b:=fun q=>by subst q; rw [wa] at e; exact nS e
 exact (cF h1 h2 ((fA h h1 h2).symm.trans e))
theorem gu {f:Addr->Bool}:∀ {l:Frag} {a:Addr} {o:Obj},List.lookup a (l.filter fun q=>!f q.1)=some o->List.lookup a l=some o/\f a=false
 | [],a,o,e=>nomatch e
 | (b,ob) :: l,a,o,e=>by
  rw [List.filter_cons] at e
  cases hf:f b with
  | true=>
   rw [show (!f b)=false from by rw [hf]; rfl,if_neg Bool.false_ne_true] at e
   refine ai (gu e) fun e1 e2=>?_
   refine ⟨?_,e2⟩
   rw [List.lookup_cons]
   cases hab:a == b with
   | true=>rw [eq_of_beq hab,hf] at e2; exact tF e2
   | false=>exact e1
  | false=>
   rw [show (!f b)=true from by rw [hf]; rfl,if_pos rfl,List.lookup_cons] at e
   rw [List.lookup_cons]
   cases hab:a == b with
   | true=>rw [hab] at e; exact ⟨e,by rw [eq_of_beq hab]; exact hf⟩
   | false=>rw [hab] at e; exact gu e
section
variable {p:Params} {w:World} {mg mb:Str->Option Value} {prog:Program} {s:Shared}
theorem yt {h:Heap} (X:(Mine.H.K p).In h):(K p).In (kO h):=fun a o e=>by
 refine ai (gu e) fun e1 e2=>?_
 have ne:∀ {b},yT b=true->b≠a:=fun hb q=>by rw [<- q,hb] at e2; exact tF e2
 exact (fA h (ne rfl) (ne rfl)).trans (X a o e1)
theorem AD {α β:Type} {x y:α} {a b:β} {p:Nat->α->β->Prop} (h0:p 0 x a) (h1:p 1 y b):∀ j o c,ao [x,y] j=some o->ao [a,b] j=some c->p j o c
 | 0,_,_,e1,e2=>oi e1▸oi e2▸h0
 | 1,_,_,e1,e2=>oi e1▸oi e2▸h1
 | _ + 2,_,_,e1,_=>nS e1
theorem law_wp (X0:(Mine.H.K p).In s.heap) (hg:s.heap.Ns mainGlobals mg) (hb:s.heap.Ns builtinsNs mb) (hbb:∀ x:Str,x≠"__name__"->mb x=bootBuiltins x) (NL:s.heap.NoLimit) (sm:s.heap.get? sysModules≠none) (BA:hJ s.heap mg)
  {a:Addr} {vs:List Value} {ns:List Int} (hL:s.heap.IsList a vs.toArray) (hi:IntsAre vs ns) (hn:ns.length<=63) {Q E:Value->Shared->Prop} (hQ:∀ h t,OldK s.heap h->Q (.bool true) { s with heap:=h,toks:=t }) :
  wpAny (model prog w) callerA (call (.ref 857) [.ref a]) Q E s:=by
 have X:=yt X0
 have k1:s.heap.get? 821=some { cls:=.none,data:=.fields #[] }:=X0 _ _ (by kernel_rfl)
 have k2:s.heap.get? 828=some { cls:=.none,data:=.fields #[] }:=X0 _ _ (by kernel_rfl)
 have mv:∀ {b:Addr} {o:Obj},s.heap.get? b=some o->o.cls≠.none->(kO s.heap).get? b=some o:=fun {b o} e hc=>by
  have h1:821≠b:=fun q=>by subst q; rw [k1] at e; replace e:=oi e; subst e; exact hc rfl
  have h2:828≠b:=fun q=>by subst q; rw [k2] at e; replace e:=oi e; subst e; exact hc rfl
  exact (fA _ h1 h2).trans e
 have mv2:∀ {b:Addr},821≠b->828≠b->∀ o,s.heap.get? b=some o->(kO s.heap).get? b=some o:=fun h1 h2 o e=>(fA _ h1 h2).trans e
 have hg':=hg.at (mv2 (by decide) (by decide))
 have hb':=hb.at (mv2 (by decide) (by decide))
 have NL':(kO s.heap).NoLimit:=NL.at (mv2 (by decide) (by decide))
 have sm':(kO s.heap).get? sysModules≠none:=by rw [fA _ (by decide) (by decide)]; exact sm
 have BA':hJ (kO s.heap) mg:=by
  obtain ⟨bm,o,h1,h2,h3,h4,h5,h6⟩:=BA
  exact ⟨bm,o,h1,h2,h3,mv h4 (by rw [h5]; exact fun q=>nomatch q),h5,h6⟩
 have S:=HB (prog:=prog) (w:=w) X hg' hb' hbb NL' sm' BA'
 have W:=W1 (prog:=prog) (w:=w) X hg' hb' hbb NL' sm' BA'
 have na:∀ {b:Addr} {its},s.heap.IsList b its->b∉([821,828]++[]:List Addr):=fun ⟨o,ho,hc,_⟩ m=>by
  rcases A7 m with rfl | m
  ·rw [k1] at ho; replace ho:=oi ho; subst ho; cases hc
  ·rw [A2 m,k2] at ho; replace ho:=oi ho; subst ho; cases hc
 have I:aG prog w P nm (kO s.heap) [.wild 0,.wild 1] [821,828] [] s.heap:=by
  refine ⟨fun b o e=>(i5 e).2.2,rfl,by decide,fun b m=>?_,fun j o b e1 e2=>?_⟩
  ·rcases A7 m with rfl | m
   ·exact ⟨v9 _,_,k1⟩
   ·rw [A2 m]; exact ⟨wa _,_,k2⟩
  ·refine AD (p:=fun j o b=>gL prog w P nm s.heap ([821,828]++[]) [821,828] b (ao [821,828] (j + 1)) o) ?_ ?_ j o b e1 e2
   ·exact ⟨_,rfl,#[],k1,trivial,fun p m v e=>nomatch e⟩
   ·exact ⟨_,rfl,#[],k2,trivial,fun p m v e=>nomatch e⟩
 refine cL fun HC kG=>?_
 obtain ⟨l,s',hs0,hs1,hrun⟩:=AC (L0:=ns.map .int) (by rw [List.length_map]; exact hn) (fun v m=>by
  refine ae (List.mem_map.mp m) fun i HC zq1=>?_; subst zq1; exact ⟨i,rfl⟩) 0
 obtain ⟨o,fd,sts,h1,h2,h3,h4,h5,h6,h7⟩:=FK X
 refine kG ?_
 have g1:s.heap.get? 857=some o:=(i5 h1).2.2
 refine jU (f:=kQ) (a:=857) (vs:=[.lst (ns.map .int)]) (d:=22) (hm:=false) W (S 270).b g1 h2 ?_ h5 h6 h7 rfl (Nat.le_add_left 1 _) rfl ⟨rfl,by decide,by decide,fun HC=>rfl⟩ (fun e m=>nomatch m) I (.cons (.lst hL (na hL) (v8 hi)) .nil) ?_
 ·exact h4.keeps fun b o e=>(i5 e).2.2
 rw [Nat.zero_add] at hrun
 unfold rB at hrun
 have hctx:(⟨l8 kQ.pre ([V.lst (ns.map .int)].map some++List.replicate (kQ.nv - kQ.np) none),22,false,kQ.gl,lm 0 kQ.vars,jl 0 kQ.vars⟩:Mine.Ctx)=cl [some (.lst (ns.map .int)),none,none,none,none,none,none,none,none,none,none]:=rfl
 rw [hctx,hrun]
 intro x h' tk ρ' S' I' r'
 have hx:x = .bool true:=r'
 subst hx
 have tb:∀ {Pl:Addr} {j:Nat},ao ρ' j=some Pl->ao s' j=some (.wild j)->∃ ps:Array Value,h'.get? Pl=some { cls:=.none,data:=.fields ps }:=fun {Pl j} e1 e2=>by
  refine ae (I'.obj _ _ _ e2 e1) fun tab HC zq1=>?_; refine ae zq1 fun ps h HC=>?_
  exact ⟨ps,h⟩
 refine ay (tb (S'.pre 0 821 rfl) hs0) fun p1 q1=>?_
 refine ay (tb (S'.pre 1 828 rfl) hs1) fun p2 q2=>?_
 have tt:∀ {c Pl:Addr},jR s.heap c Pl->isCodeTable s.heap Pl:=fun {c Pl} h=>by
  obtain ⟨o,vs,_,_,_,_,_,_,_,e1,e2,e3,e4,_⟩:=h
  exact fF _ o vs e1 e2 e3 e4
 refine hQ h' tk ⟨fun b o e=>?_,fun b o e=>?_⟩
 ·by_cases b1:821=b
  ·subst b1
   rw [k1] at e; replace e:=oi e; subst e
   exact .inr (.inl ⟨tt (iF (c:=xQ (dL (Mine.H.K p) 826).code) X0 (by kernel_rfl)),rfl,#[],p1,rfl,by rw [Array.empty_append]; exact q1⟩)
  ·by_cases b2:828=b
   ·subst b2
    rw [k2] at e; replace e:=oi e; subst e
    exact .inr (.inl ⟨tt (iF (c:=xQ (dL (Mine.H.K p) 831).code) X0 (by kernel_rfl)),rfl,#[],p2,rfl,by rw [Array.empty_append]; exact q2⟩)
   ·exact .inl (I'.stay _ _ ((fA _ b1 b2).trans e))
 ·by_cases b1:821=b
  ·subst b1; exact ⟨_,q1⟩
  ·by_cases b2:828=b
   ·subst b2; exact ⟨_,q2⟩
   ·exact ⟨o,I'.stay _ _ ((fA _ b1 b2).trans e)⟩
end
end Mine.T
end
section
open PySem PySem.W PySem.W.X PyProof.Rows
theorem Mine.T.said:OpenLaw.wellSaid PySem.Challenge.rw_pq0364_01=true:=by
 rw [PySem.W.Fast.te9446332074065402090]
 delta PySem.W.Fast.tw9446332074065402090
 iterate 18 (refine look_both ?_ (by as_aux_lemma=>kernel_rfl))
 delta Fast.tw17960256430627541270
 refine look_both (look_both ?_ (by as_aux_lemma=>kernel_rfl)) (by as_aux_lemma=>kernel_rfl)
 delta Fast.tw2436336058641802641
 repeat (refine look_both ?_ (by as_aux_lemma=>kernel_rfl))
 as_aux_lemma=>kernel_rfl
theorem PySem.Challenge.cw_pq0364_01_holds : PySem.Challenge.rw_pq0364_01.Holds := by
 refine Mine.H.head Mine.T.said ?_
 intro w s₀ s₁ mg mb G Y fa o pm cd doc dV kV ho hd hcd hD hmg hg args vals as hpre hlay hrd hwl hlo
 have KX:=kIn_of Y
 clear ho hd hcd hD
 refine Ground.open G ?_
 intro T B D TE TW
 wrow_args hpre hlay hrd hwl hlo
 rw [show Mine.H.dk.1.name=Mine.H.q "law" by kernel_rfl,mg_of KX T.g (v:=.ref 857) (by kernel_rfl)] at hmg
 cases hmg
 have sm:s₁.heap.get? sysModules≠none:=by
  intro z
  obtain ⟨mm,⟨o',es',ep',e',_⟩,_⟩:=(T.seer (by kernel_rfl)).mods
  rw [z] at e'; cases e'
 refine Mine.T.law_wp (p:=w.params) KX T.g T.b T.builtins T.nolimit sm ?_ (by assumption) (by assumption) (by omega) ?_
 ·obtain ⟨bm,ob,b1,b2,b3,b4,b5,b6⟩:=T.bmain
  refine ⟨bm,ob,b1,b2,fun q=>?_,b3,b4,b5,b6⟩
  obtain ⟨o',es',ep',e',e2,_⟩:=T.g
  rw [q,e'] at b3
  cases b3
  rw [b6] at e2
  cases e2
 intro h t st
 refine ⟨.inl ⟨_,_,[],rfl,fun HC=>rfl,ReadsW.bool true,?_,fun HC=>⟨List.nodup_nil,fun HC hm=>(nomatch hm)⟩⟩,st,rfl,?_⟩
 ·first | rfl | wrow_post
 ·exact .of_eq hg
end
