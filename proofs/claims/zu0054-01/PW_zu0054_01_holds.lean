import PyProof.Rows.All
import Wide.All
import OpenK.AllK
import Wide.FinOn
import PySem.Challenge.RW_zu0054_01
set_option Elab.async false
set_option maxRecDepth 100000
set_option linter.all false
set_option genSizeOf false
set_option genInjectivity false
namespace Mine
noncomputable section
abbrev w1:=@absurd
abbrev w3:=@Option.some.inj
abbrev w4:=@Nat.eq_of_beq_eq_true
abbrev w5:=@Nat.le_of_ble_eq_true
abbrev w6:=@List.all_eq_true
abbrev w7:=@Nat.lt_of_lt_of_le
abbrev w8:=@List.mem_cons
abbrev w9:=@Nat.zero_le
abbrev wa:=@Nat.le_refl
abbrev wb:=@Nat.lt_succ_self
abbrev wc:=@PySem.Heap.get?_push_of_some
abbrev we:=@PySem.Heap.get?_push_size
abbrev wf:=@PySem.AutoSeq1.wpAny_loadPart'
abbrev wg:=@PySem.wpAny_bind
abbrev wh:=@PySem.wpAny_pure
abbrev wi:=@PySem.wpAny_holding
abbrev wj:=@PySem.wpAny_mono
abbrev wk:=@PySem.wpAny_standAt
abbrev wl:=@of_decide_eq_true
abbrev wm:=@Nat.ne_of_beq_eq_false
abbrev wn:=@Nat.ne_of_lt
abbrev wo:=@PySem.codeAny_mono
abbrev wq:=@Option.isSome_iff_exists
noncomputable section
theorem FT{P:Prop}(h:false=true):P:=absurd h Bool.false_ne_true
theorem TF{P:Prop}(h:true=false):P:=FT h.symm
theorem SN{α:Type}{x:α}{P:Prop}(h:some x=none):P:=nomatch h
theorem NS{α:Type}{x:α}{P:Prop}(h:none=some x):P:=SN h.symm
theorem cps{P:Prop}(h:∀G:Prop,(P->G)->G):P:=h P id
theorem lC{α:Type}{M:List α->Prop}(l:List α)(nil:M [])(cons:∀a t,M (a::t)):M l:=List.casesOn l nil cons
theorem nC{M:Nat->Prop}(n:Nat)(zero:M 0)(succ:∀n,M (n+1)):M n:=Nat.casesOn n zero succ
theorem n2{a b:Bool}{P:Prop}(h:(a&&b)=true)(k:a=true->b=true->P):P:=match a,h with | true,h=>k rfl h
theorem n3{a b c:Bool}{P:Prop}(h:(a&&(b&&c))=true)(k:a=true->b=true->c=true->P):P:=n2 h λx h=>n2 h (k x)
theorem n4{a b c d:Bool}{P:Prop}(h:(a&&(b&&(c&&d)))=true)(k:a=true->b=true->c=true->d=true->P):P:=n2 h λx h=>n3 h (k x)
theorem n5{a b c d e:Bool}{P:Prop}(h:(a&&(b&&(c&&(d&&e))))=true)(k:a=true->b=true->c=true->d=true->e=true->P):P:=n2 h λx h=>n4 h (k x)
theorem n6{a b c d e f:Bool}{P:Prop}(h:(a&&(b&&(c&&(d&&(e&&f)))))=true)(k:a=true->b=true->c=true->d=true->e=true->f=true->P):P:=n2 h λx h=>n5 h (k x)
theorem n7{a b c d e f g:Bool}{P:Prop}(h:(a&&(b&&(c&&(d&&(e&&(f&&g))))))=true)(k:a=true->b=true->c=true->d=true->e=true->f=true->g=true->P):P:=n2 h λx h=>n6 h (k x)
theorem n8{a b c d e f g i:Bool}{P:Prop}(h:(a&&(b&&(c&&(d&&(e&&(f&&(g&&i)))))))=true)(k:a=true->b=true->c=true->d=true->e=true->f=true->g=true->i=true->P):P:=n2 h λx h=>n7 h (k x)
end
theorem sf{α:Type}{P:α->Prop}:∀y∈([]:List α),P y:=λ_ h=>nomatch h
theorem gL{α:Type}{P:α->Prop}{a:α}{l:List α}(h:P a)(t:∀y∈l,P y):∀y∈a::l,P y:=List.forall_mem_cons.mpr ⟨h,t⟩
@[elab_as_elim]
theorem z5{P:Nat->Prop}{q k:Nat}(h:Nat.beq q k=true)(x:P k):P q:=w4 h▸x
@[elab_as_elim]
theorem D8{α:Type}{P:α->Prop}(v:α)(h:∀G:α->Prop,(∀x,P x->G x)->G v):P v:=h P λ_ h=>h
theorem dQ{a b:Nat}(e:Nat.ble a b=true):a<=b:=w5 e
theorem R0{a b:Nat}(e:Nat.ble (a+1) b=true):a<b:=w5 e
theorem fy{x c k:Nat}(h:x<=c)(e:Nat.ble c k=true):x<=k:=Nat.le_trans h (dQ e)
theorem Bp{x c k:Nat}(h:x<c)(e:Nat.ble c (k+1)=true):x<=k:=Nat.le_of_lt_succ (w7 h (dQ e))
theorem mP{x c k:Nat}(h:x<=c)(e:Nat.ble (c+1) k=true):x<k:=Nat.lt_of_le_of_lt h (dQ e)
theorem R2{x c k:Nat}(h:x<c)(e:Nat.ble c k=true):x<k:=w7 h (dQ e)
theorem jO{x y c k:Nat}(h:x=y)(h2:y<=c)(e:Nat.ble c k=true):x<=k:=h▸fy h2 e
theorem pH{x y a b k:Nat}(h:x<=a)(h2:y<=b)(e:Nat.ble (a+b) k=true):x+y<=k:=fy (Nat.add_le_add h h2) e
theorem pG{x y z u c k:Nat}(h:x=y)(h2:z=u)(h3:y+u<=c)(e:Nat.ble c k=true):x+z<=k:=h▸h2▸fy h3 e
theorem CR{x y c k:Nat}(h:x+y<=c)(e:Nat.ble c k=true):x<=k:=fy (Nat.le_trans (Nat.le_add_right _ _) h) e
theorem iI{x y c:Nat}(h:x+y<=c):x<=c:=Nat.le_trans (Nat.le_add_right _ _) h
theorem R1{x y c k:Nat}(h:y+x<=c)(e:Nat.ble c k=true):x<=k:=fy (Nat.le_trans (Nat.le_add_left _ _) h) e
theorem uX{x y z:Nat}(h:x=y)(h2:y<=z):x<=z:=h▸h2
theorem uW{x y z:Nat}(h:z=y)(h2:x<=y):x<=z:=h▸h2
theorem Q'{x y z:Nat}(h:z=y)(h2:x<y):x<z:=h▸h2
theorem so{x y c:Nat}(h:y=x+c):x<=y:=h▸Nat.le_add_right _ _
theorem HX{x y c:Nat}(h:y=x+(c+1)):x<y:=h▸Nat.lt_succ_of_le (Nat.le_add_right _ _)
theorem KD{x y z c:Nat}(h:y=x)(h2:x=z+(c+1)):z<y:=h▸HX h2
theorem gN{d c L:Nat}(h:d+c<L):d<L:=Nat.lt_of_le_of_lt (Nat.le_add_right _ _) h
theorem uV{d a c L:Nat}(h:d+c<L)(e:Nat.ble a c=true):d+a<L:=Nat.lt_of_le_of_lt (Nat.add_le_add_left (dQ e) _) h
theorem eL{d a b c L:Nat}(h:d+c<L)(e:Nat.ble (a+b) c=true):d+a+b<L:=(Nat.add_assoc d a b).symm▸uV h e
theorem Bo{d x k a c L:Nat}(h:x=d+k)(h2:d+c<L)(e:Nat.ble (k+a) c=true):x+a<L:=h▸eL h2 e
theorem eA{d x k a b c L:Nat}(h:x=d+k)(h2:d+c<L)(e:Nat.ble (k+(a+b)) c=true):x+a+b<L:=(Nat.add_assoc x a b).symm▸Bo h h2 e
theorem sq{d x y a c L:Nat}(h:d+x+(y+c)<L)(e:Nat.ble a c=true):d+a<L:=uV (gN ((Nat.add_right_comm d x c)▸Nat.lt_of_le_of_lt (Nat.add_le_add_left (Nat.le_add_left c y) _) h)) e
theorem QS{d x y a b c L:Nat}(h:d+x+(y+c)<L)(e:Nat.ble (a+b) c=true):d+a+b<L:=(Nat.add_assoc d a b).symm▸sq h e
theorem Kq{d x y i a b c L:Nat}(h:d+x+(y+c)<L)(e:Nat.ble (i+(a+b)) c=true):d+i+a+b<L:=(Nat.add_assoc (d+i) a b).symm▸QS h e
theorem sD{d x y a c L:Nat}(h:d+x+(y+c)<L)(e:Nat.ble a c=true):d+x+(y+a)<L:=Nat.lt_of_le_of_lt (Nat.add_le_add_left (Nat.add_le_add_left (dQ e) _) _) h
theorem CP{d x a c L:Nat}(h:d+x+c<L)(e:Nat.ble a c=true):d+a<L:=uV (gN ((Nat.add_right_comm d x c)▸h)) e
theorem jP{l:Nat}(h:l<1):l=0:=Nat.le_zero.mp (Nat.le_of_lt_succ h)
theorem HY{i n:Nat}(a:n<=i)(b:i<n+1):i=n:=Nat.le_antisymm (Nat.le_of_lt_succ b) a
theorem HW{i n:Nat}(b:i<n+1)(a:¬i<n):i=n:=HY (Nat.le_of_not_lt a) b
theorem Kr{t:Nat}(h:0<t):t≠0:=Nat.ne_of_gt h
theorem KG{a b:Nat}(h:0<a)(h2:a<=b):0<b:=w7 h h2
theorem QR{x c k:Nat}(h:x<=c)(e:Nat.ble c k=true):¬x > k:=Nat.not_lt_of_le (fy h e)
theorem oA{A B:Prop}{G:Prop}(h:A/\B)(k:A->B->G):G:=k h.1 h.2
theorem oE{α:Type}{A:α->Prop}{G:Prop}(h:∃x,A x)(k:∀x,A x->G):G:=h.elim λx h=>k x h
theorem au{α:Type}{A B:α->Prop}{G:Prop}(h:∃x,A x/\B x)(k:∀x,A x->B x->G):G:=h.elim λx h=>k x h.1 h.2
theorem c6{A B C:Prop}{G:Prop}(h:A/\B/\C)(k:A->B->C->G):G:=k h.1 h.2.1 h.2.2
theorem eQ{α β:Type}{A:α->β->Prop}{G:Prop}(h:∃x y,A x y)(k:∀x y,A x y->G):G:=h.elim λx h=>h.elim λy h=>k x y h
theorem bw{α β:Type}{A B:α->β->Prop}{G:Prop}(h:∃x y,A x y/\B x y)(k:∀x y,A x y->B x y->G):G:=h.elim λx h=>h.elim λy h=>k x y h.1 h.2
theorem dR{α:Type}{A B C:α->Prop}{G:Prop}(h:∃x,A x/\B x/\C x)(k:∀x,A x->B x->C x->G):G:=h.elim λx h=>k x h.1 h.2.1 h.2.2
theorem jS{A B C D:Prop}{G:Prop}(h:A/\B/\C/\D)(k:A->B->C->D->G):G:=k h.1 h.2.1 h.2.2.1 h.2.2.2
theorem EF{α β γ:Type}{A:α->β->γ->Prop}{G:Prop}(h:∃x y z,A x y z)(k:∀x y z,A x y z->G):G:=h.elim λx h=>h.elim λy h=>h.elim λz h=>k x y z h
theorem eC{α β γ δ:Type}{A:α->β->γ->δ->Prop}{G:Prop}(h:∃x y z w,A x y z w)(k:∀x y z w,A x y z w->G):G:=h.elim λx h=>h.elim λy h=>h.elim λz h=>h.elim λw h=>k x y z w h
theorem dY{α β γ:Type}{A B:α->β->γ->Prop}{G:Prop}(h:∃x y z,A x y z/\B x y z)(k:∀x y z,A x y z->B x y z->G):G:=h.elim λx h=>h.elim λy h=>h.elim λz h=>k x y z h.1 h.2
theorem dC{α β:Type}{A B C:α->β->Prop}{G:Prop}(h:∃x y,A x y/\B x y/\C x y)(k:∀x y,A x y->B x y->C x y->G):G:=h.elim λx h=>h.elim λy h=>k x y h.1 h.2.1 h.2.2
theorem jR{α:Type}{A B C D:α->Prop}{G:Prop}(h:∃x,A x/\B x/\C x/\D x)(k:∀x,A x->B x->C x->D x->G):G:=h.elim λx h=>k x h.1 h.2.1 h.2.2.1 h.2.2.2
theorem jQ{A B C D E:Prop}{G:Prop}(h:A/\B/\C/\D/\E)(k:A->B->C->D->E->G):G:=k h.1 h.2.1 h.2.2.1 h.2.2.2.1 h.2.2.2.2
theorem lO{α β γ δ:Type}{A B:α->β->γ->δ->Prop}{G:Prop}(h:∃x y z w,A x y z w/\B x y z w)(k:∀x y z w,A x y z w->B x y z w->G):G:=h.elim λx h=>h.elim λy h=>h.elim λz h=>h.elim λw h=>k x y z w h.1 h.2
theorem ou{α β γ:Type}{A B C:α->β->γ->Prop}{G:Prop}(h:∃x y z,A x y z/\B x y z/\C x y z)(k:∀x y z,A x y z->B x y z->C x y z->G):G:=h.elim λx h=>h.elim λy h=>h.elim λz h=>k x y z h.1 h.2.1 h.2.2
theorem sr{α β:Type}{A B C D:α->β->Prop}{G:Prop}(h:∃x y,A x y/\B x y/\C x y/\D x y)(k:∀x y,A x y->B x y->C x y->D x y->G):G:=h.elim λx h=>h.elim λy h=>k x y h.1 h.2.1 h.2.2.1 h.2.2.2
theorem fc{α β γ δ:Type}{A B C:α->β->γ->δ->Prop}{G:Prop}(h:∃x y z w,A x y z w/\B x y z w/\C x y z w)(k:∀x y z w,A x y z w->B x y z w->C x y z w->G):G:=h.elim λx h=>h.elim λy h=>h.elim λz h=>h.elim λw h=>k x y z w h.1 h.2.1 h.2.2
theorem Ko{α β γ:Type}{A B C D:α->β->γ->Prop}{G:Prop}(h:∃x y z,A x y z/\B x y z/\C x y z/\D x y z)(k:∀x y z,A x y z->B x y z->C x y z->D x y z->G):G:=h.elim λx h=>h.elim λy h=>h.elim λz h=>k x y z h.1 h.2.1 h.2.2.1 h.2.2.2
theorem lN{α β γ:Type}{A B C D E:α->β->γ->Prop}{G:Prop}(h:∃x y z,A x y z/\B x y z/\C x y z/\D x y z/\E x y z)(k:∀x y z,A x y z->B x y z->C x y z->D x y z->E x y z->G):G:=h.elim λx h=>h.elim λy h=>h.elim λz h=>k x y z h.1 h.2.1 h.2.2.1 h.2.2.2.1 h.2.2.2.2
theorem aT{α:Type}{A B:α->Prop}(x:α)(h0:A x)(h1:B x):∃x,A x/\B x:=⟨x,h0,h1⟩
theorem dp{A B C:Prop}(h0:A)(h1:B)(h2:C):A/\B/\C:=⟨h0,h1,h2⟩
theorem mH{α:Type}{A B C:α->Prop}(x:α)(h0:A x)(h1:B x)(h2:C x):∃x,A x/\B x/\C x:=⟨x,h0,h1,h2⟩
theorem uY{α β:Type}{A B:α->β->Prop}(x:α)(y:β)(h0:A x y)(h1:B x y):∃x y,A x y/\B x y:=⟨x,y,h0,h1⟩
theorem nH{A B C D:Prop}(h0:A)(h1:B)(h2:C)(h3:D):A/\B/\C/\D:=⟨h0,h1,h2,h3⟩
theorem Bq{α β:Type}{A B C:α->β->Prop}(x:α)(y:β)(h0:A x y)(h1:B x y)(h2:C x y):∃x y,A x y/\B x y/\C x y:=⟨x,y,h0,h1,h2⟩
theorem CC{α β γ:Type}{A B:α->β->γ->Prop}(x:α)(y:β)(z:γ)(h0:A x y z)(h1:B x y z):∃x y z,A x y z/\B x y z:=⟨x,y,z,h0,h1⟩
theorem sZ{α:Type}{A B C D:α->Prop}(x:α)(h0:A x)(h1:B x)(h2:C x)(h3:D x):∃x,A x/\B x/\C x/\D x:=⟨x,h0,h1,h2,h3⟩
theorem wU{α β γ:Type}{A B C:α->β->γ->Prop}(x:α)(y:β)(z:γ)(h0:A x y z)(h1:B x y z)(h2:C x y z):∃x y z,A x y z/\B x y z/\C x y z:=⟨x,y,z,h0,h1,h2⟩
theorem wR{α β:Type}{A B C D:α->β->Prop}(x:α)(y:β)(h0:A x y)(h1:B x y)(h2:C x y)(h3:D x y):∃x y,A x y/\B x y/\C x y/\D x y:=⟨x,y,h0,h1,h2,h3⟩
theorem lL{α β γ δ:Type}{A B C:α->β->γ->δ->Prop}(x:α)(y:β)(z:γ)(w:δ)(h0:A x y z w)(h1:B x y z w)(h2:C x y z w):∃x y z w,A x y z w/\B x y z w/\C x y z w:=⟨x,y,z,w,h0,h1,h2⟩
theorem Ya{α β γ:Type}{A B C D:α->β->γ->Prop}(x:α)(y:β)(z:γ)(h0:A x y z)(h1:B x y z)(h2:C x y z)(h3:D x y z):∃x y z,A x y z/\B x y z/\C x y z/\D x y z:=⟨x,y,z,h0,h1,h2,h3⟩
theorem iH{α β γ:Type}{A B C D E:α->β->γ->Prop}(x:α)(y:β)(z:γ)(h0:A x y z)(h1:B x y z)(h2:C x y z)(h3:D x y z)(h4:E x y z):∃x y z,A x y z/\B x y z/\C x y z/\D x y z/\E x y z:=⟨x,y,z,h0,h1,h2,h3,h4⟩
@[elab_as_elim]
theorem rwL.{u}{α:Sort u}{a b:α}{P:α->Prop}(h:a=b)(p:P b):P a:=h▸p
@[elab_as_elim]
theorem rwR.{u}{α:Sort u}{a b:α}{P:α->Prop}(h:b=a)(p:P b):P a:=h▸p
def rwm(l:Lean.Ident)(h:Lean.Term):Lean.MacroM Lean.Syntax:=`(tactic| first | refine $l $h ?_ | refine $l ($h ..) ?_ | fail)
local macro_rules
  | `(tactic| rewrite [$r, $rs,*]) => `(tactic| (rewrite [$r]; rewrite [$rs,*]))
  | `(tactic| rewrite [$h:term]) => rwm (Lean.mkIdent `rwL) h
  | `(tactic| rewrite [<- $h:term]) => rwm (Lean.mkIdent `rwR) h
section
open PySem PySem.W
noncomputable def K8: Nat->List Str->List Value
 |_,[]=>[]
 |t,s::r=>.str s t::K8 (t+1) r
noncomputable def pq(vs:List Value):Obj:={ cls:=.type "tuple",data:=.seq vs.toArray }
noncomputable def pW(vs:List Value):Obj:={ cls:=.none,data:=.fields vs.toArray }
noncomputable def Cv(t:Nat):Value:=.str ("/claim/cut.py":Str) t
def Xq(a t:Nat)(nm q:Str)(p:Arguments)(b:List Stmt)(sc:Scope)(line:Nat)(md dv:Value):List Obj×Nat:=
 let fd:FuncData:={ name:=nm,qualname:=q,params:=p,body:=.stmts b,scope:=sc,globals:=builtinsNs,closure:=[],defaults:=.none,kwdefaults:=.none }
 let tail (x:List Obj) (l c:Value) (r:Nat) (t':Nat):List Obj×Nat:=
  ([pq [],pW []]++x++[
   { cls:=.none,data:=.func fd },
   { cls:=.type "code",data:=.fields #[.str nm t,.str q (t+1),Cv (t+2),rawInt line,rawInt p.args.length,rawInt 0,rawInt 0,rawInt 3,.ref a,.bool true,rawInt 181,.ref (a+1),.none,
     l,c,.ref r,rawInt t',rawInt line,Cv (t'+1)] },
   { cls:=.type "function",data:=.func { name:=nm,qualname:=q,params:=p,body:=.stmts b,scope:=sc,globals:=mainGlobals,closure:=[],closureTuple:=.none,code:=.ref (r+1),builtins:=builtinsNs,defaults:=dv,kwdefaults:=.none,annotations:=none,pyModule:=md,doc:=.none } }],t'+2)
 match localNames p sc (.stmts b) with
 |some (ls,cs)=>tail [pq (K8 (t+3) ls),pq (K8 (t+3+ls.length) cs)] (.ref (a+2)) (.ref (a+3)) (a+4) (t+3+ls.length+cs.length)
 |none=>tail [] .none .none (a+2) (t+3)
noncomputable def vT(a t:Nat):PySem.Expr->Value×List Obj×Nat×Nat
 |.Constant (.str s) _ _=>(.str s t,[],a,t+1)
 |.Constant (.int i) _ _=>(.int i t,[],a,t+1)
 |.Constant .none _ _=>(.none,[],a,t)
 |.Constant (.bool b) _ _=>(.bool b,[],a,t)
 |_=>(.none,[],a,t)
noncomputable def Qs(a t:Nat):List PySem.Expr->List Value×Nat
 |[]=>([],t)
 |e::r=>let (v,_,_,t'):=vT a t e;let (vs,GS):=Qs a t' r;(v::vs,GS)
def KU(a t:Nat):PySem.Expr->Value×List Obj×Nat×Nat
 |.Tuple es _ _=>let (vs,t'):=Qs a t es;(.ref a,[pq vs],a+1,t')
 |e=>vT a t e
def sJ(a t:Nat):List PySem.Expr->List Value×List Obj×Nat×Nat
 |[]=>([],[],a,t)
 |e::r=>let (v,o,a',t'):=KU a t e;let (vs,os,KC,GS):=sJ a' t' r;(v::vs,o++os,KC,GS)
def D9(a t:Nat):PySem.Expr->Value×List Obj×Nat×Nat
 |.Tuple es _ _=>let (vs,os,a',t'):=sJ a t es;(.ref a',os++[pq vs],a'+1,t')
 |e=>vT a t e
def X7(a t:Nat)(pre:Str)(md:Value):Stmt->Value×List Obj×Nat×Nat
 |.FunctionDef nm p b _ _ _ sc _ _ pos=>
  match p.defaults with
  |[]=>let (os,t'):=Xq a t nm (pre++nm) p b sc pos.line md .none;(.ref (a+os.length - 1),os,a+os.length,t')
  |ds=>let (vs,t0):=Qs a t ds
       let (os,t'):=Xq (a+1) t0 nm (pre++nm) p b sc pos.line md (.ref a)
       (.ref (a+os.length),pq vs::os,a+1+os.length,t')
 |_=>(.none,[],a,t)
structure Ent where
 key:Str
 tok:Nat
 val:Value
noncomputable def kA(P:Params)(e:Ent):DictEntry:=⟨PyData.keyHash P e.key,.str e.key e.tok,e.val⟩
def PS(a t:Nat)(pre:Str)(md:Value):List Stmt->List Ent×List Obj×List Value×Nat×Nat
 |[]=>([],[],[],a,t)
 |st@(.FunctionDef nm _ _ _ _ _ _ _ _ pos)::r=>
  let (v,os,a',t'):=X7 a t pre md st
  let (es,os',ps,KC,GS):=PS a' (t'+1) pre md r
  (⟨nm,t',v⟩::es,os++os',rawInt pos.line::rawInt pos.col::.ref (a' - 2)::ps,KC,GS)
 |_::r=>PS a t pre md r
set_option genCtorIdx false in
inductive Base where
 |none
 |exc
 |own (b:Addr) (mro:List Value)
noncomputable def Xw: List Value:=[.type "Exception",.type "BaseException",.type "object"]
def zlv(P:Params)(a t:Nat)(base:Base)(nm:Str)(body:List Stmt)(statics:List Str)(line:Nat)(md:Value)(subs:List Value):Value×List Obj×Nat×Nat:=
 let given:List Value:=match base with | .none=>[] | .exc=>[.type "Exception"] | .own b _=>[.ref b]
 let bases:List Value:=match base with | .none=>[.type "object"] | .exc=>[.type "Exception"] | .own b _=>[.ref b]
 let up:List Value:=match base with | .none=>[.type "object"] | .exc=>Xw | .own _ m=>m
 let mk:Value:=match base with | .none=>.builtin "object.__new__" | _=>.builtin "Exception.__new__"
 let (mes,mos,ps,a1,t1):=PS (a+7) (t+12) (nm++(".": Str)) md body
 let sv:=K8 t1 statics
 let t2:=t1+statics.length
 let e0:List Ent:=[⟨"__module__",t+7,md⟩]
 let eq:Ent:=⟨"__qualname__",t+9,.str nm (t+8)⟩
 let e1:List Ent:=⟨"__firstlineno__",t+11,.int line (t+10)⟩::mes++[⟨"__static_attributes__",t2,.ref a1⟩]
 let ns:=a1+1
 let c:=a1+2
 let (Rb,Rd,t3):List Ent×List Obj×Nat:=match base with
  |.none=>([⟨"__dict__",t2+2,.ref (c+1)⟩,⟨"__weakref__",t2+4,.ref (c+2)⟩,⟨"__doc__",t2+5,.none⟩],
    [{ cls:=.type "getset_descriptor",data:=.fields #[.str "__dict__" (t2+1),.ref c,.builtin "function.__dict__",.builtin "function.__dict__#set"] },
     { cls:=.type "getset_descriptor",data:=.fields #[.str "__weakref__" (t2+3),.ref c,.builtin "ExceptionGroup.__weakref__",.none] }],t2+6)
  |.exc=>([⟨"__weakref__",t2+2,.ref (c+1)⟩,⟨"__doc__",t2+3,.none⟩],
    [{ cls:=.type "getset_descriptor",data:=.fields #[.str "__weakref__" (t2+1),.ref c,.builtin "ExceptionGroup.__weakref__",.none] }],t2+6)
  |.own _ _=>([⟨"__doc__",t2+1,.none⟩],[],t2+2)
 let d:=c+1+Rd.length
 let ents (l:List Ent):Array DictEntry:=(l.map (kA P)).toArray
 (.ref c,
  [pq given,{ cls:=.type "builtin_function_or_method",data:=.fields #[.builtin "type.__prepare__",.type "type"] },
  { cls:=.type "dict",data:=.dict (ents (e0++eq::e1)) (e0++eq::e1).length },
  pq [],pW ps,
  { cls:=.type "code",data:=.fields #[.str nm (t+2),.str nm (t+3),Cv (t+4),rawInt line,rawInt 0,rawInt 0,rawInt 0,rawInt 0,.ref (a+3),.bool false,rawInt 181,.ref (a+4),.none,.none,.none,.none,rawInt (t+5),rawInt line,Cv (t+6)] },
  { cls:=.type "frame",slots:=#[some (.ref (a+5)),some (.ref mainGlobals),some (.ref (a+2)),none,some md,none,some (.ref builtinsNs)] }]++mos++
  [pq sv,
  { cls:=.type "dict",data:=.dict (ents (e0++e1++Rb)) (1+Rb.length) },
  { cls:=.type "type",data:=.cls { name:=nm,bases,mro:=.ref c::up,ns,qualname:=nm,subclasses:=subs },
    slots:=#[if given.isEmpty then none else some (.ref a),none,some (.str nm t),some (.str nm (t+8)),some mk,some (.bool true)] }]++Rd++
  [{ cls:=.type "super",data:=.fields #[.ref c,.ref c,.ref c] },{ cls:=.type "builtin_function_or_method",data:=.fields #[.builtin "object.__init_subclass__",.ref c] }],
  d+2,t3+1)
end
section
open PySem PySem.W
noncomputable abbrev pw: Program:=PySem.Challenge.pw_zu0054_01
def cM(k:Nat):Stmt:=pw.main.body.getD k (.Pass default)
structure Row where
 n:Nat
 t:Nat
 m:Nat
 line:Nat
 code:Nat
 val:Nat
 name:List Nat
noncomputable def rows: List Row:=[⟨15,187,999,1,20,21,[95,119,97,108,108]⟩,
 ⟨22,194,999,0,0,0,[95,95,110,97,109,101,95,95]⟩,
 ⟨22,196,1,0,0,0,[83,80,65,67,69,83,95,99,104,97,114,115]⟩,
 ⟨22,198,1,0,0,0,[67,72,65,82,95,82,65,78,71,69,83]⟩,
 ⟨26,205,1,0,0,0,[83,84,65,82,84,95,82,65,78,71,69,83]⟩,
 ⟨39,230,1,0,0,0,[77,79,82,69,95,82,65,78,71,69,83]⟩,
 ⟨43,237,1,0,0,0,[70,73,82,83,84,95,66,69,89,79,78,68]⟩,
 ⟨43,239,1,10,48,49,[105,115,95,105,110,95,114,97,110,103,101,115]⟩,
 ⟨50,249,1,17,55,56,[105,115,95,115,112,97,99,101]⟩,
 ⟨57,256,1,19,62,63,[105,115,95,99,104,97,114]⟩,
 ⟨64,264,1,24,69,70,[105,115,95,115,109,97,108,108,95,108,101,116,116,101,114]⟩,
 ⟨71,271,1,26,76,77,[105,115,95,110,97,109,101,95,115,116,97,114,116]⟩,
 ⟨78,278,1,30,83,84,[105,115,95,110,97,109,101,95,99,104,97,114]⟩,
 ⟨85,285,1,36,90,91,[102,105,114,115,116,95,111,116,104,101,114]⟩,
 ⟨92,293,1,41,97,98,[105,115,95,110,109,116,111,107,101,110]⟩,
 ⟨99,301,1,46,104,105,[105,115,95,110,97,109,101]⟩,
 ⟨106,308,1,48,111,112,[112,108,97,105,110,95,101,110,100,115]⟩,
 ⟨113,315,1,50,118,119,[115,112,97,99,101,95,115,112,108,105,116]⟩,
 ⟨120,325,1,58,125,126,[99,111,108,108,97,112,115,101,100]⟩,
 ⟨127,332,1,60,132,133,[105,115,95,98,108,97,110,107]⟩,
 ⟨134,340,1,0,0,0,[95,95,110,97,109,101,95,95]⟩,
 ⟨134,342,20,0,0,0,[76,73,83,84,95,75,73,78,68,83]⟩,
 ⟨135,346,20,67,140,165,[65,116,116,114,105,98,117,116,101,82,117,108,101]⟩,
 ⟨170,395,20,80,173,174,[98,108,97,110,107,95,119,111,114,100,115]⟩,
 ⟨175,401,20,82,180,181,[110,111,114,109,97,108,105,115,101,100]⟩,
 ⟨182,409,20,86,187,188,[119,111,114,100,115,95,111,102]⟩,
 ⟨189,417,20,90,194,195,[105,115,95,119,111,114,100]⟩,
 ⟨196,425,20,94,201,202,[102,105,116,115]⟩,
 ⟨203,435,20,0,0,0,[95,95,110,97,109,101,95,95]⟩,
 ⟨203,437,28,109,208,219,[77,97,114,107,117,112,69,114,114,111,114]⟩,
 ⟨223,466,28,114,228,240,[83,121,110,116,97,120,70,97,117,108,116]⟩,
 ⟨243,493,28,119,248,252,[69,110,116,105,116,121,70,97,117,108,116]⟩,
 ⟨255,509,28,121,260,264,[76,105,109,105,116,70,97,117,108,116]⟩,
 ⟨267,525,28,123,272,284,[68,116,100,70,97,117,108,116]⟩,
 ⟨287,552,28,128,292,296,[84,114,101,101,70,97,117,108,116]⟩,
 ⟨299,568,28,0,0,0,[95,95,110,97,109,101,95,95]⟩,
 ⟨299,570,35,131,304,421,[68,116,100,83,99,97,110,110,101,114]⟩,
 ⟨426,723,35,208,431,432,[100,101,99,108,97,114,97,116,105,111,110,95,101,110,100]⟩,
 ⟨433,734,35,0,0,0,[95,95,110,97,109,101,95,95]⟩,
 ⟨433,736,38,0,0,0,[77,65,82,75,83]⟩,
 ⟨434,740,38,0,0,0,[80,67,68,65,84,65]⟩,
 ⟨434,742,38,0,0,0,[77,79,83,84,95,68,69,69,80]⟩,
 ⟨434,744,38,225,439,440,[114,101,97,100,95,109,97,114,107]⟩,
 ⟨441,752,38,230,446,471,[71,114,111,117,112]⟩,
 ⟨476,801,38,246,481,482,[114,101,97,100,95,103,114,111,117,112]⟩,
 ⟨483,811,38,262,488,489,[103,111,101,115,95,111,110]⟩,
 ⟨490,820,38,270,495,496,[114,101,97,100,95,109,105,120,101,100]⟩,
 ⟨497,829,38,284,502,503,[114,101,97,100,95,115,112,101,99]⟩,
 ⟨504,836,38,294,509,510,[114,101,97,100,95,119,104,111,108,101]⟩,
 ⟨511,844,38,299,516,517,[114,101,97,100,95,109,111,100,101,108]⟩,
 ⟨518,851,38,0,0,0,[95,95,110,97,109,101,95,95]⟩,
 ⟨518,853,50,302,523,534,[78,111,116,97,116,105,111,110]⟩,
 ⟨539,886,50,308,544,628,[68,116,100]⟩,
 ⟨633,1018,50,0,0,0,[95,95,110,97,109,101,95,95]⟩,
 ⟨633,1020,53,0,0,0,[68,73,71,73,84,83]⟩,
 ⟨633,1022,53,0,0,0,[72,69,88,95,68,73,71,73,84,83]⟩,
 ⟨633,1024,53,0,0,0,[77,79,83,84,95,68,73,71,73,84,83]⟩,
 ⟨633,1026,53,381,638,639,[118,97,108,117,101,95,111,102,95,100,105,103,105,116,115]⟩,
 ⟨640,1037,53,391,645,646,[119,105,116,104,111,117,116,95,110,111,117,103,104,116,115]⟩,
 ⟨647,1045,53,396,650,651,[99,111,100,101,95,111,102]⟩,
 ⟨652,1051,53,405,658,659,[99,104,97,114,95,111,102]⟩,
 ⟨660,1061,53,412,665,666,[112,114,101,100,101,102,105,110,101,100]⟩,
 ⟨667,1068,53,0,0,0,[95,95,110,97,109,101,95,95]⟩,
 ⟨667,1070,62,0,0,0,[86,65,76,85,69,95,83,80,65,67,69,83]⟩,
 ⟨667,1072,62,426,672,711,[71,114,111,119,116,104]⟩,
 ⟨716,1135,62,451,721,753,[80,101,110,100,105,110,103]⟩,
 ⟨758,1193,62,474,763,795,[83,116,97,99,107]⟩,
 ⟨800,1249,62,496,805,806,[103,114,111,119,116,104,95,102,111,114]⟩,
 ⟨807,1257,62,498,813,814,[116,101,120,116,95,105,110,95,118,97,108,117,101]⟩,
 ⟨815,1269,62,509,820,821,[115,105,103,110,95,111,114,95,101,110,116,105,116,121]⟩,
 ⟨822,1279,62,517,827,828,[98,108,97,110,107,95,115,112,97,99,101,115]⟩,
 ⟨829,1287,62,521,835,836,[108,105,116,101,114,97,108,95,118,97,108,117,101]⟩,
 ⟨837,1299,62,530,842,843,[108,105,116,101,114,97,108,95,112,97,114,116]⟩,
 ⟨844,1310,62,0,0,0,[95,95,110,97,109,101,95,95]⟩,
 ⟨844,1312,73,0,0,0,[80,76,65,73,78,95,75,73,78,68,83]⟩,
 ⟨845,1321,73,0,0,0,[87,79,82,68,83]⟩,
 ⟨846,1326,73,0,0,0,[80,85,66,76,73,67,95,83,73,71,78,83]⟩,
 ⟨846,1328,73,543,851,862,[79,112,101,110,84,101,120,116]⟩,
 ⟨867,1360,73,548,873,874,[112,117,116,95,105,110]⟩,
 ⟨875,1377,73,573,880,881,[111,112,101,110,101,100]⟩,
 ⟨882,1389,73,581,887,975,[68,116,100,82,101,97,100,101,114]⟩,
 ⟨980,1553,73,714,985,986,[114,101,97,100,95,99,104,111,105,99,101,115]⟩,
 ⟨987,1563,73,727,992,993,[114,101,97,100,95,107,105,110,100]⟩,
 ⟨994,1572,73,738,999,1000,[114,101,97,100,95,111,117,116,101,114]⟩,
 ⟨1001,1582,73,752,1006,1007,[112,117,98,108,105,99,95,110,97,109,101]⟩,
 ⟨1008,1592,73,758,1014,1015,[114,101,97,100,95,100,116,100]⟩,
 ⟨1016,1603,73,0,0,0,[95,95,110,97,109,101,95,95]⟩,
 ⟨1016,1605,86,763,1021,1133,[67,117,114,115,111,114]⟩,
 ⟨1138,1752,86,0,0,0,[95,95,110,97,109,101,95,95]⟩,
 ⟨1138,1754,88,0,0,0,[76,69,84,84,69,82,83]⟩,
 ⟨1138,1756,88,0,0,0,[70,73,71,85,82,69,83]⟩,
 ⟨1138,1758,88,837,1143,1144,[114,101,97,100,95,101,113,117,97,108,115]⟩,
 ⟨1145,1765,88,841,1150,1151,[114,101,97,100,95,119,111,114,100,95,118,97,108,117,101]⟩,
 ⟨1152,1773,88,845,1157,1158,[105,115,95,101,110,99,111,100,105,110,103]⟩,
 ⟨1159,1781,88,852,1164,1165,[105,115,95,118,101,114,115,105,111,110]⟩,
 ⟨1166,1789,88,0,0,0,[95,95,110,97,109,101,95,95]⟩,
 ⟨1166,1791,95,0,0,0,[83,80,65,67,69,83,95,101,110,116,105,116,105,101,115]⟩,
 ⟨1166,1793,95,0,0,0,[84,69,88,84,95,72,69,65,68]⟩,
 ⟨1166,1795,95,0,0,0,[79,82,68,69,82,95,77,65,82,75]⟩,
 ⟨1166,1797,95,863,1171,1183,[76,105,109,105,116,115]⟩,
 ⟨1188,1830,95,868,1193,1218,[69,110,116,105,116,121]⟩,
 ⟨1223,1879,95,881,1228,1229,[112,108,97,105,110,95,114,101,102,101,114,101,110,99,101]⟩,
 ⟨1230,1887,95,884,1235,1236,[112,97,115,115,95,104,101,97,100]⟩,
 ⟨1237,1894,95,895,1242,1243,[119,105,116,104,111,117,116,95,104,101,97,100]⟩,
 ⟨1244,1904,95,905,1249,1250,[112,108,97,105,110,95,111,117,116,101,114]⟩,
 ⟨1251,1912,95,910,1256,1332,[69,110,116,105,116,121,84,97,98,108,101]⟩,
 ⟨1337,2023,95,0,0,0,[95,95,110,97,109,101,95,95]⟩,
 ⟨1337,2025,106,0,0,0,[80,65,82,69,78,84,83]⟩,
 ⟨1338,2028,106,961,1343,1354,[78,111,100,101,82,111,119]⟩,
 ⟨1359,2070,106,973,1364,1543,[84,114,101,101]⟩,
 ⟨1548,2320,106,0,0,0,[95,95,110,97,109,101,95,95]⟩,
 ⟨1548,2322,110,0,0,0,[83,84,65,82,84]⟩,
 ⟨1548,2324,110,1069,1551,1552,[97,100,100,95,97,108,108]⟩,
 ⟨1553,2330,110,1076,1558,1653,[65,117,116,111,109,97,116,111,110]⟩,
 ⟨1658,2490,110,0,0,0,[95,95,110,97,109,101,95,95]⟩,
 ⟨1658,2492,114,0,0,0,[87,79,82,68,83,95,75,73,78,68]⟩,
 ⟨1658,2494,114,1166,1663,1664,[119,97,108,107,95,101,108,101,109,101,110,116,115]⟩,
 ⟨1665,2505,114,1174,1670,1671,[105,100,95,111,102]⟩,
 ⟨1672,2517,114,1183,1677,1678,[105,100,95,116,97,98,108,101]⟩,
 ⟨1679,2529,114,1190,1684,1685,[114,101,102,101,114,101,110,99,101,115]⟩,
 ⟨1686,2542,114,1198,1691,1692,[98,114,111,107,101,110,95,114,101,102,101,114,101,110,99,101,115]⟩,
 ⟨1693,2556,114,0,0,0,[95,95,110,97,109,101,95,95]⟩,
 ⟨1693,2558,121,1206,1698,1745,[67,104,101,99,107,101,114]⟩,
 ⟨1750,2640,121,1277,1755,1756,[111,117,116,101,114,109,111,115,116]⟩,
 ⟨1757,2649,121,1282,1762,1763,[99,104,101,99,107]⟩,
 ⟨1764,2665,121,0,0,0,[95,95,110,97,109,101,95,95]⟩,
 ⟨1764,2667,125,1296,1769,1770,[95,108,97,119,95,112,111,111,108]⟩,
 ⟨1771,2678,125,1301,1776,1777,[95,108,97,119,95,116,97,107,101]⟩,
 ⟨1778,2687,125,1308,1783,1784,[95,108,97,119,95,111,110,101]⟩,
 ⟨1785,2695,125,1310,1790,1791,[95,108,97,119,95,112,108,97,99,101]⟩,
 ⟨1792,2703,125,1316,1797,1798,[95,108,97,119,95,97,104,101,97,100]⟩,
 ⟨1799,2713,125,1323,1804,1805,[95,108,97,119,95,119,114,111,110,103]⟩,
 ⟨1806,2728,125,1333,1811,1812,[95,108,97,119,95,108,105,116,101,114,97,108]⟩,
 ⟨1813,2736,125,1337,1818,1819,[95,108,97,119,95,116,101,120,116,115,95,114,105,103,104,116]⟩,
 ⟨1820,2747,125,1348,1825,1826,[95,108,97,119,95,109,111,100,101,108,115,95,114,105,103,104,116]⟩,
 ⟨1827,2763,125,1360,1830,1831,[95,108,97,119,95,110,97,109,101,115,95,114,105,103,104,116]⟩,
 ⟨1832,2769,125,1375,1837,1838,[108,97,119]⟩,
 ⟨1839,2779,125,0,0,0,[]⟩]
def Qx(k:Nat):Row:=rows.getD k ⟨0,0,0,0,0,0,[]⟩
def IG(k:Nat):Nat:=(Qx k).n
def GU(k:Nat):Nat:=(Qx k).t
def Ma(k:Nat):Nat:=(Qx k).m
def xH(m:Nat):Value:=match m with
 |999=>.str "__main__" 164
 |m=>match cM m with
  |.Assign _ (.Constant (.str s) _ _) _=>.str s (GU m)
  |_=>.none
noncomputable def L9: List (Nat×Nat):=[(30,240),(31,252),(32,264),(33,284),(34,296)]
def Xp(k:Nat):List Value:=(L9.filter λe=>Nat.blt e.1 k).map λe=>.ref e.2
def baseOf: List PySem.Expr->Base
 |[.Name b _]=>if b==("Exception":Str) then .exc else .own 219 (.ref 219::Xw)
 |_=>.none
def Ia(P:Params)(k:Nat)(subs:List Value):Value×List Obj×Nat×Nat:=match cM k with
 |.Assign _ e _=>D9 (IG k) (GU k) e
 |.ClassDef nm bs _ body _ _ _ _ _ statics pos=>zlv P (IG k) (GU k) (baseOf bs) nm body statics pos.line (xH (Ma k)) subs
 |st=>X7 (IG k) (GU k) Str.empty (xH (Ma k)) st
noncomputable def sN(l:List Nat):Str:=⟨l.toArray⟩
def C_: List Ent:=[⟨sN [95,95,110,97,109,101,95,95],1,.str (sN [98,117,105,108,116,105,110,115]) 160⟩,⟨sN [95,95,100,111,99,95,95],2,.builtin "builtins.__doc__:str#opaque"⟩,⟨sN [95,95,112,97,99,107,97,103,101,95,95],3,.builtin "builtins.__package__:str#opaque"⟩,⟨sN [95,95,108,111,97,100,101,114,95,95],4,.builtin "builtins.__loader__:shared#opaque"⟩,⟨sN [95,95,115,112,101,99,95,95],5,.builtin "builtins.__spec__#opaque"⟩,⟨sN [95,95,98,117,105,108,100,95,99,108,97,115,115,95,95],6,.builtin "__build_class__"⟩,⟨sN [95,95,105,109,112,111,114,116,95,95],7,.builtin "__import__"⟩,⟨sN [97,98,115],8,.builtin "abs"⟩,⟨sN [97,108,108],9,.builtin "all"⟩,⟨sN [97,110,121],10,.builtin "any"⟩,⟨sN [97,115,99,105,105],11,.builtin "ascii"⟩,⟨sN [98,105,110],12,.builtin "bin"⟩,⟨sN [98,114,101,97,107,112,111,105,110,116],13,.builtin "breakpoint"⟩,⟨sN [99,97,108,108,97,98,108,101],14,.builtin "callable"⟩,⟨sN [99,104,114],15,.builtin "chr"⟩,⟨sN [99,111,109,112,105,108,101],16,.builtin "compile"⟩,⟨sN [100,101,108,97,116,116,114],17,.builtin "delattr"⟩,⟨sN [100,105,114],18,.builtin "dir"⟩,⟨sN [100,105,118,109,111,100],19,.builtin "divmod"⟩,⟨sN [101,118,97,108],20,.builtin "eval"⟩,⟨sN [101,120,101,99],21,.builtin "exec"⟩,⟨sN [102,111,114,109,97,116],22,.builtin "format"⟩,⟨sN [103,101,116,97,116,116,114],23,.builtin "getattr"⟩,⟨sN [103,108,111,98,97,108,115],24,.builtin "globals"⟩,⟨sN [104,97,115,97,116,116,114],25,.builtin "hasattr"⟩,⟨sN [104,97,115,104],26,.builtin "hash"⟩,⟨sN [104,101,120],27,.builtin "hex"⟩,⟨sN [105,100],28,.builtin "id"⟩,⟨sN [105,110,112,117,116],29,.builtin "input"⟩,⟨sN [105,115,105,110,115,116,97,110,99,101],30,.builtin "isinstance"⟩,⟨sN [105,115,115,117,98,99,108,97,115,115],31,.builtin "issubclass"⟩,⟨sN [105,116,101,114],32,.builtin "iter"⟩,⟨sN [97,105,116,101,114],33,.builtin "aiter"⟩,⟨sN [108,101,110],34,.builtin "len"⟩,⟨sN [108,111,99,97,108,115],35,.builtin "locals"⟩,⟨sN [109,97,120],36,.builtin "max"⟩,⟨sN [109,105,110],37,.builtin "min"⟩,⟨sN [110,101,120,116],38,.builtin "next"⟩,⟨sN [97,110,101,120,116],39,.builtin "anext"⟩,⟨sN [111,99,116],40,.builtin "oct"⟩,⟨sN [111,114,100],41,.builtin "ord"⟩,⟨sN [112,111,119],42,.builtin "pow"⟩,⟨sN [112,114,105,110,116],43,.builtin "print"⟩,⟨sN [114,101,112,114],44,.builtin "repr"⟩,⟨sN [114,111,117,110,100],45,.builtin "round"⟩,⟨sN [115,101,116,97,116,116,114],46,.builtin "setattr"⟩,⟨sN [115,111,114,116,101,100],47,.builtin "sorted"⟩,⟨sN [115,117,109],48,.builtin "sum"⟩,⟨sN [118,97,114,115],49,.builtin "vars"⟩,⟨sN [78,111,110,101],50,.none⟩,⟨sN [69,108,108,105,112,115,105,115],51,.ellipsis⟩,⟨sN [78,111,116,73,109,112,108,101,109,101,110,116,101,100],52,.notImplemented⟩,⟨sN [70,97,108,115,101],53,.bool false⟩,⟨sN [84,114,117,101],54,.bool true⟩,⟨sN [98,111,111,108],55,.type "bool"⟩,⟨sN [109,101,109,111,114,121,118,105,101,119],56,.type "memoryview"⟩,⟨sN [98,121,116,101,97,114,114,97,121],57,.type "bytearray"⟩,⟨sN [98,121,116,101,115],58,.type "bytes"⟩,⟨sN [99,108,97,115,115,109,101,116,104,111,100],59,.type "classmethod"⟩,⟨sN [99,111,109,112,108,101,120],60,.type "complex"⟩,⟨sN [100,105,99,116],61,.type "dict"⟩,⟨sN [101,110,117,109,101,114,97,116,101],62,.type "enumerate"⟩,⟨sN [102,105,108,116,101,114],63,.type "filter"⟩,⟨sN [102,108,111,97,116],64,.type "float"⟩,⟨sN [102,114,111,122,101,110,115,101,116],65,.type "frozenset"⟩,⟨sN [112,114,111,112,101,114,116,121],66,.type "property"⟩,⟨sN [105,110,116],67,.type "int"⟩,⟨sN [108,105,115,116],68,.type "list"⟩,⟨sN [109,97,112],69,.type "map"⟩,⟨sN [111,98,106,101,99,116],70,.type "object"⟩,⟨sN [114,97,110,103,101],71,.type "range"⟩,⟨sN [114,101,118,101,114,115,101,100],72,.type "reversed"⟩,⟨sN [115,101,116],73,.type "set"⟩,⟨sN [115,108,105,99,101],74,.type "slice"⟩,⟨sN [115,116,97,116,105,99,109,101,116,104,111,100],75,.type "staticmethod"⟩,⟨sN [115,116,114],76,.type "str"⟩,⟨sN [115,117,112,101,114],77,.type "super"⟩,⟨sN [116,117,112,108,101],78,.type "tuple"⟩,⟨sN [116,121,112,101],79,.type "type"⟩,⟨sN [122,105,112],80,.type "zip"⟩,⟨sN [95,95,100,101,98,117,103,95,95],81,.bool true⟩,⟨sN [66,97,115,101,69,120,99,101,112,116,105,111,110],82,.type "BaseException"⟩,⟨sN [66,97,115,101,69,120,99,101,112,116,105,111,110,71,114,111,117,112],83,.type "BaseExceptionGroup"⟩,⟨sN [69,120,99,101,112,116,105,111,110],84,.type "Exception"⟩,⟨sN [71,101,110,101,114,97,116,111,114,69,120,105,116],85,.type "GeneratorExit"⟩,⟨sN [75,101,121,98,111,97,114,100,73,110,116,101,114,114,117,112,116],86,.type "KeyboardInterrupt"⟩,⟨sN [83,121,115,116,101,109,69,120,105,116],87,.type "SystemExit"⟩,⟨sN [65,114,105,116,104,109,101,116,105,99,69,114,114,111,114],88,.type "ArithmeticError"⟩,⟨sN [65,115,115,101,114,116,105,111,110,69,114,114,111,114],89,.type "AssertionError"⟩,⟨sN [65,116,116,114,105,98,117,116,101,69,114,114,111,114],90,.type "AttributeError"⟩,⟨sN [66,117,102,102,101,114,69,114,114,111,114],91,.type "BufferError"⟩,⟨sN [69,79,70,69,114,114,111,114],92,.type "EOFError"⟩,⟨sN [73,109,112,111,114,116,69,114,114,111,114],93,.type "ImportError"⟩,⟨sN [76,111,111,107,117,112,69,114,114,111,114],94,.type "LookupError"⟩,⟨sN [77,101,109,111,114,121,69,114,114,111,114],95,.type "MemoryError"⟩,⟨sN [78,97,109,101,69,114,114,111,114],96,.type "NameError"⟩,⟨sN [79,83,69,114,114,111,114],97,.type "OSError"⟩,⟨sN [82,101,102,101,114,101,110,99,101,69,114,114,111,114],98,.type "ReferenceError"⟩,⟨sN [82,117,110,116,105,109,101,69,114,114,111,114],99,.type "RuntimeError"⟩,⟨sN [83,116,111,112,65,115,121,110,99,73,116,101,114,97,116,105,111,110],100,.type "StopAsyncIteration"⟩,⟨sN [83,116,111,112,73,116,101,114,97,116,105,111,110],101,.type "StopIteration"⟩,⟨sN [83,121,110,116,97,120,69,114,114,111,114],102,.type "SyntaxError"⟩,⟨sN [83,121,115,116,101,109,69,114,114,111,114],103,.type "SystemError"⟩,⟨sN [84,121,112,101,69,114,114,111,114],104,.type "TypeError"⟩,⟨sN [86,97,108,117,101,69,114,114,111,114],105,.type "ValueError"⟩,⟨sN [87,97,114,110,105,110,103],106,.type "Warning"⟩,⟨sN [70,108,111,97,116,105,110,103,80,111,105,110,116,69,114,114,111,114],107,.type "FloatingPointError"⟩,⟨sN [79,118,101,114,102,108,111,119,69,114,114,111,114],108,.type "OverflowError"⟩,⟨sN [90,101,114,111,68,105,118,105,115,105,111,110,69,114,114,111,114],109,.type "ZeroDivisionError"⟩,⟨sN [66,121,116,101,115,87,97,114,110,105,110,103],110,.type "BytesWarning"⟩,⟨sN [68,101,112,114,101,99,97,116,105,111,110,87,97,114,110,105,110,103],111,.type "DeprecationWarning"⟩,⟨sN [69,110,99,111,100,105,110,103,87,97,114,110,105,110,103],112,.type "EncodingWarning"⟩,⟨sN [70,117,116,117,114,101,87,97,114,110,105,110,103],113,.type "FutureWarning"⟩,⟨sN [73,109,112,111,114,116,87,97,114,110,105,110,103],114,.type "ImportWarning"⟩,⟨sN [80,101,110,100,105,110,103,68,101,112,114,101,99,97,116,105,111,110,87,97,114,110,105,110,103],115,.type "PendingDeprecationWarning"⟩,⟨sN [82,101,115,111,117,114,99,101,87,97,114,110,105,110,103],116,.type "ResourceWarning"⟩,⟨sN [82,117,110,116,105,109,101,87,97,114,110,105,110,103],117,.type "RuntimeWarning"⟩,⟨sN [83,121,110,116,97,120,87,97,114,110,105,110,103],118,.type "SyntaxWarning"⟩,⟨sN [85,110,105,99,111,100,101,87,97,114,110,105,110,103],119,.type "UnicodeWarning"⟩,⟨sN [85,115,101,114,87,97,114,110,105,110,103],120,.type "UserWarning"⟩,⟨sN [66,108,111,99,107,105,110,103,73,79,69,114,114,111,114],121,.type "BlockingIOError"⟩,⟨sN [67,104,105,108,100,80,114,111,99,101,115,115,69,114,114,111,114],122,.type "ChildProcessError"⟩,⟨sN [67,111,110,110,101,99,116,105,111,110,69,114,114,111,114],123,.type "ConnectionError"⟩,⟨sN [70,105,108,101,69,120,105,115,116,115,69,114,114,111,114],124,.type "FileExistsError"⟩,⟨sN [70,105,108,101,78,111,116,70,111,117,110,100,69,114,114,111,114],125,.type "FileNotFoundError"⟩,⟨sN [73,110,116,101,114,114,117,112,116,101,100,69,114,114,111,114],126,.type "InterruptedError"⟩,⟨sN [73,115,65,68,105,114,101,99,116,111,114,121,69,114,114,111,114],127,.type "IsADirectoryError"⟩,⟨sN [78,111,116,65,68,105,114,101,99,116,111,114,121,69,114,114,111,114],128,.type "NotADirectoryError"⟩,⟨sN [80,101,114,109,105,115,115,105,111,110,69,114,114,111,114],129,.type "PermissionError"⟩,⟨sN [80,114,111,99,101,115,115,76,111,111,107,117,112,69,114,114,111,114],130,.type "ProcessLookupError"⟩,⟨sN [84,105,109,101,111,117,116,69,114,114,111,114],131,.type "TimeoutError"⟩,⟨sN [73,110,100,101,110,116,97,116,105,111,110,69,114,114,111,114],132,.type "IndentationError"⟩,⟨sN [95,73,110,99,111,109,112,108,101,116,101,73,110,112,117,116,69,114,114,111,114],133,.type "_IncompleteInputError"⟩,⟨sN [73,110,100,101,120,69,114,114,111,114],134,.type "IndexError"⟩,⟨sN [75,101,121,69,114,114,111,114],135,.type "KeyError"⟩,⟨sN [77,111,100,117,108,101,78,111,116,70,111,117,110,100,69,114,114,111,114],136,.type "ModuleNotFoundError"⟩,⟨sN [78,111,116,73,109,112,108,101,109,101,110,116,101,100,69,114,114,111,114],137,.type "NotImplementedError"⟩,⟨sN [80,121,116,104,111,110,70,105,110,97,108,105,122,97,116,105,111,110,69,114,114,111,114],138,.type "PythonFinalizationError"⟩,⟨sN [82,101,99,117,114,115,105,111,110,69,114,114,111,114],139,.type "RecursionError"⟩,⟨sN [85,110,98,111,117,110,100,76,111,99,97,108,69,114,114,111,114],140,.type "UnboundLocalError"⟩,⟨sN [85,110,105,99,111,100,101,69,114,114,111,114],141,.type "UnicodeError"⟩,⟨sN [66,114,111,107,101,110,80,105,112,101,69,114,114,111,114],142,.type "BrokenPipeError"⟩,⟨sN [67,111,110,110,101,99,116,105,111,110,65,98,111,114,116,101,100,69,114,114,111,114],143,.type "ConnectionAbortedError"⟩,⟨sN [67,111,110,110,101,99,116,105,111,110,82,101,102,117,115,101,100,69,114,114,111,114],144,.type "ConnectionRefusedError"⟩,⟨sN [67,111,110,110,101,99,116,105,111,110,82,101,115,101,116,69,114,114,111,114],145,.type "ConnectionResetError"⟩,⟨sN [84,97,98,69,114,114,111,114],146,.type "TabError"⟩,⟨sN [85,110,105,99,111,100,101,68,101,99,111,100,101,69,114,114,111,114],147,.type "UnicodeDecodeError"⟩,⟨sN [85,110,105,99,111,100,101,69,110,99,111,100,101,69,114,114,111,114],148,.type "UnicodeEncodeError"⟩,⟨sN [85,110,105,99,111,100,101,84,114,97,110,115,108,97,116,101,69,114,114,111,114],149,.type "UnicodeTranslateError"⟩,⟨sN [69,120,99,101,112,116,105,111,110,71,114,111,117,112],150,.type "ExceptionGroup"⟩,⟨sN [69,110,118,105,114,111,110,109,101,110,116,69,114,114,111,114],151,.type "OSError"⟩,⟨sN [73,79,69,114,114,111,114],152,.type "OSError"⟩,⟨sN [111,112,101,110],153,.builtin "open"⟩,⟨sN [113,117,105,116],154,.builtin "builtins.quit#opaque"⟩,⟨sN [101,120,105,116],155,.builtin "builtins.exit#opaque"⟩,⟨sN [99,111,112,121,114,105,103,104,116],156,.builtin "builtins.copyright#opaque"⟩,⟨sN [99,114,101,100,105,116,115],157,.builtin "builtins.credits#opaque"⟩,⟨sN [108,105,99,101,110,115,101],158,.builtin "builtins.license#opaque"⟩,⟨sN [104,101,108,112],159,.builtin "builtins.help#opaque"⟩]
def vH(P:Params):Obj:={ cls:=.type "dict",data:=.dict (C_.map (kA P)).toArray 159 }
def Ey(md:Value):List Ent:=[⟨sN [95,95,110,97,109,101,95,95],165,md⟩,⟨sN [95,95,100,111,99,95,95],166,.none⟩,⟨sN [95,95,112,97,99,107,97,103,101,95,95],167,.none⟩,⟨sN [95,95,108,111,97,100,101,114,95,95],168,.builtin "__main__.__loader__#opaque"⟩,⟨sN [95,95,115,112,101,99,95,95],169,.none⟩,⟨sN [95,95,97,110,110,111,116,97,116,105,111,110,115,95,95],170,.ref 6⟩,⟨sN [95,95,98,117,105,108,116,105,110,115,95,95],171,.ref 4⟩,⟨sN [95,95,102,105,108,101,95,95],173,.str (sN [47,99,108,97,105,109,47,99,117,116,46,112,121]) 172⟩,⟨sN [95,95,99,97,99,104,101,100,95,95],174,.none⟩]
noncomputable def posOf: Stmt->Pos
 |.Assign [.Name _ q] _ _=>q
 |st=>st.pos
noncomputable def Jz: Nat->List Row->List Value
 |0,_=>[]
 |_+1,[]=>[]
 |f+1,r::l=>match Nat.beq r.line 0 with
  |true=>Jz f l
  |false=>.int (.ofNat r.line) 0::.int (.ofNat 0) 0::.ref r.code::Jz f l
def JB(P:Params):Nat->Nat->List Row->List DictEntry
 |f+1,k,r::s::l=>match Nat.beq r.line 0,Nat.beq s.m k with
  |true,true=>JB P f (k+1) (s::l)
  |true,false=>kA P ⟨sN r.name,s.t - 1,(Ia P k []).1⟩::JB P f (k+1) (s::l)
  |false,_=>kA P ⟨sN r.name,s.t - 1,.ref r.val⟩::JB P f (k+1) (s::l)
 |_,_,_=>[]
def Xl(P:Params)(k:Nat):Obj:=
 let es:=(Ey (xH (Ma k))).map (kA P)++JB P k 0 rows
 { cls:=.type "dict",data:=.dict es.toArray es.length }
def Xd(P:Params)(k:Nat):Obj:=
 let es:List Ent:=if Nat.blt 29 k then [⟨"type.__subclasses__.Exception.0",462,.int 219 0⟩,⟨"type.__subclasses__.Exception.n",463,.int 1 0⟩] else []
 { cls:=.none,data:=.dict (es.map (kA P)).toArray es.length }
def Xh(P:Params)(b:Nat):Nat->List Row->Obj
 |k,r::s::l=>if Nat.blt b s.n then (Ia P k []).2.1.getD (b - r.n) default else Xh P b (k+1) (s::l)
 |_,_=>default
noncomputable def Hy(P:Params)(b:Nat):Obj:=
 match Nat.blt b 15 with
 |true=>(match b with
  |0=>vH P | 1=>boot_o_1 P | 4=>boot_o_4 P | 5=>boot_o_5 P | 6=>boot_o_6 P | 7=>boot_o_7 P | 8=>boot_o_8 P | 9=>boot_o_9 P | 10=>boot_o_10 P
  |11=>pq []
  |13=>{ cls:=.type "code",data:=.fields #[.str "<module>" 182,.str "<module>" 183,Cv 184,rawInt 1,rawInt 0,rawInt 0,rawInt 0,rawInt 0,.ref 11,.bool false,rawInt 181,.ref 12,.none,.none,.none,.none,rawInt 185,rawInt 1,Cv 186] }
  |14=>{ cls:=.type "frame",slots:=#[some (.ref 13),some (.ref mainGlobals),some (.ref mainGlobals),none,some (.str "__main__" 164),none,some (.ref builtinsNs)] }
  |_=>default)
 |false=>Xh P b 0 rows
noncomputable def gen(P:Params):Nat->Nat->Nat->BT
 |0,_,_=>.nil
 |f+1,a,b=>match Nat.blt b 1839 with
  |true=>.node (Hy P b) (gen P f (2 * a) (a+b)) (gen P f (2 * a) (2 * a+b))
  |false=>.nil
noncomputable def G(P:Params):BT:=gen P 12 1 0
noncomputable def E(P:Params)(k:Nat):BT:=
 ((((G P).set 2 λ_=>Xd P k).set 3 λ_=>Xl P k).set 12 λ_=>pW (Jz k rows)).set 219 λ_=>(Ia P 29 (Xp k)).2.1.getD 16 default
def uM: Env:={ scope:=pw.main.scope,locals:=mainNs,globals:=mainNs,cells:=[],code:=.ref 13,frame:=some 14 }
def oj: Code:=.body (behindTheImports pw) uM
noncomputable def oo: Pos:=⟨0,0,0,0⟩
def B7: Nat->Pos
 |0=>oo
 |k+1=>posOf (cM k)
noncomputable def st(k:Nat)(w:World)(os:OsState):SharedT:=⟨E w.params k,IG k,{},#[],boot_drawn,GU k,os⟩
end
section
open PySem PySem.W PyProof.Rows
abbrev Pc(k s:Nat):Prop:=(λ(w:World) (os:OsState)=>PySem.W.Fast.tw10110043849684766642 PySem.W.Fast.tw14364793385576792824 pw w 11 (some (.ref 6)) 1 s (st k w os) ⟨(PySem.W.Fast.tw12563942051412417395 [cM k] uM).wrap doneF deadEnd id id,oj,B7 k,[topFrame oo]⟩) = λw os=>some (.next,st (k+1) w os,oj,B7 (k+1))
theorem p0: Pc 0 30:=by kernel_rfl
theorem p1: Pc 1 10:=by kernel_rfl
theorem p2: Pc 2 10:=by kernel_rfl
theorem p3: Pc 3 23:=by kernel_rfl
theorem p4: Pc 4 59:=by kernel_rfl
theorem p5: Pc 5 23:=by kernel_rfl
theorem p6: Pc 6 10:=by kernel_rfl
theorem p7: Pc 7 33:=by kernel_rfl
theorem p8: Pc 8 30:=by kernel_rfl
theorem p9: Pc 9 31:=by kernel_rfl
theorem p10: Pc 10 30:=by kernel_rfl
theorem p11: Pc 11 30:=by kernel_rfl
theorem p12: Pc 12 30:=by kernel_rfl
theorem p13: Pc 13 31:=by kernel_rfl
theorem p14: Pc 14 31:=by kernel_rfl
theorem p15: Pc 15 30:=by kernel_rfl
theorem p16: Pc 16 30:=by kernel_rfl
theorem p17: Pc 17 33:=by kernel_rfl
theorem p18: Pc 18 30:=by kernel_rfl
theorem p19: Pc 19 31:=by kernel_rfl
theorem p20: Pc 20 10:=by kernel_rfl
theorem p21: Pc 21 14:=by kernel_rfl
theorem p22: Pc 22 291:=by kernel_rfl
theorem p23: Pc 23 27:=by kernel_rfl
theorem p24: Pc 24 31:=by kernel_rfl
theorem p25: Pc 25 31:=by kernel_rfl
theorem p26: Pc 26 31:=by kernel_rfl
theorem p27: Pc 27 33:=by kernel_rfl
theorem p28: Pc 28 10:=by kernel_rfl
theorem p29: Pc 29 229:=by kernel_rfl
theorem p30: Pc 30 249:=by kernel_rfl
theorem p31: Pc 31 214:=by kernel_rfl
theorem p32: Pc 32 214:=by kernel_rfl
theorem p33: Pc 33 249:=by kernel_rfl
theorem p34: Pc 34 214:=by kernel_rfl
theorem p35: Pc 35 10:=by kernel_rfl
theorem p36: Pc 36 708:=by kernel_rfl
theorem p37: Pc 37 34:=by kernel_rfl
theorem p38: Pc 38 10:=by kernel_rfl
theorem p39: Pc 39 14:=by kernel_rfl
theorem p40: Pc 40 10:=by kernel_rfl
theorem p41: Pc 41 10:=by kernel_rfl
theorem p42: Pc 42 31:=by kernel_rfl
theorem p43: Pc 43 291:=by kernel_rfl
theorem p44: Pc 44 33:=by kernel_rfl
theorem p45: Pc 45 32:=by kernel_rfl
theorem p46: Pc 46 32:=by kernel_rfl
theorem p47: Pc 47 30:=by kernel_rfl
theorem p48: Pc 48 31:=by kernel_rfl
theorem p49: Pc 49 30:=by kernel_rfl
theorem p50: Pc 50 10:=by kernel_rfl
theorem p51: Pc 51 227:=by kernel_rfl
theorem p52: Pc 52 586:=by kernel_rfl
theorem p53: Pc 53 10:=by kernel_rfl
theorem p54: Pc 54 10:=by kernel_rfl
theorem p55: Pc 55 10:=by kernel_rfl
theorem p56: Pc 56 10:=by kernel_rfl
theorem p57: Pc 57 34:=by kernel_rfl
theorem p58: Pc 58 31:=by kernel_rfl
theorem p59: Pc 59 27:=by kernel_rfl
theorem p60: Pc 60 34:=by kernel_rfl
theorem p61: Pc 61 30:=by kernel_rfl
theorem p62: Pc 62 10:=by kernel_rfl
theorem p63: Pc 63 10:=by kernel_rfl
theorem p64: Pc 64 353:=by kernel_rfl
theorem p65: Pc 65 324:=by kernel_rfl
theorem p66: Pc 66 322:=by kernel_rfl
theorem p67: Pc 67 31:=by kernel_rfl
theorem p68: Pc 68 36:=by kernel_rfl
theorem p69: Pc 69 33:=by kernel_rfl
theorem p70: Pc 70 31:=by kernel_rfl
theorem p71: Pc 71 36:=by kernel_rfl
theorem p72: Pc 72 34:=by kernel_rfl
theorem p73: Pc 73 10:=by kernel_rfl
theorem p74: Pc 74 19:=by kernel_rfl
theorem p75: Pc 75 15:=by kernel_rfl
theorem p76: Pc 76 10:=by kernel_rfl
theorem p77: Pc 77 226:=by kernel_rfl
theorem p78: Pc 78 41:=by kernel_rfl
theorem p79: Pc 79 35:=by kernel_rfl
theorem p80: Pc 80 622:=by kernel_rfl
theorem p81: Pc 81 33:=by kernel_rfl
theorem p82: Pc 82 32:=by kernel_rfl
theorem p83: Pc 83 33:=by kernel_rfl
theorem p84: Pc 84 33:=by kernel_rfl
theorem p85: Pc 85 35:=by kernel_rfl
theorem p86: Pc 86 10:=by kernel_rfl
theorem p87: Pc 87 680:=by kernel_rfl
theorem p88: Pc 88 10:=by kernel_rfl
theorem p89: Pc 89 10:=by kernel_rfl
theorem p90: Pc 90 10:=by kernel_rfl
theorem p91: Pc 91 30:=by kernel_rfl
theorem p92: Pc 92 31:=by kernel_rfl
theorem p93: Pc 93 31:=by kernel_rfl
theorem p94: Pc 94 31:=by kernel_rfl
theorem p95: Pc 95 10:=by kernel_rfl
theorem p96: Pc 96 10:=by kernel_rfl
theorem p97: Pc 97 10:=by kernel_rfl
theorem p98: Pc 98 10:=by kernel_rfl
theorem p99: Pc 99 228:=by kernel_rfl
theorem Mr: Pc 100 291:=by kernel_rfl
theorem Ms: Pc 101 31:=by kernel_rfl
theorem Mt: Pc 102 30:=by kernel_rfl
theorem Mu: Pc 103 33:=by kernel_rfl
theorem Mv: Pc 104 31:=by kernel_rfl
theorem Mw: Pc 105 523:=by kernel_rfl
theorem Mx: Pc 106 10:=by kernel_rfl
theorem My: Pc 107 13:=by kernel_rfl
theorem Mz: Pc 108 236:=by kernel_rfl
theorem MA: Pc 109 1020:=by kernel_rfl
theorem MB: Pc 110 10:=by kernel_rfl
theorem MC: Pc 111 10:=by kernel_rfl
theorem MD: Pc 112 27:=by kernel_rfl
theorem MF: Pc 113 642:=by kernel_rfl
theorem MG: Pc 114 10:=by kernel_rfl
theorem MH: Pc 115 10:=by kernel_rfl
theorem MI: Pc 116 34:=by kernel_rfl
theorem MJ: Pc 117 35:=by kernel_rfl
theorem MK: Pc 118 35:=by kernel_rfl
theorem ML: Pc 119 36:=by kernel_rfl
theorem MM: Pc 120 37:=by kernel_rfl
theorem MN: Pc 121 10:=by kernel_rfl
theorem MO: Pc 122 414:=by kernel_rfl
theorem MP: Pc 123 32:=by kernel_rfl
theorem MQ: Pc 124 39:=by kernel_rfl
theorem MR: Pc 125 10:=by kernel_rfl
theorem MT: Pc 126 34:=by kernel_rfl
theorem MU: Pc 127 32:=by kernel_rfl
theorem MV: Pc 128 31:=by kernel_rfl
theorem MW: Pc 129 31:=by kernel_rfl
theorem MX: Pc 130 33:=by kernel_rfl
theorem MY: Pc 131 38:=by kernel_rfl
theorem MZ: Pc 132 31:=by kernel_rfl
theorem M_: Pc 133 34:=by kernel_rfl
theorem M': Pc 134 39:=by kernel_rfl
theorem N0: Pc 135 27:=by kernel_rfl
theorem N1: Pc 136 33:=by kernel_rfl
end
section
open PySem PySem.W PyProof.Rows
theorem up{P:Nat->Prop}{n:Nat}(h:∀k,k<n->P k)(p:P n):∀k,k<n+1->P k:=λk hk=>(Nat.lt_or_eq_of_le (Nat.le_of_lt_succ hk)).elim (h k) λe=>e▸p
theorem pcs: ∀k,k<137->∃s,Pc k s:=
 up (up (up (up (up (up (up (up (up (up (up (up (up (up (up (up (up (up (up (up (up (up (up (up (up (up (up (up (up (up (up (up (up (up (up (up (up (up (up (up (up (up (up (up (up (up (up (up (up (up (up (up (up (up (up (up (up (up (up (up (up (up (up (up (up (up (up (up (up (up (up (up (up (up (up (up (up (up (up (up (up (up (up (up (up (up (up (up (up (up (up (up (up (up (up (up (up (up (up (up (up (up (up (up (up (up (up (up (up (up (up (up (up (up (up (up (up (up (up (up (up (up (up (up (up (up (up (up (up (up (up (up (up (up (up (up (up (λ_ h=>w1 h (Nat.not_lt_zero _)) ⟨30,p0⟩) ⟨10,p1⟩) ⟨10,p2⟩) ⟨23,p3⟩) ⟨59,p4⟩) ⟨23,p5⟩) ⟨10,p6⟩) ⟨33,p7⟩) ⟨30,p8⟩) ⟨31,p9⟩) ⟨30,p10⟩) ⟨30,p11⟩) ⟨30,p12⟩) ⟨31,p13⟩) ⟨31,p14⟩) ⟨30,p15⟩) ⟨30,p16⟩) ⟨33,p17⟩) ⟨30,p18⟩) ⟨31,p19⟩) ⟨10,p20⟩) ⟨14,p21⟩) ⟨291,p22⟩) ⟨27,p23⟩) ⟨31,p24⟩) ⟨31,p25⟩) ⟨31,p26⟩) ⟨33,p27⟩) ⟨10,p28⟩) ⟨229,p29⟩) ⟨249,p30⟩) ⟨214,p31⟩) ⟨214,p32⟩) ⟨249,p33⟩) ⟨214,p34⟩) ⟨10,p35⟩) ⟨708,p36⟩) ⟨34,p37⟩) ⟨10,p38⟩) ⟨14,p39⟩) ⟨10,p40⟩) ⟨10,p41⟩) ⟨31,p42⟩) ⟨291,p43⟩) ⟨33,p44⟩) ⟨32,p45⟩) ⟨32,p46⟩) ⟨30,p47⟩) ⟨31,p48⟩) ⟨30,p49⟩) ⟨10,p50⟩) ⟨227,p51⟩) ⟨586,p52⟩) ⟨10,p53⟩) ⟨10,p54⟩) ⟨10,p55⟩) ⟨10,p56⟩) ⟨34,p57⟩) ⟨31,p58⟩) ⟨27,p59⟩) ⟨34,p60⟩) ⟨30,p61⟩) ⟨10,p62⟩) ⟨10,p63⟩) ⟨353,p64⟩) ⟨324,p65⟩) ⟨322,p66⟩) ⟨31,p67⟩) ⟨36,p68⟩) ⟨33,p69⟩) ⟨31,p70⟩) ⟨36,p71⟩) ⟨34,p72⟩) ⟨10,p73⟩) ⟨19,p74⟩) ⟨15,p75⟩) ⟨10,p76⟩) ⟨226,p77⟩) ⟨41,p78⟩) ⟨35,p79⟩) ⟨622,p80⟩) ⟨33,p81⟩) ⟨32,p82⟩) ⟨33,p83⟩) ⟨33,p84⟩) ⟨35,p85⟩) ⟨10,p86⟩) ⟨680,p87⟩) ⟨10,p88⟩) ⟨10,p89⟩) ⟨10,p90⟩) ⟨30,p91⟩) ⟨31,p92⟩) ⟨31,p93⟩) ⟨31,p94⟩) ⟨10,p95⟩) ⟨10,p96⟩) ⟨10,p97⟩) ⟨10,p98⟩) ⟨228,p99⟩) ⟨291,Mr⟩) ⟨31,Ms⟩) ⟨30,Mt⟩) ⟨33,Mu⟩) ⟨31,Mv⟩) ⟨523,Mw⟩) ⟨10,Mx⟩) ⟨13,My⟩) ⟨236,Mz⟩) ⟨1020,MA⟩) ⟨10,MB⟩) ⟨10,MC⟩) ⟨27,MD⟩) ⟨642,MF⟩) ⟨10,MG⟩) ⟨10,MH⟩) ⟨34,MI⟩) ⟨35,MJ⟩) ⟨35,MK⟩) ⟨36,ML⟩) ⟨37,MM⟩) ⟨10,MN⟩) ⟨414,MO⟩) ⟨32,MP⟩) ⟨39,MQ⟩) ⟨10,MR⟩) ⟨34,MT⟩) ⟨32,MU⟩) ⟨31,MV⟩) ⟨31,MW⟩) ⟨33,MX⟩) ⟨38,MY⟩) ⟨31,MZ⟩) ⟨34,M_⟩) ⟨39,M'⟩) ⟨27,N0⟩) ⟨33,N1⟩
noncomputable abbrev mD: Option Value:=some (.ref 6)
theorem zkc{tb:String->Option Builtin}{w:World}{n:Nat}{s:SharedT}{l:List Stmt}{c:Code}{p:Pos}{B:List Frame}{r:Option (Flow×SharedT×Code×Pos)}(h:PySem.W.Fast.tw10110043849684766642 PySem.W.Fast.tw14364793385576792824 pw w 11 mD 1 n s ⟨(PySem.W.Fast.tw12563942051412417395 l uM).wrap doneF deadEnd id id,c,p,B⟩ = r):
  segRunT treeTable pw w 11 mD 1 n s (piecesOf l uM c p B)=r:=by
 rw[<-PySem.W.Fast.te10110043849684766642,<-PySem.W.Fast.te14364793385576792824,<-PySem.W.Fast.te12563942051412417395] at h
 exact h
theorem zi2{k s:Nat}(h:Pc k s)(w:World)(os:OsState):
  segRun treeTable pw w 11 mD 1 s (st k w os).abs (piecesOf [cM k] uM oj (B7 k) [topFrame oo])=some (.next,(st (k+1) w os).abs,oj,B7 (k+1)):=
 segRun_of (zkc (tb:=treeTable) (congrFun (congrFun h w) os))
abbrev gD: List Stmt:=pw.main.body
theorem WA: gD.length=137:=by kernel_rfl
theorem zhs{k:Nat}(h:k<137):gD.drop k=[cM k]++gD.drop (k+1):=by
 have hl:k<gD.length:=by rw[WA];exact h
 rw[List.drop_eq_getElem_cons hl]
 have:gD[k]=cM k:=by
  unfold cM
  rw[List.getD_eq_getElem?_getD,List.getElem?_eq_getElem hl]
  rfl
 rw[this]
 rfl
theorem zli(w:World)(s:Shared):topRun treeTable pw w 11 mD 3 s ⟨doneF .next,oj,B7 137,[topFrame oo]⟩ = some s:=by
 obtain⟨h,g,d,t,os⟩:=s
 kernel_rfl
theorem Wr: ∀j k,k+j=137->∃M,∀(w:World) (os:OsState),topRun treeTable pw w 11 mD M (st k w os).abs (restOf (gD.drop k) uM oj (B7 k) [topFrame oo])=some (st 137 w os).abs
 |0,k,h=>by
  obtain rfl:k=137:=h
  have:gD.drop 137=[]:=List.drop_eq_nil_of_le (by rw[WA];exact wa _)
  rw[this]
  exact⟨3,λw os=>piece_nil (zli w _)⟩
 |j+1,k,h=>by
  refine oE (Wr j (k+1) (Eq.trans (Nat.add_right_comm _ _ _) h)) λM hM=>?_
  refine oE (pcs k (HX h.symm)) λs hs=>?_
  rw[zhs (HX h.symm)]
  exact⟨s+M,λw os=>piece_app (zi2 hs w os) (hM w os)⟩
end
section
open PySem PySem.W PyProof.Rows
theorem zlj: behindTheImports pw=gD:=by kernel_rfl
theorem zna: opening pw=plainProg pw.main.scope.names:=by kernel_rfl
theorem zl1: ∀s,fenceModules? pw s=some s:=λs=>by kernel_rfl
theorem zmb: (λ(w:World) (os:OsState)=>PySem.W.Fast.tw15667345088766844465 PySem.W.Fast.tw14364793385576792824 pw w 11 mD 12 ⟨boot_heap w.params,#[],boot_drawn,boot_toks,os⟩ (topStub pw)) = λw os=>some ((st 0 w os).abs,⟨PySem.W.Fast.tw11892475500146522536 PySem.W.Fast.tw14364793385576792824 oj,oj,oo,[topFrame oo]⟩):=by kernel_rfl
theorem zjc: (λ(w:World) (os:OsState)=>segRun treeTable pw w 11 mD 1 1 (st 0 w os).abs (blockOf (behindTheImports pw) uM oj oo [topFrame oo])) = λw os=>some (.next,(st 0 w os).abs,oj,oo):=by kernel_rfl
theorem zmf(w:World)(os:OsState)(M:Nat)(hM:topRun treeTable pw w 11 mD M (st 0 w os).abs (restOf (gD.drop 0) uM oj (B7 0) [topFrame oo])=some (st 137 w os).abs):
  topRun treeTable pw w 11 mD (12+(1+M)) ⟨boot_heap w.params,#[],boot_drawn,boot_toks,os⟩ (topStub pw)=some (st 137 w os).abs:=by
 have hp:=congrFun (congrFun zmb w) os
 rw[<-PySem.W.Fast.te15667345088766844465,<-PySem.W.Fast.te11892475500146522536,<-PySem.W.Fast.te14364793385576792824] at hp
 have hb:=congrFun (congrFun zjc w) os
 refine go_top hp (piece_block (b:=behindTheImports pw) hb ?_)
 rw[zlj]
 exact hM
theorem zec: ∃M,∀(w:World) (os:OsState),topRun treeTable pw w 11 mD M ⟨boot_heap w.params,#[],boot_drawn,boot_toks,os⟩ (topStub pw)=some (st 137 w os).abs:=by
 refine oE (Wr 137 0 rfl) λM hM=>?_
 exact⟨_,λw os=>zmf w os M (hM w os)⟩
end
section
open PySem PySem.W PyProof.Rows
def q0: Program:={ pw with main:={ pw.main with body:=[cM 136] } }
def HA: List Str:=(rows.take 136).map λr=>sN r.name
noncomputable def H1(P:Params):Heap:=absHeap (E P 137) 1839 {}
noncomputable def S1(w:World)(os:OsState):Shared:=⟨H1 w.params,#[],boot_drawn,2779,os⟩
theorem lk1: (λ(w:World)=>staticsOk (importedModules pw.main.body) (boot_heap w.params) (H1 w.params)) = λ_=>true:=by kernel_rfl
theorem lk4: (λ(w:World)=>laidKept (boot_heap w.params) (H1 w.params)) = λ_=>true:=by kernel_rfl
end
section
open PySem PySem.W PyProof.Rows
theorem lk2: (λ(w:World)=>namesBound pw (H1 w.params)) = λ_=>true:=by kernel_rfl
end
section
open PySem PySem.W PyProof.Rows
theorem lk3: (λ(w:World) (os:OsState)=>PySem.W.Fast.tw4187177175401517315 q0 HA (importedModules pw.main.body) (λs=>recOk [] s) true (S1 w os)) = λ_ _=>openGood q0 HA:=by kernel_rfl
end
section
open PySem PySem.W PyProof.Rows
abbrev rw0: OpenLaw:=PySem.Challenge.rw_zu0054_01
def sy(w:World)(h:Heap):Prop:=∀b o,(H1 w.params).get? b=some o->h.get? b=some o
theorem GF: (λ(w:World)=>((boot_heap w.params).isNs mainGlobals&&(Array.mk []:Array GenState).size==0,(boot_heap w.params).objs.size,(boot_heap w.params).nsMap mainGlobals "__annotations__")) = λ_=>(true,11,mD):=by kernel_rfl
theorem Dp: (λ(w:World) (os:OsState)=>gensDone (S1 w os)) = λ_ _=>true:=by kernel_rfl
theorem Ag(w:World)(os:OsState):(st 137 w os).abs=S1 w os:=by kernel_rfl
theorem Ee: ∃N,LeftO pw q0 HA (λs=>recOk [] s) (λs=>s.heap) (λw=>H1 w.params) N:=by
 have key:∃M,∀(w:World) (os:OsState),topRun treeTable pw w 11 mD M ⟨boot_heap w.params,Array.mk [],boot_drawn,boot_toks,os⟩ (topStub pw)=some ⟨H1 w.params,Array.mk [],boot_drawn,2779,os⟩:=by
  refine oE zec λM hM=>?_
  exact⟨M,λw os=>(hM w os).trans (congrArg some (Ag w os))⟩
 refine oE key λM hM=>?_
 have M7:Nat.ble 600 (M+600)=true:=Nat.ble_eq_true_of_le (Nat.le_add_left _ _)
 have le2:Nat.ble M (M+600)=true:=Nat.ble_eq_true_of_le (Nat.le_add_right _ _)
 refine⟨M+600,LeftO.of_pieces (boot_open zna M7 zl1) (λw=>congrFun GF w) hM le2 λw=>?_⟩
 funext os
 have a1:=congrFun lk1 w
 have a2:=congrFun lk2 w
 have a3:=congrFun (congrFun lk3 w) os
 have a4:=congrFun lk4 w
 have a5:=congrFun (congrFun Dp w) os
 rw[<-PySem.W.Fast.te4187177175401517315] at a3
 unfold S1 at a3 a5
 try dsimp only at a1
 try dsimp only at a2
 try dsimp only at a3
 try dsimp only at a4
 try dsimp only at a5
 rw[a1,a2,a3,a4,a5]
 rfl
def d0: DefRec:=match cM 136 with
 |.FunctionDef nm p b _ _ _ sc _ _ pos=>⟨nm,p,b,sc,pos⟩
 |_=>⟨Str.empty,⟨[],[],none,[],[],none,[]⟩,[],pw.main.scope,default⟩
theorem KW: ∃d kwd,defOf q0 ("law":Str)=some (d,kwd)/\pw.theDef ("law":Str)=some (d.params,d.body,d.scope)/\kwWritten? d.params.kwonlyargs d.params.kw_defaults=some kwd:=⟨d0,[],by kernel_rfl,by kernel_rfl,by kernel_rfl⟩
theorem head0(k1:rw0.row.wellSaid=true)(call:∀d kwd,defOf q0 ("law":Str)=some (d,kwd)->WalkO q0 HA (λ_ _=>True) sy rw0.row.toRowW d kwd λf vs=>PySem.call f vs):rw0.row.Holds:=by
 refine oE Ee λN left=>?_
 refine dC KW λd kwd h1 h2 h3=>?_
 exact holds_open (r:=rw0.row) left (λw s e b o h=>by rw[e];exact h) (λw h h' y k b o e=>k _ _ (y b o e)) (λ_ _=>trivial) (λ_ _ _ _ _=>trivial) h1 h2 h3 (λs e=>recFacts_of e) (by kernel_rfl) k1 (by kernel_rfl) ⟨rfl,rfl,rfl,rfl,rfl,by decide +kernel⟩ (by w_witness2) (call d kwd h1)
end
section
open PySem PySem.W PySem.Calls PyProof.Rows
inductive AV where
 |none
 |bool (b:Bool)
 |int (q:Nat) (i:Int)
 |str (q:Nat) (s:List Nat)
 |tup (l:List AV)
 |obj (n:Nat)
 |ins (C:Addr) (d:Nat)
 |con (v:Value)
 |bi (k:Nat)
 |any
inductive ao where
 |list (l:List AV)
 |dict (u:Bool) (k:Nat) (es:List (List Nat×AV))
 |ns (es:List (Nat×AV))
 |exc (C:Addr) (d:Nat) (k:Nat)
 |any
 |br (C:Addr)
set_option genCtorIdx false in
inductive bG where
 |leaf
 |node (a:ao) (l r:bG)
def bG.get(t:bG):Nat->ao:=bG.rec (motive:=λ_=>Nat->ao) (λ_=>.any)
 (λa _ _ L R i=>Nat.rec (motive:=λ_=>ao) a (λj _=>Bool.rec (motive:=λ_=>ao) (R (Nat.div j 2)) (L (Nat.div j 2)) (Nat.beq (Nat.mod j 2) 0)) i) t
def bG.val(t:bG):ao:=bG.rec (motive:=λ_=>ao) .any (λa _ _ _ _=>a) t
def bG.tg(t:bG):bG:=bG.rec (motive:=λ_=>bG) .leaf (λ_ l _ _ _=>l) t
def bG.tT(t:bG):bG:=bG.rec (motive:=λ_=>bG) .leaf (λ_ _ r _ _=>r) t
def bG.put(x:ao)(f:Nat):bG->Nat->bG:=Nat.rec (motive:=λ_=>bG->Nat->bG) (λt _=>t)
 (λ_ ih t i=>Nat.rec (motive:=λ_=>bG) (.node x t.tg t.tT) (λj _=>Bool.rec (motive:=λ_=>bG) (.node t.val t.tg (ih t.tT (Nat.div j 2))) (.node t.val (ih t.tg (Nat.div j 2)) t.tT) (Nat.beq (Nat.mod j 2) 0)) i) f
theorem bG.get_eq(t:bG)(i:Nat):t.get i=match i with | 0=>t.val | j+1=>if j % 2=0 then t.tg.get (j / 2) else t.tT.get (j / 2):=by
 cases t with
 |leaf=>cases i <;> simp[bG.get,bG.val,bG.tg,bG.tT]
 |node a l r=>
  cases i with
  |zero=>rfl
  |succ j=>
   show(Bool.rec _ _ (Nat.beq (Nat.mod j 2) 0):ao)=_
   by_cases q:j % 2=0
   ·have:Nat.beq (Nat.mod j 2) 0=true:=by show Nat.beq (j % 2) 0=true;rw[q];rfl
    rw[this];simp only[q,if_true];rfl
   ·have:Nat.beq (Nat.mod j 2) 0=false:=by
     cases e:Nat.beq (Nat.mod j 2) 0 with
     |false=>rfl
     |true=>exact w1 (w4 e) q
    rw[this];simp only[q,if_false];rfl
theorem bG.nO(x:ao)(f:Nat)(t:bG)(i:Nat):bG.put x (f+1) t i=match i with | 0=>.node x t.tg t.tT | j+1=>if j % 2=0 then .node t.val (bG.put x f t.tg (j / 2)) t.tT else .node t.val t.tg (bG.put x f t.tT (j / 2)):=by
 cases i with
 |zero=>rfl
 |succ j=>
  show(Bool.rec _ _ (Nat.beq (Nat.mod j 2) 0):bG)=_
  by_cases q:j % 2=0
  ·have:Nat.beq (Nat.mod j 2) 0=true:=by show Nat.beq (j % 2) 0=true;rw[q];rfl
   rw[this];simp only[q,if_true];rfl
  ·have:Nat.beq (Nat.mod j 2) 0=false:=by
    cases e:Nat.beq (Nat.mod j 2) 0 with
    |false=>rfl
    |true=>exact w1 (w4 e) q
   rw[this];simp only[q,if_false];rfl
theorem bG.bp(x:ao):∀(f:Nat) (t:bG) (i:Nat),i<f->(bG.put x f t i).get i=x
 |0,_,_,h=>w1 h (Nat.not_lt_zero _)
 |f+1,t,i,h=>by
  rw[bG.nO,bG.get_eq]
  cases i with
  |zero=>rfl
  |succ j=>
   dsimp only
   split
   ·exact bG.bp x f _ _ (by lia)
   ·exact bG.bp x f _ _ (by lia)
theorem bG.aJ(x:ao):∀(f:Nat) (t:bG) (i k:Nat),k≠i->(bG.put x f t i).get k=t.get k
 |0,_,_,_,_=>rfl
 |f+1,t,i,k,h=>by
  rw[bG.nO,bG.get_eq,bG.get_eq t]
  cases i with
  |zero=>cases k with
   |zero=>exact w1 rfl h
   |succ k=>rfl
  |succ j=>cases k with
   |zero=>dsimp only;split <;> rfl
   |succ k=>
    dsimp only
    by_cases q:j % 2=0
    ·rw[if_pos q]
     by_cases q':k % 2=0
     ·rw[if_pos q',if_pos q'];exact bG.aJ x f _ _ _ (by lia)
     ·rw[if_neg q',if_neg q'];rfl
    ·rw[if_neg q]
     by_cases q':k % 2=0
     ·rw[if_pos q',if_pos q'];rfl
     ·rw[if_neg q',if_neg q'];exact bG.aJ x f _ _ _ (by lia)
structure AH where
 n:Nat
 t:bG
def AH.get(σ:AH)(i:Nat):ao:=σ.t.get i
def AH.put(σ:AH)(i:Nat)(a:ao):AH:=⟨σ.n,bG.put a (Nat.succ i) σ.t i⟩
def AH.push(σ:AH)(a:ao):AH:=⟨Nat.succ σ.n,bG.put a (Nat.succ σ.n) σ.t σ.n⟩
theorem AH.bp(σ:AH)(i:Nat)(a:ao):(σ.put i a).get i=a:=bG.bp a _ _ _ (wb _)
theorem AH.aJ(σ:AH){i k:Nat}(a:ao)(h:k≠i):(σ.put i a).get k = σ.get k:=bG.aJ a (Nat.succ i) σ.t i k h
theorem AH.bY(σ:AH)(a:ao):(σ.push a).get σ.n=a:=bG.bp a _ _ _ (wb _)
theorem AH.bc(σ:AH){k:Nat}(a:ao)(h:k≠σ.n):(σ.push a).get k = σ.get k:=bG.aJ a (Nat.succ σ.n) σ.t σ.n k h
structure Cx where
 P:List Nat
 R:List Nat
 w:World
 base:Heap
 U:List (List Nat)
 ok:Addr->Prop
 bA:Addr->Prop
 tab:Nat->Int
noncomputable def Cx.off(c:Cx):Nat->Int
 |0=>0
 |1=>(c.P.length:Int)
 |2=>(c.P.length:Int)+(c.R.length:Int)
 |k+3=>c.tab k
noncomputable def Cx.wrap(c:Cx)(q:Nat)(s:List Nat):List Nat:=match q with
 |0=>s
 |1=>c.P++s
 |_=>c.P++s++c.R
noncomputable abbrev S(l:List Nat):Str:=⟨l.toArray⟩
noncomputable def uQ: Nat->Nat->List Nat
 |0,_=>[]
 |f+1,n=>match Nat.beq n 0 with
  |true=>[]
  |false=>n % 256::uQ f (n / 256)
noncomputable def encL: List Nat->Nat
 |[]=>0
 |a::l=>a+256 * encL l
theorem PM: ∀f n,n<=f->encL (uQ f n)=n
 |0,n,h=>by obtain rfl:n=0:=jP (mP h rfl)
            rfl
 |f+1,n,h=>by
  unfold uQ
  split
  ·rename_i q;rw[Nat.eq_of_beq_eq_true q];rfl
  ·rename_i q
   have hn:n≠0:=wm q
   show n % 256+256 * encL (uQ f (n / 256))=n
   rw[PM f (n / 256) (by lia)]
   lia
def nm(n:Nat):Str:=S (uQ n n)
theorem Cg{a b:Nat}(e:nm a=nm b):a=b:=by
 have:uQ a a=uQ b b:=by
  have:=congrArg (λs:Str=>s.cps.toList) e
  simpa [nm,S] using this
 rw[<-PM a a (Nat.le_refl _),this,PM b b (Nat.le_refl _)]
noncomputable def iO: Nat->Value
 |0=>.builtin "len"
 |1=>.builtin "ord"
 |2=>.builtin "chr"
 |3=>.builtin "max"
 |4=>.type "range"
 |5=>.type "tuple"
 |6=>.type "list"
 |7=>.type "str"
 |8=>.type "int"
 |_=>.none
mutual
inductive VR (c:Cx) (μ:Nat->Addr) (n:Nat) (h:Heap):AV->Value->Prop
 |none:VR c μ n h .none .none
 |bool (b:Bool):VR c μ n h (.bool b) (.bool b)
 |int (q:Nat) (i:Int) (t:Tok):VR c μ n h (.int q i) (.int (c.off q+i) t)
 |str (q:Nat) (s:List Nat) (t:Tok):VR c μ n h (.str q s) (.str (S (c.wrap q s)) t)
 |tup {l:List AV}{vs:List Value}{a:Addr}:IsTup h a vs.toArray->aH c μ n h l vs->VR c μ n h (.tup l) (.ref a)
 |obj {i:Nat}:i<n->VR c μ n h (.obj i) (.ref (μ i))
 |ins {C:Addr}{d:Nat}{a:Addr}:c.ok C->d<n->h.get? a=some (instObj C (μ d))->VR c μ n h (.ins C d) (.ref a)
 |con (v:Value):handedIn v=true->VR c μ n h (.con v) v
 |bi (k:Nat):VR c μ n h (.bi k) (iO k)
inductive aH (c:Cx) (μ:Nat->Addr) (n:Nat) (h:Heap):List AV->List Value->Prop
 |nil:aH c μ n h [] []
 |cons {a:AV}{v:Value}{l:List AV}{vs:List Value}:VR c μ n h a v->aH c μ n h l vs->aH c μ n h (a::l) (v::vs)
end
inductive fh (c:Cx) (μ:Nat->Addr) (n:Nat) (h:Heap):List (Nat×AV)->List DictEntry->Prop
 |nil:fh c μ n h [] []
 |cons {a:Nat}{t:Tok}{x:AV}{v:Value}{l:List (Nat×AV)}{es:List DictEntry}:VR c μ n h x v->fh c μ n h l es->fh c μ n h ((a,x)::l) (⟨PyData.keyHash c.w.params (nm a),.str (nm a) t,v⟩::es)
inductive fz (c:Cx) (μ:Nat->Addr) (n:Nat) (h:Heap):List (List Nat×AV)->List DictEntry->Prop
 |nil:fz c μ n h [] []
 |cons {a:List Nat}{t:Tok}{x:AV}{v:Value}{l:List (List Nat×AV)}{es:List DictEntry}:VR c μ n h x v->fz c μ n h l es->fz c μ n h ((a,x)::l) (⟨PyData.keyHash c.w.params (S a),.str (S a) t,v⟩::es)
def vh(c:Cx)(pre:List DictEntry):Prop:=(pre.length<=1000/\pre.length<=c.U.length)/\∀e∈pre,∃a t,a∈c.U/\e.key = .str (S a) t/\e.hash=PyData.keyHash c.w.params (S a)
def Fix(o:Obj):Prop:=(o.cls = .type "tuple"/\∃a n,o.data = .seq a n)\/∃C d,o=instObj C d
def pC(o:Obj):Prop:=∃es k,o.data = .dict es k
theorem Fix.iy{o:Obj}(x:Fix o):¬pC o:=by
 rintro ⟨es,k,z⟩
 rcases x with⟨_,a,n,e⟩ | ⟨C,d,rfl⟩
 ·rw[e] at z;cases z
 ·cases z
inductive aG (c:Cx) (μ:Nat->Addr) (n:Nat) (h:Heap):ao->Obj->Prop
 |list {l:List AV}{vs:List Value}{e:Nat}:aH c μ n h l vs->aG c μ n h (.list l) { cls:=.type "list",data:=.seq vs.toArray e }
 |dict {u:Bool}{es:List (List Nat×AV)}{pre ents:List DictEntry}{k k':Nat}:fz c μ n h es ents->vh c pre->(u=false->pre=[]/\k'=k)->aG c μ n h (.dict u k es) (dictOf (pre++ents) k')
 |ns {es:List (Nat×AV)}{ents:List DictEntry}{k:Nat}:fh c μ n h es ents->aG c μ n h (.ns es) (dictOf ents k)
 |exc {C:Addr}{d k:Nat}{o:Obj}{vs:Array Value}:c.bA C->d<n->o.cls = .ref C->o.dict=some (μ d)->o.data = .fields vs->vs.size=6->(k=0->vs[1]? = some .none)->(k<2->vs[2]? = some .none)->aG c μ n h (.exc C d k) o
 |br {C:Addr}{x:Value}:c.bA C->aG c μ n h (.br C) { cls:=.ref C,data:=.fields #[x,.none,.none,.none,.bool false,.none] }
 |any {o:Obj}:¬Fix o->o.cls≠.type "frame"->o.cls≠.type "traceback"->aG c μ n h .any o
theorem vC{c:Cx}{μ:Nat->Addr}{n:Nat}{h:Heap}{M:∀a v,VR c μ n h a v->Prop}{a:AV}{v:Value}(r:VR c μ n h a v)(none:M .none .none .none)(bool:∀b,M _ _ (.bool b))(int:∀q i t,M _ _ (.int q i t))(str:∀q s t,M _ _ (.str q s t))(tup:∀{l vs a} (x:IsTup h a vs.toArray) (y:aH c μ n h l vs),M _ _ (.tup x y))(obj:∀{i} (x:i<n),M _ _ (.obj x))(ins:∀{C d a} (x:c.ok C) (y:d<n) (z:h.get? a=some (instObj C (μ d))),M _ _ (.ins x y z))(con:∀v x,M _ _ (.con v x))(bi:∀k,M _ _ (.bi k)):M a v r:=
 VR.casesOn r none bool int str tup obj ins con bi
theorem oC{c:Cx}{μ:Nat->Addr}{n:Nat}{h:Heap}{M:∀a o,aG c μ n h a o->Prop}{a:ao}{o:Obj}(r:aG c μ n h a o)(list:∀{l vs e} (x:aH c μ n h l vs),M _ _ (.list (e:=e) x))(dict:∀{u es pre ents k k'} (x:fz c μ n h es ents) (y:vh c pre) (z:u=false->pre=[]/\k'=k),M _ _ (.dict x y z))(ns:∀{es ents k} (x:fh c μ n h es ents),M _ _ (.ns (k:=k) x))(exc:∀{C d k o vs} (x1:c.bA C) (x2:d<n) (x3:o.cls = .ref C) (x4:o.dict=some (μ d)) (x5:o.data = .fields vs) (x6:vs.size=6) (x7:k=0->vs[1]? = some .none) (x8:k<2->vs[2]? = some .none),M (.exc C d k) o (.exc x1 x2 x3 x4 x5 x6 x7 x8))(br:∀{C x} (y:c.bA C),M _ _ (.br (x:=x) y))(any:∀{o} (x:¬Fix o) (y:o.cls≠.type "frame") (z:o.cls≠.type "traceback"),M .any o (.any x y z)):M a o r:=
 aG.casesOn r list dict ns exc br any
def VV(c:Cx)(μ:Nat->Addr)(n:Nat)(h:Heap)(a:AV)(v:Value):Prop:=match a with
 |.none=>v = .none
 |.bool b=>v = .bool b
 |.int q i=>∃t,v = .int (c.off q+i) t
 |.str q s=>∃t,v = .str (S (c.wrap q s)) t
 |.tup l=>∃vs a,v = .ref a/\IsTup h a vs.toArray/\aH c μ n h l vs
 |.obj i=>v = .ref (μ i)/\i<n
 |.ins C d=>∃a,v = .ref a/\c.ok C/\d<n/\h.get? a=some (instObj C (μ d))
 |.con w=>v=w/\handedIn w=true
 |.bi j=>v=iO j
 |.any=>False
def VO(c:Cx)(μ:Nat->Addr)(n:Nat)(h:Heap)(a:ao)(o:Obj):Prop:=match a with
 |.list l=>∃vs e,o = { cls:=.type "list",data:=.seq vs.toArray e }/\aH c μ n h l vs
 |.dict u d es=>∃pre ents d',o=dictOf (pre++ents) d'/\fz c μ n h es ents/\vh c pre/\(u=false->pre=[]/\d'=d)
 |.ns es=>∃ents d,o=dictOf ents d/\fh c μ n h es ents
 |.br C=>∃x,o = { cls:=.ref C,data:=.fields #[x,.none,.none,.none,.bool false,.none] }/\c.bA C
 |.exc C d j=>∃vs,c.bA C/\d<n/\o.cls = .ref C/\o.dict=some (μ d)/\o.data = .fields vs/\vs.size=6/\(j=0->vs[1]? = some .none)/\(j<2->vs[2]? = some .none)
 |_=>True
section
variable{c:Cx}{μ:Nat->Addr}{n:Nat}{h:Heap}{P:Value->Prop}{Q:List Value->Prop}{T:Obj->Prop}{R:Prop}{v:Value}{vs:List Value}{o:Obj}
theorem VR.vw{a:AV}(r:VR c μ n h a v):VV c μ n h a v:=vC (M:=λa v _=>VV c μ n h a v) r rfl (λ_=>rfl) (λ_ _ t=>⟨t,rfl⟩) (λ_ _ t=>⟨t,rfl⟩) (λx y=>⟨_,_,rfl,x,y⟩) (λx=>⟨rfl,x⟩) (λx y z=>⟨_,rfl,x,y,z⟩) (λ_ x=>⟨rfl,x⟩) (λ_=>rfl)
@[elab_as_elim]
theorem VR.kN(r:VR c μ n h .none v)(k:P .none):P v:=Eq.subst (motive:=P) (Eq.symm r.vw) k
@[elab_as_elim]
theorem VR.kB{b:Bool}(r:VR c μ n h (.bool b) v)(k:P (.bool b)):P v:=Eq.subst (motive:=P) (Eq.symm r.vw) k
@[elab_as_elim]
theorem VR.kI{q:Nat}{i:Int}(r:VR c μ n h (.int q i) v)(k:∀t,P (.int (c.off q+i) t)):P v:=Exists.elim r.vw λt e=>Eq.subst (motive:=P) e.symm (k t)
@[elab_as_elim]
theorem VR.kS{q:Nat}{s:List Nat}(r:VR c μ n h (.str q s) v)(k:∀t,P (.str (S (c.wrap q s)) t)):P v:=Exists.elim r.vw λt e=>Eq.subst (motive:=P) e.symm (k t)
@[elab_as_elim]
theorem VR.kT{l:List AV}(r:VR c μ n h (.tup l) v)(k:∀vs a,IsTup h a vs.toArray->aH c μ n h l vs->P (.ref a)):P v:=by refine dC r.vw λ_ _ e x y=>?_;exact Eq.subst (motive:=P) e.symm (k _ _ x y)
@[elab_as_elim]
theorem VR.kO{i:Nat}(r:VR c μ n h (.obj i) v)(k:i<n->P (.ref (μ i))):P v:=Eq.subst (motive:=P) r.vw.1.symm (k r.vw.2)
@[elab_as_elim]
theorem VR.kX{C:Addr}{d:Nat}(r:VR c μ n h (.ins C d) v)(k:∀a,c.ok C->d<n->h.get? a=some (instObj C (μ d))->P (.ref a)):P v:=by refine jR r.vw λ_ e x y z=>?_;exact Eq.subst (motive:=P) e.symm (k _ x y z)
@[elab_as_elim]
theorem VR.kC{w:Value}(r:VR c μ n h (.con w) v)(k:handedIn w=true->P w):P v:=Eq.subst (motive:=P) r.vw.1.symm (k r.vw.2)
@[elab_as_elim]
theorem VR.kF{j:Nat}(r:VR c μ n h (.bi j) v)(k:P (iO j)):P v:=Eq.subst (motive:=P) (Eq.symm r.vw) k
theorem aH.vw{l:List AV}(r:aH c μ n h l vs):match l with
  |[]=>vs=[]
  |a::l=>∃v ws,vs=v::ws/\VR c μ n h a v/\aH c μ n h l ws:=aH.casesOn r rfl λx y=>⟨_,_,rfl,x,y⟩
@[elab_as_elim]
theorem aH.k0(r:aH c μ n h [] vs)(k:Q []):Q vs:=Eq.subst (motive:=Q) (Eq.symm r.vw) k
@[elab_as_elim]
theorem aH.kC{a:AV}{l:List AV}(r:aH c μ n h (a::l) vs)(k:∀v ws,VR c μ n h a v->aH c μ n h l ws->Q (v::ws)):Q vs:=by refine dC r.vw λ_ _ e x y=>?_;exact Eq.subst (motive:=Q) e.symm (k _ _ x y)
@[elab_as_elim]
theorem aH.k1{a:AV}(r:aH c μ n h [a] vs)(k:∀v,VR c μ n h a v->Q [v]):Q vs:=r.kC λv _ x y=>y.k0 (Q:=λz=>Q (v::z)) (k v x)
@[elab_as_elim]
theorem aH.k2{a b:AV}(r:aH c μ n h [a,b] vs)(k:∀v w,VR c μ n h a v->VR c μ n h b w->Q [v,w]):Q vs:=r.kC λv _ x y=>y.k1 (Q:=λz=>Q (v::z)) λw z=>k v w x z
@[elab_as_elim]
theorem aH.k3{a b d:AV}(r:aH c μ n h [a,b,d] vs)(k:∀v w z,VR c μ n h a v->VR c μ n h b w->VR c μ n h d z->Q [v,w,z]):Q vs:=r.kC λv _ x y=>y.k2 (Q:=λz=>Q (v::z)) λw z y z'=>k v w z x y z'
theorem aG.vw{a:ao}(r:aG c μ n h a o):VO c μ n h a o:=oC (M:=λa o _=>VO c μ n h a o) r (λx=>⟨_,_,rfl,x⟩) (λx y z=>⟨_,_,_,rfl,x,y,z⟩) (λx=>⟨_,_,rfl,x⟩) (λa b c d e f g i=>⟨_,a,b,c,d,e,f,g,i⟩) (λx=>⟨_,rfl,x⟩) λ_ _ _=>⟨⟩
@[elab_as_elim]
theorem aG.kL{l:List AV}(r:aG c μ n h (.list l) o)(k:∀vs e,aH c μ n h l vs->T { cls:=.type "list",data:=.seq vs.toArray e }):T o:=by refine bw r.vw λ_ _ e x=>?_;exact Eq.subst (motive:=T) e.symm (k _ _ x)
@[elab_as_elim]
theorem aG.kD{u:Bool}{es:List (List Nat×AV)}{d:Nat}(r:aG c μ n h (.dict u d es) o)(k:∀pre ents d',fz c μ n h es ents->vh c pre->(u=false->pre=[]/\d'=d)->T (dictOf (pre++ents) d')):T o:=by refine Ko r.vw λ_ _ _ e x y z=>?_;exact Eq.subst (motive:=T) e.symm (k _ _ _ x y z)
@[elab_as_elim]
theorem aG.kN{es:List (Nat×AV)}(r:aG c μ n h (.ns es) o)(k:∀ents d,fh c μ n h es ents->T (dictOf ents d)):T o:=by refine bw r.vw λ_ _ e x=>?_;exact Eq.subst (motive:=T) e.symm (k _ _ x)
theorem aG.kE{C:Addr}{d j:Nat}(r:aG c μ n h (.exc C d j) o)(k:∀vs,c.bA C->d<n->o.cls = .ref C->o.dict=some (μ d)->o.data = .fields vs->vs.size=6->(j=0->vs[1]? = some .none)->(j<2->vs[2]? = some .none)->R):R:=by refine jR r.vw λ_ a1 a2 a3 q9=>?_;refine jQ q9 λa4 a5 a6 a7 a8=>?_;exact k _ a1 a2 a3 a4 a5 a6 a7 a8
end
theorem aG.EE{c:Cx}{μ:Nat->Addr}{n:Nat}{h:Heap}{a:ao}{o:Obj}(x:aG c μ n h a o):¬Fix o/\o.cls≠.type "frame"/\o.cls≠.type "traceback":=by
 cases x with
 |exc _ _ e _ f _ _ _=>
  refine dp (λz=>?_) (by rw[e];simp) (by rw[e];simp)
  rcases z with⟨z,_⟩ | ⟨C,d,z⟩
  ·rw[e] at z;cases z
  ·rw[z] at f;cases f
 |any a b d=>exact dp a b d
 |br _=>
  refine dp (λz=>?_) (by simp) (by simp)
  rcases z with⟨z,_⟩ | ⟨C,d,z⟩
  ·cases z
  ·cases z
 |_=>
  refine dp (λz=>?_) (by simp[dictOf]) (by simp[dictOf])
  rcases z with⟨z,_⟩ | ⟨C,d,z⟩
  ·revert z;simp[dictOf]
  ·have:=congrArg Obj.cls z
   revert this;simp[dictOf,instObj]
structure HR (c:Cx) (μ:Nat->Addr) (σ:AH) (h:Heap):Prop where
 keep:∀b o,c.base.get? b=some o->h.get? b=some o
 obj:∀l,l < σ.n->∃o,h.get? (μ l)=some o/\aG c μ σ.n h (σ.get l) o
 inj:∀i j,i < σ.n->j < σ.n->μ i = μ j->i=j
 new:∀i,i < σ.n->c.base.get? (μ i)=none
def Kp(μ:Nat->Addr)(n:Nat)(h h':Heap):Prop:=
 ∀b o,h.get? b=some o->(∀i,i<n->μ i≠b)->∃sl,h'.get? b=some { o with slots:=sl }/\(¬pC o->sl=o.slots)
theorem Kp.refl(μ:Nat->Addr)(n:Nat)(h:Heap):Kp μ n h h:=λ_ o e _=>⟨o.slots,e,λ_=>rfl⟩
theorem Kp.of_keeps{μ:Nat->Addr}{n:Nat}{h h':Heap}(k:∀b o,h.get? b=some o->h'.get? b=some o):Kp μ n h h':=λb o e _=>⟨o.slots,k b o e,λ_=>rfl⟩
theorem Kp.same{μ:Nat->Addr}{n:Nat}{h h':Heap}(k:Kp μ n h h'){b:Addr}{o:Obj}(e:h.get? b=some o)(ne:∀i,i<n->μ i≠b)(nf:¬pC o):h'.get? b=some o:=by
 refine au (k b o e ne) λsl e' q=>?_
 obtain rfl:=q nf
 exact e'
structure Ext (μ:Nat->Addr) (n:Nat) (h:Heap) (aj:Nat->Addr) (n':Nat) (h':Heap):Prop where
 le:n<=n'
 eq:∀i,i<n->aj i = μ i
 fresh:∀i,n<=i->i<n'->h.get? (aj i)=none
 kp:Kp μ n h h'
 own:∀i,i<n->(h.get? (μ i)).isSome=true->(h'.get? (μ i)).isSome=true
theorem Ext.refl(μ:Nat->Addr)(n:Nat)(h:Heap):Ext μ n h μ n h:=
 ⟨wa _,λ_ _=>rfl,λi a b=>w1 b (Nat.not_lt.mpr a),.refl _ _ _,λ_ _ e=>e⟩
theorem Ext.there{μ aj:Nat->Addr}{n n':Nat}{h h':Heap}(x:Ext μ n h aj n' h'){b:Addr}{o:Obj}(e:h.get? b=some o):(h'.get? b).isSome=true:=by
 by_cases q:∃i,i<n/\μ i=b
 ·refine au q ?_;clear q;rintro i hi rfl
  exact x.own i hi (by rw[e];rfl)
 ·refine au (x.kp b o e λi hi z=>q ⟨i,hi,z⟩) λsl e' _=>?_
  rw[e'];rfl
theorem Ext.none{μ aj:Nat->Addr}{n n':Nat}{h h':Heap}(x:Ext μ n h aj n' h'){b:Addr}(e:h'.get? b=none):h.get? b=none:=by
 cases q:h.get? b with
 |none=>rfl
 |some o=>have:=x.there q;rw[e] at this;cases this
theorem Ext.trans{μ aj HZ:Nat->Addr}{n n' RZ:Nat}{h h' Rl:Heap}(x:Ext μ n h aj n' h')(y:Ext aj n' h' HZ RZ Rl):Ext μ n h HZ RZ Rl where
 le:=Nat.le_trans x.le y.le
 eq i hi:=(y.eq i (w7 hi x.le)).trans (x.eq i hi)
 fresh i a b:=by
  by_cases q:i<n'
  ·rw[y.eq i q];exact x.fresh i a q
  ·exact x.none (y.fresh i (Nat.not_lt.mp q) b)
 kp b o e ne:=by
  refine au (x.kp b o e ne) λsl e1 q1=>?_
  refine au (y.kp b _ e1 λi hi z=>by
   by_cases q:i<n
   ·exact ne i q (by rw[<-x.eq i q];exact z)
   ·have:=x.fresh i (Nat.not_lt.mp q) hi
    rw[z,e] at this;cases this) λOC e2 q2=>?_
  exact aT OC e2 (λnf=>(q2 nf).trans (q1 nf))
 own i hi e:=by
  have:=x.own i hi e
  refine oE (wq.mp this) λo ho=>?_
  exact y.there ho
theorem Ext.new{μ aj:Nat->Addr}{n n':Nat}{h h':Heap}(x:Ext μ n h aj n' h'):h.get? h'.objs.size=Option.none:=x.none (Heap.get?_none_of_le (wa _))
def y1(h h':Heap):Prop:=∀a o,h.get? a=some o->Fix o->h'.get? a=some o
theorem VR.mono{c:Cx}{μ aj:Nat->Addr}{n n':Nat}{h h':Heap}(le:n<=n')(eq:∀i,i<n->aj i = μ i)(k:y1 h h'){a:AV}{v:Value}(x:VR c μ n h a v):VR c aj n' h' a v:=by
 induction x using VR.rec (motive_2:=λl vs _=>aH c aj n' h' l vs) with
 |none=>exact .none
 |bool b=>exact .bool b
 |int q i t=>exact .int q i t
 |str q s t=>exact .str q s t
 |tup ht hl ih=>exact .tup (by refine dR ht λo ho hc x=>?_;exact mH o (k _ _ ho (.inl ⟨hc,_,x⟩)) hc x) ih
 |obj hi=>rw[<-eq _ hi];exact .obj (w7 hi le)
 |ins hk hd ha=>exact .ins hk (w7 hd le) (by rw[eq _ hd];exact k _ _ ha (.inr ⟨_,_,rfl⟩))
 |con v e=>exact .con v e
 |bi k=>exact .bi k
 |nil=>exact .nil
 |cons _ _ x y=>exact .cons x y
theorem aH.mono{c:Cx}{μ aj:Nat->Addr}{n n':Nat}{h h':Heap}(le:n<=n')(eq:∀i,i<n->aj i = μ i)(k:y1 h h'){l:List AV}{vs:List Value}(x:aH c μ n h l vs):aH c aj n' h' l vs:=by
 induction x using aH.rec (motive_1:=λ_ _ _=>True) with
 |nil=>exact .nil
 |cons x _ _ y=>exact .cons (x.mono le eq k) y
 |_=>trivial
theorem fh.mono{c:Cx}{μ aj:Nat->Addr}{n n':Nat}{h h':Heap}(le:n<=n')(eq:∀i,i<n->aj i = μ i)(k:y1 h h'){l:List (Nat×AV)}{es:List DictEntry}(x:fh c μ n h l es):fh c aj n' h' l es:=by
 induction x with
 |nil=>exact .nil
 |cons v _ ih=>exact .cons (v.mono le eq k) ih
theorem fz.mono{c:Cx}{μ aj:Nat->Addr}{n n':Nat}{h h':Heap}(le:n<=n')(eq:∀i,i<n->aj i = μ i)(k:y1 h h'){l:List (List Nat×AV)}{es:List DictEntry}(x:fz c μ n h l es):fz c aj n' h' l es:=by
 induction x with
 |nil=>exact .nil
 |cons v _ ih=>exact .cons (v.mono le eq k) ih
theorem aG.mono{c:Cx}{μ aj:Nat->Addr}{n n':Nat}{h h':Heap}(le:n<=n')(eq:∀i,i<n->aj i = μ i)(k:y1 h h'){a:ao}{o:Obj}(x:aG c μ n h a o):aG c aj n' h' a o:=by
 cases x with
 |list v=>exact .list (v.mono le eq k)
 |dict v u p=>exact .dict (v.mono le eq k) u p
 |ns v=>exact .ns (v.mono le eq k)
 |exc ho hd a b e f g g'=>exact .exc ho (w7 hd le) a (by rw[eq _ hd];exact b) e f g g'
 |any a b d=>exact .any a b d
 |br a=>exact .br a
theorem HR.df{c:Cx}{μ:Nat->Addr}{σ:AH}{h:Heap}(H:HR c μ σ h){i:Nat}(hi:i < σ.n){o:Obj}(e:h.get? (μ i)=some o):¬Fix o/\o.cls≠.type "frame"/\o.cls≠.type "traceback":=by
 refine au (H.obj i hi) λo' e' x=>?_
 rw[e] at e'
 cases e'
 exact x.EE
theorem Ext.tup{c:Cx}{μ aj:Nat->Addr}{σ:AH}{n':Nat}{h h':Heap}(H:HR c μ σ h)(x:Ext μ σ.n h aj n' h'):y1 h h':=λa o e ec=>
 x.kp.same e (λi hi z=>by subst z;exact(H.df hi e).1 ec) ec.iy
theorem VR.ext{c:Cx}{μ aj:Nat->Addr}{σ:AH}{n':Nat}{h h':Heap}{a:AV}{v:Value}(y:VR c μ σ.n h a v)(H:HR c μ σ h)(x:Ext μ σ.n h aj n' h'):VR c aj n' h' a v:=y.mono x.le x.eq (x.tup H)
theorem aH.ext{c:Cx}{μ aj:Nat->Addr}{σ:AH}{n':Nat}{h h':Heap}{a:List AV}{v:List Value}(y:aH c μ σ.n h a v)(H:HR c μ σ h)(x:Ext μ σ.n h aj n' h'):aH c aj n' h' a v:=y.mono x.le x.eq (x.tup H)
section
variable{c:Cx}{μ:Nat->Addr}{σ:AH}{h:Heap}
section
variable{P:Prop}(H:HR c μ σ h){o:Nat}(ho:o < σ.n)
include H ho
theorem HR.Ec{l:List AV}(e:σ.get o = .list l)(k:∀vs j,h.get? (μ o)=some { cls:=.type "list",data:=.seq vs.toArray j }->aH c μ σ.n h l vs->P):P:=by
 refine au (H.obj o ho) λob hb r=>?_
 rw[e] at r
 refine bw r.vw ?_;rintro vs j rfl x
 exact k vs j hb x
theorem HR.jA{u:Bool}{es:List (List Nat×AV)}{d:Nat}(e:σ.get o = .dict u d es)(k:∀pre ents d',h.get? (μ o)=some (dictOf (pre++ents) d')->fz c μ σ.n h es ents->vh c pre->(u=false->pre=[]/\d'=d)->P):P:=by
 refine au (H.obj o ho) λob hb r=>?_
 rw[e] at r
 refine Ko r.vw ?_;rintro pre ents d' rfl x y z
 exact k pre ents d' hb x y z
theorem HR.M5{es:List (Nat×AV)}(e:σ.get o = .ns es)(k:∀ents j,h.get? (μ o)=some (dictOf ents j)->fh c μ σ.n h es ents->P):P:=by
 refine au (H.obj o ho) λob hb r=>?_
 rw[e] at r
 refine bw r.vw ?_;rintro ents j rfl x
 exact k ents j hb x
theorem HR.iw{C:Addr}{d j:Nat}(e:σ.get o = .exc C d j)(k:∀ob vs,h.get? (μ o)=some ob->c.bA C->d < σ.n->ob.cls = .ref C->ob.dict=some (μ d)->ob.data = .fields vs->vs.size=6->(j=0->vs[1]? = some .none)->(j<2->vs[2]? = some .none)->P):P:=by
 refine au (H.obj o ho) λob hb r=>?_
 rw[e] at r
 refine jR r.vw λvs a1 a2 a3 q9=>?_;refine jQ q9 λa4 a5 a6 a7 a8=>?_
 exact k ob vs hb a1 a2 a3 a4 a5 a6 a7 a8
theorem HR.jB{C:Addr}(e:σ.get o = .br C)(k:∀x,h.get? (μ o)=some { cls:=.ref C,data:=.fields #[x,.none,.none,.none,.bool false,.none] }->c.bA C->P):P:=by
 refine au (H.obj o ho) λob hb r=>?_
 rw[e] at r
 refine au r.vw ?_;rintro x rfl y
 exact k x hb y
end
theorem HR.dJ(H:HR c μ σ h){h':Heap}(k:∀b o,h.get? b=some o->h'.get? b=some o):HR c μ σ h'/\Ext μ σ.n h μ σ.n h':=
 ⟨⟨λb o e=>k _ _ (H.keep b o e),λl hl=>by
   refine au (H.obj l hl) λo ho x=>?_
   exact aT o (k _ _ ho) (x.mono (wa _) (λ_ _=>rfl) (λa o e _=>k _ _ e)),H.inj,H.new⟩,
  ⟨wa _,λ_ _=>rfl,λi a b=>w1 b (Nat.not_lt.mpr a),.of_keeps k,λi _ e=>by
   refine oE (wq.mp e) λo ho=>?_
   rw[k _ _ ho];rfl⟩⟩
theorem HR.grow(H:HR c μ σ h){h':Heap}(k:∀b o,h.get? b=some o->h'.get? b=some o)(sz:h.objs.size<=h'.objs.size):HR c μ σ h'/\Ext μ σ.n h μ σ.n h':=H.dJ k
theorem HR.push(H:HR c μ σ h)(o:Obj):HR c μ σ (h.push o)/\Ext μ σ.n h μ σ.n (h.push o):=
 H.grow (λ_ _ e=>wc _ e) (by rw[Heap.size_push];exact Nat.le_succ _)
noncomputable def yg(μ:Nat->Addr)(n:Nat)(a:Addr):Nat->Addr:=λi=>if i=n then a else μ i
theorem y8{μ:Nat->Addr}{n i:Nat}{a:Addr}(h:i<n):yg μ n a i = μ i:=if_neg (wn h)
theorem zz{μ:Nat->Addr}{n:Nat}{a:Addr}:yg μ n a n=a:=if_pos rfl
theorem HR.adopt(H:HR c μ σ h){b:Addr}{o:Obj}{a:ao}(e:h.get? b=some o)(ne:∀i,i < σ.n->μ i≠b)(nb:c.base.get? b=none)(x:aG c (yg μ σ.n b) (σ.n+1) h a o):
  HR c (yg μ σ.n b) (σ.push a) h where
 keep:=H.keep
 obj l hl:=by
  by_cases q:l < σ.n
  ·rw[AH.bc σ a (Nat.ne_of_lt q)]
   refine au (H.obj l q) λo' iq x'=>?_
   rw[y8 q]
   exact aT o' iq (x'.mono (Nat.le_succ _) (λi hi=>y8 hi) (λ_ _ e _=>e))
  ·obtain rfl:l = σ.n:=Nat.le_antisymm (Nat.le_of_lt_succ hl) (Nat.not_lt.mp q)
   rw[AH.bY,zz]
   exact aT o e x
 inj i j hi hj e':=by
  have hi:i < σ.n+1:=hi
  have hj:j < σ.n+1:=hj
  by_cases qi:i < σ.n
  ·by_cases qj:j < σ.n
   ·rw[y8 qi,y8 qj] at e';exact H.inj i j qi qj e'
   ·obtain rfl:j = σ.n:=HW hj qj
    rw[y8 qi,zz] at e'
    exact w1 e' (ne i qi)
  ·obtain rfl:i = σ.n:=HW hi qi
   by_cases qj:j < σ.n
   ·rw[zz,y8 qj] at e'
    exact w1 e'.symm (ne j qj)
   ·exact HY (Nat.le_of_lt_succ hj) (Nat.lt_of_not_le qj)
 new i hi:=by
  have hi:i < σ.n+1:=hi
  by_cases qi:i < σ.n
  ·rw[y8 qi];exact H.new i qi
  ·obtain rfl:i = σ.n:=HW hi qi
   rw[zz];exact nb
theorem HR.lt(H:HR c μ σ h){i:Nat}(hi:i < σ.n):μ i<h.objs.size:=by
 refine au (H.obj i hi) λo ho _=>?_
 exact Heap.lt_size ho
theorem HR.cP(H:HR c μ σ h):c.base.get? h.objs.size=none:=by
 cases q:c.base.get? h.objs.size with
 |none=>rfl
 |some o=>exact w1 (Heap.lt_size (H.keep _ _ q)) (Nat.lt_irrefl _)
theorem HR.alloc(H:HR c μ σ h){o:Obj}{a:ao}(hf:o.isFreed=false)(x:aG c (yg μ σ.n h.objs.size) (σ.n+1) (h.push o) a o):
  HR c (yg μ σ.n h.objs.size) (σ.push a) (h.push o)/\Ext μ σ.n h (yg μ σ.n h.objs.size) (σ.push a).n (h.push o):=by
 have G:=H.push o
 have hn:h.get? h.objs.size=none:=Heap.get?_none_of_le (wa _)
 refine⟨G.1.adopt (we _ hf) (λi hi z=>wn (H.lt hi) z) H.cP x,?_⟩
 show Ext μ σ.n h _ (σ.n+1) _
 refine⟨Nat.le_succ _,λi hi=>y8 hi,λi a b=>?_,G.2.kp,G.2.own⟩
 obtain rfl:i = σ.n:=HY a b
 rw[zz];exact hn
theorem HR.set(H:HR c μ σ h){l:Nat}{h':Heap}{o':Obj}{a':ao}(hl:l < σ.n)(k:∀b o,h.get? b=some o->b≠μ l->h'.get? b=some o)(e:h'.get? (μ l)=some o')(x:aG c μ σ.n h' a' o')(sz:h.objs.size<=h'.objs.size):
  HR c μ (σ.put l a') h'/\Ext μ σ.n h μ (σ.put l a').n h':=by
 have tk:y1 h h':=λb o eb ec=>k b o eb λz=>(H.df hl (z▸eb)).1 ec
 refine⟨⟨λb o eb=>k _ _ (H.keep b o eb) λz=>?_,λl' iY=>?_,H.inj,H.new⟩,?_⟩
 ·have:=H.new l hl
  rw[<-z,eb] at this;cases this
 ·by_cases q:l'=l
  ·subst q
   rw[AH.bp]
   exact aT o' e x
  ·rw[AH.aJ σ _ q]
   refine au (H.obj l' iY) λo ho xo=>?_
   exact aT o (k _ _ ho λz=>q (H.inj l' l iY hl z)) (xo.mono (wa _) (λ_ _=>rfl) tk)
 ·refine⟨wa _,λ_ _=>rfl,λi a b=>w1 b (Nat.not_lt.mpr a),λb o eb ne=>⟨o.slots,k _ _ eb λz=>ne l hl z.symm,λ_=>rfl⟩,λi hi ei=>?_⟩
  by_cases q:i=l
  ·subst q;rw[e];rfl
  ·refine oE (wq.mp ei) λo ho=>?_
   rw[k _ _ ho λz=>q (H.inj i l hi hl z)];rfl
theorem HR.update(H:HR c μ σ h){l:Nat}{o:Obj}{a':ao}{f:Obj->Obj}(hl:l < σ.n)(e:h.get? (μ l)=some o)(hf:(f o).isFreed=false)(x:aG c μ σ.n (h.update (μ l) f) a' (f o)):
  HR c μ (σ.put l a') (h.update (μ l) f)/\Ext μ σ.n h μ (σ.put l a').n (h.update (μ l) f):=
 H.set hl (λb _ eb ne=>(Heap.get?_update_other _ _ (Ne.symm ne)).trans eb) (Heap.get?_update_self f e hf) x (Nat.le_of_eq (Heap.SameBut.update h (μ l) f).1.symm)
theorem HR.bU(H:HR c μ σ h){l:Nat}{f:Obj->Obj}(hl:l < σ.n):y1 h (h.update (μ l) f):=λb _ eb ec=>
 (Heap.get?_update_other _ _ λz=>(H.df hl (z▸eb)).1 ec).trans eb
end
end
section
open PySem PySem.W PySem.Calls PyProof.Rows
inductive Res (β:Type) where
 |ok (b:β) (σ:AH)
 |exc (l:Nat) (σ:AH)
 |stuck
def Res.bind{β γ:Type}(r:Res β)(f:β->AH->Res γ):Res γ:=Res.rec (motive:=λ_=>Res γ) f .exc .stuck r
noncomputable def guard{β:Type}(b:Bool)(r:Res β):Res β:=match b with
 |true=>r
 |false=>.stuck
def b9(s s':Shared):Prop:=s'.gens=s.gens/\s'.drawn=s.drawn/\s'.os=s.os
theorem b9.refl(s:Shared):b9 s s:=⟨rfl,rfl,rfl⟩
theorem b9.trans{a b c:Shared}(x:b9 a b)(y:b9 b c):b9 a c:=⟨y.1.trans x.1,y.2.1.trans x.2.1,y.2.2.trans x.2.2⟩
theorem bP{α β:Type}{M:Model}{A:Around}{E:Value->Shared->Prop}{s:Shared}{a:α}{k:α->Sem β}{Q:β->Shared->Prop}(h:wpAny M A (k a) Q E s):wpAny M A (pure a >>= k) Q E s:=wg (wh h)
def pA(c:Cx)(h₀:Heap)(μ:Nat->Addr)(σ:AH)(h:Heap)(l:Nat)(e:Value):Prop:=
 e = .ref (μ l)/\l < σ.n/\∃C d k o vs,σ.get l = .exc C d (k+1)/\h.get? (μ l)=some o/\o.data = .fields vs/\
  (vs[1]? = some .none\/∃T oT ts,vs[1]? = some (.ref T)/\h.get? T=some oT/\oT.cls = .type "traceback"/\oT.data = .fields ts/\3<ts.size/\h₀.get? T=none/\c.base.get? T=none)
theorem pA.from{c:Cx}{h₀ bx:Heap}{a9 aN:Nat->Addr}{ae n₁:Nat}{μ:Nat->Addr}{σ:AH}{h:Heap}{l:Nat}{e:Value}(x:Ext a9 ae h₀ aN n₁ bx)(y:pA c bx μ σ h l e):pA c h₀ μ σ h l e:=by
 refine oA y λa q9=>?_;refine oA q9 λb q9=>?_;refine eC q9 λC d bb o q9=>?_;refine jR q9 λvs e1 e2 e3 e4=>?_
 refine⟨a,b,C,d,bb,o,vs,e1,e2,e3,e4.imp id ?_⟩
 rintro ⟨T,oT,ts,f1,f2,f3,f4,f5,f6,f7⟩
 exact⟨T,oT,ts,f1,f2,f3,f4,f5,x.none f6,f7⟩
abbrev Rel(β α:Type):=(Nat->Addr)->Nat->Heap->β->α->Prop
section
variable{prog:Program}{α Ks:Type}{β su:Type}{c:Cx}{A:Around}{R:Rel β α}{R':Rel su Ks}{μ:Nat->Addr}{σ:AH}{s:Shared}
def PQ(c:Cx)(R:Rel β α)(r:Res β)(μ:Nat->Addr)(σ:AH)(s:Shared)(a:α)(s':Shared):Prop:=
 ∃b ai aj,r = .ok b ai/\HR c aj ai s'.heap/\Ext μ σ.n s.heap aj ai.n s'.heap/\R aj ai.n s'.heap b a/\b9 s s'
def PE(c:Cx){β:Type}(r:Res β)(μ:Nat->Addr)(σ:AH)(s:Shared)(e:Value)(s':Shared):Prop:=
 ∃l ai aj,r = .exc l ai/\HR c aj ai s'.heap/\Ext μ σ.n s.heap aj ai.n s'.heap/\pA c s.heap aj ai s'.heap l e/\b9 s s'
def WP(prog:Program)(c:Cx)(A:Around)(R:Rel β α)(m:Sem α)(r:Res β)(μ:Nat->Addr)(σ:AH)(s:Shared):Prop:=
 r≠.stuck->wpAny (model prog c.w) A m (PQ c R r μ σ s) (PE c r μ σ s) s
theorem WP.gen{m:Sem α}{r:Res β}(h:∀r0,r=r0->r≠.stuck->wpAny (model prog c.w) A m (PQ c R r0 μ σ s) (PE c r0 μ σ s) s):WP prog c A R m r μ σ s:=h r rfl
theorem WP.gn{m:Sem α}{r:Res β}(h:∀r0,r=r0->r0≠.stuck->wpAny (model prog c.w) A m (PQ c R r0 μ σ s) (PE c r0 μ σ s) s):WP prog c A R m r μ σ s:=h r rfl
theorem WP.stuck{m:Sem α}:WP prog c A R m .stuck μ σ s:=λh=>w1 rfl h
theorem WP.pure{a:α}{b:β}(H:HR c μ σ s.heap)(x:R μ σ.n s.heap b a):WP prog c A R (Pure.pure a) (.ok b σ) μ σ s:=λ_=>
 wh ⟨b,σ,μ,rfl,H,.refl _ _ _,x,.refl _⟩
theorem WP.bind{m:Sem α}{k:α->Sem Ks}{r:Res β}{f:β->AH->Res su}(h1:WP prog c A R m r μ σ s)(h2:∀b aR aN a aw,r = .ok b aR->HR c aN aR aw.heap->Ext μ σ.n s.heap aN aR.n aw.heap->R aN aR.n aw.heap b a->WP prog c A R' (k a) (f b aR) aN aR aw):
  WP prog c A R' (m >>= k) (r.bind f) μ σ s:=λns=>by
 have nr:r≠.stuck:=λz=>ns (by rw[z];rfl)
 refine wg (wj (h1 nr) ?_ ?_)
 ·rintro a aw ⟨b,aR,aN,rfl,H,X,x,e⟩
  refine wj (h2 b aR aN a aw rfl H X x ns) ?_ ?_
  ·rintro a' ar ⟨b',ag,ah,e2,H2,X2,x2,e3⟩
   exact iH b' ag ah e2 H2 (X.trans X2) x2 (e.trans e3)
  ·rintro e' ar ⟨l,ag,ah,e2,H2,X2,x2,e3⟩
   exact iH l ag ah e2 H2 (X.trans X2) (x2.from X) (e.trans e3)
 ·rintro e aw ⟨l,aR,aN,rfl,H,X,x,e'⟩
  exact iH l aR aN rfl H X x e'
theorem WP.map{m:Sem α}{k:α->Ks}{r:Res β}{f:β->su}(h1:WP prog c A R m r μ σ s)(h2:∀b aN n₁ a bx,R aN n₁ bx b a->R' aN n₁ bx (f b) (k a)):WP prog c A R' (m >>= λa=>Pure.pure (k a)) (r.bind λb ai=>.ok (f b) ai) μ σ s:=
 h1.bind λ_ _ _ _ _ _ H _ x=>.pure H (h2 _ _ _ _ _ x)
theorem WP.of{m:Sem α}{r:Res β}(h:r≠.stuck->wpAny (model prog c.w) A m (PQ c R r μ σ s) (PE c r μ σ s) s):WP prog c A R m r μ σ s:=h
theorem WP.holding{vs:List Value}{m:Sem α}{r:Res β}(h:WP prog c A R m r μ σ s):WP prog c A R (holding vs m) r μ σ s:=λns=>wi (h ns)
theorem WP.standAt{p:Pos}{m:Unit->Sem α}{r:Res β}(h:WP prog c A R (m ()) r μ σ s):WP prog c A R (standAt p >>= m) r μ σ s:=λns=>wg (wk (h ns))
theorem WP.rule{p:String}{m:Unit->Sem α}{r:Res β}(h:WP prog c A R (m ()) r μ σ s):WP prog c A R (rule p >>= m) r μ σ s:=λns=>wg (wpAny_rule (h ns))
theorem WP.point{m:Unit->Sem α}{r:Res β}(h:WP prog c A R (m ()) r μ σ s):WP prog c A R (point >>= m) r μ σ s:=λns=>wg (wpAny_point (h ns))
theorem WP.congr{m m':Sem α}{r:Res β}(h:WP prog c A R m r μ σ s)(e:m'=m):WP prog c A R m' r μ σ s:=by rw[e];exact h
theorem WP.later{m:Sem α}{r:Res β}{aw:Shared}(H:HR c μ σ s.heap)(k:∀b o,s.heap.get? b=some o->aw.heap.get? b=some o)(sz:s.heap.objs.size<=aw.heap.objs.size)(e:b9 s aw)(h:WP prog c A R m r μ σ aw):r≠.stuck->wpAny (model prog c.w) A m (PQ c R r μ σ s) (PE c r μ σ s) aw:=λns=>by
 have X:=(H.grow k sz).2
 refine wj (h ns) ?_ ?_
 ·rintro a' ar ⟨b',ag,ah,e2,H2,X2,x2,e3⟩
  exact iH b' ag ah e2 H2 (X.trans X2) x2 (e.trans e3)
 ·rintro e' ar ⟨l,ag,ah,e2,H2,X2,x2,e3⟩
  exact iH l ag ah e2 H2 (X.trans X2) (x2.from X) (e.trans e3)
theorem PQ.later{r:Res β}{aN:Nat->Addr}{aR:AH}{aw ar:Shared}{a:α}(X:Ext μ σ.n s.heap aN aR.n aw.heap)(e:b9 s aw)(h:PQ c R r aN aR aw a ar):PQ c R r μ σ s a ar:=by
 refine lN h λb' ag ah e2 H2 X2 x2 e3=>?_
 exact iH b' ag ah e2 H2 (X.trans X2) x2 (e.trans e3)
theorem PE.later{r:Res β}{aN:Nat->Addr}{aR:AH}{aw ar:Shared}{v:Value}(X:Ext μ σ.n s.heap aN aR.n aw.heap)(e:b9 s aw)(h:PE c r aN aR aw v ar):PE c r μ σ s v ar:=by
 refine lN h λl ag ah e2 H2 X2 x2 e3=>?_
 exact iH l ag ah e2 H2 (X.trans X2) (x2.from X) (e.trans e3)
theorem WP.at{m:Sem α}{r:Res β}{aN:Nat->Addr}{aR:AH}{aw:Shared}(X:Ext μ σ.n s.heap aN aR.n aw.heap)(e:b9 s aw)(h:WP prog c A R m r aN aR aw):
  r≠.stuck->wpAny (model prog c.w) A m (PQ c R r μ σ s) (PE c r μ σ s) aw:=λns=>wj (h ns) (λ_ _ q=>q.later X e) λ_ _ q=>q.later X e
theorem PQ.here{b:β}{a:α}{aN:Nat->Addr}{aR:AH}{aw:Shared}(H:HR c aN aR aw.heap)(X:Ext μ σ.n s.heap aN aR.n aw.heap)(x:R aN aR.n aw.heap b a)(e:b9 s aw):PQ c R (.ok b aR) μ σ s a aw:=⟨b,aR,aN,rfl,H,X,x,e⟩
end
abbrev RV(c:Cx):Rel AV Value:=λμ n h a v=>VR c μ n h a v
abbrev Yh(c:Cx):Rel (List AV) (List Value):=λμ n h a v=>aH c μ n h a v
abbrev RB: Rel Bool Bool:=λ_ _ _ a b=>a=b
abbrev RU: Rel Unit Unit:=λ_ _ _ _ _=>True
end
section
open PySem PySem.W PySem.Calls PyProof.Rows
set_option genCtorIdx false in
inductive ME where
 |cN | cT | cF
 |cI (i:Int)
 |cS (s:List Nat)
 |loc (x:Nat)
 |glob (x:Nat) (v:AV)
 |attr (e:ME) (a:Nat)
 |idx (e i:ME)
 |no
 |fx (e lo hi:ME)
 |rev (e:ME)
 |bin (op:Nat) (a b:ME)
 |neg (a:ME)
 |not (a:ME)
 |cmp (a:ME) (op:Nat) (b:ME)
 |ig (a:ME) (o:Nat) (b:ME) (o':Nat) (d:ME)
 |and (es:ME)
 |or (es:ME)
 |ite (t a b:ME)
 |tup (es:ME)
 |lst (es:ME)
 |iQ (es:ME)
 |call (f es:ME)
 |af (o:ME) (m:Nat) (es:ME)
 |comp (elt:ME) (x:Nat) (fv:List Nat) (it cond:ME)
 |fY (elt:ME) (xs fv:List Nat) (it cond:ME)
 |nil
 |cons (a b:ME)
set_option genCtorIdx false in
inductive MS where
 |nil
 |seq (a b:MS)
 |expr (e:ME)
 |asg (x:Nat) (e:ME)
 |aQ (o:ME) (a:Nat) (e:ME)
 |d3 (o i e:ME)
 |cf (xs:List Nat) (e:ME)
 |pJ (x:Nat) (e:ME)
 |mW (o:ME) (a:Nat) (e:ME)
 |ite (t:ME) (a b:MS)
 |ez (t:ME) (b:MS)
 |cx (x:Nat) (it:ME) (b:MS)
 |kJ (xs:List Nat) (it:ME) (b:MS)
 |forR (x:Nat) (e:ME) (b:MS)
 |ret (e:ME)
 |zW
 |raise (e:ME)
 |lB (b:MS) (cls:ME) (x:Nat) (r:Bool) (e:ME)
 |cont
 |pass
abbrev az:=List (Nat×AV)
def dF{α:Type}(l:List α):Nat->Option α:=List.rec (motive:=λ_=>Nat->Option α) (λ_=>none) (λa _ ih n=>Nat.rec (motive:=λ_=>Option α) (some a) (λm _=>ih m) n) l
def Ab{α:Type}(l:List α)(x:α):Nat->List α:=List.rec (motive:=λ_=>Nat->List α) (λ_=>[]) (λa t ih n=>Nat.rec (motive:=λ_=>List α) (x::t) (λm _=>a::ih m) n) l
def app{α:Type}(l m:List α):List α:=List.rec (motive:=λ_=>List α) m (λa _ ih=>a::ih) l
def aC(l:List (Nat×AV))(x:Nat):Option AV:=List.rec (motive:=λ_=>Option AV) none (λp _ ih=>Bool.rec (motive:=λ_=>Option AV) ih (some p.2) (Nat.beq p.1 x)) l
def zd(l:List (Nat×AV))(x:Nat)(v:AV):List (Nat×AV):=List.rec (motive:=λ_=>List (Nat×AV)) [(x,v)] (λp t ih=>Bool.rec (motive:=λ_=>List (Nat×AV)) (p::ih) ((x,v)::t) (Nat.beq p.1 x)) l
def lJ(l:List (Nat×AV))(x:Nat):List (Nat×AV):=List.rec (motive:=λ_=>List (Nat×AV)) [] (λp _ ih=>Bool.rec (motive:=λ_=>List (Nat×AV)) (p::ih) ih (Nat.beq p.1 x)) l
def ak{β:Type}(b:Bool)(t e:β):β:=Bool.rec (motive:=λ_=>β) e t b
def AV.on{β:Type}(v:AV)(e:β)(int:Nat->Int->β)(str:Nat->List Nat->β)(tup:List AV->β)(obj:Nat->β):β:=
 AV.rec (motive_1:=λ_=>β) (motive_2:=λ_=>PUnit) e (λ_=>e) int str (λl _=>tup l) obj (λ_ _=>e) (λ_=>e) (λ_=>e) e ⟨⟩ (λ_ _ _ _=>⟨⟩) v
def ao.on{β:Type}(o:ao)(e:β)(list:List AV->β)(dict:Bool->List (List Nat×AV)->β)(ns:List (Nat×AV)->β)(exc:Addr->Nat->β):β:=
 ao.rec (motive:=λ_=>β) list (λu _ es=>dict u es) ns (λC d _=>exc C d) e (λ_=>e) o
def ao.xR{β:Type}(o:ao)(e:β)(dict:Bool->Nat->List (List Nat×AV)->β):β:=
 ao.rec (motive:=λ_=>β) (λ_=>e) dict (λ_=>e) (λ_ _ _=>e) e (λ_=>e) o
def ao.xS{β:Type}(o:ao)(e:β)(exc:Addr->Nat->Nat->β):β:=
 ao.rec (motive:=λ_=>β) (λ_=>e) (λ_ _ _=>e) (λ_=>e) exc e (λ_=>e) o
def opt{α β:Type}(o:Option α)(e:β)(f:α->β):β:=Option.rec (motive:=λ_=>β) e f o
def zf{α β:Type}(l:List α)(e:β)(f:α->List α->β):β:=List.rec (motive:=λ_=>β) e (λa t _=>f a t) l
def j4{β:Type}(i:Int)(f g:Nat->β):β:=Int.rec (motive:=λ_=>β) f g i
def pl{β:Type}(q:Nat)(r:Res β):Res β:=ak (Nat.beq q 0) r .stuck
def iadd(i j:Int):Int:=Int.rec (motive:=λ_=>Int) (λm=>Int.rec (motive:=λ_=>Int) (λn=>.ofNat (Nat.add m n)) (λn=>Int.add (.ofNat m) (.negSucc n)) j) (λm=>Int.add (.negSucc m) j) i
def len{α:Type}(l:List α):Nat:=List.rec (motive:=λ_=>Nat) 0 (λ_ _ n=>Nat.succ n) l
def mapR{α β:Type}(f:α->β)(l:List α):List β:=List.rec (motive:=λ_=>List β) [] (λa _ t=>f a::t) l
def drp(l:List Nat):Nat->List Nat:=List.rec (motive:=λ_=>Nat->List Nat) (λ_=>[]) (λa t ih n=>Nat.rec (motive:=λ_=>List Nat) (a::t) (λm _=>ih m) n) l
def tk(l:List Nat):Nat->List Nat:=List.rec (motive:=λ_=>Nat->List Nat) (λ_=>[]) (λa _ ih n=>Nat.rec (motive:=λ_=>List Nat) [] (λm _=>a::ih m) n) l
def lst{α:Type}(l:List α):Option α:=List.rec (motive:=λ_=>Option α) none (λa t ih=>zf t (some a) λ_ _=>ih) l
def ini{α:Type}(l:List α):List α:=List.rec (motive:=λ_=>List α) [] (λa t ih=>zf t [] λ_ _=>a::ih) l
theorem zr2(l:List Nat)(n:Nat):drp l n=l.drop n:=by
 induction l generalizing n with
 |nil=>exact List.drop_nil.symm
 |cons a t ih=>exact n.casesOn rfl λm=>ih m
theorem tk_eq(l:List Nat)(n:Nat):tk l n=l.take n:=by
 induction l generalizing n with
 |nil=>exact List.take_nil.symm
 |cons a t ih=>exact n.casesOn rfl λm=>congrArg (a::·) (ih m)
theorem lst_eq{α:Type}(l:List α):lst l=l.getLast?:=by
 induction l with
 |nil=>rfl
 |cons a t ih=>cases t with
  |nil=>rfl
  |cons b t=>exact ih
theorem ini_eq{α:Type}(l:List α):ini l=l.dropLast:=by
 induction l with
 |nil=>rfl
 |cons a t ih=>cases t with
  |nil=>rfl
  |cons b t=>exact congrArg (a::·) ih
def cu(l m:List Nat):Bool:=List.rec (motive:=λ_=>List Nat->Bool) (λm=>zf m true λ_ _=>false) (λa _ ih m=>zf m false λb m=>ak (Nat.beq a b) (ih m) false) l m
def getD(l:List (List Nat×AV))(x:List Nat):Option AV:=List.rec (motive:=λ_=>Option AV) none (λp _ ih=>ak (cu p.1 x) (some p.2) ih) l
def uA(l:List (List Nat×AV))(x:List Nat)(v:AV):List (List Nat×AV):=List.rec (motive:=λ_=>List (List Nat×AV)) [(x,v)] (λp t ih=>ak (cu p.1 x) ((p.1,v)::t) (p::ih)) l
def yw(l:List (List Nat))(x:List Nat):Bool:=List.rec (motive:=λ_=>Bool) false (λa _ ih=>ak (cu a x) true ih) l
section
variable(U:List (List Nat))
noncomputable def GK(_:Bool):Res AV:=.stuck
def AV.lW{β:Type}(v:AV)(e:β)(ins:Addr->Nat->β)(obj:Nat->β):β:=
 AV.rec (motive_1:=λ_=>β) (motive_2:=λ_=>PUnit) e (λ_=>e) (λ_ _=>e) (λ_ _=>e) (λ_ _=>e) obj ins (λ_=>e) (λ_=>e) e ⟨⟩ (λ_ _ _ _=>⟨⟩) v
def AV.fo{β:Type}(v:AV)(t e:β):β:=
 AV.rec (motive_1:=λ_=>β) (motive_2:=λ_=>PUnit) t (λ_=>e) (λ_ _=>e) (λ_ _=>e) (λ_ _=>e) (λ_=>e) (λ_ _=>e) (λ_=>e) (λ_=>e) e ⟨⟩ (λ_ _ _ _=>⟨⟩) v
def i6{β:Type}(σ:AH)(d:Nat)(f:List (Nat×AV)->Res β):Res β:=(σ.get d).on .stuck (λ_=>.stuck) (λ_ _=>.stuck) f (λ_ _=>.stuck)
def pU{β:Type}(σ:AH)(o:Nat)(f:Nat->Res β):Res β:=(σ.get o).on .stuck (λ_=>.stuck) (λ_ _=>.stuck) (λ_=>.stuck) (λ_ d=>f d)
def zh{β:Type}(σ:AH)(o:Nat)(f:List AV->Res β):Res β:=(σ.get o).on .stuck f (λ_ _=>.stuck) (λ_=>.stuck) (λ_ _=>.stuck)
def jx(es:List (Nat×AV))(a:Nat)(σ:AH):Res AV:=opt (aC es a) .stuck λx=>.ok x σ
def Hr(v:AV)(a:Nat)(σ:AH):Res AV:=v.lW .stuck (λ_ d=>i6 σ d λes=>jx es a σ) λo=>pU σ o λd=>i6 σ d λes=>jx es a σ
def lx(d a:Nat)(x:AV)(σ:AH)(es:List (Nat×AV)):Res Unit:=ak (Nat.ble (len es) 900) (.ok () (σ.put d (.ns (zd es a x)))) .stuck
def Ph(v:AV)(a:Nat)(x:AV)(σ:AH):Res Unit:=v.lW .stuck (λ_ d=>i6 σ d (lx d a x σ)) λ_=>.stuck
def yy(i:Int):Bool:=j4 i (λk=>Nat.blt k 1152921504606846976) λk=>Nat.blt k 1152921504606846976
def Cp(i:Int)(n:Nat):Option Nat:=ak (yy i) (j4 i (λk=>ak (Nat.blt k n) (some k) none) (λk=>ak (Nat.blt k n) (some (n - (k+1))) none)) none
noncomputable def sgn(σ:AH)(ch:Nat):Res AV:=.ok (.str 0 [ch]) σ
def ja(l:List AV)(i:Int)(σ:AH):Res AV:=opt (Cp i (len l)) .stuck λk=>opt (dF l k) .stuck λx=>.ok x σ
def LM(q:Nat)(s:List Nat)(q':Nat)(i:Int)(σ:AH):Res AV:=
 ak (Nat.beq q 0) (pl q' (opt (Cp i (len s)) .stuck λk=>opt (dF s k) .stuck (sgn σ)))
  (ak (Nat.beq q' 1) (j4 i (λk=>ak (yy i) (opt (dF s k) .stuck (sgn σ)) .stuck) λ_=>.stuck) .stuck)
def E1(u:Bool)(es:List (List Nat×AV))(k:List Nat)(σ:AH):Res AV:=ak (ak u (yw U k) false) .stuck (opt (getD es k) .stuck λx=>.ok x σ)
def xd{β:Type}(σ:AH)(o:Nat)(f:Bool->List (List Nat×AV)->Res β):Res β:=(σ.get o).on .stuck (λ_=>.stuck) f (λ_=>.stuck) (λ_ _=>.stuck)
def Kc(v i:AV)(σ:AH):Res AV:=v.on .stuck (λ_ _=>.stuck)
 (λq s=>i.on .stuck (λq' j=>LM q s q' j σ) (λ_ _=>.stuck) (λ_=>.stuck) λ_=>.stuck)
 (λl=>i.on .stuck (λq' j=>pl q' (ja l j σ)) (λ_ _=>.stuck) (λ_=>.stuck) λ_=>.stuck)
 λo=>i.on .stuck (λq' j=>pl q' (zh σ o λl=>ja l j σ)) (λq k=>pl q (xd σ o λu es=>E1 U u es k σ)) (λ_=>.stuck) λ_=>.stuck
noncomputable def j2(i:Int)(n:Nat):Nat:=match i with
 |.ofNat k=>Nat.min k n
 |.negSucc k=>n - (k+1)
noncomputable def cut(l:List Nat)(a b:Nat):List Nat:=tk (drp l a) (Nat.sub b a)
theorem zr3(l:List Nat)(a b:Nat):cut l a b=(l.drop a).take (b - a):=by unfold cut;rw[tk_eq,zr2];rfl
def Cm(r:List Nat)(σ:AH):Res AV:=ak (Nat.ble (len r) 1000000) (.ok (.str 0 r) σ) .stuck
def AV.gJ{β:Type}(v:AV)(e none:β)(int:Nat->Int->β)(str:Nat->List Nat->β)(tup:List AV->β):β:=
 AV.rec (motive_1:=λ_=>β) (motive_2:=λ_=>PUnit) none (λ_=>e) int str (λl _=>tup l) (λ_=>e) (λ_ _=>e) (λ_=>e) (λ_=>e) e ⟨⟩ (λ_ _ _ _=>⟨⟩) v
def sj{β:Type}(a:AV)(f:Nat->List Nat->Res β):Res β:=a.on .stuck (λ_ _=>.stuck) f (λ_=>.stuck) λ_=>.stuck
def l5{β:Type}(a:AV)(f:Nat->Int->Res β):Res β:=a.on .stuck f (λ_ _=>.stuck) (λ_=>.stuck) λ_=>.stuck
def sh{β:Type}(a:AV)(f:Nat->Res β):Res β:=a.on .stuck (λ_ _=>.stuck) (λ_ _=>.stuck) (λ_=>.stuck) f
def Bn{β:Type}(a:AV)(f:Nat->Nat->Res β):Res β:=l5 a λq i=>j4 i (f q) λ_=>.stuck
def qO{β:Type}(a:AV)(n:Res β)(f:Int->Res β):Res β:=a.gJ .stuck n (λq i=>pl q (f i)) (λ_ _=>.stuck) λ_=>.stuck
def OE(s:List Nat)(lo hi:AV)(σ:AH):Res AV:=qO lo (qO hi .stuck λj=>Cm (cut s 0 (j2 j s.length)) σ) λi=>qO hi (Cm (cut s (j2 i s.length) s.length) σ) λj=>Cm (cut s (j2 i s.length) (j2 j s.length)) σ
def OF(s:List Nat)(lo hi:AV)(σ:AH):Res AV:=Bn lo λq' i=>Bn hi λSi j=>ak (Nat.beq q' 1&&(Nat.beq Si 1&&(Nat.ble i s.length&&Nat.ble j s.length))) (Cm (cut s i j) σ) .stuck
def rS(v lo hi:AV)(σ:AH):Res AV:=sj v λq s=>ak (Nat.beq q 0) (OE s lo hi σ) (OF s lo hi σ)
def ye(a:ao)(σ:AH):Res AV:=.ok (.obj σ.n) (σ.push a)
noncomputable def rep(s:List Nat):Nat->List Nat
 |0=>[]
 |n+1=>s++rep s n
def mQ(q:Nat)(i:Int)(q':Nat)(j:Int)(σ:AH):Res AV:=ak (Nat.beq q' 0) (.ok (.int q (iadd i j)) σ) (ak (Nat.beq q 0) (.ok (.int q' (iadd i j)) σ) .stuck)
def mS(q:Nat)(s:List Nat)(q':Nat)(t:List Nat)(σ:AH):Res AV:=ak (Nat.ble q 1) (pl q' (ak (Nat.ble (len s+len t) 1000000) (.ok (.str q (app s t)) σ) .stuck)) .stuck
def mT(l m:List AV)(σ:AH):Res AV:=ak (Nat.ble (len l+len m) 100000) (.ok (.tup (app l m)) σ) .stuck
def mR(o p:Nat)(σ:AH):Res AV:=zh σ o λl=>zh σ p λm=>ak (Nat.ble (len l+len m) 100000) (ye (.list (app l m)) σ) .stuck
def HC(a b:AV)(σ:AH):Res AV:=a.on .stuck
 (λq i=>b.on .stuck (λq' j=>mQ q i q' j σ) (λ_ _=>.stuck) (λ_=>.stuck) λ_=>.stuck)
 (λq s=>b.on .stuck (λ_ _=>.stuck) (λq' t=>mS q s q' t σ) (λ_=>.stuck) λ_=>.stuck)
 (λl=>b.on .stuck (λ_ _=>.stuck) (λ_ _=>.stuck) (λm=>mT l m σ) λ_=>.stuck)
 (λo=>b.on .stuck (λ_ _=>.stuck) (λ_ _=>.stuck) (λ_=>.stuck) λp=>mR o p σ)
def lW{β:Type}(a b:AV)(f:Nat->Int->Nat->Int->Res β):Res β:=a.on .stuck (λq i=>b.on .stuck (λq' j=>f q i q' j) (λ_ _=>.stuck) (λ_=>.stuck) λ_=>.stuck) (λ_ _=>.stuck) (λ_=>.stuck) λ_=>.stuck
def GQ(q:Nat)(i:Int)(q':Nat)(j:Int)(σ:AH):Res AV:=ak (Nat.beq q' 0) (.ok (.int q (Int.sub i j)) σ) (ak (Nat.beq q q') (.ok (.int 0 (Int.sub i j)) σ) .stuck)
def Fp(a b:AV)(σ:AH):Res AV:=lW a b λq i q' j=>GQ q i q' j σ
def EA(q:Nat)(i:Int)(q':Nat)(j:Int)(σ:AH):Res AV:=ak (Nat.beq q 0) (ak (Nat.beq q' 0) (ak (ak (yy j) true (yy i)) (.ok (.int 0 (Int.mul i j)) σ) .stuck) .stuck) .stuck
def EB(q:Nat)(s:List Nat)(q':Nat)(j:Int)(σ:AH):Res AV:=ak (Nat.beq q 0) (ak (Nat.beq q' 0) (j4 j (λn=>ak (Nat.ble n 100000) (ak (Nat.ble (len s * n) 1000000) (.ok (.str 0 (rep s n)) σ) .stuck) .stuck) λ_=>.stuck) .stuck) .stuck
def Q8(a b:AV)(σ:AH):Res AV:=a.on .stuck (λq i=>b.on .stuck (λq' j=>EA q i q' j σ) (λ_ _=>.stuck) (λ_=>.stuck) λ_=>.stuck)
 (λq s=>b.on .stuck (λq' j=>EB q s q' j σ) (λ_ _=>.stuck) (λ_=>.stuck) λ_=>.stuck) (λ_=>.stuck) λ_=>.stuck
def nL(j:Int):Bool:=j4 j (λk=>ak (Nat.beq k 0) false true) λ_=>true
def Df(q:Nat)(i:Int)(q':Nat)(j:Int)(σ:AH):Res AV:=ak (Nat.beq q 0) (ak (Nat.beq q' 0) (ak (nL j) (ak (yy j) (.ok (.int 0 (Int.fdiv i j)) σ) .stuck) .stuck) .stuck) .stuck
def Ez(q:Nat)(i:Int)(q':Nat)(j:Int)(σ:AH):Res AV:=ak (Nat.beq q 0) (ak (Nat.beq q' 0) (ak (nL j) (.ok (.int 0 (Int.fmod i j)) σ) .stuck) .stuck) .stuck
def Fi(a b:AV)(σ:AH):Res AV:=lW a b λq i q' j=>Df q i q' j σ
def Fj(a b:AV)(σ:AH):Res AV:=lW a b λq i q' j=>Ez q i q' j σ
def Fh(q:Nat)(i:Int)(q':Nat)(j:Int)(σ:AH):Res AV:=ak (Nat.beq q 0) (ak (Nat.beq q' 0) (ak (yy i) (j4 j (λn=>ak (Nat.ble n 1000) (.ok (.int 0 (i ^ n)) σ) .stuck) λ_=>.stuck) .stuck) .stuck) .stuck
def Fo(a b:AV)(σ:AH):Res AV:=lW a b λq i q' j=>Fh q i q' j σ
noncomputable def sel{β:Type}(n:Nat)(a:β)(f:Nat->β):β:=Nat.rec (motive:=λ_=>β) a (λm _=>f m) n
def bh(op:Nat)(a b:AV)(σ:AH):Res AV:=sel op (HC a b σ) λop=>sel op (Fp a b σ) λop=>sel op (Q8 a b σ) λop=>sel op (Fi a b σ) λop=>sel op (Fj a b σ) λop=>sel op (Fo a b σ) λ_=>.stuck
def ltI(a b:Int):Bool:=j4 a (λm=>j4 b (λn=>Nat.blt m n) λ_=>false) (λm=>j4 b (λ_=>true) λn=>Nat.blt n m)
def fZ(a b:Int):Bool:=j4 a (λm=>j4 b (λn=>Nat.beq m n) λ_=>false) (λm=>j4 b (λ_=>false) λn=>Nat.beq m n)
def ltQ(q:Nat)(a:Int)(q':Nat)(b:Int):Option Bool:=ak (Nat.beq q q') (some (ltI a b)) (ak (Nat.ble q 2) (ak (Nat.ble q' 2) (ak (Nat.blt q q') (ak (ltI a b) (some true) none) (ak (ltI b a) (some false) (ak (fZ a b) (some false) none))) none) none)
noncomputable def ti(l:List Nat):List Nat->Bool:=List.rec (motive:=λ_=>List Nat->Bool) (λm=>zf m false λ_ _=>true) (λa _ ih m=>zf m false λb m=>ak (Nat.blt a b) true (ak (Nat.beq a b) (ih m) false)) l
def sL(f:AV->AV->Option Bool)(l:List AV):List AV->Option Bool:=List.rec (motive:=λ_=>List AV->Option Bool) (λm=>zf m (some true) λ_ _=>some false)
 (λa _ ih m=>zf m (some false) λb m'=>opt (f a b) none λr=>opt (ih m') none λr'=>some (ak r r' false)) l
def Bv(n:Nat):AV->AV->Option Bool:=Nat.rec (motive:=λ_=>AV->AV->Option Bool) (λ_ _=>none)
 (λ_ ih a b=>a.gJ none (b.gJ none (some true) (λ_ _=>some false) (λ_ _=>some false) λ_=>none)
  (λq i=>b.gJ none (some false) (λq' j=>ak (Nat.beq q q') (some (fZ i j)) none) (λ_ _=>none) λ_=>none)
  (λq s=>b.gJ none (some false) (λ_ _=>none) (λq' t=>ak (Nat.beq q 0) (ak (Nat.beq q' 0) (some (cu s t)) none) none) λ_=>none)
  (λl=>b.gJ none none (λ_ _=>none) (λ_ _=>none) λm=>sL ih l m)) n
def iS(a b:AV):Option Bool:=Bv 150 a b
def y4(w l:List Nat):Bool:=List.rec (motive:=λ_=>List Nat->Bool) (λ_=>true) (λa _ ih m=>zf m false λb m=>ak (Nat.beq a b) (ih m) false) w l
def zo(w s:List Nat)(i:Nat):Option Nat:=List.rec (motive:=λ_=>Nat->Option Nat) (λi=>zf w (some i) λ_ _=>none) (λa l ih i=>ak (y4 w (a::l)) (some i) (ih (Nat.succ i))) s i
def B0(x:AV)(l:List AV):Option Bool:=List.rec (motive:=λ_=>Option Bool) (some false) (λa _ ih=>opt (iS a x) none λr=>opt ih none λr'=>some (ak r true r')) l
def AY(v:AV)(σ:AH):Res Bool:=AV.rec (motive_1:=λ_=>Res Bool) (motive_2:=λ_=>PUnit) (.ok false σ) (λb=>.ok b σ) (λq i=>pl q (.ok (!fZ i 0) σ)) (λ_ _=>.stuck) (λ_ _=>.stuck) (λ_=>.stuck) (λ_ _=>.stuck) (λ_=>.stuck) (λ_=>.stuck) .stuck ⟨⟩ (λ_ _ _ _=>⟨⟩) v
def tq(σ:AH)(o:Option Bool):Res Bool:=opt o .stuck λb=>.ok b σ
def uU(σ:AH)(o:Option Bool):Res Bool:=opt o .stuck λb=>.ok (!b) σ
def L7(o p:Nat)(σ:AH):Option Bool:=(σ.get o).on none (λl=>(σ.get p).on none (λm=>ak (Nat.beq (len l) (len m)) (sL iS l m) (some false)) (λ_ _=>none) (λ_=>none) λ_ _=>none)
 (λu es=>ak u none ((σ.get p).on none (λ_=>none) (λu' cQ=>ak u' none (zf cQ (some (zf es true λ_ _=>false)) λ_ _=>none)) (λ_=>none) λ_ _=>none)) (λ_=>none) λ_ _=>none
def Dl(a b:AV)(σ:AH):Option Bool:=a.on (iS a b) (λ_ _=>iS a b) (λ_ _=>iS a b) (λ_=>iS a b) λo=>b.on none (λ_ _=>none) (λ_ _=>none) (λ_=>none) λp=>L7 o p σ
def RL(q:Nat)(w:List Nat)(q':Nat)(t:List Nat):Option Bool:=ak (Nat.beq q 0) (ak (Nat.beq q' 0) (some (opt (zo w t 0) false λ_=>true)) none) none
def inD(u:Bool)(es:List (List Nat×AV))(q:Nat)(k:List Nat):Option Bool:=ak (Nat.beq q 0) (ak (ak u (yw U k) false) none (some (opt (getD es k) false λ_=>true))) none
def RK(x:AV)(o:Nat)(σ:AH):Option Bool:=(σ.get o).on none (λl=>B0 x l) (λu es=>x.on none (λ_ _=>none) (λq k=>inD U u es q k) (λ_=>none) λ_=>none) (λ_=>none) λ_ _=>none
def E4(x s:AV)(σ:AH):Option Bool:=s.on none (λ_ _=>none) (λq' t=>x.on none (λ_ _=>none) (λq w=>RL q w q' t) (λ_=>none) λ_=>none) (λl=>B0 x l) λo=>RK U x o σ
noncomputable def E7(a b:AV):Option Bool:=match b with
 |.none=>match a with
  |.none=>some true
  |.any=>none
  |.con _=>none
  |.bi _=>none
  |_=>some false
 |_=>none
def qH(a b:AV):Option Bool:=a.on none (λq i=>b.on none (λq' j=>ltQ q i q' j) (λ_ _=>none) (λ_=>none) λ_=>none)
 (λq s=>b.on none (λ_ _=>none) (λq' t=>ak (Nat.beq q 0) (ak (Nat.beq q' 0) (some (ti s t)) none) none) (λ_=>none) λ_=>none) (λ_=>none) λ_=>none
def a_(op:Nat)(a b:AV)(σ:AH):Res Bool:=sel op (tq σ (Dl a b σ)) λop=>sel op (uU σ (Dl a b σ)) λop=>sel op (tq σ (qH a b)) λop=>sel op (uU σ (qH b a)) λop=>
 sel op (tq σ (qH b a)) λop=>sel op (uU σ (qH a b)) λop=>sel op (tq σ (E4 U a b σ)) λop=>sel op (uU σ (E4 U a b σ)) λop=>sel op (tq σ (E7 a b)) λ_=>uU σ (E7 a b)
end
noncomputable abbrev OR: Nat:=493273536200833593603187
abbrev JY: Nat:=1684957542
abbrev JT: Nat:=1852403562
abbrev xx: Nat:=28538242730059122
abbrev JK: Nat:=517097156201
abbrev JA: Nat:=110425311047777
abbrev K4: Nat:=7368560
noncomputable abbrev JC: Nat:=110425311311973
noncomputable abbrev Kb: Nat:=7628135
noncomputable abbrev z6: Nat:=28542640894207341
abbrev zq: Nat:=435459026032
def mE{β:Type}(args:List AV)(f:AV->Res β):Res β:=zf args .stuck λa t=>zf t (f a) λ_ _=>.stuck
def j'{β:Type}(args:List AV)(f:AV->AV->Res β):Res β:=zf args .stuck λa t=>zf t .stuck λb t=>zf t (f a b) λ_ _=>.stuck
noncomputable def jq: List Nat->List Nat->Option Bool
 |[],_=>some true
 |_::_,[]=>none
 |a::l,b::m=>match Nat.beq a b with
  |true=>jq l m
  |false=>some false
def km(l:List AV):Option (List (List Nat)):=List.rec (motive:=λ_=>Option (List (List Nat))) (some []) (λa _ ih=>a.on none (λ_ _=>none) (λq s=>ak (Nat.beq q 0) (opt ih none λr=>some (s::r)) none) (λ_=>none) λ_=>none) l
noncomputable def x9(sep:List Nat)(l:List (List Nat)):List Nat:=List.rec (motive:=λ_=>List Nat) [] (λa t ih=>zf t a λ_ _=>app a (app sep ih)) l
noncomputable def k_(w:List Nat):Bool:=match w with
 |[]=>false
 |_=>true
def Vk(q:Nat)(s:List Nat)(args:List AV)(σ:AH):Res AV:=j' args λa b=>sj a λq1 w=>Bn b λq2 k=>
 ak (Nat.beq q1 0&&(k_ w&&Nat.ble k (len s))) (ak (Nat.beq q 0&&Nat.beq q2 0||Nat.beq q 1&&Nat.beq q2 1) (.ok (.bool (y4 w (drp s k))) σ)
   (ak (Nat.beq q 2&&Nat.beq q2 1) (opt (jq w (drp s k)) .stuck λb=>.ok (.bool b) σ) .stuck)) .stuck
def P2(q:Nat)(s:List Nat)(args:List AV)(σ:AH):Res AV:=zf args .stuck λa t=>zf t
 (sj a λq1 w=>ak (Nat.beq q 0&&(Nat.beq q1 0&&k_ w)) (opt (zo w s 0) (.ok (.int 0 (.negSucc 0)) σ) λi=>.ok (.int 0 (.ofNat i)) σ) .stuck)
 λb t=>zf t (sj a λq1 w=>Bn b λq2 k=>ak (Nat.beq q1 0&&(k_ w&&Nat.ble k (len s))) (ak (Nat.beq q 0&&Nat.beq q2 0||Nat.beq q 1&&Nat.beq q2 1)
   (opt (zo w (drp s k) k) (.ok (.int 0 (.negSucc 0)) σ) λi=>.ok (.int q (.ofNat i)) σ)
   (ak (Nat.beq q 2&&Nat.beq q2 1) (opt (zo w (drp s k) k) .stuck λi=>.ok (.int 1 (.ofNat i)) σ) .stuck)) .stuck) λ_ _=>.stuck
def Po(q:Nat)(s:List Nat)(args:List AV)(σ:AH):Res AV:=mE args λa=>sh a λo=>zh σ o λl=>opt (km l) .stuck λws=>
 ak (Nat.beq q 0&&Nat.ble (len (x9 s ws)) 1000000) (.ok (.str 0 (x9 s ws)) σ) .stuck
def Pm(q:Nat)(s:List Nat)(args:List AV)(σ:AH):Res AV:=j' args λa b=>sj a λq1 w=>sj b λq2 _=>
 ak (Nat.beq q 0&&(Nat.beq q1 0&&(Nat.beq q2 0&&k_ w))) (opt (zo w s 0) (.ok (.str 0 s) σ) λ_=>.stuck) .stuck
def P1(q:Nat)(s:List Nat)(args:List AV)(σ:AH):Res AV:=mE args λa=>sj a λq1 w=>
 ak (Nat.beq q 0&&(Nat.beq q1 0&&k_ w)) (opt (zo w s 0) .stuck λi=>.ok (.int 0 (.ofNat i)) σ) .stuck
def jf(m q:Nat)(s:List Nat)(args:List AV)(σ:AH):Res AV:=ak (Nat.beq m OR) (Vk q s args σ) (ak (Nat.beq m JY) (P2 q s args σ) (ak (Nat.beq m JT) (Po q s args σ) (ak (Nat.beq m xx) (Pm q s args σ) (ak (Nat.beq m JK) (P1 q s args σ) .stuck))))
def Qp(o:Nat)(l args:List AV)(σ:AH):Res AV:=mE args λx=>ak (Nat.ble (len l) 100000) (.ok .none (σ.put o (.list (app l [x])))) .stuck
def w_(o:Nat)(l args:List AV)(σ:AH):Res AV:=zf args (opt (lst l) .stuck λx=>ak (Nat.ble (len l) 100000) (.ok x (σ.put o (.list (ini l)))) .stuck) λ_ _=>.stuck
def Qq(o:Nat)(l args:List AV)(σ:AH):Res AV:=mE args λa=>sh a λp=>zh σ p λr=>ak (!Nat.beq o p&&Nat.ble (len l+len r) 100000) (.ok .none (σ.put o (.list (app l r)))) .stuck
def rN(m o:Nat)(l:List AV)(args:List AV)(σ:AH):Res AV:=ak (Nat.beq m JA) (Qp o l args σ) (ak (Nat.beq m K4) (w_ o l args σ) (ak (Nat.beq m JC) (Qq o l args σ) .stuck))
def m_(U:List (List Nat))(u:Bool)(es:List (List Nat×AV))(a d:AV)(σ:AH):Res AV:=a.on .stuck (λ_ _=>.stuck) (λq k=>pl q (ak (ak u (yw U k) false) .stuck (.ok (opt (getD es k) d λx=>x) σ))) (λ_=>.stuck) λ_=>.stuck
def Cf(U:List (List Nat))(m:Nat)(u:Bool)(es:List (List Nat×AV))(args:List AV)(σ:AH):Res AV:=
 ak (Nat.beq m Kb) (zf args .stuck λa t=>zf t (m_ U u es a .none σ) λd t=>zf t (m_ U u es a d σ) λ_ _=>.stuck) .stuck
def ka(q n:Nat)(σ:AH):Res AV:=ak (Nat.ble n 1000000) (.ok (.int q (.ofNat n)) σ) .stuck
def vx(a:AV)(σ:AH):Res AV:=a.on .stuck (λ_ _=>.stuck) (λq s=>ak (Nat.ble q 2) (ka q (len s) σ) .stuck) (λl=>ka 0 (len l) σ) λo=>zh σ o λl=>ka 0 (len l) σ
def CY(a:AV)(σ:AH):Res AV:=a.on .stuck (λ_ _=>.stuck) (λq s=>pl q (zf s .stuck λch t=>zf t (.ok (.int 0 (.ofNat ch)) σ) λ_ _=>.stuck)) (λ_=>.stuck) λ_=>.stuck
def CX(a:AV)(σ:AH):Res AV:=Bn a λq ch=>ak (Nat.beq q 0&&Nat.ble ch 1114111) (.ok (.str 0 [ch]) σ) .stuck
def B8(args:List AV)(σ:AH):Res AV:=j' args λa b=>l5 a λq i=>l5 b λq' j=>opt (ltQ q i q' j) .stuck λr=>.ok (.int (ak r q' q) (ak r j i)) σ
def jt(es:List (List Nat×AV)):List AV:=mapR (λe=>.str 0 e.1) es
def Q9(a:AV)(σ:AH):Res AV:=a.on .stuck (λ_ _=>.stuck) (λ_ _=>.stuck) (λl=>.ok (.tup l) σ) λo=>zh σ o λl=>ak (Nat.ble (len l) 100000) (.ok (.tup l) σ) .stuck
def sE(a:AV)(σ:AH):Res AV:=sh a λo=>zh σ o λl=>ak (Nat.ble (len l) 100000) (ye (.list l) σ) .stuck
noncomputable def vt(a:AV)(σ:AH):Res AV:=match a with
 |.bool b=>.ok (.int 0 (match b with | true=>1 | false=>0)) σ
 |_=>.stuck
def yX(mx:Bool)(k:Nat)(args:List AV)(σ:AH):Res AV:=sel k (mE args λa=>vx a σ) λk=>sel k (mE args λa=>CY a σ) λk=>sel k (mE args λa=>CX a σ) λk=>sel k (ak mx (B8 args σ) .stuck) λk=>sel k .stuck λk=>
 sel k (mE args λa=>Q9 a σ) λk=>sel k (mE args λa=>sE a σ) λk=>sel k .stuck λk=>sel k (mE args λa=>vt a σ) λ_=>.stuck
set_option genCtorIdx false in
inductive Tr (α:Type) where
 |leaf
 |node (k:Nat) (v:α) (l r:Tr α)
def Tr.get{α:Type}(t:Tr α)(x:Nat):Option α:=Tr.rec (motive:=λ_=>Option α) none (λk v _ _ L R=>Bool.rec (Bool.rec R L (Nat.blt x k)) (some v) (Nat.beq x k)) t
structure Fn where
 ps:List Nat
 ds:List AV
 body:MS
structure Cl where
 ms:List (Nat×Addr)
 init:Option Addr
 exc:Bool
def gV(l:List (Nat×Addr))(x:Nat):Option Addr:=List.rec (motive:=λ_=>Option Addr) none (λp _ ih=>ak (Nat.beq p.1 x) (some p.2) ih) l
abbrev Call:=Addr->List AV->AH->Res AV
abbrev Run:=Call->Call->List AV->AH->Res AV
structure Gl where
 U:List (List Nat)
 fn:Tr Fn
 fq:Tr Fn
 cl:Tr Cl
 fu:Nat
 mx:Bool
 runs:Tr Run
noncomputable def Gl.quiet(G:Gl):Gl:=⟨G.U,G.fn,G.fq,G.cl,G.fu,false,G.runs⟩
section
variable(G:Gl)(C:Call)
def Q7(a:Addr)(args:List AV)(σ:AH):Res AV:=j' args λm p=>.ok (.obj σ.n) ((σ.push (.exc a (Nat.succ σ.n) 0)).push (.ns [(z6,m),(zq,p)]))
def JS(a:Addr)(σ:AH)(f:AV->AH->Res AV):Res AV:=f (.ins a σ.n) (σ.push (.ns []))
def uI(c:Cl)(a:Addr)(args:List AV)(σ:AH):Res AV:=ak c.exc (Q7 a args σ) (opt c.init (zf args (JS a σ λv σ=>.ok v σ) λ_ _=>.stuck) λf=>
 JS a σ λv σ=>(C f (v::args) σ).bind λr ai=>r.fo (.ok v ai) .stuck)
def Cc(a:Addr)(args:List AV)(σ:AH):Res AV:=opt (G.cl.get a) (C a args σ) λc=>uI C c a args σ
noncomputable def QP{β:Type}(v:Value)(e:β)(f:Addr->β):β:=match v with | .ref a=>f a | _=>e
def tA(k:Nat)(as:AH->Res (List AV))(σ:AH):Res AV:=ak (Nat.blt k 9) ((as σ).bind λargs σ=>yX G.mx k args σ) .stuck
def Fq(v:Value)(as:AH->Res (List AV))(σ:AH):Res AV:=QP v .stuck λa=>(as σ).bind λargs σ=>Cc G C a args σ
def Vn(v:AV)(as:AH->Res (List AV))(σ:AH):Res AV:=AV.rec (motive_1:=λ_=>Res AV) (motive_2:=λ_=>PUnit) .stuck (λ_=>.stuck) (λ_ _=>.stuck) (λ_ _=>.stuck) (λ_ _=>.stuck) (λ_=>.stuck) (λ_ _=>.stuck) (λv=>Fq G C v as σ) (λk=>tA G k as σ) .stuck ⟨⟩ (λ_ _ _ _=>⟨⟩) v
def qK(σ:AH)(a:Addr)(d m:Nat):Option Addr:=opt (G.cl.get a) none λc=>(σ.get d).on none (λ_=>none) (λ_ _=>none) (λes=>opt (aC es m) (gV c.ms m) λ_=>none) λ_ _=>none
def kr(v:AV)(m:Nat)(σ:AH):Option Addr:=v.lW none (λa d=>qK G σ a d m) λ_=>none
def Be(m:Nat):Bool:=Nat.beq m OR||(Nat.beq m JY||(Nat.beq m JT||(Nat.beq m xx||Nat.beq m JK)))
def uG(m:Nat):Bool:=Nat.beq m JA||(Nat.beq m K4||Nat.beq m JC)
def Cn(m:Nat):Bool:=Nat.beq m Kb
def Res.bindC{β γ:Type}(r:Res β)(ok:Bool)(f:β->AH->Res γ):Res γ:=Res.rec (motive:=λ_=>Res γ) f (λl σ=>ak ok (.exc l σ) .stuck) .stuck r
def Y7(v:AV)(m:Nat)(as:AH->Res (List AV))(σ:AH):Res AV:=v.on .stuck (λ_ _=>.stuck) (λq s=>(as σ).bindC (Be m) λargs σ=>jf m q s args σ) (λ_=>.stuck)
 λo=>(σ.get o).on .stuck (λ_=>(as σ).bindC (uG m) λargs σ=>zh σ o λl=>rN m o l args σ) (λ_ _=>(as σ).bindC (Cn m) λargs σ=>xd σ o λu es=>Cf G.U m u es args σ) (λ_=>.stuck) λ_ _=>.stuck
structure Den where
 v:AH->Res AV
 b:AH->Res Bool
 l:AH->Res (List AV)
 gm:AH->Res AV
 qT:AH->Res AV
 gP:AH->Res Bool
 tu:AH->Res Bool
 last:Bool
def lit(v:AH->Res AV):Den:=⟨v,λσ=>(v σ).bind AY,λ_=>.stuck,λ_=>.stuck,λ_=>.stuck,λ_=>.stuck,λ_=>.stuck,false⟩
def bol(b:AH->Res Bool):Den:=⟨λσ=>(b σ).bind λx σ=>.ok (.bool x) σ,b,λ_=>.stuck,λ_=>.stuck,λ_=>.stuck,λ_=>.stuck,λ_=>.stuck,false⟩
noncomputable def je: List AV->Option (List (List Nat×AV))
 |[]=>some []
 |.str q k::v::l=>match Nat.beq q 0,je l with
  |true,some r=>some ((k,v)::r)
  |_,_=>none
 |_=>none
def rO(s:List Nat):List AV:=mapR (λch=>.str 0 [ch]) s
abbrev Nx:=Nat->AH->Res (Option AV)
def uJ(l:List AV)(i:Nat)(σ:AH):Res (Option AV):=.ok (dF l i) σ
def Ci(o i:Nat)(σ:AH):Res (Option AV):=zh σ o λl=>.ok (dF l i) σ
def ix(es:List (List Nat×AV)):Bool:=List.rec (motive:=λ_=>Bool) true (λe l ih=>ak (opt (getD l e.1) true λ_=>false) ih false) es
def uF(o k n i:Nat)(σ:AH):Res (Option AV):=(σ.get o).xR .stuck λu k' es=>ak u .stuck (ak (Nat.beq k k') (ak (Nat.beq n (len es)) (ak (ix es) (.ok (dF (jt es) i) σ) .stuck) .stuck) .stuck)
def lH(v:AV)(σ:AH):Option Nx:=v.on none (λ_ _=>none) (λq s=>ak (Nat.beq q 0) (some (uJ (rO s))) none) (λl=>some (uJ l))
 λo=>ao.rec (motive:=λ_=>Option Nx) (λ_=>some (Ci o)) (λ_ k es=>some (uF o k (len es))) (λ_=>none) (λ_ _ _=>none) none (λ_=>none) (σ.get o)
def ym(f:AV->AH->Res (Option AV))(nx:Nx)(n:Nat):Nat->List AV->AH->Res (List AV):=Nat.rec (motive:=λ_=>Nat->List AV->AH->Res (List AV)) (λ_ _ _=>.stuck)
 (λ_ ih i acc σ=>(nx i σ).bind λy σ=>opt y (.ok acc σ) λy=>(f y σ).bind λr σ=>ih (Nat.succ i) (opt r acc λz=>app acc [z]) σ) n
def aY(fv:List Nat)(ρ:az):az:=List.rec (motive:=λ_=>az) [] (λx _ ih=>opt (aC ρ x) ih λv=>(x,v)::ih) fv
def hH{β:Type}(r:Res β):Res β:=Res.rec (motive:=λ_=>Res β) .ok (λ_ _=>.stuck) .stuck r
def yi(xs:List Nat)(l:List AV)(ρ:az):az:=List.rec (motive:=λ_=>List AV->az->az) (λ_ ρ=>ρ) (λx _ ih l ρ=>zf l ρ λv t=>ih t (zd ρ x v)) xs l ρ
def uw(xs:List Nat)(v:AV)(ρ:az):Option az:=v.on none (λ_ _=>none) (λ_ _=>none) (λl=>ak (Nat.beq (len xs) (len l)) (some (yi xs l ρ)) none) λ_=>none
section
abbrev RD:=az->Den
def mV(v:AV)(_:az):Den:=lit λσ=>.ok v σ
def rZ(x:Nat)(ρ:az):Den:=lit λσ=>opt (aC ρ x) .stuck λv=>.ok v σ
def tj(d:RD)(a:Nat)(ρ:az):Den:=lit λσ=>((d ρ).v σ).bind λv σ=>Hr v a σ
def Ep(d f:RD)(ρ:az):Den:=lit λσ=>((d ρ).v σ).bind λv σ=>((f ρ).v σ).bind λw σ=>Kc G.U v w σ
def Ew(d f g:RD)(ρ:az):Den:=lit λσ=>((d ρ).v σ).bind λv σ=>((f ρ).v σ).bind λw σ=>((g ρ).v σ).bind λx σ=>rS v w x σ
def js(v:AV)(σ:AH):Res AV:=sh v λo=>zh σ o λl=>ak (Nat.ble (len l) 100000) (ye (.list l.reverse) σ) .stuck
def xG(d:RD)(ρ:az):Den:=lit λσ=>((d ρ).v σ).bind λv σ=>js v σ
def Em(op:Nat)(d f:RD)(ρ:az):Den:=lit λσ=>((d ρ).v σ).bind λv σ=>((f ρ).v σ).bind λw σ=>bh op v w σ
def Kd(v:AV)(σ:AH):Res AV:=l5 v λq i=>ak (Nat.beq q 0) (.ok (.int 0 (-i)) σ) .stuck
def Et(d:RD)(ρ:az):Den:=lit λσ=>((d ρ).v σ).bind λv σ=>Kd v σ
def Eu(d:RD)(ρ:az):Den:=⟨λ_=>.stuck,λσ=>((d ρ).b σ).bind λb σ=>.ok (!b) σ,λ_=>.stuck,λ_=>.stuck,λ_=>.stuck,λ_=>.stuck,λ_=>.stuck,false⟩
def xE(d:RD)(op:Nat)(f:RD)(ρ:az):Den:=bol λσ=>((d ρ).v σ).bind λv σ=>((f ρ).v σ).bind λw σ=>a_ G.U op v w σ
def K6(d:RD)(o:Nat)(f:RD)(o':Nat)(g:RD)(ρ:az):Den:=bol λσ=>((d ρ).v σ).bind λv σ=>((f ρ).v σ).bind λw σ=>(a_ G.U o v w σ).bind λr σ=>ak r (((g ρ).v σ).bind λx σ=>a_ G.U o' w x σ) (.ok false σ)
noncomputable def Ek(d:RD)(ρ:az):Den:=⟨(d ρ).gm,(d ρ).gP,λ_=>.stuck,λ_=>.stuck,λ_=>.stuck,λ_=>.stuck,λ_=>.stuck,false⟩
noncomputable def RS(d:RD)(ρ:az):Den:=⟨(d ρ).qT,(d ρ).tu,λ_=>.stuck,λ_=>.stuck,λ_=>.stuck,λ_=>.stuck,λ_=>.stuck,false⟩
def Er(d f g:RD)(ρ:az):Den:=⟨λσ=>((d ρ).b σ).bind λr σ=>ak r ((f ρ).v σ) ((g ρ).v σ),λσ=>((d ρ).b σ).bind λr σ=>ak r ((f ρ).b σ) ((g ρ).b σ),
 λ_=>.stuck,λ_=>.stuck,λ_=>.stuck,λ_=>.stuck,λ_=>.stuck,false⟩
def Ex(d:RD)(ρ:az):Den:=lit λσ=>((d ρ).l σ).bind λl σ=>.ok (.tup l) σ
def Es(d:RD)(ρ:az):Den:=lit λσ=>((d ρ).l σ).bind λl σ=>ye (.list l) σ
def rE(k q:Nat)(key:List Nat)(v:AV)(σ:AH):Res Unit:=pl q ((σ.get k).xR .stuck λu e es=>ak (ak u (yw G.U key) false) .stuck (ak (Nat.ble (len es) 1000) (.ok () (σ.put k (.dict u (opt (getD es key) (Nat.succ e) λ_=>e) (uA es key v)))) .stuck))
def Hx(o:Nat):List (List Nat×AV)->AH->Res Unit
 |[],σ=>.ok () σ
 |p::l,σ=>(rE G o 0 p.1 p.2 σ).bind λ_ σ=>Hx o l σ
def Ct(o:Nat)(ps:List (List Nat×AV))(σ:AH):Res AV:=(Hx G o ps σ).bind λ_ σ=>.ok (.obj o) σ
def qI(d:RD)(ρ:az):Den:=lit λσ=>((d ρ).l (σ.push (.dict false 0 []))).bind λl ai=>opt (je l) .stuck λps=>Ct G σ.n ps ai
def tl(d g:RD)(ρ:az):Den:=lit λσ=>((d ρ).v σ).bind λv σ=>Vn G C v (g ρ).l σ
def tm(d:RD)(m:Nat)(g:RD)(ρ:az):Den:=lit λσ=>((d ρ).v σ).bind λv σ=>opt (kr G v m σ) (Y7 G v m (g ρ).l σ) λf=>((g ρ).l σ).bind λl σ=>C f (v::l) σ
def xy(cond elt:Den)(σ:AH):Res (Option AV):=(cond.b σ).bind λr σ=>ak r ((elt.v σ).bind λz σ=>.ok (some z) σ) (.ok none σ)
def Eo(elt:RD)(x:Nat)(fv:List Nat)(it cond:RD)(ρ:az):Den:=lit λσ=>((it ρ).v σ).bind λv σ=>opt (lH v σ) .stuck λnx=>
 (ym (λy σ=>hH (xy (cond (zd (aY fv ρ) x y)) (elt (zd (aY fv ρ) x y)) σ)) nx G.fu 0 [] σ).bind λr σ=>ye (.list r) σ
def xF(elt:RD)(xs fv:List Nat)(it cond:RD)(ρ:az):Den:=lit λσ=>((it ρ).v σ).bind λv σ=>opt (lH v σ) .stuck λnx=>
 (ym (λy σ=>opt (uw xs y (aY fv ρ)) .stuck λρ=>hH (xy (cond ρ) (elt ρ) σ)) nx G.fu 0 [] σ).bind λr σ=>ye (.list r) σ
noncomputable def jw(_:az):Den:=⟨λ_=>.stuck,λ_=>.stuck,λσ=>.ok [] σ,λ_=>.stuck,λ_=>.stuck,λσ=>.ok true σ,λσ=>.ok false σ,true⟩
def pF(d g:Den)(σ:AH):Res AV:=ak g.last (d.v σ) ((d.v σ).bind λv σ=>(AY v σ).bind λr σ=>ak r (g.gm σ) (.ok v σ))
def I0(d g:Den)(σ:AH):Res AV:=ak g.last (d.v σ) ((d.v σ).bind λv σ=>(AY v σ).bind λr σ=>ak r (.ok v σ) (g.qT σ))
def CN(d g:Den)(σ:AH):Res (List AV):=(d.v σ).bind λv σ=>(g.l σ).bind λl σ=>.ok (v::l) σ
def KL(d g:Den)(σ:AH):Res Bool:=(d.b σ).bind λr σ=>ak r (g.gP σ) (.ok false σ)
def Yn(d g:Den)(σ:AH):Res Bool:=(d.b σ).bind λr σ=>ak r (.ok true σ) (g.tu σ)
def jv(d g:RD)(ρ:az):Den:=⟨λ_=>.stuck,λ_=>.stuck,CN (d ρ) (g ρ),pF (d ρ) (g ρ),I0 (d ρ) (g ρ),KL (d ρ) (g ρ),Yn (d ρ) (g ρ),false⟩
end
def ev(e:ME):az->Den:=ME.rec (motive:=λ_=>RD)
 (mV .none) (mV (.bool true)) (mV (.bool false)) (λi=>mV (.int 0 i)) (λs=>mV (.str 0 s)) (λx=>rZ x) (λ_ v=>mV v)
 (λ_ a d=>tj d a) (λ_ _ d f=>Ep G d f) (mV .none) (λ_ _ _ d f g=>Ew d f g) (λ_ d=>xG d) (λop _ _ d f=>Em op d f) (λ_ d=>Et d) (λ_ d=>Eu d)
 (λ_ op _ d f=>xE G d op f) (λ_ o _ o' _ d f g=>K6 G d o f o' g) (λ_ d=>Ek d) (λ_ d=>RS d) (λ_ _ _ d f g=>Er d f g) (λ_ d=>Ex d) (λ_ d=>Es d) (λ_ d=>qI G d)
 (λ_ _ d g=>tl G C d g) (λ_ m _ d g=>tm G C d m g) (λ_ x fv _ _ d it c=>Eo G d x fv it c) (λ_ xs fv _ _ d it c=>xF G d xs fv it c) jw (λ_ _ d g=>jv d g) e
inductive Fl where
 |next
 |cont
 |ret (v:AV)
inductive XR where
 |ok (f:Fl) (ρ:az) (σ:AH)
 |exc (l:Nat) (ρ:az) (σ:AH)
 |stuck
def Res.bO{β:Type}(r:Res β)(ρ:az)(f:β->AH->XR):XR:=Res.rec (motive:=λ_=>XR) f (λl σ=>.exc l ρ σ) .stuck r
def XR.on{β:Type}(x:XR)(next:az->AH->β)(ret:AV->az->AH->β)(exc:Nat->az->AH->β)(stuck:β):β:=
 XR.rec (motive:=λ_=>β) (λf ρ σ=>Fl.rec (motive:=λ_=>β) (next ρ σ) (next ρ σ) (λv=>ret v ρ σ) f) exc stuck x
def XR.seq(x:XR)(f:az->AH->XR):XR:=XR.rec (motive:=λ_=>XR) (λfl ρ σ=>Fl.rec (motive:=λ_=>XR) (f ρ σ) (.ok .cont ρ σ) (λv=>.ok (.ret v) ρ σ) fl) .exc .stuck x
def XR.turn(x:XR)(f:az->AH->XR):XR:=x.on f (λv ρ σ=>.ok (.ret v) ρ σ) .exc .stuck
def uS(test:az->AH->Res Bool)(body:az->AH->XR)(n:Nat):az->AH->XR:=Nat.rec (motive:=λ_=>az->AH->XR) (λ_ _=>.stuck)
 (λ_ ih ρ σ=>(test ρ σ).bO ρ λb σ=>Bool.rec (motive:=λ_=>XR) (.ok .next ρ σ) ((body ρ σ).on ih (λv ρ σ=>.ok (.ret v) ρ σ) .exc .stuck) b) n
def mA(body:AV->az->AH->XR)(l:List AV):az->AH->XR:=List.rec (motive:=λ_=>az->AH->XR) (λρ σ=>.ok .next ρ σ) (λv _ ih ρ σ=>(body v ρ σ).turn ih) l
def nh(body:AV->az->AH->XR)(o:Nat)(n:Nat):Nat->az->AH->XR:=Nat.rec (motive:=λ_=>Nat->az->AH->XR) (λ_ _ _=>.stuck)
 (λ_ ih i ρ σ=>(σ.get o).on .stuck (λl=>opt (dF l i) (.ok .next ρ σ) λv=>(body v ρ σ).turn (ih (Nat.succ i))) (λ_ _=>.stuck) (λ_=>.stuck) λ_ _=>.stuck) n
def forA(body:AV->az->AH->XR)(v:AV)(ρ:az)(σ:AH):XR:=v.on .stuck (λ_ _=>.stuck) (λq s=>ak (Nat.beq q 0) (mA body (rO s) ρ σ) .stuck) (λl=>mA body l ρ σ)
 λo=>(σ.get o).on .stuck (λ_=>nh body o G.fu 0 ρ σ) (λ_ _=>.stuck) (λ_=>.stuck) λ_ _=>.stuck
noncomputable def j7(n i:Nat):List AV:=Nat.rec (motive:=λ_=>Nat->List AV) (λ_=>[]) (λ_ ih i=>.int 0 (.ofNat i)::ih (Nat.succ i)) n i
abbrev XD:=az->AH->XR
section
variable(ev:ME->RD)
noncomputable def ji(ρ:az)(σ:AH):XR:=.ok .next ρ σ
def lI(a b:XD)(ρ:az)(σ:AH):XR:=(a ρ σ).seq b
def Co(e:RD)(ρ:az)(σ:AH):XR:=((e ρ).v σ).bO ρ λ_ σ=>.ok .next ρ σ
def r_(x:Nat)(e:RD)(ρ:az)(σ:AH):XR:=((e ρ).v σ).bO ρ λv σ=>.ok .next (zd ρ x v) σ
def uh(o:RD)(a:Nat)(e:RD)(ρ:az)(σ:AH):XR:=((e ρ).v σ).bO ρ λv σ=>((o ρ).v σ).bO ρ λw σ=>(Ph w a v σ).bO ρ λ_ σ=>.ok .next ρ σ
def GD(k q:Nat)(i:Int)(v:AV)(σ:AH):Res Unit:=pl q (j4 i (λn=>zh σ k λl=>ak (Nat.blt n (len l)) (ak (Nat.blt n 1000) (.ok () (σ.put k (.list (Ab l v n)))) .stuck) .stuck) λ_=>.stuck)
def JF(w j v:AV)(σ:AH):Res Unit:=sh w λk=>j.on .stuck (λq i=>GD k q i v σ) (λq key=>rE G k q key v σ) (λ_=>.stuck) λ_=>.stuck
def ui(o i e:RD)(ρ:az)(σ:AH):XR:=((e ρ).v σ).bO ρ λv σ=>((o ρ).v σ).bO ρ λw σ=>((i ρ).v σ).bO ρ λj σ=>(JF G w j v σ).bO ρ λ_ σ=>.ok .next ρ σ
def K3(xs:List Nat)(e:RD)(ρ:az)(σ:AH):XR:=((e ρ).v σ).bO ρ λv σ=>opt (uw xs v ρ) .stuck λρ=>.ok .next ρ σ
def Bf(v w:AV)(σ:AH):Res AV:=v.on .stuck (λ_ _=>HC v w σ) (λ_ _=>HC v w σ) (λ_=>.stuck) λ_=>.stuck
def HD(x:Nat)(e:RD)(ρ:az)(σ:AH):XR:=opt (aC ρ x) .stuck λv=>((e ρ).v σ).bO ρ λw σ=>(Bf v w σ).bO ρ λr σ=>.ok .next (zd ρ x r) σ
def uj(o:RD)(a:Nat)(e:RD)(ρ:az)(σ:AH):XR:=((o ρ).v σ).bO ρ λu σ=>(Hr u a σ).bO ρ λv σ=>((e ρ).v σ).bO ρ λw σ=>(Bf v w σ).bO ρ λr σ=>(Ph u a r σ).bO ρ λ_ σ=>.ok .next ρ σ
def Hb(t:RD)(a b:XD)(ρ:az)(σ:AH):XR:=((t ρ).b σ).bO ρ λr σ=>ak r (a ρ σ) (b ρ σ)
def uO(t:RD)(b:XD)(ρ:az)(σ:AH):XR:=uS (λρ σ=>(t ρ).b σ) b G.fu ρ σ
def H7(x:Nat)(it:RD)(b:XD)(ρ:az)(σ:AH):XR:=((it ρ).v σ).bO ρ λv σ=>forA G (λv ρ σ=>b (zd ρ x v) σ) v ρ σ
def H9(xs:List Nat)(it:RD)(b:XD)(ρ:az)(σ:AH):XR:=((it ρ).v σ).bO ρ λv σ=>forA G (λv ρ σ=>opt (uw xs v ρ) .stuck λρ=>b ρ σ) v ρ σ
def H8(x:Nat)(e:RD)(b:XD)(ρ:az)(σ:AH):XR:=((e ρ).v σ).bO ρ λv σ=>match v with
 |.int q (.ofNat n)=>match Nat.beq q 0&&Nat.ble n 1000000 with
  |true=>mA (λv ρ σ=>b (zd ρ x v) σ) (j7 n 0) ρ σ
  |false=>.stuck
 |_=>.stuck
def AS(e:RD)(ρ:az)(σ:AH):XR:=((e ρ).v σ).bO ρ λv σ=>.ok (.ret v) ρ σ
noncomputable def ur(ρ:az)(σ:AH):XR:=.ok (.ret .none) ρ σ
def Qt(σ:AH)(l:Nat){β:Type}(e:β)(f:Addr->β):β:=(σ.get l).on e (λ_=>e) (λ_ _=>e) (λ_=>e) λa _=>f a
def Ql(e:RD)(ρ:az)(σ:AH):XR:=((e ρ).v σ).bO ρ λv σ=>v.lW .stuck (λ_ _=>.stuck) λl=>(σ.get l).xS .stuck λC d k=>ak (Nat.beq k 0) (.exc l ρ (σ.put l (.exc C d 1))) .stuck
def G_(x:Nat)(r:XR):XR:=XR.rec (motive:=λ_=>XR) (λf ρ σ=>.ok f (lJ ρ x) σ) (λl ρ σ=>.exc l (lJ ρ x) σ) .stuck r
def D7{β:Type}(v:AV)(e:β)(f:Value->β):β:=
 AV.rec (motive_1:=λ_=>β) (motive_2:=λ_=>PUnit) e (λ_=>e) (λ_ _=>e) (λ_ _=>e) (λ_ _=>e) (λ_=>e) (λ_ _=>e) f (λ_=>e) e ⟨⟩ (λ_ _ _ _=>⟨⟩) v
def chain(l l':Nat)(σ:AH)(f:AH->XR):XR:=(σ.get l).xS .stuck λ_ _ k=>(σ.get l').xS .stuck λC d k'=>ak (Nat.blt k 2) (ak (Nat.beq k' 0) (ak (Nat.beq l l') .stuck (f (σ.put l' (.exc C d 2)))) .stuck) .stuck
def Hj(e:RD)(l:Nat)(ρ:az)(σ:AH):XR:=((e ρ).v σ).bO ρ λv σ=>v.lW .stuck (λ_ _=>.stuck) λl'=>chain l l' σ λσ=>.exc l' ρ σ
def Cb(r:Bool)(e:RD)(l:Nat)(ρ:az)(σ:AH):XR:=ak r (Hj e l ρ σ) (AS e ρ σ)
def Qn(cls:RD)(x:Nat)(r:Bool)(e:RD)(l:Nat)(ρ:az)(σ:AH):XR:=((cls ρ).v σ).bO ρ λv σ=>D7 v .stuck λv=>QP v .stuck λa=>Qt σ l .stuck λa'=>ak (Nat.beq a a') (G_ x (Cb r e l (zd ρ x (.obj l)) σ)) .stuck
def o9(b:XD)(cls:RD)(x:Nat)(r:Bool)(e:RD)(ρ:az)(σ:AH):XR:=XR.rec (motive:=λ_=>XR) .ok (Qn cls x r e) .stuck (b ρ σ)
noncomputable def uo(ρ:az)(σ:AH):XR:=.ok .cont ρ σ
end
def ex(CQ:Call)(m:MS):az->AH->XR:=MS.rec (motive:=λ_=>XD)
 ji (λ_ _ a b=>lI a b) (λe=>Co (ev G C e)) (λx e=>r_ x (ev G C e)) (λo a e=>uh (ev G C o) a (ev G C e)) (λo i e=>ui G (ev G C o) (ev G C i) (ev G C e))
 (λxs e=>K3 xs (ev G C e)) (λx e=>HD x (ev G C e)) (λo a e=>uj (ev G C o) a (ev G C e)) (λt _ _ a b=>Hb (ev G C t) a b) (λt _ b=>uO G (ev G C t) b)
 (λx it _ b=>H7 G x (ev G C it) b) (λxs it _ b=>H9 G xs (ev G C it) b) (λx e _ b=>H8 x (ev G C e) b) (λe=>AS (ev G C e)) ur (λe=>Ql (ev G C e))
 (λ_ cls x r e b=>o9 b (ev G.quiet CQ cls) x r (ev G.quiet CQ e)) uo ji m
def xb(n:Nat)(ps:List Nat)(ds args:List AV):Option az:=List.rec (motive:=λ_=>Nat->List AV->List AV->Option az) (λ_ _ args=>zf args (some []) λ_ _=>none)
 (λp _ ih n ds args=>zf args (ak (Nat.ble (Nat.succ n) (len ds)) (opt (dF ds (len ds - Nat.succ n)) none λd=>opt (ih (n - 1) ds []) none λr=>some ((p,d)::r)) none) λa t=>opt (ih (n - 1) ds t) none λr=>some ((p,a)::r)) ps n ds args
def jM(x:XR):Res AV:=x.on (λ_ σ=>.ok .none σ) (λv _ σ=>.ok v σ) (λl _ σ=>.exc l σ) .stuck
def runF(CQ:Call)(f:Fn)(args:List AV)(σ:AH):Res AV:=opt (xb (len f.ps - 1) f.ps f.ds args) .stuck λρ=>jM (ex G C CQ f.body ρ σ)
end
noncomputable def oF: Call:=λ_ _ _=>.stuck
def GL(G:Gl)(C:Call)(a:Addr)(args:List AV)(σ:AH):Res AV:=opt (G.fq.get a) .stuck λf=>runF G.quiet C oF f args σ
def y9(G:Gl)(n:Nat):Call:=Nat.rec (motive:=λ_=>Call) oF (λ_ C=>GL G C) n
def step(G:Gl)(O:Addr->List AV->AH->Option (Res AV))(C:Call)(a:Addr)(args:List AV)(σ:AH):Res AV:=opt (O a args σ) (opt (G.runs.get a) .stuck λr=>r C (y9 G 3) args σ) λr=>r
def zn(G:Gl)(O:Addr->List AV->AH->Option (Res AV))(n:Nat):Call:=Nat.rec (motive:=λ_=>Call) oF (λ_ C=>step G O C) n
end
section
open PySem PySem.W PySem.Calls PyProof.Rows
theorem xm{β:Type}{b:Bool}{t e:β}(h:b=true):ak b t e=t:=by subst h;rfl
theorem zl{β:Type}{b:Bool}{t e:β}(h:b=false):ak b t e=e:=by subst h;rfl
theorem xu{β:Type}(b:Bool)(t e:β):(b=true/\ak b t e=t)\/(b=false/\ak b t e=e):=by cases b;exact .inr ⟨rfl,rfl⟩;exact .inl ⟨rfl,rfl⟩
theorem zb{α:Type}(l:List α):len l=l.length:=by
 induction l with
 |nil=>rfl
 |cons a l ih=>show Nat.succ (len l)=_;rw[ih];rfl
theorem j9{α:Type}(l m:List α):app l m=l++m:=by
 induction l with
 |nil=>rfl
 |cons a l ih=>show a::app l m=_;rw[ih];rfl
theorem jm{α:Type}(l:List α)(n:Nat):dF l n=l[n]?:=by
 induction l generalizing n with
 |nil=>rfl
 |cons a l ih=>induction n using nC with
  |zero=>rfl
  |succ n=>show dF l n=_;rw[ih];rfl
theorem Wx(x:Nat):aC [] x=none:=rfl
theorem pj(p:Nat×AV)(l:List (Nat×AV))(x:Nat):aC (p::l) x=if p.1=x then some p.2 else aC l x:=by
 show(Bool.rec _ _ (Nat.beq p.1 x):Option AV)=_
 by_cases q:p.1=x
 ·have:Nat.beq p.1 x=true:=by rw[q];exact Nat.beq_refl x
  rw[this,if_pos q]
 ·have:Nat.beq p.1 x=false:=by
   induction e:Nat.beq p.1 x with
   |false=>rfl
   |true=>exact w1 (w4 e) q
  rw[this,if_neg q];rfl
theorem zjo(x:Nat)(v:AV):zd [] x v=[(x,v)]:=rfl
theorem VX(p:Nat×AV)(l:List (Nat×AV))(x:Nat)(v:AV):zd (p::l) x v=if p.1=x then (x,v)::l else p::zd l x v:=by
 show(Bool.rec _ _ (Nat.beq p.1 x):List (Nat×AV))=_
 by_cases q:p.1=x
 ·have:Nat.beq p.1 x=true:=by rw[q];exact Nat.beq_refl x
  rw[this,if_pos q]
 ·have:Nat.beq p.1 x=false:=by
   induction e:Nat.beq p.1 x with
   |false=>rfl
   |true=>exact w1 (w4 e) q
  rw[this,if_neg q];rfl
theorem Py(a b:Nat)(t:Tok):(Value.str (nm a) t).isStr (nm b)=decide (a=b):=by
 show((nm a)==(nm b))=_
 by_cases q:a=b
 ·subst q;simp
 ·rw[decide_eq_false q]
  exact beq_eq_false_iff_ne.mpr λe=>q (Cg e)
section
variable{c:Cx}{μ:Nat->Addr}{n:Nat}{h:Heap}
theorem fh.length{es:List (Nat×AV)}{ents:List DictEntry}(x:fh c μ n h es ents):ents.length=es.length:=by
 induction x with
 |nil=>rfl
 |cons _ _ ih=>simp[ih]
theorem fh.get{es:List (Nat×AV)}{ents:List DictEntry}(x:fh c μ n h es ents)(a:Nat):
  match aC es a with | some y=>∃v,getL (nm a) ents=some (some v)/\VR c μ n h y v | none=>getL (nm a) ents=some none:=by
 have nr:ents.any (·.refKey)=false:=by
  induction x with
  |nil=>rfl
  |cons _ _ ih=>rw[List.any_cons,ih];rfl
 have key:match aC es a with | some y=>∃e,ents.find? (·.key.isStr (nm a))=some e/\VR c μ n h y e.val | none=>ents.find? (·.key.isStr (nm a))=none:=by
  clear nr
  induction x with
  |nil=>rw[Wx];rfl
  |@cons a' t y v l es hv _ ih=>
   rw[pj,List.find?_cons]
   by_cases q:a'=a
   ·subst q
    rw[if_pos rfl,Py,decide_eq_true rfl]
    exact aT _ rfl hv
   ·rw[if_neg q,Py,decide_eq_false q]
    exact ih
 unfold getL
 split at key
 ·refine au key λe he hv=>?_
  rw[he];exact aT _ rfl hv
 ·rw[key,nr];rfl
theorem fh.noRef{es:List (Nat×AV)}{ents:List DictEntry}(x:fh c μ n h es ents):ents.any (·.refKey)=false:=by
 induction x with
 |nil=>rfl
 |cons _ _ ih=>rw[List.any_cons,ih];rfl
theorem fh.put{es:List (Nat×AV)}{ents:List DictEntry}(x:fh c μ n h es ents)(a:Nat){y:AV}{v:Value}(hy:VR c μ n h y v)(t:Tok):
  fh c μ n h (zd es a y) (putL (nm a) (PyData.keyHash c.w.params (nm a)) (.str (nm a) t) v ents):=by
 induction x with
 |nil=>exact .cons hy .nil
 |@cons a' t' y' v' l es hv hl ih=>
  rw[VX]
  unfold putL
  rw[Py]
  by_cases q:a'=a
  ·subst q
   rw[if_pos rfl,decide_eq_true rfl,if_pos rfl]
   exact .cons hy hl
  ·rw[if_neg q,decide_eq_false q,if_neg (by decide)]
   exact .cons hv ih
end
end
section
open PySem PySem.W PySem.Calls PyProof.Rows
structure fg (K:Frag) (C:Addr):Prop where
 ga:findIn K (.ref C) "__getattribute__" = some (some (.builtin "object.__getattribute__"))
 gn:findIn K (.ref C) "__getattr__" = some none
 sa:findIn K (.ref C) "__setattr__" = some (some (.builtin "object.__setattr__"))
 hd:hasDictIn K C=true
 po:plainOver K C=true
noncomputable def qV(K:Frag)(attr:Option Value):Bool:=match attr with
 |none=>true
 |some a=>(match specialIn K a "__get__" with | some none=>true | some (some _)=>takesIn K a==some false | none=>false)
theorem Vu{K:Frag}{C:Addr}{name:Str}{od:Obj}{v:Value}{attr:Option Value}(hh:hasDictIn K C=true)(ha:findIn K (.ref C) name=some attr)(hn:qV K attr=true)(hl:lookIn name od=some (some v)):
  findObj K C (some od) name=some (.value v):=by
 refine au (any_some hh) λcd hc hd=>?_
 unfold findObj
 rw[hc,Option.bind_some,ha,Option.bind_some]
 have ho:PySem.W.ownOf cd (some od) name=some (some v):=by unfold PySem.W.ownOf;rw[if_pos hd];exact hl
 induction attr with
 |none=>simp[ho]
 |some a=>
  unfold qV at hn
  dsimp only at hn
  split at hn
  ·rename_i g;simp[g,ho]
  ·rename_i f g
   have t:takesIn K a=some false:=beq_iff_eq.mp hn
   simp[g,t,ho]
  ·exact FT hn
structure bf (K:Frag) (C:Addr) (x:Str):Prop where
 find:∃attr,findIn K (.ref C) x=some attr/\qV K attr=true
 take:takerIn K C x=some none
noncomputable def pP(K:Frag)(C:Addr):Bool:=findIn K (.ref C) "__getattribute__"==some (some (.builtin "object.__getattribute__"))&&(findIn K (.ref C) "__getattr__"==some none
 &&(findIn K (.ref C) "__setattr__"==some (some (.builtin "object.__setattr__"))&&(hasDictIn K C&&plainOver K C)))
def B5(K:Frag)(C:Addr)(x:Str):Bool:=(match findIn K (.ref C) x with | some attr=>qV K attr | none=>false)&&takerIn K C x==some none
theorem zmq{K:Frag}{C:Addr}(h:pP K C=true):fg K C:=by
 unfold pP at h
 simp only[Bool.and_eq_true,beq_iff_eq] at h
 exact⟨h.1,h.2.1,h.2.2.1,h.2.2.2.1,h.2.2.2.2⟩
theorem JE{K:Frag}{C:Addr}{x:Str}(h:B5 K C x=true):bf K C x:=by
 unfold B5 at h
 simp only[Bool.and_eq_true,beq_iff_eq] at h
 refine⟨?_,h.2⟩
 have:=h.1
 split at this
 ·exact aT _ (by assumption) this
 ·exact FT this
theorem VR.handed{c:Cx}{μ:Nat->Addr}{n:Nat}{h:Heap}{a:AV}{v:Value}(x:VR c μ n h a v):handedIn v=true:=by
 induction x using vC with
 |con _ e=>exact e
 |bi k=>match k with
  |0 | 1 | 2 | 3 | 4 | 5 | 6 | 7 | 8=>exact(by decide)
  |k+9=>rfl
 |_=>rfl
section
variable{prog:Program}{c:Cx}{A:Around}{K:Frag}{μ:Nat->Addr}{σ:AH}{s:Shared}{C:Addr}{d a:Nat}{x:Addr}
theorem HR.inst(H:HR c μ σ s.heap)(hd:d < σ.n)(hx:s.heap.get? x=some (instObj C (μ d))){es:List (Nat×AV)}(e:σ.get d = .ns es):
  ∃ents k,fh c μ σ.n s.heap es ents/\s.heap.get? (μ d)=some (dictOf ents k)/\InstAt s.heap x (instObj C (μ d)) C (some (dictOf ents k)):=by
 exact H.M5 hd e λ_ _ ho r=>⟨_,_,r,ho,⟨hx,rfl,rfl,ho⟩⟩
theorem zgg(H:HR c μ σ s.heap)(X:K.In c.base)(ck:fg K C)(nk:bf K C (nm a))(hd:d < σ.n)(hx:s.heap.get? x=some (instObj C (μ d))):
  WP prog c A (RV c) (getAttr (.ref x) (nm a) true) (i6 σ d λes=>jx es a σ) μ σ s:=by
 intro ns
 unfold i6 at ns ⊢
 induction e:σ.get d with
 |ns es=>
  rw[e] at ns
  change jx es a σ≠.stuck at ns
  change wpAny _ _ _ (PQ c (RV c) (jx es a σ) μ σ s) (PE c (jx es a σ) μ σ s) s
  refine dC (H.inst hd hx e) λents k r ho I=>?_
  have g:=r.get a
  unfold jx at ns ⊢
  induction q:aC es a with
  |none=>rw[q] at ns;exact w1 rfl ns
  |some y=>
   rw[q] at g
   refine au g λv gv hv=>?_
   refine au nk.find λattr hf hn=>?_
   refine get_value (X.keeps H.keep) I ck.ga (Vu ck.hd hf hn ((lookIn_dict _ _ _).trans gv)) hv.handed ?_
   exact iH y σ μ rfl H (.refl _ _ _) hv (.refl _)
 |_=>rw[e] at ns;exact w1 rfl ns
theorem yK{R:Result->Shared->Prop}(H:HR c μ σ s.heap)(X:K.In c.base)(ck:fg K C)(nk:bf K C (nm a))(hd:d < σ.n)(hx:s.heap.get? x=some (instObj C (μ d))){y:AV}{v:Value}(hy:VR c μ σ.n s.heap y v){es:List (Nat×AV)}(e:σ.get d = .ns es)(le:es.length<=900){tk:Tok}(h:∀h',HR c μ (σ.put d (.ns (zd es a y))) h'->Ext μ σ.n s.heap μ (σ.put d (.ns (zd es a y))).n h'->R (.ok (.ret .none)) { s with heap:=h',toks:=s.toks+1 }):
  codeAny (model prog c.w) A (.call (.builtin "object.__setattr__") ⟨[.ref x,.str (nm a) tk,v],[]⟩) R s:=by
 refine dC (H.inst hd hx e) λents k r ho I=>?_
 have X':=X.keeps H.keep
 refine osa_open X' I ck.po nk.take λb=>?_
 refine au (any_some ck.hd) λcd hc fL=>?_
 refine wg (wh (wg (wg (wpAny_loadPart hx (wg ((looks_clsIn X' hc).here ?_))))))
 rw[fL]
 refine wh (a:=some (μ d)) (wg (wh (wg ?_)))
 unfold nsSet
 refine wg (wg (wpAny_askSetting (wh (wg (wpAny_mkText (wg (wpAny_loadPart ho ?_)))))))
 dsimp only
 have cc:(!ents.toArray.any (·.key.isStr (nm a))&&ents.toArray.any (·.refKey))=false:=by
  rw[List.any_toArray,List.any_toArray,r.noRef,Bool.and_false]
 rw[aRefKeyMayBeTheName_at,cc]
 refine wpAny_updatePart ho ?_
 have U:=H.update (o:=dictOf ents k) (f:=Obj.putName (nm a) (PyData.keyHash c.w.params (nm a)) (.str (nm a) s.toks) v) (a':=.ns (zd es a y)) hd ho (by rw[putName_dict];rfl) (by
  rw[putName_dict]
  exact .ns ((r.mono (wa _) (λ_ _=>rfl) (H.bU hd)).put a (hy.mono (wa _) (λ_ _=>rfl) (H.bU hd)) _))
 refine wg (wpAny_lookBehind (o:=Obj.putName (nm a) (PyData.keyHash c.w.params (nm a)) (.str (nm a) s.toks) v (dictOf ents k)) (Heap.get?_update_self _ ho (by rw[putName_dict];rfl)) ?_ ?_)
 ·rw[putName_dict]
  refine pastItsLine_dict ?_
  have:∀l:List DictEntry,(putL (nm a) (PyData.keyHash c.w.params (nm a)) (.str (nm a) s.toks) v l).length<=l.length+1:=by
   intro l
   induction l with
   |nil=>exact wa _
   |cons p l ih=>
    unfold putL
    split
    ·exact Nat.le_succ _
    ·exact Nat.succ_le_succ ih
  have:=this ents
  rw[r.length] at this
  rw[List.size_toArray,sizeLine_eq];exact fy (Nat.le_trans this (Nat.lt_succ_of_le le)) rfl
 ·exact wh (h _ U.1 U.2)
theorem zg7(H:HR c μ σ s.heap)(X:K.In c.base)(ck:fg K C)(nk:bf K C (nm a))(hd:d < σ.n)(hx:s.heap.get? x=some (instObj C (μ d))){y:AV}{v:Value}(hy:VR c μ σ.n s.heap y v):
  WP prog c A RU (setAttr (.ref x) (nm a) v) (i6 σ d (lx d a y σ)) μ σ s:=by
 intro ns
 unfold i6 at ns ⊢
 induction e:σ.get d with
 |ns es=>
  rw[e] at ns
  change lx d a y σ es≠.stuck at ns
  change wpAny _ _ _ (PQ c RU (lx d a y σ es) μ σ s) (PE c (lx d a y σ es) μ σ s) s
  unfold lx at ns ⊢
  rcases xu (Nat.ble (len es) 900) (Res.ok () (σ.put d (.ns (zd es a y)))) Res.stuck with⟨le,z⟩ | ⟨_,z⟩
  case inr=>rw[z] at ns;exact w1 rfl ns
  rw[z]
  have le':es.length<=900:=by rw[<-zb];exact w5 le
  refine dC (H.inst hd hx e) λents k r ho I=>?_
  refine set_plain (X.keeps H.keep) I ck.sa (yK (s:={ s with toks:=s.toks+1 }) H X ck nk hd hx hy e le' λh' H' X'=>?_)
  exact iH (()) _ μ rfl H' X' trivial (.refl _)
 |_=>rw[e] at ns;exact w1 rfl ns
end
end
section
open PySem PySem.W PySem.Calls PyProof.Rows
noncomputable def pd(sl:List (Str×Value))(p:Str×Value):List (Str×Value):=if (sl.lookup p.1).isNone then sl++[(p.1,p.2)] else sl
theorem Vs{sl:List (Str×Value)}{n:Str}(h:n∈sl.map (·.1)):(sl.lookup n).isSome=true:=by
 induction sl with
 |nil=>cases h
 |cons p l ih=>
  obtain⟨k,v⟩:=p
  rw[List.lookup_cons]
  induction e:n==k with
  |true=>rfl
  |false=>
   rcases w8.mp h with q | q
   ·have:n=k:=q
    rw[this] at e;simp at e
   ·exact ih q
theorem Vx{sl:List (Str×Value)}{n:Str}(h:n∉sl.map (·.1)):sl.lookup n=none:=by
 induction sl with
 |nil=>rfl
 |cons p l ih=>
  obtain⟨k,v⟩:=p
  rw[List.lookup_cons]
  induction e:n==k with
  |true=>exact w1 (by rw[eq_of_beq e];exact .head _) h
  |false=>exact ih λq=>h (.tail _ q)
theorem zi0(l:List (Str×Value))(sl:List (Str×Value))(h:∀p∈l,p.1∈sl.map (·.1)):l.foldl pd sl=sl:=by
 induction l with
 |nil=>rfl
 |cons p l ih=>
  have:pd sl p=sl:=by
   unfold pd
   rw[if_neg]
   have:=Vs (h p (.head _))
   induction q:sl.lookup p.1 with
   |none=>rw[q] at this;exact FT this
   |some _=>simp
  rw[List.foldl_cons,this]
  exact ih λp hp=>h p (.tail _ hp)
theorem zkd(l:List (Str×Value))(sl:List (Str×Value))(nd:((sl++l).map (·.1)).Nodup):l.foldl pd sl=sl++l:=by
 induction l generalizing sl with
 |nil=>simp
 |cons p l ih=>
  have hp:p.1∉sl.map (·.1):=λh=>by
   rw[List.map_append,List.nodup_append] at nd
   exact nd.2.2 _ h _ (List.mem_map_of_mem (.head _)) rfl
  have:pd sl p=sl++[p]:=by
   unfold pd
   rw[Vx hp];rfl
  rw[List.foldl_cons,this,ih _ (by rw[List.append_assoc];exact nd),List.append_assoc]
  rfl
theorem Wt{α β:Type}{f g:α->Option β}:∀{l:List α},(∀a∈l,f a=g a)->l.filterMap f=l.filterMap g
 |[],_=>rfl
 |a::l,h=>by rw[List.filterMap_cons,List.filterMap_cons,h a (.head _),Wt λb hb=>h b (.tail _ hb)]
theorem wB(ns:List Str)(ws:List Value)(e:ns.length=ws.length)(nd:ns.Nodup):ns.filterMap (λn=>((ns.zip ws).lookup n).map (n,·))=ns.zip ws:=by
 induction ns generalizing ws with
 |nil=>rfl
 |cons n ns ih=>
  induction ws using lC with
  |nil=>cases e
  |cons w ws=>
   rw[List.nodup_cons] at nd
   rw[List.zip_cons_cons,List.filterMap_cons,List.lookup_cons_self]
   show(n,w)::_=_
   congr 1
   refine(Wt λk hk=>?_).trans (ih ws (Nat.succ.inj e) nd.2)
   rw[List.lookup_cons]
   have:(k==n)=false:=by
    induction q:k==n with
    |false=>rfl
    |true=>exact w1 (eq_of_beq q▸hk) nd.1
   rw[this]
theorem Va{n v d f k:Nat}(e1:f+d=n)(e2:f+k=v)(h1:v<=n):n=v+(d - k):=by
 subst e1 e2;rw[Nat.add_assoc,Nat.add_sub_of_le (Nat.le_of_add_le_add_left h1)]
theorem zpv(ns:List Str)(vs dl:List Value)(f k:Nat)(nd:ns.Nodup)(hf:f+dl.length=ns.length)(hk:f+k=vs.length)(h1:vs.length<=ns.length):((ns.drop f).zip dl).foldl pd (ns.zip vs)=ns.zip (vs++dl.drop k):=by
 have kl:k<=dl.length:=Nat.le_of_add_le_add_left (a:=f) (by rw[hk,hf];exact h1)
 have lk:(dl.take k).length=k:=by rw[List.length_take];exact Nat.min_eq_left kl
 have ld:(ns.drop f).length=dl.length:=by rw[List.length_drop];exact Nat.sub_eq_of_eq_add (Eq.trans hf.symm (Nat.add_comm _ _))
 have lf:((ns.drop f).take k).length=k:=by rw[List.length_take,ld];exact Nat.min_eq_left kl
 have lv:(ns.take vs.length).length=vs.length:=by rw[List.length_take];exact Nat.min_eq_left h1
 have e2:ns.drop f=(ns.drop f).take k++ns.drop vs.length:=by
  have:=(List.take_append_drop k (ns.drop f)).symm
  rwa [List.drop_drop,hk] at this
 have e3:(ns.drop f).zip dl=((ns.drop f).take k).zip (dl.take k)++(ns.drop vs.length).zip (dl.drop k):=by
  rw[<-List.zip_append (lf.trans lk.symm),<-e2,List.take_append_drop]
 have key:∀r:List Value,ns.zip (vs++r)=(ns.take vs.length).zip vs++(ns.drop vs.length).zip r:=λr=>by
  rw[<-List.zip_append lv,List.take_append_drop]
 have e5:ns.zip vs=(ns.take vs.length).zip vs:=by
  have:=key []
  rwa [List.append_nil,List.zip_nil_right,List.append_nil] at this
 have m0:(ns.zip vs).map (·.1)=ns.take vs.length:=by rw[e5];exact List.map_fst_zip (Nat.le_of_eq lv)
 have e4:ns.zip (vs++dl.drop k)=ns.zip vs++(ns.drop vs.length).zip (dl.drop k):=by rw[key,<-e5]
 have s1:(((ns.drop f).take k).zip (dl.take k)).foldl pd (ns.zip vs)=ns.zip vs:=zi0 _ _ λp hp=>by
  rw[m0,<-hk,<-List.take_append_drop f (ns.take (f+k)),List.drop_take,show f+k - f=k from Nat.add_sub_cancel_left ..]
  exact List.mem_append_right _ (List.of_mem_zip (a:=p.1) (b:=p.2) hp).1
 rw[e3,List.foldl_append,s1,e4]
 exact zkd _ _ (by rw[<-e4,List.map_fst_zip (by rw[List.length_append,List.length_drop];exact Nat.le_of_eq (Va hf hk h1))];exact nd)
theorem zk1(ns:List Str)(vs dl:List Value)(nd:ns.Nodup)(h1:vs.length<=ns.length)(h2:dl.length<=ns.length)(h3:ns.length - dl.length<=vs.length):
  ((ns.drop (ns.length - dl.length)).zip dl).foldl pd (ns.zip vs)=ns.zip (vs++dl.drop (vs.length - (ns.length - dl.length))):=zpv ns vs dl _ _ nd (Nat.sub_add_cancel h2) (Nat.add_sub_cancel' h3) h1
structure gj (p:Arguments) (ns:List Str):Prop where
 pos:p.posonlyargs=[]
 args:p.args.map (·.arg)=ns
 kwo:p.kwonlyargs=[]
 va:p.vararg=none
 kw:p.kwarg=none
 nd:ns.Nodup
theorem Wm{α σ:Type}{M:Model}{A:Around}{E:Value->Shared->Prop}{s:Shared}{Q:σ->Shared->Prop}(g:σ->α->σ)(f:α->σ->Sem (ForInStep σ))(hf:∀a b,f a b=pure (.yield (g b a))):∀(l:List α) (b:σ),Q (l.foldl g b) s->wpAny M A (forIn l b f) Q E s
 |[],b,h=>by rw[List.forIn_nil];exact wh h
 |a::l,b,h=>by
  rw[List.forIn_cons,hf]
  exact wg (wh (Wm g f hf l (g b a) h))
theorem gj.as{p:Arguments}{ns:List Str}(P:gj p ns):∃(u:List Arg) (v:List (Option Expr)) (d:List Expr),p=⟨[],u,none,[],v,none,d⟩/\u.map (·.arg)=ns/\ns.Nodup:=by
 obtain⟨p1,p2,p3,p4,p5,p6⟩:=P
 obtain⟨q1,q2,q3,q4,q5,q6,q7⟩:=p
 obtain rfl:q1=[]:=p1
 obtain rfl:q4=[]:=p3
 obtain rfl:q3=none:=p4
 obtain rfl:q6=none:=p5
 exact wU q2 q5 q7 rfl p2 p6
theorem LP{α:Type}{M:Model}{A:Around}{Q:α->Shared->Prop}{E:Value->Shared->Prop}{s:Shared}{c:Prop}[i:Decidable c]{a b:Sem α}(h:¬c)(k:wpAny M A b Q E s):wpAny M A (ite c a b) Q E s:=if_neg h▸k
theorem ngA{a b:Nat}(h:a<=b):¬((decide (a > b)&&true)=true):=λh'=>Nat.not_lt_of_le h (wl ((Bool.and_true _).symm.trans h'))
theorem Mi{α:Type}{l:List α}(h:l=[]):¬((!l.isEmpty)=true):=by rw[h];exact Bool.false_ne_true
theorem zqy{α σ:Type}{M:Model}{A:Around}{E:Value->Shared->Prop}{s:Shared}{g:σ->α->σ}{f:α->σ->Sem (ForInStep σ)}{l:List α}{b r:σ}(e:l.foldl g b=r)(hf:∀a b,f a b=pure (.yield (g b a))){β:Type}{k:σ->Sem β}{Q:β->Shared->Prop}(h:wpAny M A (k r) Q E s):wpAny M A (forIn l b f >>= k) Q E s:=wg (Wm g f hf l b (e▸h))
theorem zqz{ns:List Str}{vs dl:List Value}(h1:vs.length<=ns.length)(h2:dl.length<=ns.length)(h3:ns.length - dl.length<=vs.length):ns.length=(vs++dl.drop (vs.length - (ns.length - dl.length))).length:=by
 rw[List.length_append,List.length_drop];exact Va (Nat.sub_add_cancel h2) (Nat.add_sub_cancel' h3) h1
theorem zr0(ns:List Str)(ws:List Value)(e:ns.length=ws.length)(nd:ns.Nodup):(ns++[]).filterMap (λn=>((ns.zip ws).lookup n).map (n,·))=ns.zip ws:=by
 rw[List.append_nil];exact wB ns ws e nd
theorem zr1{ns:List Str}{vs:List Value}{k:Nat}(h1:vs.length<=ns.length)(h3:k<=vs.length):(ns.take k).filter (λn=>((ns.zip vs).lookup n).isNone)=[]:=by
 have m0:(ns.zip vs).map (·.1)=ns.take vs.length:=by
  have this:(ns.take vs.length++ns.drop vs.length).zip (vs++[])=(ns.take vs.length).zip vs++(ns.drop vs.length).zip ([]:List Value):=List.zip_append (by rw[List.length_take,Nat.min_eq_left h1])
  rw[List.append_nil,List.zip_nil_right,List.append_nil,List.take_append_drop] at this
  rw[this];exact List.map_fst_zip (by rw[List.length_take];exact Nat.min_le_left _ _)
 refine List.filter_eq_nil_iff.mpr λn hn=>?_
 have this:=Vs (m0.symm▸List.take_subset_take_left ns h3 hn)
 induction q:(ns.zip vs).lookup n with
 |none=>rw[q] at this;exact FT this
 |some _=>exact Bool.false_ne_true
theorem zg4{fd:FuncData}{ns:List Str}{vs dl:List Value}{s:Shared}(P:gj fd.params ns)(hd:(∃k,fd.defaults = .ref k/\∃o n,s.heap.get? k=some o/\o.data = .seq dl.toArray n)\/(fd.defaults = .none/\dl=[]))(h1:vs.length<=ns.length)(h2:dl.length<=ns.length)(h3:ns.length - dl.length<=vs.length):BindsTo s fd ⟨vs,[]⟩ (ns.zip (vs++dl.drop (vs.length - (ns.length - dl.length)))):=by
 intro M A E Q hq
 obtain⟨x,rfl,qB⟩:∃x:Option (Array Value),(x.getD #[]).toList=dl/\∀{β:Type} (k:Option (Array Value)->Sem β) (Q:β->Shared->Prop),wpAny M A (k x) Q E s->wpAny M A (seqItems? fd.defaults >>= k) Q E s:=by
  rcases hd with⟨T,e,o,n,ho,Z5⟩ | ⟨e,rfl⟩
  ·exact aT (some dl.toArray) rfl (λk Q h=>by rw[e];exact wg (wpAny_seqItems ho Z5 h))
  ·exact aT none rfl (λk Q h=>by rw[e];exact wg (wg (wpAny_of_eq rfl (wh h))))
 clear hd
 refine ou P.as ?_;rintro q2 q5 q7 hp rfl p6
 clear P
 obtain⟨f1,f2,p,f4,f5,f6,f7,f8,f9,f10,f11,f12,f13,f14⟩:=fd
 obtain rfl:p=_:=hp
 have qA:(x.getD #[]).toList.drop ((x.getD #[]).toList.length - (q2.map (·.arg)).length)=(x.getD #[]).toList:=by rw[Nat.sub_eq_zero_of_le h2];rfl
 have hm:=zr1 (k:=(q2.map (·.arg)).length - ((x.getD #[]).toList.drop ((x.getD #[]).toList.length - (q2.map (·.arg)).length)).length) h1 (by rw[qA];exact h3)
 have hs:=zk1 _ vs _ p6 h1 (qA.symm▸h2) (qA.symm▸h3)
 rw[<-qA] at hq
 replace hq:=Eq.subst (motive:=λz=>Q z s) (zr0 _ _ (zqz h1 (qA.symm▸h2) (qA.symm▸h3)) p6).symm hq
 clear qA h2 h3 p6
 refine bP ?_
 refine qB _ _ ?_
 clear qB
 extract_lets
 refine LP (ngA h1) ?_
 refine LP (Mi hm) ?_
 refine zqy hs (λa b=>?_) ?_
 ·unfold pd
  dsimp only
  split <;> rfl
 ·refine bP ?_
  refine LP Bool.false_ne_true ?_
  exact wh hq
end
section
open PySem PySem.W PySem.Calls PyProof.Rows
def DictAt(h:Heap)(l:Addr):Prop:=∃o,h.get? l=some o/\pC o
def cX(c:Cx)(A:Around)(μ:Nat->Addr)(n:Nat)(h:Heap):Prop:=∃fs,A.frames=some fs/\h.FunFrames c.base fs/\∀e∈fs,∀l,e.frame=some l->(∀i,i<n->μ i≠l)/\DictAt h l
theorem cX.ext{c:Cx}{A:Around}{μ aj:Nat->Addr}{n n':Nat}{h h':Heap}(x:cX c A μ n h)(X:Ext μ n h aj n' h'):cX c A aj n' h':=by
 refine dR x λfs e f o=>?_
 refine aT fs e ?_
 clear e
 induction fs with
 |nil=>exact⟨trivial,λ_ h=>nomatch h⟩
 |cons env rest ih=>
  refine c6 f ?_;clear f;rintro hk ⟨L,ob,hf,hn,ho,hd⟩ hr
  have own:∀i,i<n->μ i≠L:=(o env (.head _) L hf).1
  refine au (X.kp L ob ho own) λsl iq _=>?_
  refine oA (ih hr λe he=>o e (.tail _ he)) λf' o'=>?_
  refine⟨⟨hk,⟨L,_,hf,hn,iq,hd⟩,f'⟩,λe he=>?_⟩
  rcases w8.mp he with rfl | he
  ·intro l hl
   obtain rfl:L=l:=w3 (hf.symm.trans hl)
   refine⟨λi hi=>?_,?_⟩
   ·by_cases q:i<n
    ·rw[X.eq i q];exact own i q
    ·intro z
     have:=X.fresh i (Nat.not_lt.mp q) hi
     rw[z,ho] at this;exact SN this
   ·refine au (o e (.head _) L hf).2 λo2 e2 d2=>?_
    rw[ho] at e2
    obtain rfl:=w3 e2
    exact aT _ iq d2
  ·exact o' e he
structure Fm where
 a:Addr
 cl:List (Str×Addr)
 ro:List (Str×Addr)
noncomputable def Fm.all(L:Fm):List (Str×Addr):=L.ro++L.cl
theorem Fm.mem{L:Fm}{p:Str×Addr}(h:p∈L.cl):p∈L.all:=List.mem_append_right _ h
def Fm.iM(L:Fm)(b:Addr):Prop:=b=L.a\/∃p∈L.cl,p.2=b
noncomputable def rR(h:Heap)(a:Addr):Option Value:=match h.get? a with
 |some ⟨_,_,.cell v,_⟩=>v
 |_=>none
def look(h:Heap)(m:Str->Option Value)(cl:List (Str×Addr))(x:Str):Option Value:=match cl.lookup x with
 |none=>m x
 |some a=>rR h a
theorem y6{cl:List (Str×Addr)}{x:Str}{a:Addr}(e:cl.lookup x=some a):(x,a)∈cl:=by
 induction cl with
 |nil=>exact NS e
 |cons p l ih=>
  obtain⟨k,b⟩:=p
  rw[List.lookup_cons] at e
  induction q:x==k with
  |true=>rw[q] at e;obtain rfl:=w3 e;rw[eq_of_beq q];exact .head _
  |false=>rw[q] at e;exact .tail _ (ih e)
theorem PY{h h':Heap}{m m':Str->Option Value}{cl:List (Str×Addr)}{x:Str}(hc:∀p∈cl,h'.get? p.2=h.get? p.2)(hm:cl.lookup x=none->m' x=m x):look h' m' cl x=look h m cl x:=by
 unfold look
 induction e:cl.lookup x with
 |none=>exact hm e
 |some a=>show rR h' a=rR h a;unfold rR;rw[hc (x,a) (y6 e)]
theorem IsCell.val{h:Heap}{a:Addr}{v:Option Value}(x:h.IsCell a v):rR h a=v:=by
 refine au x ?_;clear x;rintro ⟨_,_,d,_⟩ e hd
 cases hd
 unfold rR;rw[e]
theorem IsCell.iy{h:Heap}{a:Addr}{v:Option Value}{o:Obj}(x:h.IsCell a v)(e:h.get? a=some o):¬pC o/\(∀vs,o.data≠.fields vs)/\¬Fix o:=by
 refine au x λo' e' hd=>?_
 rw[e] at e';obtain rfl:=w3 e'
 refine dp ?_ (λvs z=>(by rw[hd] at z;contradiction)) ?_
 ·rintro ⟨es,k,z⟩;rw[hd] at z;contradiction
 ·rintro (⟨_,b,n,z⟩ | ⟨C,d,rfl⟩)
  ·rw[hd] at z;contradiction
  ·contradiction
structure bz (env:Env) (L:Fm):Prop where
 kind:env.scope.kind = .function
 loc:env.locals=L.a
 dj:env.cells=L.all
 Bw:env.globals=mainGlobals
 R6:env.builtins=builtinsNs
structure cm (c:Cx) (A:Around) (μ:Nat->Addr) (n:Nat) (h:Heap) (L:Fm) (m:Str->Option Value) (ρ:az):Prop where
 ns:h.Ns L.a m
 above:c.base.objs.size<=L.a
 own:∀i,i<n->μ i≠L.a
 vals:∀x,match aC ρ x with | some y=>∃v,look h m L.all (nm x)=some v/\VR c μ n h y v | none=>True
 fG:cX c A μ n h
 dj:∀p∈L.all,c.base.get? p.2=none/\(∀i,i<n->μ i≠p.2)/\∃v,h.IsCell p.2 v
 lU:(L.all.map (·.2)).Nodup
section
variable{c:Cx}{A:Around}{μ aj:Nat->Addr}{σ:AH}{n':Nat}{h h':Heap}{L:Fm}{m:Str->Option Value}{ρ:az}
theorem cm.fr(F:cm c A μ σ.n h L m ρ)(H:HR c μ σ h):Fr c.base L.a h m:=⟨F.ns,H.keep,F.above⟩
theorem cm.step{n:Nat}(F:cm c A μ n h L m ρ)(le:n<=n')(eq:∀i,i<n->aj i = μ i)(tk:y1 h h')(hL:∃sl,∀o,h.get? L.a=some o->h'.get? L.a=some { o with slots:=sl })(hc:∀p∈L.all,h'.get? p.2=h.get? p.2)(new:∀i,n<=i->i<n'->h.get? (aj i)=none)(sk:cX c A aj n' h'):cm c A aj n' h' L m ρ:=by
 have ne:∀b,(∃o,h.get? b=some o)->(∀i,i<n->μ i≠b)->∀i,i<n'->aj i≠b:=λb ⟨o,ho⟩ ow i hi z=>by
  by_cases q:i<n
  ·rw[eq i q] at z;exact ow i q z
  ·have:=new i (Nat.not_lt.mp q) hi
   rw[z,ho] at this;exact SN this
 refine⟨?_,F.above,ne _ (by obtain⟨o,_,_,ho,_⟩:=F.ns;exact⟨o,ho⟩) F.own,λx=>?_,sk,λp hp=>?_,F.lU⟩
 ·refine Ko F.ns λo es ep ho hd hk hf=>?_
  refine oE hL λsl q=>?_
  exact Ya _ es ep (q o ho) hd hk hf
 ·have:=F.vals x
  split at this
  ·refine au this λv hv r=>?_
   exact aT v ((PY hc λ_=>rfl).trans hv) (r.mono le eq tk)
  ·trivial
 ·refine c6 (F.dj p hp) λa1 a2 q9=>?_;refine bw q9 λv o ho hd=>?_
  exact⟨a1,ne _ ⟨o,ho⟩ a2,v,o,(hc p hp).trans ho,hd⟩
theorem cm.ext(F:cm c A μ σ.n h L m ρ)(H:HR c μ σ h)(X:Ext μ σ.n h aj n' h'):cm c A aj n' h' L m ρ:=by
 refine F.step X.le X.eq (X.tup H) ?_ (λp hp=>?_) X.fresh (F.fG.ext X)
 ·refine dY F.ns λo es ep ho _=>?_
  refine au (X.kp L.a o ho F.own) λsl iq _=>?_
  exact⟨sl,λo2 e=>by rw[ho] at e;obtain rfl:=w3 e;exact iq⟩
 ·obtain⟨_,a2,v,x⟩:=F.dj p hp
  refine au (id x) λo ho hd=>?_
  exact(X.kp.same ho a2 (IsCell.iy x ho).1).trans ho.symm
end
section
variable{prog:Program}{α Ks:Type}{β su:Type}{c:Cx}{A:Around}{R:Rel β α}{μ aN:Nat->Addr}{σ aR:AH}{s aw:Shared}
theorem PE.nZ{β su:Type}{r:Res β}{f:β->AH->Res su}{rr:Res su}(er:rr=r.bind f){v:Value}{s':Shared}(h:PE c r aN aR aw v s'):PE c rr aN aR aw v s':=by
 refine dY h λl ai aj e a=>?_
 exact CC l ai aj (by rw[er,e];rfl) a
theorem WP.into{m:Sem α}{r:Res β}{f:β->AH->Res su}{rr:Res su}{P:α->Shared->Prop}(X:Ext μ σ.n s.heap aN aR.n aw.heap)(e:b9 s aw)(h:WP prog c A R m r aN aR aw)(er:rr=r.bind f)(ns:rr≠.stuck)(k:∀b ag ah a ar,HR c ah ag ar.heap->Ext aN aR.n aw.heap ah ag.n ar.heap->Ext μ σ.n s.heap ah ag.n ar.heap->R ah ag.n ar.heap b a->b9 s ar->rr=f b ag->P a ar):
  wpAny (model prog c.w) A m P (PE c rr μ σ s) aw:=by
 have nr:r≠.stuck:=λz=>ns (by rw[er,z];rfl)
 refine wj (h nr) ?_ ?_
 ·rintro a ar ⟨b,ag,ah,rfl,H,X2,x,e2⟩
  exact k b ag ah a ar H X2 (X.trans X2) x (e.trans e2) er
 ·intro v ar z
  exact(z.nZ er).later X e
theorem WP.last{m:Sem α}{r rr:Res β}(X:Ext μ σ.n s.heap aN aR.n aw.heap)(e:b9 s aw)(er:rr=r)(ns:rr≠.stuck)(h:WP prog c A R m r aN aR aw):wpAny (model prog c.w) A m (PQ c R rr μ σ s) (PE c rr μ σ s) aw:=by
 subst er;exact h.at X e ns
theorem PQ.fin{a:α}{b:β}{rr:Res β}(H:HR c aN aR aw.heap)(X:Ext μ σ.n s.heap aN aR.n aw.heap)(e:b9 s aw)(er:rr = .ok b aR)(x:R aN aR.n aw.heap b a):PQ c R rr μ σ s a aw:=by
 subst er;exact iH b aR aN rfl H X x e
end
section
variable(prog:Program)(c:Cx)(A:Around)(env:Env)(L:Fm)
def SV(x:Expr)(D:RD):Prop:=∀μ σ s ρ m,HR c μ σ s.heap->cm c A μ σ.n s.heap L m ρ->WP prog c A (RV c) (eval x env) ((D ρ).v σ) μ σ s
def SB(x:Expr)(D:RD):Prop:=∀μ σ s ρ m,HR c μ σ s.heap->cm c A μ σ.n s.heap L m ρ->WP prog c A RB (isTrue x env (eval x env)) ((D ρ).b σ) μ σ s
structure SE (x:Expr) (D:RD):Prop where
 v:SV prog c A env L x D
 b:SB prog c A env L x D
end
section
variable{prog:Program}{c:Cx}{A:Around}{K:Frag}{G:Gl}{C:Call}{env:Env}{L:Fm}
theorem Pl{μ:Nat->Addr}{σ:AH}{s:Shared}{y:AV}{v:Value}(H:HR c μ σ s.heap)(r:VR c μ σ.n s.heap y v):WP prog c A RB (truthy v) (AY y σ) μ σ s:=by
 intro ns
 induction r using vC with
 |none=>exact λ_ _ _=>⟨_,_,_,rfl,H,.refl _ _ _,rfl,.refl _⟩
 |bool b=>exact λ_ _ _=>⟨_,_,_,rfl,H,.refl _ _ _,rfl,.refl _⟩
 |int q i t=>
  rcases xu (Nat.beq q 0) (Res.ok (!fZ i 0) σ) Res.stuck with⟨e,z⟩ | ⟨_,z⟩
  case inr=>exact w1 z ns
  change wpAny _ _ _ (PQ c RB (ak (Nat.beq q 0) (Res.ok (!fZ i 0) σ) Res.stuck) μ σ s) (PE c (ak (Nat.beq q 0) (Res.ok (!fZ i 0) σ) Res.stuck) μ σ s) s
  rw[z]
  obtain rfl:q=0:=w4 e
  have hb:(!fZ i 0)=(i != 0):=by
   induction i with
   |ofNat k=>induction k using nC with
    |zero=>rfl
    |succ k=>rfl
   |negSucc k=>rfl
  have ho:c.off 0+i=i:=by show(0:Int)+i=i;exact Int.zero_add _
  rw[ho]
  exact truthy_int ⟨_,_,_,rfl,H,.refl _ _ _,hb,.refl _⟩
 |_=>exact w1 rfl ns
theorem SE.EK{x:Expr}{d:az->AH->Res AV}(h:SV prog c A env L x (λρ=>lit (d ρ)))(he:∀whole,isTrue x env whole=(do let v<-whole;standAt x.pos;holding [v] (truthy v))):SE prog c A env L x (λρ=>lit (d ρ)):=by
 refine⟨h,λμ σ s ρ m H F=>?_⟩
 intro ns
 refine wpAny_isTrue_value ?_ (he _)
 change(d ρ σ).bind AY≠.stuck at ns
 exact WP.into (.refl _ _ _) (.refl _) (h μ σ s ρ m H F) rfl ns λb ag ah a ar H2 X2 X r e er=>WP.last X e er ns (Pl H2 r)
theorem VR.plain{μ:Nat->Addr}{n:Nat}{h:Heap}(i:Int)(t:Tok):VR c μ n h (.int 0 i) (.int i t):=by
 have:=VR.int (c:=c) (μ:=μ) (n:=n) (h:=h) 0 i t
 have ho:c.off 0+i=i:=by show(0:Int)+i=i;exact Int.zero_add _
 rw[ho] at this;exact this
theorem JL{x:Expr}{y:AV}{v:Nat->Value}(hv:∀μ n h k,VR c μ n h y (v k))(he:∃d,∀(M:Model) (B:Around) E s (Q:Value->Shared->Prop),Q (v s.toks) { s with toks:=s.toks+d }->wpAny M B (eval x env) Q E s)(hb:∀whole,isTrue x env whole=(do let v<-whole;standAt x.pos;holding [v] (truthy v))):SE prog c A env L x (mV y):=by
 refine oE he λd he=>?_
 refine SE.EK (λμ σ s ρ m H F ns=>?_) hb
 refine he _ _ _ _ _ ?_
 exact iH y σ μ rfl H (.refl _ _ _) (hv _ _ _ _) (.refl _)
theorem A7{k:Nat}{pos:Pos}:SE prog c A env L (.Constant .none k pos) (mV .none):=JL (v:=λ_=>.none) (λ_ _ _ _=>.none) ⟨0,λ_ _ _ _ _ q=>wpAny_Constant_none q⟩ λ_=>rfl
theorem Xu{b:Bool}{k:Nat}{pos:Pos}:SE prog c A env L (.Constant (.bool b) k pos) (mV (.bool b)):=JL (v:=λ_=>.bool b) (λ_ _ _ _=>.bool b) ⟨0,λ_ _ _ _ _ q=>wpAny_Constant_bool q⟩ λ_=>rfl
theorem tU{i:Int}{k:Nat}{pos:Pos}:SE prog c A env L (.Constant (.int i) k pos) (mV (.int 0 i)):=JL (v:=λt=>.int i t) (λ_ _ _ t=>VR.plain i t) ⟨1,λ_ _ _ _ _ q=>wpAny_Constant_int q⟩ λ_=>rfl
theorem Gz{x:List Nat}{k:Nat}{pos:Pos}:SE prog c A env L (.Constant (.str (S x)) k pos) (mV (.str 0 x)):=JL (v:=λt=>.str (S x) t) (λ_ _ _ t=>.str 0 x t) ⟨1,λ_ _ _ _ _ q=>wpAny_Constant_str q⟩ λ_=>rfl
end
end
section
open PySem PySem.W PySem.Calls PyProof.Rows
variable{μ aj a9:Nat->Addr}{prog:Program}{A:Around}{s aa s':Shared}{σ ai:AH}{c c':Cx}{h h':Heap}{env:Env}{β α:Type}{n ae n':Nat}{vs:List Value}{args:List AV}{L:Fm}{ρ aI:az}{K:Frag}{mg mb:Str->Option Value}{loose:List Str}{v:Value}{pos:Pos}{scope:Scope}{outer:List Env}{M:Model}{o:Obj}
section
theorem SE.l7{x:Expr}{d:az->AH->Res AV}(h:∀μ σ s ρ m,HR c μ σ s.heap->cm c A μ σ.n s.heap L m ρ->∀R,R=d ρ σ->R≠.stuck->wpAny (model prog c.w) A (eval x env) (PQ c (RV c) R μ σ s) (PE c R μ σ s) s)(he:∀whole,isTrue x env whole=(do let v<-whole;standAt x.pos;holding [v] (truthy v))):SE prog c A env L x (λρ=>lit (d ρ)):=
 SE.EK (λμ σ s ρ m H F ns=>h μ σ s ρ m H F _ rfl ns) he
end
section
variable{G:Gl}{C:Call}{p:Program}
theorem tX{x:Nat}(hl:∀μ σ s m ρ y,HR c μ σ s.heap->cm c A μ σ.n s.heap L m ρ->aC ρ x=some y->∃v,VR c μ σ.n s.heap y v/\∀(Q:Value->Shared->Prop) E,Q v s->wpAny (model prog c.w) A (eval (.Name (nm x) pos) env) Q E s):
  SE prog c A env L (.Name (nm x) pos) (rZ x):=by
 refine SE.EK (λμ σ s ρ m H F ns=>?_) λ_=>rfl
 change opt (aC ρ x) (Res.stuck:Res AV) (λv=>Res.ok v σ)≠.stuck at ns
 change wpAny _ _ _ (PQ c (RV c) (opt (aC ρ x) .stuck λv=>.ok v σ) μ σ s) (PE c (opt (aC ρ x) .stuck λv=>.ok v σ) μ σ s) s
 induction e:aC ρ x with
 |none=>rw[e] at ns;exact w1 rfl ns
 |some y=>
  refine au (hl μ σ s m ρ y H F e) λv r hq=>?_
  exact hq _ _ ⟨y,σ,μ,rfl,H,.refl _ _ _,r,.refl _⟩
theorem tV{x:Nat}(EO:bz env L)(hx:env.kindOf (nm x)=some .local)(hn:L.all.lookup (nm x)=none)(hd:(nm x==("__debug__":Str))=false):
  SE prog c A env L (.Name (nm x) pos) (rZ x):=tX λμ σ s m ρ y H F e=>by
 have V:=F.vals x
 rw[e] at V
 refine au V λv hv r=>?_
 have Zx:m (nm x)=some v:=by unfold look at hv;rw[hn] at hv;exact hv
 exact aT v r (λQ E q=>wpAny_Name (wpAny_loadName_local EO.kind hx (EO.loc▸F.ns) Zx q) hd)
theorem Gp{x:Nat}{ca:Addr}(EO:bz env L)(hx:env.kindOf (nm x)=some .cell\/env.kindOf (nm x)=some .free)(hn:L.all.lookup (nm x)=some ca)(hd:(nm x==("__debug__":Str))=false)(fL:(nm x==("__classdict__":Str))=false):
  SE prog c A env L (.Name (nm x) pos) (rZ x):=tX λμ σ s m ρ y H F e=>by
 have V:=F.vals x
 rw[e] at V
 refine au V λv hv r=>?_
 unfold look at hv
 rw[hn] at hv
 obtain⟨_,_,w,hw⟩:=F.dj _ (y6 hn)
 have:w=some v:=(IsCell.val hw).symm.trans hv
 subst this
 refine aT v r (λQ E q=>wpAny_Name ?_ hd)
 rcases hx with hx | hx
 ·exact wpAny_loadName_cell EO.kind hx (by rw[EO.dj];exact hn) hw q
 ·exact wpAny_loadName_free EO.kind hx (by rw[EO.dj];exact hn) hw q fL
def GN(prog:Program)(c:Cx)(env:Env)(L:Fm)(x:Expr)(v:Value):Prop:=∀(A:Around) μ (σ:AH) s m ρ,HR c μ σ s.heap->cm c A μ σ.n s.heap L m ρ->∀(Q:Value->Shared->Prop) E,Q v s->wpAny (model prog c.w) A (eval x env) Q E s
theorem zlr{x:Nat}(EO:bz env L)(X:K.In c.base)(T:TopRead p loose mg mb c.base)(e:nsIn K mainGlobals (nm x)=some (some v))(hx:env.kindOf (nm x)=some .globalImplicit)(hd:(nm x==("__debug__":Str))=false):
  GN prog c env L (.Name (nm x) pos) v:=λA μ σ s m ρ H F Q E q=>
 Name_function_global EO.kind hx (loadGlobal_global (env:=env) (by rw[EO.Bw];exact T.g.keeps H.keep) (mg_of X T.g e) q) hd
theorem zkm{x:Nat}(EO:bz env L)(X:K.In c.base)(T:TopRead p loose mg mb c.base)(e:nsIn K mainGlobals (nm x)=some none)(eb:bootBuiltins (nm x)=some v)(hn:nm x≠"__name__")(hx:env.kindOf (nm x)=some .globalImplicit)(hd:(nm x==("__debug__":Str))=false):
  GN prog c env L (.Name (nm x) pos) v:=λA μ σ s m ρ H F Q E q=>
 Name_function_global EO.kind hx (loadGlobal_builtin (env:=env) (by rw[EO.Bw];exact T.g.keeps H.keep) (mg_none_of X T.g e) (by rw[EO.R6];exact T.b.keeps H.keep) ((T.builtins _ hn).trans eb) q) hd
theorem A3{x:Expr}{y:AV}(X:K.In c.base)(g:GN prog c env L x v)(hv:∀μ n h,K.In h->VR c μ n h y v)(hb:∀whole,isTrue x env whole=(do let v<-whole;standAt x.pos;holding [v] (truthy v))):SE prog c A env L x (mV y):=
 SE.EK (λμ σ s ρ m H F _=>g A μ σ s m ρ H F _ _ ⟨y,σ,μ,rfl,H,.refl _ _ _,hv _ _ _ (X.keeps H.keep),.refl _⟩) hb
end
section
variable{G:Gl}{C:Call}
theorem cm.on{m:Str->Option Value}(F:cm c A μ σ.n s.heap L m ρ)(H:HR c μ σ s.heap)(X:Ext μ σ.n s.heap aj ai.n s'.heap):cm c A aj ai.n s'.heap L m ρ:=F.ext H X
noncomputable def Cd: Expr->Bool
 |.Call (.Name _ _) [] [] _=>false
 |_=>true
theorem JI{x:Expr}{at_:Str}{whole:Sem Value}(h:Cd x=true):attributeBase x at_ env whole=whole:=by
 induction x using Expr.casesOn with
 |Call f a k p=>induction f using Expr.casesOn with
  |Name _ _=>induction a using lC with
   |nil=>induction k using lC with
    |nil=>exact FT h
    |cons _ _=>rfl
   |cons _ _=>rfl
  |_=>rfl
 |_=>rfl
structure fW (c:Cx) (K:Frag) (ns:Nat->Prop):Prop where
 X:K.In c.base
 cls:∀C,c.ok C->fg K C
 fm:∀C,c.ok C->∀x,ns x->bf K C (nm x)
def dH(prog:Program)(c:Cx)(A:Around)(ns:Nat->Prop):Prop:=∀μ σ s l a,ns a->HR c μ σ s.heap->l < σ.n->WP prog c A (RV c) (getAttr (.ref (μ l)) (nm a) true) (pU σ l λd=>i6 σ d λes=>jx es a σ) μ σ s
theorem W8{ns:Nat->Prop}(N:fW c K ns)(XA:dH prog c A ns){a:Nat}(ha:ns a){y:AV}(H:HR c μ σ s.heap)(r:VR c μ σ.n s.heap y v):
  WP prog c A (RV c) (getAttr v (nm a) true) (Hr y a σ) μ σ s:=by
 induction r using vC with
 |ins hk hd hx=>exact zgg H N.X (N.cls _ hk) (N.fm _ hk _ ha) hd hx
 |obj hi=>exact XA μ σ s _ a ha H hi
 |_=>exact λns=>w1 rfl ns
theorem zZ{ns:Nat->Prop}(N:fW c K ns)(XA:dH prog c A ns){x:Expr}{D:RD}{a:Nat}(h:SE prog c A env L x D)(ha:ns a)(hs:Cd x=true):
  SE prog c A env L (.Attribute x (nm a) pos) (tj D a):=by
 refine SE.l7 (d:=λρ σ=>((D ρ).v σ).bind λv σ=>Hr v a σ) (λμ σ s ρ m H F R hR aA=>?_) λ_=>rfl
 show wpAny _ _ (do
  let o<-attributeBase x (nm a) env (eval x env)
  standAt pos.atName
  let r<-holding [o] (getAttr o (nm a) true)
  letTemporaryGo x o r
  pure r) _ _ s
 rw[JI hs]
 refine wg (WP.into (.refl _ _ _) (.refl _) (h.v μ σ s ρ m H F) hR aA λb ag ah v ar H2 X2 X r e er=>?_)
 refine wg (wk (wg (wi ?_)))
 have nst2:Hr b a ag≠.stuck:=λz=>aA (er.trans z)
 refine wj (WP.last X e er aA (W8 N XA ha H2 r)) (λv' s' q=>?_) λ_ _ q=>q
 exact wg (wpAny_letTemporaryGo (wh q))
theorem Res.bind_assoc{γ δ:Type}(r:Res β)(f:β->AH->Res γ)(g:γ->AH->Res δ):(r.bind f).bind g=r.bind λb σ=>(f b σ).bind g:=by cases r <;> rfl
def ov(prog:Program)(c:Cx)(A:Around)(t:Value->Value->Sem Value)(f:AV->AV->AH->Res AV):Prop:=∀μ σ s y z v w,HR c μ σ s.heap->VR c μ σ.n s.heap y v->VR c μ σ.n s.heap z w->WP prog c A (RV c) (t v w) (f y z σ) μ σ s
def gO(prog:Program)(c:Cx)(A:Around)(t:Value->Value->Sem Value)(f:AV->AV->AH->Res Bool):Prop:=∀μ σ s y z v w,HR c μ σ s.heap->VR c μ σ.n s.heap y v->VR c μ σ.n s.heap z w->WP prog c A (λ_ _ _ b v=>v = .bool b) (t v w) (f y z σ) μ σ s
theorem Gn{op:Operator}{x y:Expr}{D E:RD}(ho:ov prog c A (binaryOp op) (bh n))(hx:SE prog c A env L x D)(hy:SE prog c A env L y E):
  SE prog c A env L (.BinOp x op y pos) (Em n D E):=by
 refine SE.l7 (d:=λρ σ=>((D ρ).v σ).bind λv σ=>((E ρ).v σ).bind λw σ=>bh n v w σ) (λμ σ s ρ m H F R hR aA=>?_) λ_=>rfl
 refine wpAny_BinOp (WP.into (.refl _ _ _) (.refl _) (hx.v μ σ s ρ m H F) hR aA λb ag ah v ar H2 X2 X r e er=>?_)
 refine WP.into X e (hy.v ah ag ar ρ m H2 (F.on H X)) er aA λb' ay aB v' aL H3 X3 X' r' e' b_=>?_
 exact WP.last X' e' b_ aA (ho aB ay aL b b' v v' H3 (r.ext H2 X3) r')
theorem Gq{op:CmpOp}{x y:Expr}{D E:RD}(ho:gO prog c A (compareOp op) (a_ G.U n))(hx:SE prog c A env L x D)(hy:SE prog c A env L y E)(hm:behindInMarks op y=false):
  SE prog c A env L (.Compare x [op] [y] pos) (xE G D n E):=by
 constructor
 ·intro μ σ s ρ m H F aA
  change((((D ρ).v σ).bind λv σ=>((E ρ).v σ).bind λw σ=>a_ G.U n v w σ).bind λx σ=>Res.ok (AV.bool x) σ)≠.stuck at aA
  have e0:(xE G D n E ρ).v σ = ((D ρ).v σ).bind λv σ=>((E ρ).v σ).bind λw σ=>(a_ G.U n v w σ).bind λx σ=>Res.ok (AV.bool x) σ:=by
   show((((D ρ).v σ).bind λv σ=>((E ρ).v σ).bind λw σ=>a_ G.U n v w σ).bind λx σ=>Res.ok (AV.bool x) σ)=_
   rw[Res.bind_assoc]
   congr 1;funext v σ;rw[Res.bind_assoc]
  refine wpAny_Compare1 (WP.into (.refl _ _ _) (.refl _) (hx.v μ σ s ρ m H F) e0 aA λb ag ah v ar H2 X2 X r e er=>?_) hm
  refine WP.into X e (hy.v ah ag ar ρ m H2 (F.on H X)) er aA λb' ay aB v' aL H3 X3 X' r' e' b_=>?_
  exact WP.into X' e' (ho aB ay aL b b' v v' H3 (r.ext H2 X3) r') b_ aA λic bE c8 w bQ H4 X4 lS Gb oD fK=>by
   subst Gb
   exact PQ.fin H4 lS oD fK (.bool ic)
 ·intro μ σ s ρ m H F aA
  change(((D ρ).v σ).bind λv σ=>((E ρ).v σ).bind λw σ=>a_ G.U n v w σ)≠.stuck at aA
  refine wpAny_isTrue_Compare1 (WP.into (.refl _ _ _) (.refl _) (hx.v μ σ s ρ m H F) rfl aA λb ag ah v ar H2 X2 X r e er=>?_) hm
  refine WP.into X e (hy.v ah ag ar ρ m H2 (F.on H X)) er aA λb' ay aB v' aL H3 X3 X' r' e' b_=>?_
  refine wj (WP.last X' e' b_ aA (ho aB ay aL b b' v v' H3 (r.ext H2 X3) r')) (λw bQ q=>?_) λ_ _ q=>q
  refine lN q ?_;clear q;rintro ic bE c8 q1 q2 q3 rfl q5
  exact wpAny_truthy_bool ⟨ic,bE,c8,q1,q2,q3,rfl,q5⟩
end
section
variable{G:Gl}{C:Call}
theorem Gw{x:Expr}{D:RD}(h:SE prog c A env L x D):SE prog c A env L (.UnaryOp .Not x pos) (Eu D):=by
 constructor
 ·exact λμ σ s ρ m H F aA=>w1 rfl aA
 ·intro μ σ s ρ m H F aA
  exact wpAny_isTrue_Not (WP.into (.refl _ _ _) (.refl _) (h.b μ σ s ρ m H F) rfl aA λb ag ah v ar H2 X2 X r e er=>by
   cases r
   exact PQ.fin H2 X e er rfl)
theorem Gs{t x y:Expr}{B D E:RD}(ht:SE prog c A env L t B)(hx:SE prog c A env L x D)(hy:SE prog c A env L y E):
  SE prog c A env L (.IfExp t x y pos) (Er B D E):=by
 constructor
 ·intro μ σ s ρ m H F aA
  refine wpAny_IfExp (WP.into (.refl _ _ _) (.refl _) (ht.b μ σ s ρ m H F) rfl aA λb ag ah v ar H2 X2 X r e er=>?_)
  cases r
  induction b with
  |true=>exact WP.last X e er aA (hx.v ah ag ar ρ m H2 (F.on H X))
  |false=>exact WP.last X e er aA (hy.v ah ag ar ρ m H2 (F.on H X))
 ·intro μ σ s ρ m H F aA
  rw[arm_isTrue_IfExp]
  refine wg (WP.into (.refl _ _ _) (.refl _) (ht.b μ σ s ρ m H F) rfl aA λb ag ah v ar H2 X2 X r e er=>?_)
  cases r
  induction b with
  |true=>exact WP.last X e er aA (hx.b ah ag ar ρ m H2 (F.on H X))
  |false=>exact WP.last X e er aA (hy.b ah ag ar ρ m H2 (F.on H X))
structure SL (prog:Program) (c:Cx) (A:Around) (env:Env) (L:Fm) (xs:List Expr) (D:RD):Prop where
 l:∀pos μ σ s ρ m,HR c μ σ s.heap->cm c A μ σ.n s.heap L m ρ->WP prog c A (Yh c) (spliced (backTo pos (starEach xs env))) ((D ρ).l σ) μ σ s
 gm:xs≠[]->∀pos μ σ s ρ m,HR c μ σ s.heap->cm c A μ σ.n s.heap L m ρ->WP prog c A (RV c) (boolOp pos .And (evalEach xs env)) ((D ρ).gm σ) μ σ s
 qT:xs≠[]->∀pos μ σ s ρ m,HR c μ σ s.heap->cm c A μ σ.n s.heap L m ρ->WP prog c A (RV c) (boolOp pos .Or (evalEach xs env)) ((D ρ).qT σ) μ σ s
 gP:∀μ σ s ρ m,HR c μ σ s.heap->cm c A μ σ.n s.heap L m ρ->WP prog c A RB (allTrue .And xs env) ((D ρ).gP σ) μ σ s
 tu:∀μ σ s ρ m,HR c μ σ s.heap->cm c A μ σ.n s.heap L m ρ->WP prog c A RB (allTrue .Or xs env) ((D ρ).tu σ) μ σ s
 last:∀ρ,(D ρ).last=xs.isEmpty
theorem Gv: SL prog c A env L [] jw where
 l pos μ σ s ρ m H F aA:=wpAny_items_nil ⟨_,_,_,rfl,H,.refl _ _ _,.nil,.refl _⟩
 gm h:=w1 rfl h
 qT h:=w1 rfl h
 gP μ σ s ρ m H F aA:=wpAny_allTrue_And_nil ⟨_,_,_,rfl,H,.refl _ _ _,rfl,.refl _⟩
 tu μ σ s ρ m H F aA:=wpAny_allTrue_Or_nil ⟨_,_,_,rfl,H,.refl _ _ _,rfl,.refl _⟩
 last _:=rfl
theorem A0{x:Expr}{xs:List Expr}{D E:RD}(hx:SE prog c A env L x D)(hs:SL prog c A env L xs E)(he:starEach (x::xs) env=(false,eval x env)::starEach xs env):SL prog c A env L (x::xs) (jv D E) where
 l pos μ σ s ρ m H F aA:=by
  refine wpAny_items_cons (WP.into (.refl _ _ _) (.refl _) (hx.v μ σ s ρ m H F) rfl aA λb ag ah v ar H2 X2 X r e er=>?_) he
  refine WP.into X e (hs.l pos ah ag ar ρ m H2 (F.on H X)) er aA λb' ay aB v' aL H3 X3 X' r' e' b_=>?_
  exact PQ.fin H3 X' e' b_ (.cons (r.ext H2 X3) r')
 gm _ pos μ σ s ρ m H F aA:=by
  change pF (D ρ) (E ρ) σ≠.stuck at aA
  induction xs using lC with
  |nil=>
   have e0:pF (D ρ) (E ρ) σ = (D ρ).v σ:=xm (hs.last ρ)
   exact WP.last (.refl _ _ _) (.refl _) e0 aA (hx.v μ σ s ρ m H F)
  |cons y ys=>
   have e0:pF (D ρ) (E ρ) σ = ((D ρ).v σ).bind λv σ=>(AY v σ).bind λr σ=>ak r ((E ρ).gm σ) (.ok v σ):=zl (hs.last ρ)
   show wpAny _ _ (do
    let v<-eval x env
    standAt pos
    let t<-holding [v] (truthy v)
    match BoolOp.And,t with
    |.And,false | .Or,true=>pure v
    |_,_=>boolOp pos .And (evalEach (y::ys) env)) _ _ s
   refine wg (WP.into (.refl _ _ _) (.refl _) (hx.v μ σ s ρ m H F) e0 aA λb ag ah v ar H2 X2 X r e er=>?_)
   refine wg (wk (wg (wi (WP.into X e (Pl H2 r) er aA λb' ay aB v' aL H3 X3 X' r' e' b_=>?_))))
   cases r'
   induction b' with
   |false=>exact wh (PQ.fin H3 X' e' b_ (r.ext H2 X3))
   |true=>exact WP.last X' e' b_ aA (hs.gm (by simp) pos aB ay aL ρ m H3 (F.on H X'))
 qT _ pos μ σ s ρ m H F aA:=by
  change I0 (D ρ) (E ρ) σ≠.stuck at aA
  induction xs using lC with
  |nil=>
   have e0:I0 (D ρ) (E ρ) σ = (D ρ).v σ:=xm (hs.last ρ)
   exact WP.last (.refl _ _ _) (.refl _) e0 aA (hx.v μ σ s ρ m H F)
  |cons y ys=>
   have e0:I0 (D ρ) (E ρ) σ = ((D ρ).v σ).bind λv σ=>(AY v σ).bind λr σ=>ak r (.ok v σ) ((E ρ).qT σ):=zl (hs.last ρ)
   show wpAny _ _ (do
    let v<-eval x env
    standAt pos
    let t<-holding [v] (truthy v)
    match BoolOp.Or,t with
    |.And,false | .Or,true=>pure v
    |_,_=>boolOp pos .Or (evalEach (y::ys) env)) _ _ s
   refine wg (WP.into (.refl _ _ _) (.refl _) (hx.v μ σ s ρ m H F) e0 aA λb ag ah v ar H2 X2 X r e er=>?_)
   refine wg (wk (wg (wi (WP.into X e (Pl H2 r) er aA λb' ay aB v' aL H3 X3 X' r' e' b_=>?_))))
   cases r'
   induction b' with
   |true=>exact wh (PQ.fin H3 X' e' b_ (r.ext H2 X3))
   |false=>exact WP.last X' e' b_ aA (hs.qT (by simp) pos aB ay aL ρ m H3 (F.on H X'))
 gP μ σ s ρ m H F aA:=by
  refine wpAny_allTrue_And_cons (WP.into (.refl _ _ _) (.refl _) (hx.b μ σ s ρ m H F) rfl aA λb ag ah v ar H2 X2 X r e er=>?_)
  cases r
  induction b with
  |true=>exact WP.last X e er aA (hs.gP ah ag ar ρ m H2 (F.on H X))
  |false=>exact PQ.fin H2 X e er rfl
 tu μ σ s ρ m H F aA:=by
  refine wpAny_allTrue_Or_cons (WP.into (.refl _ _ _) (.refl _) (hx.b μ σ s ρ m H F) rfl aA λb ag ah v ar H2 X2 X r e er=>?_)
  cases r
  induction b with
  |true=>exact PQ.fin H2 X e er rfl
  |false=>exact WP.last X e er aA (hs.tu ah ag ar ρ m H2 (F.on H X))
 last _:=rfl
theorem Gk{xs:List Expr}{D:RD}(h:SL prog c A env L xs D)(hn:xs≠[]):SE prog c A env L (.BoolOp .And xs pos) (Ek D) where
 v μ σ s ρ m H F:=h.gm hn pos μ σ s ρ m H F
 b μ σ s ρ m H F aA:=wpAny_isTrue_BoolOp (h.gP μ σ s ρ m H F aA)
theorem OB{xs:List Expr}{D:RD}(h:SL prog c A env L xs D)(hn:xs≠[]):SE prog c A env L (.BoolOp .Or xs pos) (RS D) where
 v μ σ s ρ m H F:=h.qT hn pos μ σ s ρ m H F
 b μ σ s ρ m H F aA:=wpAny_isTrue_BoolOp (h.tu μ σ s ρ m H F aA)
end
section
variable{G:Gl}{C:Call}
theorem z_{o1 o2:CmpOp}{n1 n2:Nat}{x y z:Expr}{D E F':RD}(h1:gO prog c A (compareOp o1) (a_ G.U n1))(h2:gO prog c A (compareOp o2) (a_ G.U n2))(hx:SE prog c A env L x D)(hy:SE prog c A env L y E)(hz:SE prog c A env L z F')(hm:behindInMarks o2 z=false):
  SE prog c A env L (.Compare x [o1,o2] [y,z] pos) (K6 G D n1 E n2 F'):=by
 constructor
 ·intro μ σ s ρ m H F aA
  have e0:(K6 G D n1 E n2 F' ρ).v σ = ((D ρ).v σ).bind λv σ=>((E ρ).v σ).bind λw σ=>(a_ G.U n1 v w σ).bind λr σ=>(ak r (((F' ρ).v σ).bind λx σ=>a_ G.U n2 w x σ) (.ok false σ)).bind λx σ=>Res.ok (AV.bool x) σ:=by
   show((((D ρ).v σ).bind λv σ=>((E ρ).v σ).bind λw σ=>(a_ G.U n1 v w σ).bind λr σ=>ak r (((F' ρ).v σ).bind λx σ=>a_ G.U n2 w x σ) (.ok false σ)).bind λx σ=>Res.ok (AV.bool x) σ)=_
   rw[Res.bind_assoc]
   congr 1;funext v σ;rw[Res.bind_assoc];congr 1;funext w σ;rw[Res.bind_assoc]
  show wpAny _ _ (do compareChain pos (<-eval x env) [o1,o2] [eval y env,markedBehindIn o2 z (eval z env)]) _ _ s
  rw[markedBehindIn_of_false hm]
  refine wg (WP.into (.refl _ _ _) (.refl _) (hx.v μ σ s ρ m H F) e0 aA λb ag ah v ar H2 X2 X r e er=>?_)
  refine wg (wi (WP.into X e (hy.v ah ag ar ρ m H2 (F.on H X)) er aA λb' ay aB v' aL H3 X3 X' r' e' b_=>?_))
  refine wg (wk (wg (wi (WP.into X' e' (h1 aB ay aL b b' v v' H3 (r.ext H2 X3) r') b_ aA λic bE c8 w bQ H4 X4 lS Gb oD fK=>?_))))
  subst Gb
  refine wg (wpAny_release (wg (wi (wpAny_truthy_bool ?_))))
  induction ic with
  |false=>exact wh (PQ.fin H4 lS oD fK (.bool false))
  |true=>
   have e5:(K6 G D n1 E n2 F' ρ).v σ = ((F' ρ).v bE).bind λx σ=>(a_ G.U n2 b' x σ).bind λx σ=>Res.ok (AV.bool x) σ:=by
    rw[fK];show(((F' ρ).v bE).bind λx σ=>a_ G.U n2 b' x σ).bind (λx σ=>Res.ok (AV.bool x) σ)=_
    rw[Res.bind_assoc]
   refine wg (wi (WP.into lS oD (hz.v c8 bE bQ ρ m H4 (F.on H lS)) e5 aA λvI gi gh AN fV H5 X5 Y5 r5 KZ wu=>?_))
   refine wg (wk (wpAny_operateT ?_))
   refine WP.into Y5 KZ (h2 gh gi fV b' vI v' AN H5 ((r'.ext H3 X4).ext H4 X5) r5) wu aA λvJ jX jT w₆ GR H6 X6 Y6 r6 e6 L8=>?_
   subst r6
   exact PQ.fin H6 Y6 e6 L8 (.bool vJ)
 ·intro μ σ s ρ m H F aA
  show wpAny _ _ (do testChain pos (<-eval x env) [o1,o2] [eval y env,markedBehindIn o2 z (eval z env)]) _ _ s
  rw[markedBehindIn_of_false hm]
  refine wg (WP.into (.refl _ _ _) (.refl _) (hx.v μ σ s ρ m H F) rfl aA λb ag ah v ar H2 X2 X r e er=>?_)
  refine wg (wi (WP.into X e (hy.v ah ag ar ρ m H2 (F.on H X)) er aA λb' ay aB v' aL H3 X3 X' r' e' b_=>?_))
  refine wg (wk (wg (wi (WP.into X' e' (h1 aB ay aL b b' v v' H3 (r.ext H2 X3) r') b_ aA λic bE c8 w bQ H4 X4 lS Gb oD fK=>?_))))
  subst Gb
  refine wg (wpAny_release (wg (wi (wpAny_truthy_bool ?_))))
  induction ic with
  |false=>exact wh (PQ.fin H4 lS oD fK rfl)
  |true=>
   refine wg (wi (WP.into lS oD (hz.v c8 bE bQ ρ m H4 (F.on H lS)) fK aA λvI gi gh AN fV H5 X5 Y5 r5 KZ wu=>?_))
   refine wg (wk (wg (wpAny_operateT ?_)))
   refine wj (WP.last Y5 KZ wu aA (h2 gh gi fV b' vI v' AN H5 ((r'.ext H3 X4).ext H4 X5) r5)) (λw GR q=>?_) λ_ _ q=>q
   refine lN q ?_;clear q;rintro vJ jX jT q1 q2 q3 rfl q5
   exact wi (wpAny_truthy_bool ⟨vJ,jX,jT,q1,q2,q3,rfl,q5⟩)
theorem aH.len{l:List AV}(x:aH c μ n h l vs):vs.length=l.length:=by
 induction l generalizing vs with
 |nil=>cases x;rfl
 |cons a l ih=>cases x with
  |cons _ y=>simp[ih y]
theorem VB{m:Str->Option Value}{xs:List Expr}{D:RD}(hl:SL prog c A env L xs D)(pos:Pos)(hn:∀ρ σ l ai,(D ρ).l σ = .ok l ai->l.length<=1000)(H:HR c μ σ s.heap)(F:cm c A μ σ.n s.heap L m ρ):WP prog c A (λμ n h l vs=>aH c μ n h l vs/\vs.length<=1000) (spliced (backTo pos (starEach xs env))) ((D ρ).l σ) μ σ s:=by
 intro ns
 refine wj (hl.l pos μ σ s ρ m H F ns) (λvs s' q=>?_) λ_ _ q=>q
 refine lN q λl ai aj e H' X' r e'=>?_
 exact iH l ai aj e H' X' ⟨r,by rw[r.len];exact hn _ _ _ _ e⟩ e'
def Rows(D:RD)(k:Nat):Prop:=∀ρ σ l ai,(D ρ).l σ = .ok l ai->l.length=k
theorem zky: Rows jw 0:=by
 intro ρ σ l ai e
 cases e;rfl
theorem zjb{D E:RD}{k:Nat}(h:Rows E k):Rows (jv D E) (k+1):=by
 intro ρ σ l ai e
 change((D ρ).v σ).bind (λv σ=>((E ρ).l σ).bind λl σ=>Res.ok (v::l) σ)=_ at e
 induction e1:(D ρ).v σ with
 |ok v aE=>
  rw[e1] at e
  change((E ρ).l aE).bind (λl σ=>Res.ok (v::l) σ)=_ at e
  induction e2:(E ρ).l aE with
  |ok l' bC=>
   rw[e2] at e
   cases e
   rw[List.length_cons,h _ _ _ _ e2]
  |_=>rw[e2] at e;contradiction
 |_=>rw[e1] at e;contradiction
theorem GA{xs:List Expr}{D:RD}{k kk:Nat}(h:SL prog c A env L xs D)(hr:Rows D k)(hk:k<=1000):SE prog c A env L (.Tuple xs kk pos) (Ex D):=by
 refine SE.l7 (d:=λρ σ=>((D ρ).l σ).bind λl σ=>.ok (.tup l) σ) (λμ σ s ρ m H F R hR aA=>?_) λ_=>rfl
 refine wpAny_Tuple (WP.into (.refl _ _ _) (.refl _) (VB h pos (λρ σ l ai e=>by rw[hr _ _ _ _ e];exact hk) H F) hR aA λb ag ah v ar H2 X2 X r e er=>?_)
 refine⟨Nat.le_trans r.2 (by rw[sizeLine_eq];decide),?_⟩
 have P:=H2.push { cls:=.type "tuple",data:=.seq v.toArray }
 refine PQ.fin P.1 (X.trans P.2) (e.trans ⟨rfl,rfl,rfl⟩) er (.tup ⟨_,we _ rfl,rfl,_,rfl⟩ (r.1.ext H2 P.2))
theorem Gu{xs:List Expr}{D:RD}{k:Nat}(h:SL prog c A env L xs D)(hr:Rows D k)(hk:k<=1000):SE prog c A env L (.List xs pos) (Es D):=by
 refine SE.l7 (d:=λρ σ=>((D ρ).l σ).bind λl σ=>ye (.list l) σ) (λμ σ s ρ m H F R hR aA=>?_) λ_=>rfl
 refine wpAny_List (WP.into (.refl _ _ _) (.refl _) (VB h pos (λρ σ l ai e=>by rw[hr _ _ _ _ e];exact hk) H F) hR aA λb ag ah v ar H2 X2 X r e er=>?_)
 refine⟨Nat.le_trans r.2 (by rw[sizeLine_eq];decide),?_⟩
 have P:=H2.push { cls:=.type "list",data:=.seq v.toArray }
 have Q:=H2.alloc (o:={ cls:=.type "list",data:=.seq v.toArray }) (a:=.list b) rfl (.list (r.1.mono (Nat.le_succ _) (λi hi=>y8 hi) (P.2.tup H2)))
 refine PQ.fin Q.1 (X.trans Q.2) (e.trans ⟨rfl,rfl,rfl⟩) er ?_
 have:=VR.obj (c:=c) (μ:=yg ah ag.n ar.heap.objs.size) (n:=ag.n+1) (h:=ar.heap.push { cls:=.type "list",data:=.seq v.toArray }) (i:=ag.n) (wb _)
 rw[zz] at this
 exact this
noncomputable def Pq: Expr->Bool
 |.Slice _ _ _ _=>false
 |_=>true
def v8(prog:Program)(c:Cx)(A:Around)(U:List (List Nat)):Prop:=∀μ σ s y z v w,HR c μ σ s.heap->VR c μ σ.n s.heap y v->VR c μ σ.n s.heap z w->
 WP prog c A (RV c) (do let ip<-getitemInPython v;if ip then runValue (.builtin "lifetime.subscript" ⟨[v,w],[]⟩) else operate [v,w] (getItem v w)) (Kc U y z σ) μ σ s
theorem Vl{x:Expr}(h:Pq x=true)(ip:Bool)(v w:Value):subscripted x ip v w=if ip then runValue (.builtin "lifetime.subscript" ⟨[v,w],[]⟩) else operate [v,w] (getItem v w):=by
 induction ip with
 |true=>induction x using Expr.casesOn with
  |Slice _ _ _ _=>exact FT h
  |_=>rfl
 |false=>induction x using Expr.casesOn with
  |Slice _ _ _ _=>exact FT h
  |_=>rfl
theorem Gr{x y:Expr}{D E:RD}(hg:v8 prog c A G.U)(hx:SE prog c A env L x D)(hy:SE prog c A env L y E)(hs:Pq y=true):SE prog c A env L (.Subscript x y pos) (Ep G D E):=by
 refine SE.l7 (d:=λρ σ=>((D ρ).v σ).bind λv σ=>((E ρ).v σ).bind λw σ=>Kc G.U v w σ) (λμ σ s ρ m H F R hR aA=>?_) λ_=>rfl
 rw[eval_Subscript]
 refine wg (WP.into (.refl _ _ _) (.refl _) (hx.v μ σ s ρ m H F) hR aA λb ag ah v ar H2 X2 X r e er=>?_)
 refine wg (wi (WP.into X e (hy.v ah ag ar ρ m H2 (F.on H X)) er aA λb' ay aB v' aL H3 X3 X' r' e' b_=>wg (wk ?_)))
 have:=WP.last X' e' b_ aA (hg aB ay aL b b' v v' H3 (r.ext H2 X3) r')
 have e1:(do let ip<-getitemInPython v;subscripted y ip v v')=(do let ip<-getitemInPython v;if ip then runValue (.builtin "lifetime.subscript" ⟨[v,v'],[]⟩) else operate [v,v'] (getItem v v')):=by
  congr 1;funext ip;exact Vl hs ip v v'
 rw[<-e1] at this
 have e2:(do
  let r<-subscripted y (<-getitemInPython v) v v'
  letTemporaryGo x v r
  pure r)=((do let ip<-getitemInPython v;subscripted y ip v v') >>= λr=>do letTemporaryGo x v r;pure r):=by
  rw[bind_assoc] at ⊢
 rw[e2]
 exact wg (wj this (λw bQ q=>wg (wpAny_letTemporaryGo (wh q))) λ_ _ q=>q)
end
def RR(c:Cx)(r:Res AV)(μ:Nat->Addr)(σ:AH)(s:Shared):Result->Shared->Prop:=λx s'=>match x with
 |.ok (.ret v)=>PQ c (RV c) r μ σ s v s'
 |.ok _=>False
 |.error e=>PE c r μ σ s e s'
def HL(prog:Program)(c:Cx)(A:Around)(C:Call):Prop:=∀μ σ s a args vs,HR c μ σ s.heap->cX c A μ σ.n s.heap->aH c μ σ.n s.heap args vs->C a args σ≠.stuck->
 codeAny (model prog c.w) A (.call (.ref a) ⟨vs,[]⟩) (RR c (C a args σ) μ σ s) s
def c9(prog:Program)(c:Cx)(A:Around)(C:Call):Prop:=HL prog c A C/\∀a rest,HL prog c (A.under (.builtin "type.__call__" ⟨.ref a::rest,[]⟩)) C
structure fj (c:Cx) (K:Frag) (G:Gl) (C:Call):Prop where
 fn:∀a args σ,C a args σ≠.stuck->keepIn K (.ref a)=true
 keep:∀a k,G.cl.get a=some k->keepIn K (.ref a)=true
 ok:∀a k,G.cl.get a=some k->k.exc=false->c.ok a/\makesIn K a=true
 E5:∀a k,G.cl.get a=some k->k.exc=false->k.init=none->findIn K (.ref a) "__init__" = some (some (.builtin "object.__init__"))
 E6:∀a k f,G.cl.get a=some k->k.exc=false->k.init=some f->findIn K (.ref a) "__init__" = some (some (.ref f))/\typeIn K (.ref f)=some (.type "function")
 af:∀a k m f,G.cl.get a=some k->gV k.ms m=some f->findIn K (.ref a) (nm m)=some (some (.ref f))/\typeIn K (.ref f)=some (.type "function")/\keepIn K (.ref f)=true
section
variable{G:Gl}{C:Call}
theorem WZ{a:Addr}(h:HL prog c A C)(H:HR c μ σ s.heap)(sk:cX c A μ σ.n s.heap)(r:aH c μ σ.n s.heap args vs):WP prog c A (RV c) (call (.ref a) vs) (C a args σ) μ σ s:=λns=>
 wpAny_call (wo (h μ σ s a args vs H sk r ns) λx s' q=>by
  rcases x with e | (v | _ | _ | _) <;> exact q)
structure SA (prog:Program) (c:Cx) (A:Around) (env:Env) (L:Fm) (xs:List Expr) (D:RD):Prop where
 sl:SL prog c A env L xs D
 plain:∀p∈starEach xs env,p.1=false
theorem JV: SA prog c A env L [] jw:=⟨Gv,λ_ h=>nomatch h⟩
theorem Hn{x:Expr}{xs:List Expr}{D E:RD}(hx:SE prog c A env L x D)(hs:SA prog c A env L xs E)(he:starEach (x::xs) env=(false,eval x env)::starEach xs env):SA prog c A env L (x::xs) (jv D E):=
 ⟨A0 hx hs.sl he,λp hp=>by
  rw[he] at hp
  rcases w8.mp hp with rfl | hp
  ·rfl
  ·exact hs.plain p hp⟩
theorem SA.noStar{xs:List Expr}{D:RD}(h:SA prog c A env L xs D)(pos:Pos):(backTo pos (starEach xs env)).any (·.1)=false:=by
 rw[List.any_eq_false]
 intro p hp
 refine au (List.mem_map.mp hp) ?_;rintro q hq rfl
 simp[h.plain q hq]
theorem xh{B:Around}{E:Value->Shared->Prop}{xs:List Expr}{D:RD}(h:SA prog c A env L xs D){f:Value}{Q:Args->Shared->Prop}(hq:wpAny M B (spliced (backTo pos (starEach xs env))) (λvs s'=>Q ⟨vs,[]⟩ s') E s):wpAny M B (evalArgs f true (backTo pos (starEach xs env)) []) Q E s:=by
 induction e:backTo pos (starEach xs env) using lC with
 |nil=>
  rw[e] at hq
  unfold evalArgs
  show wpAny M B (spliced [] >>= _) Q E s
  refine wg (wj hq (λvs s' h'=>?_) λ_ _ x=>x)
  refine wg (wh ?_)
  refine wi ?_
  exact wg (wh (wg (wh (wh h'))))
 |cons p rest=>
  have hp:=h.noStar pos
  rw[e,List.any_cons,Bool.or_eq_false_iff] at hp
  obtain⟨b,t⟩:=p
  obtain rfl:b=false:=hp.1
  rw[e] at hq
  exact evalArgs_plain hq
theorem zml{a:Addr}{k:Cl}(X:K.In c.base)(T:fj c K G C)(hC:c9 prog c A C)(ek:G.cl.get a=some k)(hx:k.exc=false)(H:HR c μ σ s.heap)(sk:cX c A μ σ.n s.heap)(r:aH c μ σ.n s.heap args vs):
  uI C k a args σ≠.stuck->codeAny (model prog c.w) A (.call (.ref a) ⟨vs,[]⟩) (RR c (uI C k a args σ) μ σ s) s:=by
 intro ns
 have e0:uI C k a args σ = opt k.init (zf args (JS a σ λv σ=>.ok v σ) λ_ _=>.stuck) λf=>JS a σ λv σ=>(C f (v::args) σ).bind λr ai=>r.fo (.ok v ai) .stuck:=zl hx
 rw[e0] at ns ⊢
 refine oA (T.ok a k ek hx) λeH hm=>?_
 have X':=X.keeps H.keep
 have G1:=H.alloc (o:=emptyDict) (a:=.ns []) rfl (.ns (ents:=[]) (k:=0) .nil)
 have G2:=G1.1.push (instObj a s.heap.objs.size)
 have XX:=G1.2.trans G2.2
 have hi:VR c (yg μ σ.n s.heap.objs.size) (σ.push (.ns [])).n ((s.heap.push emptyDict).push (instObj a s.heap.objs.size)) (.ins a σ.n) (.ref (s.heap.objs.size+1)):=by
  refine .ins eH (wb _) ?_
  rw[zz]
  have:=we (s.heap.push emptyDict) (o:=instObj a s.heap.objs.size) rfl
  rwa [Heap.size_push] at this
 obtain⟨hh,g,d,t,os⟩:=s
 induction ei:k.init with
 |none=>
  rw[ei] at ns
  induction args using lC with
  |cons _ _=>exact w1 rfl ns
  |nil=>
   cases r
   have Y:=makes_of (M:=model prog c.w) X' hm
   refine make_core Y (looks_findIn X' (T.E5 a k ek hx ei)) (λself=>Looks.of_pure (oi_bind self)) (.inr ⟨rfl,rfl⟩) ?_
   have hg:((hh.push emptyDict).push (instObj a hh.objs.size)).get? (hh.objs.size+1)=some (instObj a hh.objs.size):=by
    have:=we (hh.push emptyDict) (o:=instObj a hh.objs.size) rfl
    rwa [Heap.size_push] at this
   have t1:Looks (model prog c.w) ((hh.push emptyDict).push (instObj a hh.objs.size)) (typeOf (.ref (hh.objs.size+1))) (.ref a):=(Looks.ld hg).andThen .now
   have t2:Looks (model prog c.w) ((hh.push emptyDict).push (instObj a hh.objs.size)) (isInstance (.ref (hh.objs.size+1)) (.type "object")) true:=t1.andThen (Y.top.keeps λb o e=>wc _ (wc _ e))
   refine codeAny_call_builtin oi_plain entry_oi (@check_slot (model prog c.w) _ _ _ "object.__init__" "object" "__init__" (.ref (hh.objs.size+1)) [] [] _ oi_kind oi_split t2 (oi_args (.ref (hh.objs.size+1))) ?_)
   rw[oi_run]
   exact wh ⟨rfl,.ins a σ.n,_,_,rfl,G2.1,XX,hi,⟨rfl,rfl,rfl⟩⟩
 |some f=>
  rw[ei] at ns
  change(C f (AV.ins a σ.n::args) (σ.push (.ns []))).bind (λr ai=>r.fo (Res.ok (AV.ins a σ.n) ai) .stuck)≠.stuck at ns
  show codeAny _ _ _ (RR c ((C f (AV.ins a σ.n::args) (σ.push (.ns []))).bind (λr ai=>r.fo (Res.ok (AV.ins a σ.n) ai) .stuck)) μ σ _) _
  refine oA (T.E6 a k f ek hx ei) λhf ht=>?_
  refine make_core (makes_of X' hm) (looks_findIn X' hf) (λself=>bind_fn X' self ht) (.inl rfl) ?_
  have nr:C f (AV.ins a σ.n::args) (σ.push (.ns []))≠.stuck:=λz=>ns (by rw[z];rfl)
  have:=hC.2 a vs (yg μ σ.n hh.objs.size) (σ.push (.ns [])) ⟨(hh.push emptyDict).push (instObj a hh.objs.size),g,d,t,os⟩ f (AV.ins a σ.n::args) (.ref (hh.objs.size+1)::vs) G2.1 (sk.ext XX) (.cons hi (r.ext H XX)) nr
  refine wo this λx s' q=>?_
  rcases x with e | (_ | _ | _ | v)
  ·have z:=PE.nZ (f:=λr ai=>r.fo (Res.ok (AV.ins a σ.n) ai) .stuck) rfl q
   have sm:b9 (⟨hh,g,d,t,os⟩:Shared) ⟨(hh.push emptyDict).push (instObj a hh.objs.size),g,d,t,os⟩:=⟨rfl,rfl,rfl⟩
   exact z.later XX sm
  ·exact q
  ·exact q
  ·exact q
  ·refine lN q λb ai aj e1 H' X2 r' e'=>?_
   rw[e1] at ns ⊢
   induction b using AV.casesOn with
   |none=>
    cases r'
    exact⟨rfl,.ins a σ.n,ai,aj,rfl,H',XX.trans X2,hi.ext G2.1 X2,e'⟩
   |_=>exact w1 rfl ns
end
def Ku(prog:Program)(c:Cx)(A:Around)(mx:Bool):Prop:=∀k μ σ s args vs,HR c μ σ s.heap->aH c μ σ.n s.heap args vs->WP prog c A (RV c) (call (iO k) vs) (yX mx k args σ) μ σ s
def pz(prog:Program)(c:Cx)(A:Around)(G:Gl):Prop:=∀a k μ σ s args vs,G.cl.get a=some k->k.exc=true->HR c μ σ s.heap->cX c A μ σ.n s.heap->aH c μ σ.n s.heap args vs->WP prog c A (RV c) (call (.ref a) vs) (Q7 a args σ) μ σ s
def vg(prog:Program)(c:Cx)(A:Around):Prop:=∀m,Be m=true->∃id:String,(∀(s:Shared) x t pl (Q:Value×List Value->Shared->Prop) E,Q (.builtin id,[.str x t]) s->wpAny (model prog c.w) A (getMethod (.str x t) (nm m) pl) Q E s)/\
 ∀μ σ s q x t args vs,HR c μ σ s.heap->aH c μ σ.n s.heap args vs->WP prog c A (RV c) (call (.builtin id) (.str (S (c.wrap q x)) t::vs)) (jf m q x args σ) μ σ s
def mM(prog:Program)(c:Cx)(A:Around):Prop:=∀m,uG m=true->∃id:String,(∀(s:Shared) a vs k pl (Q:Value×List Value->Shared->Prop) E,s.heap.get? a=some { cls:=.type "list",data:=.seq vs k }->Q (.builtin id,[.ref a]) s->wpAny (model prog c.w) A (getMethod (.ref a) (nm m) pl) Q E s)/\
 ∀μ σ s o args vs,HR c μ σ s.heap->o < σ.n->aH c μ σ.n s.heap args vs->WP prog c A (RV c) (call (.builtin id) (.ref (μ o)::vs)) (zh σ o λl=>rN m o l args σ) μ σ s
def mK(prog:Program)(c:Cx)(A:Around)(U:List (List Nat)):Prop:=∀m,Cn m=true->∃id:String,(∀(s:Shared) a es k pl (Q:Value×List Value->Shared->Prop) E,s.heap.get? a=some (dictOf es k)->Q (.builtin id,[.ref a]) s->wpAny (model prog c.w) A (getMethod (.ref a) (nm m) pl) Q E s)/\
 ∀μ σ s o args vs,HR c μ σ s.heap->o < σ.n->aH c μ σ.n s.heap args vs->WP prog c A (RV c) (call (.builtin id) (.ref (μ o)::vs)) (xd σ o λu es=>Cf U m u es args σ) μ σ s
section
variable{G:Gl}{C:Call}
theorem ziv{a:Addr}(X:K.In c.base)(T:fj c K G C)(hC:c9 prog c A C)(hE:pz prog c A G)(H:HR c μ σ s.heap)(sk:cX c A μ σ.n s.heap)(r:aH c μ σ.n s.heap args vs):
  WP prog c A (RV c) (call (.ref a) vs) (Cc G C a args σ) μ σ s:=by
 intro ns
 unfold Cc at ns ⊢
 induction e:G.cl.get a with
 |none=>
  rw[e] at ns
  exact WZ hC.1 H sk r ns
 |some k=>
  rw[e] at ns
  change uI C k a args σ≠.stuck at ns
  show wpAny _ _ _ (PQ c (RV c) (uI C k a args σ) μ σ s) (PE c (uI C k a args σ) μ σ s) s
  induction ex:k.exc with
  |false=>
   exact wpAny_call (wo (zml X T hC e ex H sk r ns) λx s' q=>by rcases x with e | (v | _ | _ | _) <;> exact q)
  |true=>
   have e0:uI C k a args σ = Q7 a args σ:=xm ex
   rw[e0] at ns ⊢
   exact hE a k μ σ s args vs e ex H sk r ns
theorem zew{a:Addr}(T:fj c K G C)(ns:Cc G C a args σ≠.stuck):keepIn K (.ref a)=true:=by
 unfold Cc at ns
 induction e:G.cl.get a with
 |none=>rw[e] at ns;exact T.fn a args σ ns
 |some k=>exact T.keep a k e
theorem vA{k:Nat}(h:Nat.blt k 9=true):(∃s,.builtin s=iO k)\/∃s,.type s=iO k:=by
 induction k using nC with
 |zero=>exact .inl ⟨_,rfl⟩
 |succ k=>
  induction k using nC with
  |zero=>exact .inl ⟨_,rfl⟩
  |succ k=>
  induction k using nC with
  |zero=>exact .inl ⟨_,rfl⟩
  |succ k=>
   induction k using nC with
   |zero=>exact .inl ⟨_,rfl⟩
   |succ k=>
   induction k using nC with
   |zero=>exact .inr ⟨_,rfl⟩
   |succ k=>
    induction k using nC with
    |zero=>exact .inr ⟨_,rfl⟩
    |succ k=>
    induction k using nC with
    |zero=>exact .inr ⟨_,rfl⟩
    |succ k=>
     induction k using nC with
     |zero=>exact .inr ⟨_,rfl⟩
     |succ k=>
     induction k using nC with
     |zero=>exact .inr ⟨_,rfl⟩
     |succ k=>
      exact FT h
theorem s_call{x:Str}{p:Pos}{xs:List Expr}{D E:RD}(X:K.In c.base)(T:fj c K G C)(hC:c9 prog c A C)(hE:pz prog c A G)(hB:Ku prog c A G.mx)(hf:SE prog c A env L (.Name x p) D)(ha:SA prog c A env L xs E):
  SE prog c A env L (.Call (.Name x p) xs [] pos) (tl G C D E):=by
 refine SE.l7 (d:=λρ σ=>((D ρ).v σ).bind λv σ=>Vn G C v (E ρ).l σ) (λμ σ s ρ m H F R hR aA=>?_) λ_=>rfl
 show wpAny _ _ (do callWith pos (<-eval (.Name x p) env) [] (backTo pos (starEach xs env)) (backToKw pos (keywordEach [] env))) _ _ s
 refine wg (WP.into (.refl _ _ _) (.refl _) (hf.v μ σ s ρ m H F) hR aA λb ag ah v ar H2 X2 X1 r e er=>?_)
 show wpAny _ _ (callWith pos v [] (backTo pos (starEach xs env)) []) _ _ ar
 induction r using vC with
 |con v hh=>
  induction v using Value.casesOn with
  |ref a=>
   refine callWith_of (P:=λh=>keepIn K (.ref a)=true/\K.In h) (by rw[ha.noStar pos];rfl) (λh q=>keeps_K q.1 h q.2) (xh ha ?_)
   refine WP.into X1 e (ha.sl.l pos ah ag ar ρ m H2 (F.on H X1)) er aA λl ay aB vs aL H3 X3 X' r' e' b_=>?_
   have ns':Cc G C a l ay≠.stuck:=λz=>aA (b_.trans z)
   exact⟨⟨zew T ns',X.keeps H3.keep⟩,WP.last X' e' b_ aA (ziv X T hC hE H3 (F.on H X').fG r')⟩
  |_=>exact w1 er aA
 |bi k=>
  have de:R=tA G k (E ρ).l ag:=er
  have hk:Nat.blt k 9=true:=by
   induction q:Nat.blt k 9 with
   |true=>rfl
   |false=>exact w1 (de.trans (zl q)) aA
  replace de:=de.trans (xm hk)
  have key:∀{B:Value},B=iO k->wpAny (model prog c.w) A (evalArgs B true (backTo pos (starEach xs env)) []) (λa aw=>wpAny (model prog c.w) A (call B ([]++a.pos) a.kw) (PQ c (RV c) R μ σ s) (PE c R μ σ s) aw) (PE c R μ σ s) ar:=by
   intro B Lg
   subst Lg
   refine xh ha (WP.into X1 e (ha.sl.l pos ah ag ar ρ m H2 (F.on H X1)) de aA λl ay aB vs aL H3 X3 X' r' e' b_=>?_)
   exact WP.last X' e' b_ aA (hB k aB ay aL l vs H3 r')
  rcases vA hk with⟨_,e⟩ | ⟨_,e⟩
  ·rw[<-e] at key ⊢;exact callWith_builtin (ha.noStar pos) (key rfl)
  ·rw[<-e] at key ⊢;exact PySem.callWith_type (ha.noStar pos) (key rfl)
 |_=>exact w1 er aA
theorem zls{m q:Nat}{s:List Nat}{l:List AV}(h:jf m q s l σ≠.stuck):Be m=true:=by
 induction e:Be m with
 |true=>rfl
 |false=>
  unfold Be at e
  simp only[Bool.or_eq_false_iff] at e
  refine jQ e λe1 e2 e3 e4 e5=>?_
  refine w1 ?_ h
  unfold jf
  rw[zl e1,zl e2,zl e3,zl e4,zl e5]
theorem zkl{m o:Nat}{l as:List AV}(h:rN m o l as σ≠.stuck):uG m=true:=by
 induction e:uG m with
 |true=>rfl
 |false=>
  unfold uG at e
  simp only[Bool.or_eq_false_iff] at e
  refine c6 e λe1 e2 e3=>?_
  refine w1 ?_ h
  unfold rN
  rw[zl e1,zl e2,zl e3]
theorem zjm{U:List (List Nat)}{m:Nat}{u:Bool}{es:List (List Nat×AV)}{as:List AV}(h:Cf U m u es as σ≠.stuck):Cn m=true:=by
 induction e:Cn m with
 |true=>rfl
 |false=>exact w1 (zl e) h
theorem PA{γ:Type}{r:Res β}{ok:Bool}{f:β->AH->Res γ}(ns:r.bindC ok f≠.stuck)(h:∀b σ,f b σ≠.stuck->ok=true):ok=true/\r.bindC ok f=r.bind f:=by
 induction r with
 |ok b σ=>exact⟨h b σ ns,rfl⟩
 |exc l σ=>
  induction ok with
  |true=>exact⟨rfl,rfl⟩
  |false=>exact w1 rfl ns
 |stuck=>exact w1 rfl ns
theorem zep{o:Nat}{f:List AV->Res β}(h:zh σ o f≠.stuck):∃l,f l≠.stuck:=by
 unfold zh at h
 induction e:σ.get o with
 |list l=>rw[e] at h;exact⟨l,h⟩
 |_=>rw[e] at h;exact w1 rfl h
theorem zeu{o:Nat}{f:Bool->List (List Nat×AV)->Res β}(h:xd σ o f≠.stuck):∃u es,f u es≠.stuck:=by
 unfold xd at h
 induction e:σ.get o with
 |dict u _ es=>rw[e] at h;exact⟨u,es,h⟩
 |_=>rw[e] at h;exact w1 rfl h
theorem A6{x:Expr}{name:Nat}{apos:Pos}{xs:List Expr}{D E:RD}(X:K.In c.base)(N:∀C,c.ok C->fg K C)(T:fj c K G C)(hC:c9 prog c A C)(hS:vg prog c A)(hL:mM prog c A)(hD:mK prog c A G.U)(hx:SE prog c A env L x D)(ha:SA prog c A env L xs E)(hs:Cd x=true)(hn:xs.length<29)(hl:(apos.endLine==pos.line)=true):
  SE prog c A env L (.Call (.Attribute x (nm name) apos) xs [] pos) (tm G C D name E):=by
 refine SE.l7 (d:=λρ σ=>((D ρ).v σ).bind λv σ=>opt (kr G v name σ) (Y7 G v name (E ρ).l σ) λf=>((E ρ).l σ).bind λl σ=>C f (v::l) σ) (λμ σ s ρ m H F R hR aA=>?_) λ_=>rfl
 rw[arm_eval_Call,JI hs]
 refine wg (WP.into (.refl _ _ _) (.refl _) (hx.v μ σ s ρ m H F) hR aA λb ag ah v ar H2 X2 X1 r e er=>?_)
 refine wg (wk ?_)
 have nF:methodCallForm (xs.length+([]:List Keyword).length) (backTo pos (starEach xs env)) (backToKw pos (keywordEach [] env))=true:=by
  unfold methodCallForm
  have h1:(backTo pos (starEach xs env)).all (λx=>!x.1)=true:=by
   have:=ha.noStar pos
   rw[List.all_eq_not_any_not];simpa using this
  rw[h1]
  show(true&&true&&decide (xs.length+0+0<30))=true
  simp;exact fy hn rfl
 have fN:methodCallPos true x env apos pos=pure pos:=by unfold methodCallPos;simp[hl]
 unfold methodCall
 rw[nF]
 have go:∀(f:Value) (first:List Value),wpAny (model prog c.w) A (callWith pos f first (backTo pos (starEach xs env)) []) (PQ c (RV c) R μ σ s)
   (PE c R μ σ s) ar->
   wpAny (model prog c.w) A (methodCallPos true x env apos pos >>= λpM=>callWith pM f first (backTo pos (starEach xs env)) (backToKw pos (keywordEach [] env))) (PQ c (RV c) R μ σ s)
   (PE c R μ σ s) ar:=λf first z=>wg (wpAny_of_eq fN z)
 refine cps λ_ κ=>?_;induction r using vC with
 |@ins Cl d x' hk hd hg=>
  have de:R=opt (qK G ag Cl d name) Res.stuck λf=>((E ρ).l ag).bind λl σ=>C f (.ins Cl d::l) σ:=er
  induction em:qK G ag Cl d name with
  |none=>rw[em] at de;exact w1 de aA
  |some f=>
   rw[em] at de
   replace de:R=((E ρ).l ag).bind λl σ=>C f (.ins Cl d::l) σ:=de
   unfold qK at em
   induction ek:G.cl.get Cl with
   |none=>rw[ek] at em;exact NS em
   |some k=>
    rw[ek] at em
    change(ag.get d).on none (λ_=>none) (λ_ _=>none) (λes=>opt (aC es name) (gV k.ms name) λ_=>none) (λ_ _=>none)=some f at em
    induction ed:ag.get d with
    |ns es=>
     rw[ed] at em
     change opt (aC es name) (gV k.ms name) (λ_=>none)=some f at em
     induction eg:aC es name with
     |some _=>rw[eg] at em;exact NS em
     |none=>
      rw[eg] at em
      refine c6 (T.af Cl k name f ek em) λf1 f2 f3=>?_
      refine dC (H2.inst hd hg ed) λents kk nr ho I=>?_
      have g:=nr.get name
      rw[eg] at g
      refine κ ?_;clear κ;refine wg (wi (method_fn (X.keeps H2.keep) I (N Cl hk).ga (N Cl hk).gn f1 f2 (by show(lookIn (nm name) (dictOf ents kk)).map _=_;rw[lookIn_dict,g];rfl) ?_))
      refine go _ _ (callWith_of (P:=λh=>K.In h) (by rw[ha.noStar pos];rfl) (λh q=>keeps_K f3 h q) (xh ha ?_))
      refine WP.into X1 e (ha.sl.l pos ah ag ar ρ m H2 (F.on H X1)) de aA λl ay aB vs aL H3 X3 X' r' e' b_=>?_
      exact⟨X.keeps H3.keep,WP.last X' e' b_ aA (WZ hC.1 H3 (F.on H X').fG (.cons ((VR.ins hk hd hg).ext H2 X3) r'))⟩
    |_=>rw[ed] at em;exact NS em
 |str q x t=>
  have de:R=((E ρ).l ag).bindC (Be name) λargs σ=>jf name q x args σ:=er
  refine oA (PA (λz=>aA (de.trans z)) λb σ h=>zls h) λhm eb=>?_
  refine au (hS name hm) λid g1 g2=>?_
  refine κ ?_;clear κ;refine wg (wi (g1 _ _ _ _ _ _ ?_))
  refine go _ _ (callWith_builtin (ha.noStar pos) (xh ha ?_))
  exact WP.into X1 e (ha.sl.l pos ah ag ar ρ m H2 (F.on H X1)) (de.trans eb) aA λl ay aB vs aL H3 X3 X' r' e' b_=>WP.last X' e' b_ aA (g2 aB ay aL q x t l vs H3 r')
 |@obj o hi=>
  refine au (H2.obj o hi) λob bJ ro=>?_
  have de:R =
   (ag.get o).on .stuck (λ_=>((E ρ).l ag).bindC (uG name) λargs σ=>zh σ o λl=>rN name o l args σ) (λ_ _=>((E ρ).l ag).bindC (Cn name) λargs σ=>xd σ o λu es=>Cf G.U name u es args σ) (λ_=>.stuck) λ_ _=>.stuck:=er
  induction ed:ag.get o with
  |list l0=>
   rw[ed] at de ro
   replace de:R=((E ρ).l ag).bindC (uG name) λargs σ=>zh σ o λl=>rN name o l args σ:=de
   refine oA (PA (λz=>aA (de.trans z)) λb σ h=>(zep h).elim λ_ h=>zkl h) λhm eb=>?_
   refine au (hL name hm) λid g1 g2=>?_
   cases ro
   refine κ ?_;clear κ;refine wg (wi (g1 _ _ _ _ _ _ _ bJ ?_))
   refine go _ _ (callWith_builtin (ha.noStar pos) (xh ha ?_))
   refine WP.into X1 e (ha.sl.l pos ah ag ar ρ m H2 (F.on H X1)) (de.trans eb) aA λl ay aB vs aL H3 X3 X' r' e' b_=>?_
   have:=WP.last X' e' b_ aA (g2 aB ay aL o l vs H3 (w7 hi X3.le) r')
   rw[X3.eq o hi] at this
   exact this
  |dict u0 k0 YB=>
   rw[ed] at de ro
   replace de:R=((E ρ).l ag).bindC (Cn name) λargs σ=>xd σ o λu es=>Cf G.U name u es args σ:=de
   refine oA (PA (λz=>aA (de.trans z)) λb σ h=>(zeu h).elim λ_ h=>h.elim λ_ h=>zjm h) λhm eb=>?_
   refine au (hD name hm) λid g1 g2=>?_
   cases ro
   refine κ ?_;clear κ;refine wg (wi (g1 _ _ _ _ _ _ _ bJ ?_))
   refine go _ _ (callWith_builtin (ha.noStar pos) (xh ha ?_))
   refine WP.into X1 e (ha.sl.l pos ah ag ar ρ m H2 (F.on H X1)) (de.trans eb) aA λl ay aB vs aL H3 X3 X' r' e' b_=>?_
   have:=WP.last X' e' b_ aA (g2 aB ay aL o l vs H3 (w7 hi X3.le) r')
   rw[X3.eq o hi] at this
   exact this
  |_=>rw[ed] at de;exact w1 de aA
 |_=>exact w1 er aA
end
def vf(prog:Program)(c:Cx)(A:Around):Prop:=∀μ σ s y v yl vl yu vu a,HR c μ σ s.heap->VR c μ σ.n s.heap y v->VR c μ σ.n s.heap yl vl->VR c μ σ.n s.heap yu vu->
 s.heap.get? a=some { cls:=.type "slice",data:=.fields #[vl,vu,.none] }->rS y yl yu σ≠.stuck->
 (∃T id,s.TypeIs v T/\typeLookup (.type T) "__getitem__" = pure (some (.builtin id)))/\wpAny (model prog c.w) A (getItem v (.ref a)) (PQ c (RV c) (rS y yl yu σ) μ σ s) (PE c (rS y yl yu σ) μ σ s) s
def vd(prog:Program)(c:Cx)(A:Around):Prop:=∀μ σ s y v vs a,HR c μ σ s.heap->VR c μ σ.n s.heap y v->(∃t,vs = .int (-1) t)->
 s.heap.get? a=some { cls:=.type "slice",data:=.fields #[.none,.none,vs] }->js y σ≠.stuck->
 (∃T id,s.TypeIs v T/\typeLookup (.type T) "__getitem__" = pure (some (.builtin id)))/\wpAny (model prog c.w) A (getItem v (.ref a)) (PQ c (RV c) (js y σ) μ σ s) (PE c (js y σ) μ σ s) s
def v9(prog:Program)(c:Cx)(A:Around):Prop:=∀μ σ s y v,HR c μ σ s.heap->VR c μ σ.n s.heap y v->WP prog c A (RV c) (unaryOp .USub v) (Kd y σ) μ σ s
section
variable{G:Gl}{C:Call}
theorem tW{x:Expr}{D:RD}(hN:v9 prog c A)(hx:SE prog c A env L x D):SE prog c A env L (.UnaryOp .USub x pos) (Et D):=by
 refine SE.l7 (d:=λρ σ=>((D ρ).v σ).bind λv σ=>Kd v σ) (λμ σ s ρ m H F R hR aA=>?_) λ_=>rfl
 exact wpAny_UnaryOp (WP.into (.refl _ _ _) (.refl _) (hx.v μ σ s ρ m H F) hR aA λb ag ah v ar H2 X2 X1 r e er=>WP.last X1 e er aA (hN ah ag ar b v H2 r))
def SP(prog:Program)(c:Cx)(A:Around)(env:Env)(L:Fm)(x:Option Expr)(D:RD):Prop:=∀μ σ s ρ m,HR c μ σ s.heap->cm c A μ σ.n s.heap L m ρ->WP prog c A (RV c) (evalPart x env) ((D ρ).v σ) μ σ s
theorem zms: SP prog c A env L none (mV .none):=λμ σ s ρ m H F ns=>wh ⟨_,_,_,rfl,H,.refl _ _ _,.none,.refl _⟩
theorem zm4{x:Expr}{D:RD}(h:SE prog c A env L x D):SP prog c A env L (some x) D:=h.v
theorem P6{T id:String}{Q:Bool->Shared->Prop}{E:Value->Shared->Prop}(hT:s.TypeIs v T)(hl:typeLookup (.type T) "__getitem__" = pure (some (.builtin id)))(h:Q false s):
  wpAny (model prog c.w) A (getitemInPython v) Q E s:=by
 rw[getitemInPython_of_ne hT.not_modules]
 exact wg (wpAny_specialOf hT hl (wh h))
theorem Gy{x:Expr}{lo hi:Option Expr}{D El Eh:RD}{p:Pos}(hS:vf prog c A)(hx:SE prog c A env L x D)(hl:SP prog c A env L lo El)(hh:SP prog c A env L hi Eh):
  SE prog c A env L (.Subscript x (.Slice lo hi none p) pos) (Ew D El Eh):=by
 refine SE.l7 (d:=λρ σ=>((D ρ).v σ).bind λv σ=>((El ρ).v σ).bind λw σ=>((Eh ρ).v σ).bind λx σ=>rS v w x σ) (λμ σ s ρ m H F R hR aA=>?_) λ_=>rfl
 rw[eval_Subscript]
 refine wg (WP.into (.refl _ _ _) (.refl _) (hx.v μ σ s ρ m H F) hR aA λb ag ah v ar H2 X2 X1 r e er=>?_)
 refine wg (wi (wpAny_Slice (WP.into X1 e (hl ah ag ar ρ m H2 (F.on H X1)) er aA λbl ay aB vl aL H3 X3 X' rl e' b_=>?_)))
 refine WP.into X' e' (hh aB ay aL ρ m H3 (F.on H X')) b_ aA λbu bE c8 vu bQ H4 X4 lS ru oD fK=>?_
 rw[evalPart_none]
 refine wh (wg (wk ?_))
 have P:=H4.push { cls:=.type "slice",data:=.fields #[vl,vu,.none] }
 have Ml:rS b bl bu bE≠.stuck:=λz=>aA (fK.trans z)
 have:=hS c8 bE { bQ with heap:=bQ.heap.push { cls:=.type "slice",data:=.fields #[vl,vu,.none] } } b v bl vl bu vu bQ.heap.objs.size P.1 (((r.ext H2 X3).ext H3 X4).ext H4 P.2) ((rl.ext H3 X4).ext H4 P.2) (ru.ext H4 P.2) (we _ rfl) Ml
 refine oA this ?_;clear this;rintro ⟨T,id,hT,hL⟩ hw
 refine wg (P6 hT hL (wg (wpAny_operateT ?_)))
 have sm:b9 bQ { bQ with heap:=bQ.heap.push { cls:=.type "slice",data:=.fields #[vl,vu,.none] } }:=⟨rfl,rfl,rfl⟩
 have DZ:wpAny (model prog c.w) A (getItem v (.ref bQ.heap.objs.size)) (PQ c (RV c) (rS b bl bu bE) μ σ s) (PE c (rS b bl bu bE) μ σ s) { bQ with heap:=bQ.heap.push { cls:=.type "slice",data:=.fields #[vl,vu,.none] } }:=
  wj hw (λ_ _ q=>q.later (lS.trans P.2) (oD.trans sm)) λ_ _ q=>q.later (lS.trans P.2) (oD.trans sm)
 rw[<-fK] at DZ
 exact wj DZ (λw fV q=>wg (wpAny_letTemporaryGo (wh q))) λ_ _ q=>q
theorem Gx{x st:Expr}{D E:RD}{p:Pos}(hR:vd prog c A)(hx:SE prog c A env L x D)(hs:SE prog c A env L st E)(he:∀ρ σ,(E ρ).v σ = .ok (.int 0 (-1)) σ):
  SE prog c A env L (.Subscript x (.Slice none none (some st) p) pos) (xG D):=by
 refine SE.l7 (d:=λρ σ=>((D ρ).v σ).bind λv σ=>js v σ) (λμ σ s ρ m H F R eR aA=>?_) λ_=>rfl
 have e0:((xG D ρ).v σ)=((D ρ).v σ).bind λv σ=>((E ρ).v σ).bind λ_ σ=>js v σ:=by
  show((D ρ).v σ).bind (λv σ=>js v σ)=_
  congr 1;funext v σ;rw[he];rfl
 rw[eval_Subscript]
 refine wg (WP.into (.refl _ _ _) (.refl _) (hx.v μ σ s ρ m H F) (eR.trans e0) aA λb ag ah v ar H2 X2 X1 r e er=>?_)
 refine wg (wi (wpAny_Slice ?_))
 rw[evalPart_none]
 refine wh (wh ?_)
 rw[evalPart_some]
 refine wj (WP.into (R:=λμ n h a w=>VR c μ n h a w/\a = .int 0 (-1)) (P:=λw aL=>∃ay aB,(∃t,w = .int (-1) t)/\HR c aB ay aL.heap/\Ext ah ag.n ar.heap aB ay.n aL.heap/\Ext μ σ.n s.heap aB ay.n aL.heap/\b9 s aL/\R=js b ay) X1 e ?_ er aA λb' ay aB v' aL H3 X3 X' r' e' b_=>?_) ?_ ?_
 ·intro nn
  refine wj (hs.v ah ag ar ρ m H2 (F.on H X1) nn) (λw s' q=>?_) λ_ _ q=>q
  refine lN q λb' ai aj q1 q2 q3 q4 q5=>?_
  have:=(he ρ ag).symm.trans q1
  injection this with t1 t2
  exact iH b' ai aj q1 q2 q3 ⟨q4,t1.symm⟩ q5
 ·refine oA r' ?_;clear r';rintro r' rfl
  refine⟨ay,aB,?_,H3,X3,X',e',b_⟩
  cases r' with
  |int _ _ t=>exact⟨t,by show Value.int ((0:Int) + -1) t=_;rfl⟩
 ·rintro w aL ⟨ay,aB,ht,H3,X3,X',e',b_⟩
  refine wg (wk ?_)
  have P:=H3.push { cls:=.type "slice",data:=.fields #[.none,.none,w] }
  have sM:R=js b ay:=b_
  have Ml:js b ay≠.stuck:=λz=>aA (sM.trans z)
  have:=hR aB ay { aL with heap:=aL.heap.push { cls:=.type "slice",data:=.fields #[.none,.none,w] } } b v w aL.heap.objs.size P.1 ((r.ext H2 X3).ext H3 P.2) ht (we _ rfl) Ml
  refine oA this ?_;clear this;rintro ⟨T,id,hT,hL⟩ hw
  refine wg (P6 hT hL (wg (wpAny_operateT ?_)))
  have sm:b9 aL { aL with heap:=aL.heap.push { cls:=.type "slice",data:=.fields #[.none,.none,w] } }:=⟨rfl,rfl,rfl⟩
  have DZ:wpAny (model prog c.w) A (getItem v (.ref aL.heap.objs.size)) (PQ c (RV c) (js b ay) μ σ s) (PE c (js b ay) μ σ s) { aL with heap:=aL.heap.push { cls:=.type "slice",data:=.fields #[.none,.none,w] } }:=
   wj hw (λ_ _ q=>q.later (X'.trans P.2) (e'.trans sm)) λ_ _ q=>q.later (X'.trans P.2) (e'.trans sm)
  rw[<-sM] at DZ
  exact wj DZ (λw fV q=>wg (wpAny_letTemporaryGo (wh q))) λ_ _ q=>q
 ·intro v' s' q
  exact q
end
section
variable{G:Gl}{C:Call}
theorem A1: SE prog c A env L (.Dict [] [] pos) (qI G jw):=by
 refine SE.EK (d:=λρ σ=>((jw ρ).l (σ.push (.dict false 0 []))).bind λl ai=>opt (je l) .stuck λps=>Ct G σ.n ps ai) (λμ σ s ρ m H F aA=>?_) λ_=>rfl
 have G1:=H.alloc (o:=emptyDict) (a:=.dict false 0 []) rfl (.dict (pre:=[]) (ents:=[]) (k:=0) .nil ⟨⟨w9 _,w9 _⟩,λ_ h=>nomatch h⟩ λ_=>⟨rfl,rfl⟩)
 have e0:(qI G jw ρ).v σ = .ok (.obj σ.n) (σ.push (.dict false 0 [])):=rfl
 refine wpAny_Dict_empty ?_
 refine PQ.fin G1.1 G1.2 ⟨rfl,rfl,rfl⟩ e0 ?_
 have:=VR.obj (c:=c) (μ:=yg μ σ.n s.heap.objs.size) (n:=σ.n+1) (h:=s.heap.push emptyDict) (i:=σ.n) (wb _)
 rw[zz] at this
 exact this
end
def QY(c:Cx)(μ:Nat->Addr)(n:Nat)(h:Heap):Fl->Flow->Prop
 |.next,f=>f = .next
 |.cont,f=>f = .cont
 |.ret y,f=>∃v,f = .ret v/\VR c μ n h y v
structure ax (c:Cx) (A:Around) (a9:Nat->Addr) (ae:Nat) (aa:Shared) (L:Fm) (μ:Nat->Addr) (σ:AH) (ρ:az) (s:Shared):Prop where
 hr:HR c μ σ s.heap
 ex:Ext a9 ae aa.heap μ σ.n s.heap
 sm:b9 aa s
 fr:∃m,cm c A μ σ.n s.heap L m ρ
 out:∀b,L.iM b->aa.heap.get? b=none
def SQ(c:Cx)(A:Around)(x:XR)(a9:Nat->Addr)(ae:Nat)(aa:Shared)(L:Fm)(f:Flow)(s':Shared):Prop:=
 ∃fl aI ai aj,x = .ok fl aI ai/\ax c A a9 ae aa L aj ai aI s'/\QY c aj ai.n s'.heap fl f
def d7(c:Cx)(A:Around)(x:XR)(a9:Nat->Addr)(ae:Nat)(aa:Shared)(L:Fm)(e:Value)(s':Shared):Prop:=
 ∃l aI ai aj,x = .exc l aI ai/\ax c A a9 ae aa L aj ai aI s'/\pA c aa.heap aj ai s'.heap l e
def SS(prog:Program)(c:Cx)(A:Around)(env:Env)(L:Fm)(st:Stmt)(X:XD):Prop:=∀a9 ae aa μ σ s ρ,ax c A a9 ae aa L μ σ ρ s->X ρ σ≠.stuck->
 wpAny (model prog c.w) A (exec st env) (SQ c A (X ρ σ) a9 ae aa L) (d7 c A (X ρ σ) a9 ae aa L) s
def ib(prog:Program)(c:Cx)(A:Around)(env:Env)(L:Fm)(Jj:List Stmt)(X:XD):Prop:=∀a9 ae aa μ σ s ρ,ax c A a9 ae aa L μ σ ρ s->X ρ σ≠.stuck->
 wpAny (model prog c.w) A (execs Jj env) (SQ c A (X ρ σ) a9 ae aa L) (d7 c A (X ρ σ) a9 ae aa L) s
section
variable{G:Gl}{C:Call}
theorem ax.step(x:ax c A a9 ae aa L μ σ ρ s)(H:HR c aj ai s'.heap)(X:Ext μ σ.n s.heap aj ai.n s'.heap)(e:b9 s s'):ax c A a9 ae aa L aj ai ρ s':=
 ⟨H,x.ex.trans X,x.sm.trans e,x.fr.elim λm F=>⟨m,F.ext x.hr X⟩,x.out⟩
theorem WP.cM{R:Rel β α}{m:Sem α}{r:Res β}{f:β->AH->XR}{xr:XR}{P:α->Shared->Prop}(S:ax c A a9 ae aa L μ σ ρ s)(h:WP prog c A R m r μ σ s)(er:xr=r.bO ρ f)(ns:xr≠.stuck)(k:∀b ag ah a ar,ax c A a9 ae aa L ah ag ρ ar->Ext μ σ.n s.heap ah ag.n ar.heap->R ah ag.n ar.heap b a->xr=f b ag->P a ar):
  wpAny (model prog c.w) A m P (d7 c A xr a9 ae aa L) s:=by
 have nr:r≠.stuck:=λz=>ns (by rw[er,z];rfl)
 refine wj (h nr) ?_ ?_
 ·rintro a ar ⟨b,ag,ah,rfl,H,X2,x,e2⟩
  exact k b ag ah a ar (S.step H X2 e2) X2 x er
 ·rintro v ar ⟨l,ag,ah,rfl,H,X2,x,e2⟩
  exact lL l ρ ag ah er (S.step H X2 e2) (x.from S.ex)
theorem Qw: ib prog c A env L [] ji:=λa9 ae aa μ σ s ρ S ns=>wpAny_execs_nil ⟨.next,ρ,σ,μ,rfl,S,rfl⟩
theorem HB{st:Stmt}{Jj:List Stmt}{X Y:XD}(h1:SS prog c A env L st X)(h2:ib prog c A env L Jj Y):ib prog c A env L (st::Jj) (lI X Y):=λa9 ae aa μ σ s ρ S ns=>by
 have n1:X ρ σ≠.stuck:=λz=>ns (by show(X ρ σ).seq Y=_;rw[z];rfl)
 refine wpAny_execs_cons (wj (h1 a9 ae aa μ σ s ρ S n1) ?_ ?_)
 ·rintro f s' ⟨fl,aI,ai,aj,e,S',hf⟩
  have e':lI X Y ρ σ = (XR.ok fl aI ai).seq Y:=by show(X ρ σ).seq Y=_;rw[e]
  rw[e'] at ns ⊢
  induction fl with
  |next=>cases hf;exact h2 a9 ae aa aj ai s' aI S' ns
  |cont=>cases hf;exact lL .cont aI ai aj rfl S' rfl
  |ret y=>refine au hf ?_;clear hf;rintro v rfl hv;exact⟨.ret y,aI,ai,aj,rfl,S',v,rfl,hv⟩
 ·rintro v s' ⟨l,aI,ai,aj,e,S',hf⟩
  exact lL l aI ai aj (by show(X ρ σ).seq Y=_;rw[e];rfl) S' hf
theorem As: SS prog c A env L (.Pass pos) ji:=λa9 ae aa μ σ s ρ S ns=>wpAny_Pass ⟨.next,ρ,σ,μ,rfl,S,rfl⟩
theorem Aq: SS prog c A env L (.Continue pos) uo:=λa9 ae aa μ σ s ρ S ns=>wpAny_Continue ⟨.cont,ρ,σ,μ,rfl,S,rfl⟩
theorem ub{x:Expr}{D:RD}(h:SE prog c A env L x D):SS prog c A env L (.Return (some x) pos) (AS D):=λa9 ae aa μ σ s ρ S ns=>by
 refine oE S.fr λm F=>?_
 exact wpAny_Return_some (WP.cM S (h.v μ σ s ρ m S.hr F) rfl ns λb ag ah v ar S2 X2 r er=>⟨.ret b,ρ,ag,ah,er,S2,v,rfl,r⟩)
theorem Au: SS prog c A env L (.Return none pos) ur:=λa9 ae aa μ σ s ρ S ns=>wpAny_Return_none ⟨.ret .none,ρ,σ,μ,rfl,S,.none,rfl,.none⟩
theorem OJ{t:Expr}{b o:List Stmt}{D:RD}{X Y:XD}(ht:SE prog c A env L t D)(hb:ib prog c A env L b X)(ho:ib prog c A env L o Y):SS prog c A env L (.If t b o pos) (Hb D X Y):=λa9 ae aa μ σ s ρ S ns=>by
 refine oE S.fr λm F=>?_
 refine wpAny_If (WP.cM S (ht.b μ σ s ρ m S.hr F) rfl ns λr ag ah v ar S2 X2 e er=>?_)
 cases e
 rw[er] at ns ⊢
 induction r with
 |true=>exact hb a9 ae aa ah ag ar ρ S2 ns
 |false=>exact ho a9 ae aa ah ag ar ρ S2 ns
end
theorem yv(ρ:az)(x y:Nat)(v:AV):aC (zd ρ x v) y=if y=x then some v else aC ρ y:=by
 induction ρ with
 |nil=>
  rw[zjo,pj,Wx]
  by_cases q:x=y
  ·rw[if_pos q,if_pos q.symm]
  ·rw[if_neg q,if_neg λz=>q z.symm]
 |cons p l ih=>
  rw[VX]
  by_cases q:p.1=x
  ·rw[if_pos q,pj,pj]
   by_cases q':x=y
   ·rw[if_pos q',if_pos q'.symm]
   ·rw[if_neg q',if_neg λz=>q' z.symm,if_neg λz=>q' (q.symm.trans z)]
  ·rw[if_neg q,pj,pj,ih]
   by_cases q':p.1=y
   ·rw[if_pos q',if_pos q',if_neg λz=>q (q'.trans z)]
   ·rw[if_neg q',if_neg q']
theorem cX.store{b:Addr}(x:cX c A μ n h)(sb:Heap.SameBut b h h')(N:DictAt h b->DictAt h' b):cX c A μ n h':=by
 refine dR x λfs e f o=>?_
 have keep:∀e∈fs,∀l,e.frame=some l->DictAt h' l:=λe he l hl=>by
  by_cases q:l=b
  ·subst q;exact N (o e he l hl).2
  ·refine au (o e he l hl).2 λo2 e2 d2=>?_
   exact aT o2 ((sb.2 _ q).trans e2) d2
 refine mH fs e ?_ (λe he l hl=>⟨(o e he l hl).1,keep e he l hl⟩)
 clear e o
 induction fs with
 |nil=>trivial
 |cons env rest ih=>
  refine c6 f ?_;clear f;rintro hk ⟨L',ob,hf,hn,ho,hd⟩ hr
  refine au (keep env (.head _) L' hf) λo2 e2 q9=>?_;refine eQ q9 λes ep d2=>?_
  exact dp hk ⟨L',o2,hf,hn,e2,λvs z=>by rw[d2] at z;contradiction⟩ (ih hr λe he=>keep e (.tail _ he))
section
variable{m m':Str->Option Value}
theorem W6{a:Addr}(N:h.Ns a m)(e:h.get? a=some o):¬Fix o:=by
 refine ou N λo' es ep ho hd _=>?_
 rw[e] at ho
 obtain rfl:=w3 ho
 rintro (⟨_,a,n,z⟩ | ⟨C,d,z⟩)
 ·rw[hd] at z;contradiction
 ·rw[z] at hd;contradiction
theorem cm.has(F:cm c A μ n h L m ρ){b:Addr}(hb:L.iM b):c.base.get? b=none/\(∀i,i<n->μ i≠b)/\(∃o,h.get? b=some o)/\∀o,h.get? b=some o->¬Fix o/\∀vs,o.data≠.fields vs:=by
 rcases hb with rfl | ⟨p,hp,rfl⟩
 ·refine nH ?_ F.own ?_ (λo e=>⟨W6 F.ns e,λvs z=>?_⟩)
  ·induction q:c.base.get? L.a with
   |none=>rfl
   |some o=>exact w1 (w7 (Heap.lt_size q) F.above) (Nat.lt_irrefl _)
  ·refine dY F.ns λo _ _ ho _=>?_;exact⟨o,ho⟩
  ·refine ou F.ns λo' es ep ho hd _=>?_
   rw[e] at ho;obtain rfl:=w3 ho
   rw[hd] at z;contradiction
 ·obtain⟨a1,a2,v,x⟩:=F.dj p (Fm.mem hp)
  refine nH a1 a2 ?_ (λo e=>⟨(IsCell.iy x e).2.2,(IsCell.iy x e).2.1⟩)
  refine au x λo ho _=>?_
  exact⟨o,ho⟩
theorem ax.frame(S:ax c A a9 ae aa L μ σ ρ s)(F:cm c A μ σ.n s.heap L m ρ){b:Addr}(hb:L.iM b)(sb:Heap.SameBut b s.heap s'.heap)(sm:b9 s s'):
  HR c μ σ s'.heap/\Ext a9 ae aa.heap μ σ.n s'.heap/\b9 aa s'/\y1 s.heap s'.heap:=by
 refine jS (F.has hb) λEC Mk _ Me=>?_
 have tk:y1 s.heap s'.heap:=λa o e hf=>(sb.2 a λz=>(Me o (z▸e)).1 hf).trans e
 have nb:∀b' o,c.base.get? b'=some o->b'≠b:=λb' o e z=>by rw[z,EC] at e;exact NS e
 refine nH ⟨λb o e=>(sb.2 b (nb b o e)).trans (S.hr.keep b o e),λl hl=>?_,S.hr.inj,S.hr.new⟩ ?_ (S.sm.trans sm) tk
 ·refine au (S.hr.obj l hl) λo ho x=>?_
  exact aT o ((sb.2 _ (Mk l hl)).trans ho) (x.mono (wa _) (λ_ _=>rfl) tk)
 ·refine⟨S.ex.le,S.ex.eq,S.ex.fresh,λb' o e ne=>?_,λi hi e=>?_⟩
  ·refine au (S.ex.kp b' o e ne) λsl e1 e2=>?_
   exact aT sl ((sb.2 b' λz=>by rw[z,S.out b hb] at e;exact NS e).trans e1) e2
  ·have ne:a9 i≠b:=λz=>by rw[z,S.out b hb] at e;exact FT e
   rw[sb.2 _ ne];exact S.ex.own i hi e
def mN(env:Env)(L:Fm)(x:Nat):Prop:=(env.kindOf (nm x)=some .local/\L.all.lookup (nm x)=none)\/(env.kindOf (nm x)=some .cell/\∃ca,L.all.lookup (nm x)=some ca/\(nm x,ca)∈L.cl)
theorem PK(F:cm c A μ n h L m ρ){p:Str×Addr}(hp:p∈L.all):p.2≠L.a:=λz=>by
 refine c6 (F.dj p hp) λ_ _ q9=>?_;refine bw q9 λv o ho hd=>?_
 refine ou F.ns λo' es ep iq fL _=>?_
 rw[z,iq] at ho;obtain rfl:=w3 ho
 rw[fL] at hd;contradiction
theorem ax.iF(S:ax c A a9 ae aa L μ σ ρ s)(F:cm c A μ σ.n s.heap L m ρ)(sb:Heap.SameBut L.a s.heap s'.heap)(sm:b9 s s'){x:Nat}{y:AV}(hn:L.all.lookup (nm x)=none)(r:VR c μ σ.n s.heap y v)(N:s'.heap.Ns L.a (λz=>if z=nm x then some v else m z)):cm c A μ σ.n s'.heap L (λz=>if z=nm x then some v else m z) (zd ρ x y)/\ax c A a9 ae aa L μ σ (zd ρ x y) s'/\y1 s.heap s'.heap:=by
 refine jS (S.frame F (.inl rfl) sb sm) λa b d tk=>?_
 have hc:∀p∈L.all,s'.heap.get? p.2=s.heap.get? p.2:=λp hp=>sb.2 _ (PK F hp)
 have F':cm c A μ σ.n s'.heap L (λz=>if z=nm x then some v else m z) (zd ρ x y):=by
  refine⟨N,F.above,F.own,λz=>?_,F.fG.store sb λ_=>?_,λp hp=>?_,F.lU⟩
  ·rw[yv]
   by_cases q:z=x
   ·subst q
    rw[if_pos rfl]
    exact aT v (by unfold look;rw[hn];exact if_pos rfl) (r.mono (wa _) (λ_ _=>rfl) tk)
   ·rw[if_neg q]
    have:=F.vals z
    have ne:nm z≠nm x:=λe=>q (Cg e)
    split at this
    ·refine au this λw hw Gj=>?_
     exact aT w ((PY hc λ_=>if_neg ne).trans hw) (Gj.mono (Nat.le_refl _) (λ_ _=>rfl) tk)
    ·trivial
  ·refine ou N λo' es ep iq fL _=>?_
   exact⟨o',iq,es,ep,fL⟩
  ·refine c6 (F.dj p hp) λa1 a2 q9=>?_;refine bw q9 λw o ho hd=>?_
   exact⟨a1,a2,w,o,(hc p hp).trans ho,hd⟩
 exact dp F' ⟨a,b,d,⟨_,F'⟩,S.out⟩ tk
theorem ax.n_(S:ax c A a9 ae aa L μ σ ρ s)(F:cm c A μ σ.n s.heap L m ρ){ca:Addr}(sb:Heap.SameBut ca s.heap s'.heap)(sm:b9 s s'){x:Nat}{y:AV}(hn:L.all.lookup (nm x)=some ca)(DN:(nm x,ca)∈L.cl)(r:VR c μ σ.n s.heap y v)(N:s'.heap.IsCell ca (some v)):ax c A a9 ae aa L μ σ (zd ρ x y) s'/\y1 s.heap s'.heap:=by
 have hm:=y6 hn
 refine jS (S.frame F (.inr ⟨_,DN,rfl⟩) sb sm) λa b d tk=>?_
 have YT:L.a≠ca:=λz=>PK F hm z.symm
 have other:∀z,nm z≠nm x->look s'.heap m L.all (nm z)=look s.heap m L.all (nm z):=λz ne=>by
  unfold look
  induction e:L.all.lookup (nm z) with
  |none=>rfl
  |some cb=>
   show rR s'.heap cb=rR s.heap cb
   have Zm:=y6 e
   have:cb≠ca:=λq=>ne (by
    subst q
    have key:∀{l:List (Str×Addr)},(l.map (·.2)).Nodup->(nm z,cb)∈l->(nm x,cb)∈l->nm z=nm x:=λ{l} nd h1 h2=>by
     induction l with
     |nil=>cases h1
     |cons p l ih=>
      rw[List.map_cons,List.nodup_cons] at nd
      rcases w8.mp h1 with r1 | r1 <;> rcases w8.mp h2 with r2 | r2
      ·rw[<-r1] at r2;exact(congrArg (·.1) r2).symm
      ·exact w1 (by rw[<-r1];exact List.mem_map_of_mem (f:=(·.2)) r2) nd.1
      ·exact w1 (by rw[<-r2];exact List.mem_map_of_mem (f:=(·.2)) r1) nd.1
      ·exact ih nd.2 r1 r2
    exact key F.lU Zm hm)
   unfold rR
   rw[sb.2 cb this]
 have F':cm c A μ σ.n s'.heap L m (zd ρ x y):=by
  refine⟨F.ns.sameBut sb YT,F.above,F.own,λz=>?_,F.fG.store sb λhd=>?_,λp hp=>?_,F.lU⟩
  ·rw[yv]
   by_cases q:z=x
   ·subst q
    rw[if_pos rfl]
    exact aT v (by unfold look;rw[hn];exact IsCell.val N) (r.mono (wa _) (λ_ _=>rfl) tk)
   ·rw[if_neg q]
    have:=F.vals z
    split at this
    ·refine au this λw hw Gj=>?_
     exact aT w ((other z λe=>q (Cg e)).trans hw) (Gj.mono (Nat.le_refl _) (λ_ _=>rfl) tk)
    ·trivial
  ·obtain⟨_,_,w,hw⟩:=F.dj _ hm
   refine au hd λo e1 e2=>?_
   exact w1 e2 (IsCell.iy hw e1).1
  ·obtain⟨a1,a2,w,hw⟩:=F.dj p hp
   refine dp a1 a2 ?_
   by_cases q:p.2=ca
   ·rw[q];exact⟨_,N⟩
   ·exact⟨w,hw.sameBut sb q⟩
 exact⟨⟨a,b,d,⟨_,F'⟩,S.out⟩,tk⟩
end
section
variable{G:Gl}{C:Call}
theorem JH(EO:bz env L):(env.scope.kind==.class||(env.scope.kind==.module&&env.locals != env.globals))=false:=by rw[EO.kind];rfl
theorem xz{E:Value->Shared->Prop}{Q:Unit->Shared->Prop}{x:Nat}{y:AV}(EO:bz env L)(hx:mN env L x)(S:ax c A a9 ae aa L μ σ ρ s)(r:VR c μ σ.n s.heap y v)(h:∀s',ax c A a9 ae aa L μ σ (zd ρ x y) s'->y1 s.heap s'.heap->Q () s'):wpAny (model prog c.w) A (storeName env (nm x) v) Q E s:=by
 refine oE S.fr λm F=>?_
 rcases hx with⟨hx,hn⟩ | ⟨hx,ca,hn,DN⟩
 ·refine wpAny_storeName_local hx (EO.loc▸F.ns) (λh' DP hs=>?_) (JH EO)
  rw[EO.loc] at DP hs
  refine c6 (S.iF (s':={ s with heap:=h',toks:=s.toks+1 }) F hs ⟨rfl,rfl,rfl⟩ hn r DP) λ_ a b=>?_
  exact h _ a b
 ·obtain⟨_,_,w,hw⟩:=F.dj _ (y6 hn)
  refine wpAny_storeName_cell EO.kind hx (by rw[EO.dj];exact hn) hw λh' hc hs=>?_
  refine oA (S.n_ (s':={ s with heap:=h' }) F hs ⟨rfl,rfl,rfl⟩ hn DN r hc) λa b=>?_
  exact h _ a b
theorem zm1{m:Str->Option Value}{x:Nat}{y:AV}(EO:bz env L)(hx:mN env L x)(F:cm c A μ σ.n s.heap L m ρ)(e:aC ρ x=some y):
  ∃v,VR c μ σ.n s.heap y v/\∀(Q:Value->Shared->Prop) E,Q v s->wpAny (model prog c.w) A (loadName env (nm x)) Q E s:=by
 have V:=F.vals x
 rw[e] at V
 refine au V λv hv r=>?_
 unfold look at hv
 rcases hx with⟨hx,hn⟩ | ⟨hx,ca,hn,_⟩
 ·rw[hn] at hv
  exact aT v r (λQ E q=>wpAny_loadName_local EO.kind hx (EO.loc▸F.ns) hv q)
 ·rw[hn] at hv
  obtain⟨_,_,w,hw⟩:=F.dj _ (y6 hn)
  have:w=some v:=(IsCell.val hw).symm.trans hv
  subst this
  exact aT v r (λQ E q=>wpAny_loadName_cell EO.kind hx (by rw[EO.dj];exact hn) hw q)
theorem GW{x:Nat}{e:Expr}{D:RD}{p:Pos}(EO:bz env L)(hx:mN env L x)(h:SE prog c A env L e D)(hs:swapsWith e (some (.Name (nm x) p)) pos.line env=pure false):SS prog c A env L (.Assign [.Name (nm x) p] e pos) (r_ x D):=λa9 ae aa μ σ s ρ S ns=>by
 refine oE S.fr λm F=>?_
 refine wpAny_Assign_Name (WP.cM S (h.v μ σ s ρ m S.hr F) rfl ns λb ag ah v ar S2 X2 r er=>?_) hs
 exact xz EO hx S2 r λs' S' _=>⟨.next,_,ag,ah,er,S',rfl⟩
end
section
variable{G:Gl}{C:Call}
theorem Qk{e:Expr}{D:RD}(h:SE prog c A env L e D)(hi:interactive env=false)(hs:swapsWith e none pos.line env=pure false):SS prog c A env L (.Expr e pos) (Co D):=λa9 ae aa μ σ s ρ S ns=>by
 refine oE S.fr λm F=>?_
 refine wpAny_Expr_any (WP.cM S (h.v μ σ s ρ m S.hr F) rfl ns λb ag ah v ar S2 X2 r er=>?_) hi hs
 exact lL .next ρ ag ah er S2 rfl
end
section
variable{G:Gl}{C:Call}
theorem Vt{ns:Nat->Prop}(N:fW c K ns){a:Nat}(ha:ns a){y z:AV}{w:Value}(H:HR c μ σ s.heap)(r:VR c μ σ.n s.heap y v)(rz:VR c μ σ.n s.heap z w):
  WP prog c A RU (setAttr v (nm a) w) (Ph y a z σ) μ σ s:=by
 induction r using vC with
 |ins hk hd hx=>exact zg7 H N.X (N.cls _ hk) (N.fm _ hk _ ha) hd hx rz
 |_=>exact λns=>w1 rfl ns
theorem Ak{ns:Nat->Prop}(N:fW c K ns){o e:Expr}{a:Nat}{D E:RD}{p:Pos}(ha:ns a)(ho:SE prog c A env L o D)(he:SE prog c A env L e E)(hs:swapsWith e (some (.Attribute o (nm a) p)) pos.line env=pure false):
  SS prog c A env L (.Assign [.Attribute o (nm a) p] e pos) (uh D a E):=λa9 ae aa μ σ s ρ S aA=>by
 refine oE S.fr λm F=>?_
 refine plainObj_wpAny_Assign_Attribute (WP.cM S (he.v μ σ s ρ m S.hr F) rfl aA λb ag ah v ar S2 X2 r er=>?_) hs
 refine oE S2.fr λm2 F2=>?_
 refine WP.cM S2 (ho.v ah ag ar ρ m2 S2.hr F2) er aA λb' ay aB v' aL S3 X3 r' b_=>?_
 exact WP.cM S3 (Vt N ha S3.hr r' (r.ext S2.hr X3)) b_ aA λ_ bE c8 _ bQ S4 X4 _ wt=>⟨.next,ρ,bE,c8,wt,S4,rfl⟩
def px(prog:Program)(c:Cx)(A:Around):Prop:=∀μ σ s y z v w,HR c μ σ s.heap->VR c μ σ.n s.heap y v->VR c μ σ.n s.heap z w->WP prog c A (RV c) (inplaceOp .Add v w) (Bf y z σ) μ σ s
theorem Ao{ns:Nat->Prop}(N:fW c K ns)(XA:dH prog c A ns)(hA:px prog c A){o e:Expr}{a:Nat}{D E:RD}{p:Pos}(ha:ns a)(ho:SE prog c A env L o D)(he:SE prog c A env L e E):
  SS prog c A env L (.AugAssign (.Attribute o (nm a) p) .Add e pos) (uj D a E):=λa9 ae aa μ σ s ρ S aA=>by
 refine oE S.fr λm F=>?_
 refine wpAny_AugAssign_AttributeAny (WP.cM S (ho.v μ σ s ρ m S.hr F) rfl aA λb ag ah v ar S2 X2 r er=>?_)
 refine WP.cM S2 (W8 N XA ha S2.hr r) er aA λb3 ay aB v3 aL S3 X3 r3 sM=>?_
 refine oE S3.fr λm3 F3=>?_
 refine WP.cM S3 (he.v aB ay aL ρ m3 S3.hr F3) sM aA λb4 bE c8 v4 bQ S4 X4 r4 wt=>?_
 refine WP.cM S4 (hA c8 bE bQ b3 b4 v3 v4 S4.hr (r3.ext S3.hr X4) r4) wt aA λb5 gi gh v5 fV S5 X5 r5 wu=>?_
 exact WP.cM S5 (Vt N ha S5.hr (((r.ext S2.hr X3).ext S3.hr X4).ext S4.hr X5) r5) wu aA λ_ jX jT _ GR S6 X6 _ L8=>⟨.next,ρ,jX,jT,L8,S6,rfl⟩
end
section
variable{G:Gl}{C:Call}
theorem Ap(hA:px prog c A){x:Nat}{e:Expr}{E:RD}{p:Pos}(EO:bz env L)(hx:mN env L x)(he:SE prog c A env L e E):
  SS prog c A env L (.AugAssign (.Name (nm x) p) .Add e pos) (HD x E):=λa9 ae aa μ σ s ρ S aA=>by
 refine oE S.fr λm F=>?_
 induction eg:aC ρ x with
 |none=>
  refine w1 ?_ aA
  unfold HD
  rw[eg];rfl
 |some y=>
  refine au (zm1 (prog:=prog) EO hx F eg) λv r hv=>?_
  have e0:HD x E ρ σ = ((E ρ).v σ).bO ρ λw σ=>(Bf y w σ).bO ρ λr σ=>.ok .next (zd ρ x r) σ:=by
   unfold HD;rw[eg];rfl
  refine wpAny_AugAssign_Name (hv _ _ ?_)
  refine WP.cM S (he.v μ σ s ρ m S.hr F) e0 aA λb ag ah w ar S2 X2 r2 er=>?_
  refine WP.cM S2 (hA ah ag ar y b v w S2.hr (r.ext S.hr X2) r2) er aA λb3 ay aB v3 aL S3 X3 r3 sM=>?_
  exact xz EO hx S3 r3 λs' S' _=>⟨.next,_,ay,aB,sM,S',rfl⟩
end
def ve(prog:Program)(c:Cx)(A:Around)(G:Gl):Prop:=∀μ σ s y i z v j w,HR c μ σ s.heap->VR c μ σ.n s.heap y v->VR c μ σ.n s.heap i j->VR c μ σ.n s.heap z w->WP prog c A RU (setItem v j w) (JF G y i z σ) μ σ s
section
variable{G:Gl}{C:Call}
theorem Al(hS:ve prog c A G){o i e:Expr}{D I E:RD}{p:Pos}(ho:SE prog c A env L o D)(hi:SE prog c A env L i I)(he:SE prog c A env L e E)(hs:swapsWith e (some (.Subscript o i p)) pos.line env=pure false):
  SS prog c A env L (.Assign [.Subscript o i p] e pos) (ui G D I E):=λa9 ae aa μ σ s ρ S aA=>by
 refine oE S.fr λm F=>?_
 refine wpAny_Assign_Subscript (WP.cM S (he.v μ σ s ρ m S.hr F) rfl aA λb ag ah v ar S2 X2 r er=>?_) hs
 refine oE S2.fr λm2 F2=>?_
 refine WP.cM S2 (ho.v ah ag ar ρ m2 S2.hr F2) er aA λb3 ay aB v3 aL S3 X3 r3 sM=>?_
 refine oE S3.fr λm3 F3=>?_
 refine WP.cM S3 (hi.v aB ay aL ρ m3 S3.hr F3) sM aA λb4 bE c8 v4 bQ S4 X4 r4 wt=>?_
 exact WP.cM S4 (hS c8 bE bQ b3 b4 b v3 v4 v S4.hr (r3.ext S3.hr X4) r4 ((r.ext S2.hr X3).ext S3.hr X4)) wt aA λ_ gi gh _ fV S5 X5 _ wu=>⟨.next,ρ,gi,gh,wu,S5,rfl⟩
end
def bS(c:Cx)(h₀:Heap)(μ:Nat->Addr)(σ:AH)(h:Heap)(l:Nat)(e:Value):Prop:=
 e = .ref (μ l)/\l < σ.n/\∃C d bb o vs,σ.get l = .exc C d (bb+1)/\h.get? (μ l)=some o/\o.data = .fields vs/\
  ∃T oT ts,vs[1]? = some (.ref T)/\h.get? T=some oT/\oT.cls = .type "traceback"/\oT.data = .fields ts/\3<ts.size/\h₀.get? T=none/\c.base.get? T=none
theorem bS.Ii{h₀:Heap}{l:Nat}{e:Value}(x:bS c h₀ μ σ h l e):pA c h₀ μ σ h l e:=by
 refine cps λ_ κ=>?_;refine oA x λa q9=>?_;refine oA q9 λb q9=>?_;refine eC q9 λC d bb o q9=>?_;refine au q9 λvs e1 q9=>?_;refine c6 q9 λe2 e3 q9=>?_;refine EF q9 λT oT ts e4=>?_
 refine κ ?_;clear κ;exact⟨a,b,C,d,bb,o,vs,e1,e2,e3,.inr ⟨T,oT,ts,e4⟩⟩
theorem Vm(o:Obj)(f:Array Value->Array Value):(o.mapFields f).dict=o.dict:=by
 unfold Obj.mapFields;split <;> rfl
section
variable{l C d:Nat}{bb:Nat}
theorem ax.turn(S:ax c A a9 ae aa L μ σ ρ s)(hl:l < σ.n)(ha:σ.get l = .exc C d bb)(X:Addr->Prop)(hX:∀T,X T->aa.heap.get? T=none/\c.base.get? T=none/\∃oT ts,s.heap.get? T=some oT/\oT.cls = .type "traceback"/\oT.data = .fields ts){fs:List Env}(Ru:A.frames=some fs)(k1:∀b o,s.heap.get? b=some o->b≠μ l->¬X b->b∉fs.filterMap (·.frame)->s'.heap.get? b=some o)(k2:∀b o,b∈fs.filterMap (·.frame)->s.heap.get? b=some o->∃sl,s'.heap.get? b=some { o with slots:=sl })(ke:∃o',s'.heap.get? (μ l)=some o'/\aG c μ σ.n s'.heap (.exc C d bb) o')(sz:s.heap.objs.size<=s'.heap.objs.size)(sm:b9 s s'):ax c A a9 ae aa L μ σ ρ s':=by
 obtain⟨Il,pR,It,ir⟩:cX c A μ σ.n s.heap:=S.fr.elim λm F=>F.fG
 obtain rfl:fs=Il:=w3 (Ru.symm.trans pR)
 have RJ:∀b,b∈fs.filterMap (·.frame)->(∀i,i < σ.n->μ i≠b)/\DictAt s.heap b:=λb hb=>by
  refine au (List.mem_filterMap.mp hb) λe he hb=>?_
  exact ir e he b hb
 have gen:∀b o,s.heap.get? b=some o->b≠μ l->¬X b->∃sl,s'.heap.get? b=some { o with slots:=sl }/\(¬pC o->sl=o.slots):=λb o e h1 h2=>by
  by_cases q:b∈fs.filterMap (·.frame)
  ·refine oE (k2 b o q e) λsl hs=>?_
   refine au (RJ b q).2 λo2 e2 d2=>?_
   rw[e] at e2;obtain rfl:=w3 e2
   exact aT sl hs (λz=>w1 d2 z)
  ·exact aT o.slots (k1 b o e h1 h2 q) (λ_=>rfl)
 have own:∀i,i < σ.n->¬X (μ i):=λi hi x=>by
  refine c6 (hX _ x) λ_ _ q9=>?_;refine dC q9 λoT ts e1 e2 e3=>?_
  exact(S.hr.df hi e1).2.2 e2
 have tk:y1 s.heap s'.heap:=λb o e f=>by
  have h1:b≠μ l:=λz=>(S.hr.df hl (z▸e)).1 f
  have h2:¬X b:=λz=>by
   refine c6 (hX _ z) λ_ _ q9=>?_;refine dC q9 λoT ts e1 e2 e3=>?_
   rw[e] at e1;obtain rfl:=w3 e1
   rcases f with⟨q,_⟩ | ⟨C,d,rfl⟩
   ·rw[e2] at q;exact w1 q (by decide)
   ·contradiction
  refine au (gen b o e h1 h2) λsl e1 e2=>?_
  obtain rfl:=e2 f.iy
  exact e1
 have H':HR c μ σ s'.heap:=by
  refine⟨λb o e=>?_,λi hi=>?_,S.hr.inj,S.hr.new⟩
  ·have e':=S.hr.keep b o e
   refine k1 b o e' (λz=>?_) (λx=>?_) λq=>?_
   ·have:=S.hr.new l hl;rw[<-z,e] at this;exact SN this
   ·have:=(hX _ x).2.1;rw[e] at this;exact SN this
   ·have:=(It.mem q).1;rw[e] at this;exact SN this
  ·by_cases q:i=l
   ·subst q;rw[ha];exact ke
   ·refine au (S.hr.obj i hi) λo e x=>?_
    refine aT o (k1 _ o e (λz=>q (S.hr.inj i l hi hl z)) (own i hi) λz=>(RJ _ z).1 i hi rfl) (x.mono (wa _) (λ_ _=>rfl) tk)
 have old:∀b o,aa.heap.get? b=some o->(∀i,i<ae->a9 i≠b)->b≠μ l:=λb o e ne z=>by
  by_cases q:l<ae
  ·exact ne l q ((S.ex.eq l q).symm.trans z.symm)
  ·have:=S.ex.fresh l (Nat.not_lt.mp q) hl
   rw[<-z,e] at this;exact SN this
 refine⟨H',⟨S.ex.le,S.ex.eq,S.ex.fresh,λb o e ne=>?_,λi hi e=>?_⟩,S.sm.trans sm,?_,S.out⟩
 ·refine au (S.ex.kp b o e ne) λsl e1 q1=>?_
  refine au (gen b _ e1 (old b o e ne) λx=>by have:=(hX _ x).1;rw[e] at this;exact SN this) λOC e2 q2=>?_
  exact aT OC e2 (λnf=>(q2 nf).trans (q1 nf))
 ·refine au (H'.obj i (w7 hi S.ex.le)) λo ho _=>?_
  rw[<-S.ex.eq i hi,ho];rfl
 ·refine oE S.fr λm F=>?_
  have Mj:∀b,L.iM b->b≠μ l/\¬X b:=λb hb=>by
   refine jS (F.has hb) λ_ q2 _ q4=>?_
   refine⟨λz=>q2 l hl z.symm,λx=>?_⟩
   refine c6 (hX _ x) λ_ _ q9=>?_;refine dC q9 λoT ts e1 e2 e3=>?_
   exact(q4 oT e1).2 ts e3
  refine⟨m,F.step (wa _) (λ_ _=>rfl) tk ?_ (λp hp=>?_) (λi a b=>w1 b (Nat.not_lt.mpr a)) ⟨fs,Ru,It.of_keeps λb o e hd=>?_,λe he b hb=>⟨(ir e he b hb).1,?_⟩⟩⟩
  ·refine Ko F.ns λo es ep ho hd hk hf=>?_
   refine oA (Mj L.a (.inl rfl)) λh1 h2=>?_
   refine au (gen L.a o ho h1 h2) λsl e1 _=>?_
   exact⟨sl,λo2 e=>by rw[ho] at e;obtain rfl:=w3 e;exact e1⟩
  ·refine c6 (F.dj p hp) λ_ ow q9=>?_;refine bw q9 λv o ho hd=>?_
   have h1:p.2≠μ l:=λz=>ow l hl z.symm
   have h2:¬X p.2:=λx=>by
    refine c6 (hX _ x) λ_ _ q9=>?_;refine dC q9 λoT ts e1 e2 e3=>?_
    rw[ho] at e1;obtain rfl:=w3 e1
    rw[hd] at e3;contradiction
   refine au (gen p.2 o ho h1 h2) λsl e1 e2=>?_
   obtain rfl:=e2 (IsCell.iy ⟨o,ho,hd⟩ ho).1
   exact e1.trans ho.symm
  ·have h1:b≠μ l:=λz=>by
    refine au (S.hr.obj l hl) λo2 e2 x2=>?_
    rw[z,e2] at e;obtain rfl:=w3 e
    rw[ha] at x2
    cases x2 with | exc _ _ _ _ fL _ _ _=>exact hd _ fL
   have h2:¬X b:=λx=>by
    refine c6 (hX _ x) λ_ _ q9=>?_;refine dC q9 λoT ts e1 e2 e3=>?_
    rw[e] at e1;obtain rfl:=w3 e1
    exact hd _ e3
   refine au (gen b o e h1 h2) λsl e1 _=>?_
   exact aT _ e1 rfl
  ·refine au (ir e he b hb).2 λo e1 d1=>?_
   refine oE (k2 b o (List.mem_filterMap.mpr ⟨e,he,hb⟩) e1) λsl e2=>?_
   exact aT _ e2 d1
theorem bS.turn{T:Addr}{oT:Obj}{ts:Array Value}{i:Nat}{x:Value}(S:ax c A a9 ae aa L μ σ ρ s)(hl:l < σ.n)(ha:σ.get l = .exc C d (bb+1)){vs:Array Value}(he:s.heap.get? (μ l)=some o)(hd:o.data = .fields vs)(h1:vs[1]? = some (.ref T))(hT:s.heap.get? T=some oT)(hc:oT.cls = .type "traceback")(hF:oT.data = .fields ts)(dk:3<ts.size)(hn:aa.heap.get? T=none)(hb:c.base.get? T=none):
  ax c A a9 ae aa L μ σ ρ { s with heap:=s.heap.update T (Obj.mapFields (·.setIfInBounds i x)) }/\bS c aa.heap μ σ (s.heap.update T (Obj.mapFields (·.setIfInBounds i x))) l (.ref (μ l))/\
  (s.heap.update T (Obj.mapFields (·.setIfInBounds i x))).get? (μ l)=some o:=by
 have ne:T≠μ l:=λz=>(S.hr.df hl (z▸hT)).2.2 hc
 have DF:(s.heap.update T (Obj.mapFields (·.setIfInBounds i x))).get? (μ l)=some o:=(Heap.get?_update_other _ _ ne).trans he
 have fL:=Obj.data_mapFields hF (·.setIfInBounds i x)
 have YV:=Heap.get?_update_self (Obj.mapFields (·.setIfInBounds i x)) hT (Obj.isFreed_of_fields fL)
 obtain⟨fs,pR,It,ir⟩:cX c A μ σ.n s.heap:=S.fr.elim λm F=>F.fG
 refine dp (S.turn hl ha (λb=>b=T) (λb z=>z▸⟨hn,hb,oT,ts,hT,hc,hF⟩) pR (λb o' e h1 h2 _=>(Heap.get?_update_other _ _ (Ne.symm h2)).trans e) (λb o' By e=>?_) ?_ (Nat.le_of_eq (Heap.SameBut.update _ _ _).1.symm) ⟨rfl,rfl,rfl⟩) ?_ DF
 ·have nT:T≠b:=λz=>by
   obtain⟨_,o2,e2,d2⟩:=It.mem By
   rw[<-z,hT] at e2;obtain rfl:=w3 e2
   exact d2 _ hF
  exact⟨o'.slots,(Heap.get?_update_other _ _ nT).trans e⟩
 ·refine au (S.hr.obj l hl) λo2 e2 x2=>?_
  rw[he] at e2;obtain rfl:=w3 e2
  rw[ha] at x2
  refine aT o DF (x2.mono (wa _) (λ_ _=>rfl) λb o' e f=>?_)
  refine(Heap.get?_update_other _ _ λz=>?_).trans e
  rw[<-z,hT] at e;obtain rfl:=w3 e
  rcases f with⟨q,_⟩ | ⟨C,d,rfl⟩
  ·rw[hc] at q;exact w1 q (by decide)
  ·contradiction
 ·exact⟨rfl,hl,C,d,bb,o,vs,ha,DF,hd,T,_,_,h1,YV,(Obj.cls_mapFields _ _).trans hc,fL,by simpa using dk,hn,hb⟩
theorem Wu{fa:Addr}{E:Value->Shared->Prop}{Q:Unit->Shared->Prop}{head:Value}{pX:Bool}(hf:env.frame=some fa)(cJ:A.frames=some (env::outer))(S:ax c A a9 ae aa L μ σ ρ s)(hl:l < σ.n)(ha:σ.get l = .exc C d (bb+1))(h:∀s',ax c A a9 ae aa L μ σ ρ s'->bS c aa.heap μ σ s'.heap l (.ref (μ l))->Q () s'):
  wpAny M A (do let a<-frameOf env;let pl<-entryPlaceOf fa pX;let b<-EntryCells.newEntry head a .none (rawInt fa) .none pl;setField (.ref (μ l)) 1 b) Q E s:=by
 refine au (S.hr.obj l hl) λoe he xe=>?_
 rw[ha] at xe
 obtain⟨Il,pR,iY,ir⟩:cX c A μ σ.n s.heap:=S.fr.elim λm F=>F.fG
 obtain rfl:=w3 (cJ.symm.trans pR)
 cases xe with
 |@exc _ _ _ _ vs dw DE hc cH hd dk p_ wL=>
 have DH:μ l∉(env::outer).filterMap (·.frame):=λhm=>by
  obtain⟨_,o,ho,DR⟩:=iY.mem hm
  rw[he] at ho;injection ho with ho;subst ho;exact DR vs hd
 refine wg (wpAny_frameOf_fun cJ iY hf λbx gT=>?_)
 refine wg (wpAny_entryPlaceOf λpl Zs=>?_)
 unfold EntryCells.newEntry newFields
 refine wg (wpAny_newObj_type ?_ (Zs.sizeOk5 _ _ _ _ _))
 have sS:bx.get? (μ l)=some oe:=(gT.2.1 _ DH).trans he
 have Ea:c.base.StaysIn bx:=λb o Lj=>(gT.2.1 b λhm=>by rw[(iY.mem hm).1] at Lj;exact NS Lj).trans (S.hr.keep b o Lj)
 have sT:=wc (h:=bx) { cls:=.type "traceback",dict:=none,data:=.fields ([head,.ref fa,.none,rawInt fa,.none]++(if pl.isEmpty then List.replicate 6 Value.none else pl)).toArray } sS
 refine wpAny_setField sT hd (uW dk (dQ rfl)) ?_
 have YW:bx.objs.size≠μ l:=Nat.ne_of_gt (Heap.lt_size sS)
 have nD:=Obj.data_mapFields hd (·.setIfInBounds 1 (Value.ref bx.objs.size))
 have sU:=Heap.get?_update_self (Obj.mapFields (·.setIfInBounds 1 (Value.ref bx.objs.size))) sT (Obj.isFreed_of_fields nD)
 have Du:=(Heap.get?_update_other (bx.push { cls:=.type "traceback",dict:=none,data:=.fields ([head,.ref fa,.none,rawInt fa,.none]++(if pl.isEmpty then List.replicate 6 Value.none else pl)).toArray })
  (Obj.mapFields (·.setIfInBounds 1 (Value.ref bx.objs.size))) (Ne.symm YW)).trans (we bx rfl)
 have keep:∀b o,b≠μ l->bx.get? b=some o->
   ((bx.push { cls:=.type "traceback",dict:=none,data:=.fields ([head,.ref fa,.none,rawInt fa,.none]++(if pl.isEmpty then List.replicate 6 Value.none else pl)).toArray }).update (μ l) (Obj.mapFields (·.setIfInBounds 1 (Value.ref bx.objs.size)))).get? b=some o:=λb o Y_ hb=>by
  rw[Heap.get?_update_other _ _ (Ne.symm Y_)]
  exact wc _ hb
 have DX:s.heap.objs.size=bx.objs.size:=gT.1.symm
 refine h _ ?_ ?_
 ·refine S.turn hl ha (λ_=>False) (λ_ z=>z.elim) cJ (λb o e h1 _ h3=>keep b o h1 ((gT.2.1 b h3).trans e)) (λb o hb e=>?_) ⟨_,sU,?_⟩ ?_ ⟨rfl,rfl,rfl⟩
  ·refine oE (gT.2.2 b o e) λsl e1=>?_
   exact⟨sl,keep b _ (λz=>DH (z▸hb)) e1⟩
  ·exact .exc dw DE ((Obj.cls_mapFields _ _).trans hc) ((Vm _ _).trans cH) nD (by simpa using dk) (λz=>by lia) (λz=>by rw[Array.getElem?_setIfInBounds_ne (by decide)];exact wL z)
  ·show _<=((bx.push _).update _ _).objs.size
   rw[(Heap.SameBut.update _ _ _).1,Heap.size_push,DX]
   exact Nat.le_succ _
 ·refine⟨rfl,hl,C,d,bb,_,_,ha,sU,nD,bx.objs.size,_,_,?_,Du,rfl,rfl,?_,?_,Ea.fresh⟩
  ·simp only[Array.getElem?_setIfInBounds_self];rw[if_pos (uW dk (dQ rfl))]
  ·simp only[List.size_toArray,List.length_append,List.length_cons,List.length_nil] <;> exact iI (Nat.le_add_right _ _)
  ·rw[<-DX]
   exact S.ex.new
theorem Hl{fa:Addr}{E:Value->Shared->Prop}{Q:Unit->Shared->Prop}{e:Value}(hf:env.frame=some fa)(cJ:A.frames=some (env::outer))(S:ax c A a9 ae aa L μ σ ρ s)(F:pA c aa.heap μ σ s.heap l e)(h:∀s',ax c A a9 ae aa L μ σ ρ s'->bS c aa.heap μ σ s'.heap l e->Q () s'):wpAny M A (noteFrame e env) Q E s:=by
 refine oA F ?_;clear F;rintro rfl q9;refine oA q9 λhl q9=>?_;refine eC q9 λC d bb o q9=>?_;refine jR q9 λvs ha he hd ht=>?_
 unfold noteFrame
 simp only[hf]
 rcases ht with h1 | ⟨T,oT,ts,h1,hT,hc,hF,dk,hn,hb⟩
 ·refine wg (wpAny_field he hd h1 ?_)
  rw[if_neg (by decide)]
  exact Wu hf cJ S hl ha h
 ·refine wg (wpAny_field he hd h1 ?_)
  rw[if_pos (show(Value.ref T != Value.none)=true from by simp)]
  have h3:ts[3]? = some ts[3]:=Array.getElem?_eq_getElem dk
  refine wg (wpAny_field hT hF h3 ?_)
  split
  ·exact wh (h _ S ⟨rfl,hl,C,d,bb,o,vs,ha,he,hd,T,oT,ts,h1,hT,hc,hF,dk,hn,hb⟩)
  ·refine wg (wpAny_setField hT hF dk ?_)
   exact Wu hf cJ (bS.turn S hl ha he hd h1 hT hc hF dk hn hb).1 hl ha h
theorem jc{E:Value->Shared->Prop}{Q:Unit->Shared->Prop}{e:Value}{f:Option Addr}(S:ax c A a9 ae aa L μ σ ρ s)(F:bS c aa.heap μ σ s.heap l e)(h:∀s',ax c A a9 ae aa L μ σ ρ s'->bS c aa.heap μ σ s'.heap l e->Q () s'):wpAny M A (setFlight e f) Q E s:=by
 refine cps λ_ κ=>?_;refine oA F ?_;clear F;rintro rfl q9;refine oA q9 λhl q9=>?_;refine eC q9 λC d bb o q9=>?_;refine jR q9 λvs ha he hd q9=>?_;refine dY q9 λT oT ts h1 q9=>?_;refine c6 q9 λhT hc q9=>?_;refine jS q9 λhF dk hn hb=>?_
 refine κ ?_;clear κ;unfold setFlight
 refine wg (wpAny_field he hd h1 ?_)
 rw[if_pos (show(Value.ref T != Value.none)=true from by simp)]
 refine wpAny_setField hT hF dk (h _ ?_ ?_)
 ·exact(bS.turn S hl ha he hd h1 hT hc hF dk hn hb).1
 ·exact(bS.turn S hl ha he hd h1 hT hc hF dk hn hb).2.1
theorem zh2{fa:Addr}{E:Value->Shared->Prop}{Q:Unit->Shared->Prop}{e:Value}(hf:env.frame=some fa)(cJ:A.frames=some (env::outer))(S:ax c A a9 ae aa L μ σ ρ s)(F:pA c aa.heap μ σ s.heap l e)(h:∀s',ax c A a9 ae aa L μ σ ρ s'->bS c aa.heap μ σ s'.heap l e->Q () s'):wpAny M A (leaving env e) Q E s:=by
 unfold leaving
 exact wg (Hl hf cJ S F λs' S' F'=>jc S' F' h)
theorem VA{E:Value->Shared->Prop}{e:Value}(S:ax c A a9 ae aa L μ σ ρ s)(F:bS c aa.heap μ σ s.heap l e)(h:∀s',ax c A a9 ae aa L μ σ ρ s'->bS c aa.heap μ σ s'.heap l e->E e s'):cameBackBy M A env E e s:=by
 have F0:=F
 refine cps λ_ κ=>?_;refine oA F ?_;clear F;rintro rfl q9;refine oA q9 λhl q9=>?_;refine eC q9 λC d bb o q9=>?_;refine jR q9 λvs ha he hd q9=>?_;refine dY q9 λT oT ts h1 q9=>?_;refine c6 q9 λhT hc q9=>?_;refine jS q9 λhF dk hn hb=>?_
 refine κ ?_;clear κ;unfold cameBackBy
 refine wg (wpAny_field he hd h1 ?_)
 rw[if_neg (show ¬(Value.ref T==Value.none)=true from by simp)]
 exact jc S F0 h
end
section
theorem d7.jD{fa:Addr}{X:XR}{e:Value}{E:Value->Shared->Prop}(hf:env.frame=some fa)(cJ:A.frames=some (env::outer))(h:d7 c A X a9 ae aa L e s)(k:∀e s',d7 c A X a9 ae aa L e s'->E e s'):notedBy M A env (λe s'=>cameBackBy M A env E e s') e s:=by
 refine cps λ_ κ=>?_;refine fc h λl aI ai aj ex S F=>?_
 refine κ ?_;clear κ;unfold notedBy
 exact Hl hf cJ S F λs1 S1 F1=>VA S1 F1 λs2 S2 F2=>k _ _ ⟨l,aI,ai,aj,ex,S2,F2.Ii⟩
theorem GX{t:Expr}{b:List Stmt}{D:RD}{X:XD}{G:Gl}{fa:Addr}(hf:env.frame=some fa)(cJ:A.frames=some (env::outer))(ht:SE prog c A env L t D)(hb:ib prog c A env L b X):
  SS prog c A env L (.While t b [] pos) (uO G D X):=λa9 ae aa μ σ s ρ S ns=>by
 refine wpAny_While ?_
 let W:=uS (λρ σ=>(D ρ).b σ) X
 refine codeAny_whileLoop (R:=λr s'=>match r with | .ok f=>SQ c A (uO G D X ρ σ) a9 ae aa L f s' | .error e=>cameBackBy (model prog c.w) A env (d7 c A (uO G D X ρ σ) a9 ae aa L) e s')
  (λn s'=>∃aj ai aI,ax c A a9 ae aa L aj ai aI s'/\W n aI ai=uO G D X ρ σ) ?_ G.fu ⟨μ,σ,ρ,S,rfl⟩
 rintro n s1 ⟨cq,aE,bo,S1,e1⟩
 have n1:W n bo aE≠.stuck:=λz=>ns (e1.symm.trans z)
 induction n using nC with
 |zero=>exact w1 rfl n1
 |succ n=>
  refine oE S1.fr λm F=>?_
  have nt:∀{X':XR}{e:Value}{s':Shared},X'=uO G D X ρ σ->d7 c A X' a9 ae aa L e s'->notedBy (model prog c.w) A env (λe s'=>cameBackBy (model prog c.w) A env (d7 c A (uO G D X ρ σ) a9 ae aa L) e s') e s':=λq h=>by
   subst q;exact h.jD hf cJ λ_ _ h=>h
  refine wj (WP.cM (xr:=W (n+1) bo aE) (P:=λb ar=>_) S1 (ht.b cq aE s1 bo m S1.hr F) rfl n1 λr bC bV v s2 S2 X2 hr er=>?_) (λ_ _ h=>h) (λe s' h=>nt e1 h)
  cases hr
  rw[er] at n1
  have e2:=er.symm.trans e1
  induction r with
  |false=>
   show wpAny _ _ (execs [] env) _ _ _
   exact wpAny_execs_nil ⟨.next,bo,bC,bV,e2.symm,S2,rfl⟩
  |true=>
   have n2:X bo bC≠.stuck:=λz=>n1 (by show(X bo bC).on _ _ _ _=_;rw[z];rfl)
   have e3:(X bo bC).on (W n) (λv ρ σ=>.ok (.ret v) ρ σ) .exc .stuck=uO G D X ρ σ:=e2
   show wpAny _ _ (execs b env) _ _ _
   refine wj (hb a9 ae aa bV bC s2 bo S2 n2) (λf s3 h=>?_) (λe s3 h=>?_)
   ·refine cps λ_ κ=>?_;refine fc h λfl i7 iK gF e4 S3 Ir=>?_
    rw[e4] at e3
    induction fl with
    |next=>cases Ir;refine κ ?_;clear κ;exact⟨n,wb n,gF,iK,i7,S3,e3⟩
    |cont=>cases Ir;refine κ ?_;clear κ;exact⟨n,wb n,gF,iK,i7,S3,e3⟩
    |ret y=>refine au Ir ?_;clear Ir;rintro v rfl hv;refine κ ?_;clear κ;exact⟨.ret y,i7,iK,gF,e3.symm,S3,v,rfl,hv⟩
   ·refine cps λ_ κ=>?_;refine fc h λl i7 iK gF e4 S3 F3=>?_
    rw[e4] at e3
    refine κ ?_;clear κ;exact nt e3 ⟨l,i7,iK,gF,rfl,S3,F3⟩
noncomputable def xN(a:Addr)(h:Heap):Heap:=h.update a λo=>{ o with data:=.freed }
theorem Pz(L:Addr)(h:Heap):(xN L h).get? L=none:=by
 obtain⟨objs,l⟩:=h
 show(match (objs.modify L λo=>{ o with data:=.freed })[L]? with | some ⟨_,_,.freed,_⟩=>none | o=>o)=none
 rw[Array.getElem?_modify,if_pos rfl]
 cases objs[L]? <;> rfl
theorem Jo{L b:Addr}(h:Heap)(ne:b≠L):(xN L h).get? b=h.get? b:=Heap.get?_update_other _ _ (Ne.symm ne)
def Bc(l:List (Str×Addr))(h:Heap):Heap:=l.foldl (λh p=>xN p.2 h) h
theorem zim(l:List (Str×Addr)):∀{h:Heap}{b:Addr},h.get? b=none->(Bc l h).get? b=none:=by
 induction l with
 |nil=>exact λe=>e
 |cons p l ih=>
  intro h b e
  show(Bc l (xN p.2 h)).get? b=none
  refine ih ?_
  by_cases q:b=p.2
  ·rw[q];exact Pz _ _
  ·rw[Jo _ q];exact e
theorem zhw(l:List (Str×Addr)):∀{h:Heap}{p:Str×Addr},p∈l->(Bc l h).get? p.2=none:=by
 induction l with
 |nil=>exact λe=>nomatch e
 |cons q l ih=>
  intro h p e
  show(Bc l (xN q.2 h)).get? p.2=none
  rcases w8.mp e with rfl | e
  ·exact zim l (Pz _ _)
  ·exact ih e
theorem zga(l:List (Str×Addr)):∀{h:Heap}{b:Addr},(∀p∈l,p.2≠b)->(Bc l h).get? b=h.get? b:=by
 induction l with
 |nil=>exact λ_=>rfl
 |cons q l ih=>
  intro h b ne
  show(Bc l (xN q.2 h)).get? b=_
  rw[ih λp hp=>ne p (.tail _ hp),Jo _ λz=>ne q (.head _) z.symm]
def qN(L:Fm)(h:Heap):Heap:=xN L.a (Bc L.cl h)
theorem WE(L:Fm)(h:Heap){b:Addr}(hb:L.iM b):(qN L h).get? b=none:=by
 by_cases q:b=L.a
 ·rw[q];exact Pz _ _
 ·unfold qN
  rw[Jo _ q]
  rcases hb with hb | ⟨p,hp,rfl⟩
  ·exact w1 hb q
  ·exact zhw _ hp
theorem xc{b:Addr}(h:Heap)(ne:¬L.iM b):(qN L h).get? b=h.get? b:=by
 unfold qN
 rw[Jo _ λz=>ne (.inl z),zga _ λp hp z=>ne (.inr ⟨p,hp,z⟩)]
def j1(L:Fm)(s:Shared):Shared:={ s with heap:=qN L s.heap }
theorem ax.again(S:ax c A a9 ae aa L μ σ ρ s):ax c A μ σ.n (j1 L s) L μ σ ρ s:=by
 refine oE S.fr λm F=>?_
 refine⟨S.hr,⟨wa _,λ_ _=>rfl,λi a b=>w1 b (Nat.not_lt.mpr a),λb o e ne=>?_,λi hi e=>?_⟩,.refl _,⟨m,F⟩,λb hb=>WE _ _ hb⟩
 ·have nl:¬L.iM b:=λz=>by
   have:=WE L s.heap z
   exact w1 (e.symm.trans this) (by simp)
  exact aT o.slots ((xc _ nl).symm.trans e) (λ_=>rfl)
 ·refine au (S.hr.obj i hi) λo ho _=>?_
  rw[ho];rfl
theorem ax.ij(S:ax c A a9 ae aa L μ σ ρ s):Ext a9 ae aa.heap μ σ.n (j1 L s).heap:=by
 refine⟨S.ex.le,S.ex.eq,S.ex.fresh,λb o e ne=>?_,λi hi e=>?_⟩
 ·refine au (S.ex.kp b o e ne) λsl e1 e2=>?_
  exact aT sl ((xc _ λz=>by rw[S.out b z] at e;exact NS e).trans e1) e2
 ·have ne:¬L.iM (a9 i):=λz=>by rw[S.out _ z] at e;exact FT e
  show((qN L s.heap).get? _).isSome=true
  rw[xc _ ne];exact S.ex.own i hi e
theorem ax.back(S:ax c A a9 ae aa L μ σ ρ s)(T:ax c A μ σ.n (j1 L s) L aj ai aI s'):ax c A a9 ae aa L aj ai aI s':=
 ⟨T.hr,S.ij.trans T.ex,S.sm.trans T.sm,T.fr,S.out⟩
theorem SQ.back(S:ax c A a9 ae aa L μ σ ρ s){X:XR}{f:Flow}(h:SQ c A X μ σ.n (j1 L s) L f s'):SQ c A X a9 ae aa L f s':=by
 refine cps λ_ κ=>?_;refine fc h λfl aI ai aj e T hf=>?_
 refine κ ?_;clear κ;exact lL fl aI ai aj e (S.back T) hf
theorem d7.back(S:ax c A a9 ae aa L μ σ ρ s){X:XR}{e:Value}(h:d7 c A X μ σ.n (j1 L s) L e s'):d7 c A X a9 ae aa L e s':=by
 refine cps λ_ κ=>?_;refine fc h λl aI ai aj e T hf=>?_
 refine κ ?_;clear κ;exact lL l aI ai aj e (S.back T) (hf.from S.ij)
structure b8 (c:Cx) (L:Fm) (μ:Nat->Addr) (n:Nat) (h:Heap) (it:Addr) (P:Obj->Prop):Prop where
 obj:∃o,h.get? it=some o/\P o
 own:∀i,i<n->μ i≠it
 base:c.base.get? it=none
 ne:¬L.iM it
structure aU (P:Obj->Prop):Prop where
 fields:∀o,P o->∃vs,o.data = .fields vs
 cls:∀o,P o->∃T,o.cls = .type T/\T≠"tuple"/\["enumerate","zip","dict_itemiterator","dict_reverseitemiterator","odict_iterator","itertools.zip_longest","itertools.pairwise"].contains T=false
theorem aU.iy{P:Obj->Prop}(x:aU P)(h:P o):¬pC o:=by
 refine oE (x.fields o h) λvs e=>?_
 rintro ⟨es,k,z⟩
 rw[e] at z;contradiction
theorem aU.jC{P:Obj->Prop}(x:aU P)(h:P o):¬Fix o:=by
 refine oE (x.fields o h) λvs e=>?_
 rintro (⟨_,a,n,z⟩ | ⟨C,d,rfl⟩)
 ·rw[e] at z;contradiction
 ·contradiction
theorem b8.keep{P:Obj->Prop}(S:ax c A a9 ae aa L μ σ ρ s){it:Addr}(I:b8 c L μ σ.n s.heap it P)(x:aU P)(T:ax c A μ σ.n (j1 L s) L aj ai aI s'):b8 c L aj ai.n s'.heap it P:=by
 refine au I.obj λo e p=>?_
 have e':(j1 L s).heap.get? it=some o:=(xc _ I.ne).trans e
 refine⟨⟨o,T.ex.kp.same e' I.own (x.iy p),p⟩,λi hi z=>?_,I.base,I.ne⟩
 by_cases q:i < σ.n
 ·rw[T.ex.eq i q] at z;exact I.own i q z
 ·have:=T.ex.fresh i (Nat.not_lt.mp q) hi
  rw[z,e'] at this;exact SN this
theorem ax.iter{P:Obj->Prop}(S:ax c A a9 ae aa L μ σ ρ s){it:Addr}(I:b8 c L μ σ.n s.heap it P)(x:aU P)(ho:aa.heap.get? it=none)(k:∀b o,b≠it->s.heap.get? b=some o->s'.heap.get? b=some o)(sm:b9 s s'):
  ax c A a9 ae aa L μ σ ρ s':=by
 refine au I.obj λoi ei pi=>?_
 have tk:y1 s.heap s'.heap:=λb o e f=>k b o (λz=>by rw[z,ei] at e;obtain rfl:=w3 e;exact x.jC pi f) e
 refine⟨⟨λb o e=>k b o (λz=>by rw[z,I.base] at e;exact NS e) (S.hr.keep b o e),λi hi=>?_,S.hr.inj,S.hr.new⟩,⟨S.ex.le,S.ex.eq,S.ex.fresh,λb o e ne=>?_,λi hi e=>?_⟩,S.sm.trans sm,?_,S.out⟩
 ·refine au (S.hr.obj i hi) λo e r=>?_
  exact aT o (k _ o (I.own i hi) e) (r.mono (wa _) (λ_ _=>rfl) tk)
 ·refine au (S.ex.kp b o e ne) λsl e1 q1=>?_
  exact aT sl (k b _ (λz=>by rw[z,ho] at e;exact NS e) e1) q1
 ·refine oE (wq.mp (S.ex.own i hi e)) λo e1=>?_
  rw[k _ o (λz=>by rw[z,ho] at e;exact FT e) e1];rfl
 ·refine oE S.fr λm F=>?_
  refine dR F.fG λfs e1 e2 e3=>?_
  refine⟨m,F.step (wa _) (λ_ _=>rfl) tk (by refine dY F.ns λo _ _ ho _=>?_;exact⟨o.slots,λo2 e=>by rw[ho] at e;obtain rfl:=w3 e;exact k _ _ (λz=>I.ne (z▸.inl rfl)) ho⟩) (λp hp=>?_) (λi a b=>w1 b (Nat.not_lt.mpr a)) ⟨fs,e1,e2.of_keeps λb o e hd=>⟨o,k b o (λz=>?_) e,rfl⟩,λe he b hb=>⟨(e3 e he b hb).1,?_⟩⟩⟩
  ·refine c6 (F.dj p hp) λ_ _ q9=>?_;refine bw q9 λv o ho hd=>?_
   refine(k _ o (λz=>?_) ho).trans ho.symm
   refine oE (x.fields oi pi) λvs hv=>?_
   rw[z,ei] at ho;obtain rfl:=w3 ho
   rw[hd] at hv;contradiction
  ·refine oE (x.fields oi pi) λvs hv=>?_
   rw[z,ei] at e;obtain rfl:=w3 e
   exact hd vs hv
  ·refine au (e3 e he b hb).2 λo e4 e5=>?_
   exact aT o (k b o (λz=>by rw[z,ei] at e4;obtain rfl:=w3 e4;exact x.iy pi e5) e4) e5
end
def TG(prog:Program)(c:Cx)(A:Around)(env:Env)(L:Fm)(t:Expr)(f:AV->az->Option az):Prop:=∀a9 ae aa μ σ s ρ y v aI,ax c A a9 ae aa L μ σ ρ s->VR c μ σ.n s.heap y v->f y ρ = some aI->
 ∀(Q:Unit->Shared->Prop) E,(∀s',ax c A a9 ae aa L μ σ aI s'->Q () s')->wpAny (model prog c.w) A (assign t env v) Q E s
section
theorem JO{x:Nat}{p:Pos}(EO:bz env L)(hx:mN env L x):TG prog c A env L (.Name (nm x) p) (λy ρ=>some (zd ρ x y)):=by
 intro a9 ae aa μ σ s ρ y v aI S r e Q E h
 obtain rfl:=w3 e
 exact wpAny_assign_Name (xz EO hx S r λs' S' _=>h s' S')
inductive cn (env:Env) (L:Fm):List Nat->List Expr->Prop
 |nil:cn env L [] []
 |cons {x:Nat}{p:Pos}{xs:List Nat}{es:List Expr}:mN env L x->cn env L xs es->cn env L (x::xs) (.Name (nm x) p::es)
theorem cn.len{xs:List Nat}{es:List Expr}(h:cn env L xs es):(assignEach es env).length=xs.length:=by
 induction h with
 |nil=>rfl
 |cons _ _ ih=>show _+1=_+1;rw[ih]
theorem cn.star{xs:List Nat}{es:List Expr}(h:cn env L xs es):(assignEach es env).findIdx? (·.1)=none:=by
 rw[List.findIdx?_eq_none_iff]
 induction h with
 |nil=>exact λ_ h=>nomatch h
 |cons _ _ ih=>
  intro q hq
  rcases w8.mp hq with rfl | hq
  ·rfl
  ·exact ih q hq
theorem xj(x:Nat)(xs:List Nat)(v:AV)(l:List AV)(ρ:az):yi (x::xs) (v::l) ρ = yi xs l (zd ρ x v):=rfl
theorem znf{xs:List Nat}{es:List Expr}(EO:bz env L)(h:cn env L xs es):∀{a9 ae aa μ σ s ρ}{l:List AV}{vs:List Value}{Q:Unit->Shared->Prop}{E},ax c A a9 ae aa L μ σ ρ s->aH c μ σ.n s.heap l vs->xs.length=l.length->
  (∀s',ax c A a9 ae aa L μ σ (yi xs l ρ) s'->Q () s')->wpAny (model prog c.w) A (assignInOrder ((assignEach es env).map (·.2)) vs) Q E s:=by
 induction h with
 |nil=>
  intro a9 ae aa μ σ s ρ l vs Q E S r e h
  induction r using aH.casesOn with
  |cons _ _=>cases e
  |nil=>exact wpAny_assignInOrder_none (h s S)
 |@cons x p xs es hx _ ih=>
  intro a9 ae aa μ σ s ρ l vs Q E S r e h
  induction r using aH.casesOn with
  |nil=>cases e
  |@cons y v l vs r rs=>
   refine wpAny_assignInOrder_more (wpAny_assign_Name (xz EO hx S r λs' S' tk=>?_))
   exact ih S' (rs.mono (wa _) (λ_ _=>rfl) tk) (Nat.succ.inj e) h
theorem Qi{xs:List Nat}{es:List Expr}{k}{p:Pos}(hh:A.handled=none)(EO:bz env L)(h:cn env L xs es):TG prog c A env L (.Tuple es k p) (uw xs):=by
 intro a9 ae aa μ σ s ρ y v aI S r e Q E hq
 induction r using vC with
 |@tup l vs ad ht rs=>
  change ak (Nat.beq (len xs) (len l)) (some (yi xs l ρ)) none=some aI at e
  induction q:Nat.beq (len xs) (len l) with
  |false=>rw[q] at e;exact NS e
  |true=>
   rw[q] at e
   obtain rfl:yi xs l ρ = aI:=w3 e
   have hl:xs.length=l.length:=by rw[<-zb,<-zb];exact w4 q
   refine assign_Tuple_tuple hh ht (by rw[h.len,hl,List.size_toArray,rs.len]) h.star λh' he=>?_
   have k:∀b o,s.heap.get? b=some o->h'.get? b=some o:=λb o e=>he b o (wn (Heap.lt_size e)) e
   have G:=S.hr.dJ k
   have S':=S.step (s':={ s with heap:=h' }) G.1 G.2 ⟨rfl,rfl,rfl⟩
   refine znf EO h S' ?_ hl hq
   simpa using rs.ext S.hr G.2
 |_=>exact NS e
end
section
def di(prog:Program)(c:Cx)(A:Around)(it:Addr)(P:Nat->Obj->Prop)(i:Nat)(μ:Nat->Addr)(σ:AH)(s:Shared)(r:Option AV):Prop:=∀(Q:Option Value->Shared->Prop) E,
 (match r with
  |none=>∀s',Heap.ExtBut it s.heap s'.heap->b9 s s'->Q none s'
  |some y=>∀v s',VR c μ σ.n s'.heap y v->(∃o,s'.heap.get? it=some o/\P (i+1) o)->Heap.ExtBut it s.heap s'.heap->b9 s s'->Q (some v) s')->wpAny (model prog c.w) A (pyNext (.ref it)) Q E s
theorem PB{t:Expr}{E:Value->Shared->Prop}{Q:Unit->Shared->Prop}{it:Addr}{P:Obj->Prop}(x:aU P)(h:∃o,s.heap.get? it=some o/\P o)(hq:Q () s):wpAny M A (letOwnedTupleGo t (.ref it) v) Q E s:=by
 refine au h λo e p=>?_
 refine dR (x.cls o p) λT hT _ hc=>?_
 refine oE (x.fields o p) λvs hv=>?_
 have go:∀a:Addr,wpAny M A (do
   let o<-load it
   match o.cls,o.data with
   |.type n,.fields vs=>
    if ["enumerate","zip","dict_itemiterator","dict_reverseitemiterator","odict_iterator","itertools.zip_longest","itertools.pairwise"].contains n&&vs[0]?==some (rawInt a) then
     rule "for.unpacks-the-owned-tuple"
     updateField it 0 .none
   |_,_=>pure ()) Q E s:=λa=>by
  refine wg (wpAny_load e ?_)
  rw[hT,hv]
  dsimp only
  rw[hc]
  exact wh hq
 induction v using Value.casesOn with
 |ref a=>induction t using Expr.casesOn with
  |Tuple _ _ _=>exact go a
  |List _ _=>exact go a
  |_=>exact wh hq
 |_=>induction t using Expr.casesOn with | _=>exact wh hq
def CG(prog:Program)(c:Cx)(A:Around)(env:Env)(L:Fm)(XX:XR)(a9:Nat->Addr)(ae:Nat)(aa:Shared)(r:Result)(s':Shared):Prop:=
 match r with | .ok f=>SQ c A XX a9 ae aa L f s' | .error e=>cameBackBy (model prog c.w) A env (d7 c A XX a9 ae aa L) e s'
def Kv(c:Cx)(A:Around)(L:Fm)(a9:Nat->Addr)(ae:Nat)(aa:Shared)(it:Addr)(P:Nat->Obj->Prop)(Gd:Nat->Nat->Prop)(W:Nat->Nat->az->AH->XR)(XX:XR)(n:Nat)(s':Shared):Prop:=
 ∃i aj ai aI,ax c A a9 ae aa L aj ai aI s'/\b8 c L aj ai.n s'.heap it (P i)/\Gd n i/\W n i aI ai=XX
theorem Kv.k{it:Addr}{P:Nat->Obj->Prop}{Gd:Nat->Nat->Prop}{W:Nat->Nat->az->AH->XR}{XX:XR}{G:Prop}(h:Kv c A L a9 ae aa it P Gd W XX n s)(k:∀i aj ai aI,ax c A a9 ae aa L aj ai aI s->b8 c L aj ai.n s.heap it (P i)->Gd n i->W n i aI ai=XX->G):G:=by
 refine eQ h λi aj q9=>?_;refine sr q9 λai aI a b d e=>?_
 exact k i aj ai aI a b d e
theorem SQ.k{XX:XR}{f:Flow}{G:Prop}(h:SQ c A XX a9 ae aa L f s)(k:∀fl aI ai aj,XX = .ok fl aI ai->ax c A a9 ae aa L aj ai aI s->QY c aj ai.n s.heap fl f->G):G:=by
 refine fc h λfl aI ai aj a b d=>?_
 exact k fl aI ai aj a b d
theorem d7.k{XX:XR}{e:Value}{G:Prop}(h:d7 c A XX a9 ae aa L e s)(k:∀l aI ai aj,XX = .exc l aI ai->ax c A a9 ae aa L aj ai aI s->pA c aa.heap aj ai s.heap l e->G):G:=by
 refine fc h λl aI ai aj a b d=>?_
 exact k l aI ai aj a b d
theorem AA{XX:XR}{o:Option az}{X:az->XR}{W:az->AH->XR}{G:Prop}(e:XX=(opt o .stuck X).turn W)(ns:XX≠.stuck)(k:∀ρ,o=some ρ->XX=(X ρ).turn W->X ρ≠.stuck->G):G:=by
 induction o using Option.casesOn with
 |none=>exact w1 e ns
 |some ρ=>exact k ρ rfl e λz=>ns (e.trans (congrArg (·.turn W) z))
theorem WC{t:Expr}{b:List Stmt}{f:AV->az->Option az}{X:XD}{fa it:Addr}{P:Nat->Obj->Prop}{Gd:Nat->Nat->Prop}{W:Nat->Nat->az->AH->XR}{XX:XR}(hf:env.frame=some fa)(cJ:A.frames=some (env::outer))(hT:TG prog c A env L t f)(hb:ib prog c A env L b X)(x:∀i,aU (P i))(ho:aa.heap.get? it=none)(step:∀k i aj ai aI s',ax c A a9 ae aa L aj ai aI s'->b8 c L aj ai.n s'.heap it (P i)->Gd k i->W k i aI ai≠.stuck->∃k',k=k'+1/\∃r:Option AV,di prog c A it P i aj ai s' r/\
   (match r with
    |none=>W k i aI ai = .ok .next aI ai
    |some y=>Gd k' (i+1)/\W k i aI ai=(opt (f y aI) .stuck λρ=>X ρ ai).turn (W k' (i+1))))(S:ax c A a9 ae aa L μ σ ρ s)(I:b8 c L μ σ.n s.heap it (P 0))(g:Gd n 0)(e:W n 0 ρ σ = XX)(ns:XX≠.stuck):
  codeAny (model prog c.w) A (.forLoop t (.ref it) b [] env) (CG prog c A env L XX a9 ae aa) s:=by
 refine codeAny_forLoop_any (R:=CG prog c A env L XX a9 ae aa) (Kv c A L a9 ae aa it P Gd W XX) ?_ n ⟨0,μ,σ,ρ,S,I,g,e⟩
 intro n1 s1 iv
 refine iv.k λi cq aE bo S1 I1 g1 e1=>(step n1 i cq aE bo s1 S1 I1 g1 λz=>ns (e1.symm.trans z)).elim λk' h=>h.2.elim λr q=>q.1 _ _ ?_
 have hr:=q.2
 have hn:k'<n1:=h.1▸wb k'
 clear q h iv
 induction r using Option.casesOn with
 |none=>
  intro s' hk sm
  exact wpAny_execs_nil ⟨.next,bo,aE,cq,e1.symm.trans hr,S1.iter I1 (x i) ho (λb o ne=>hk b o ne) sm,rfl⟩
 |some y=>
  intro v s' hv hi hk sm
  have S2:=S1.iter I1 (x i) ho (λb o ne=>hk b o ne) sm
  have I2:b8 c L cq aE.n s'.heap it (P (i+1)):=⟨hi,I1.own,I1.base,I1.ne⟩
  refine PB (x (i+1)) hi (AA (e1.symm.trans hr.2) ns λdD ef e2 n2=>hT _ _ _ _ _ _ _ _ _ _ S2.again hv ef _ _ λs3 S3=>?_)
  refine wj (hb _ _ _ _ _ _ _ S3 n2) (λfl s4 h=>h.k λLc mI dq gc e4 S4 sV=>?_) (λev s4 h=>?_)
  ·rw[e4] at e2
   have S5:=S2.back S4
   have I4:=I2.keep S2 (x (i+1)) S4
   induction Lc using Fl.casesOn with
   |ret y=>exact sV.elim λw q=>by rw[q.1];exact⟨.ret y,mI,dq,gc,e2,S5,w,rfl,q.2⟩
   |next=>rw[show fl = .next from sV];exact⟨k',hn,i+1,gc,dq,mI,S5,I4,hr.1,e2.symm⟩
   |cont=>rw[show fl = .cont from sV];exact⟨k',hn,i+1,gc,dq,mI,S5,I4,hr.1,e2.symm⟩
  ·refine d7.jD hf cJ ?_ λ_ _ h=>h
   exact h.k λl mI dq gc e4 S4 F4=>d7.back S2 ⟨l,mI,dq,gc,e2.trans (by rw[e4];rfl),S4,F4⟩
end
section
theorem ax.f_(S:ax c A a9 ae aa L μ σ ρ s):HR c μ σ (qN L s.heap)/\y1 s.heap (qN L s.heap):=by
 refine oE S.fr λm F=>?_
 have tk:y1 s.heap (qN L s.heap):=λa o e f=>(xc _ λz=>((F.has z).2.2.2 o e).1 f).trans e
 refine⟨⟨λb o e=>(xc _ λz=>?_).trans (S.hr.keep b o e),λl hl=>?_,S.hr.inj,S.hr.new⟩,tk⟩
 ·rw[(F.has z).1] at e;exact NS e
 ·refine au (S.hr.obj l hl) λo e x=>?_
  exact aT o ((xc _ λz=>(F.has z).2.1 l hl rfl).trans e) (x.mono (wa _) (λ_ _=>rfl) tk)
theorem ax.val(S:ax c A a9 ae aa L μ σ ρ s)(T:ax c A μ σ.n (j1 L s) L aj ai aI s'){y:AV}(r:VR c μ σ.n s.heap y v):VR c aj ai.n s'.heap y v:=
 (r.mono (wa _) (λ_ _=>rfl) S.f_.2).ext S.f_.1 T.ex
theorem ax.vals(S:ax c A a9 ae aa L μ σ ρ s)(T:ax c A μ σ.n (j1 L s) L aj ai aI s'){y:List AV}{v:List Value}(r:aH c μ σ.n s.heap y v):aH c aj ai.n s'.heap y v:=
 (r.mono (wa _) (λ_ _=>rfl) S.f_.2).ext S.f_.1 T.ex
theorem aH.at{l:List AV}(x:aH c μ n h l vs):∀i:Nat,match l[i]? with | none=>vs[i]? = none | some y=>∃v,vs[i]? = some v/\VR c μ n h y v:=by
 induction x using aH.rec (motive_1:=λ_ _ _=>True) with
 |nil=>exact λ_=>rfl
 |cons x _ _ ih=>
  intro i
  induction i using nC with
  |zero=>exact aT _ rfl x
  |succ i=>exact ih i
 |_=>trivial
theorem zjf(body:AV->az->AH->XR)(al:List AV)(i:Nat)(ρ:az)(σ:AH):match al[i]? with
  |none=>mA body (al.drop i) ρ σ = .ok .next ρ σ
  |some y=>mA body (al.drop i) ρ σ = (body y ρ σ).turn (mA body (al.drop (i+1))):=by
 induction e:al[i]? with
 |none=>
  dsimp only
  rw[List.drop_eq_nil_of_le (by simpa using e)]
  rfl
 |some y=>
  dsimp only
  have hl:i<al.length:=(List.getElem?_eq_some_iff.mp e).1
  rw[List.drop_eq_getElem_cons hl]
  have:al[i]=y:=(List.getElem?_eq_some_iff.mp e).2
  rw[this];rfl
theorem PW{t:Expr}{b:List Stmt}{f:AV->az->Option az}{X:XD}{fa it:Addr}{P:Nat->Obj->Prop}{XX:XR}{al:List AV}(hf:env.frame=some fa)(cJ:A.frames=some (env::outer))(hT:TG prog c A env L t f)(hb:ib prog c A env L b X)(x:∀i,aU (P i))(ho:aa.heap.get? it=none)(next:∀i aj ai aI s',ax c A a9 ae aa L aj ai aI s'->(∃o,s'.heap.get? it=some o/\P i o)->i<=al.length->di prog c A it P i aj ai s' al[i]?)(S:ax c A a9 ae aa L μ σ ρ s)(I:b8 c L μ σ.n s.heap it (P 0))(e:mA (λy ρ σ=>opt (f y ρ) .stuck λρ=>X ρ σ) al ρ σ = XX)(ns:XX≠.stuck):
  codeAny (model prog c.w) A (.forLoop t (.ref it) b [] env) (CG prog c A env L XX a9 ae aa) s:=by
 refine WC (W:=λ_ i=>mA (λy ρ σ=>opt (f y ρ) .stuck λρ=>X ρ σ) (al.drop i)) (Gd:=λk i=>k+i=al.length+1/\i<=al.length) (n:=al.length+1) hf cJ hT hb x ho ?_ S I ⟨rfl,w9 _⟩ (by rw[List.drop_zero];exact e) ns
 rintro k i aj ai aI s' S' I' ⟨hk,hi⟩ hn
 refine⟨k - 1,by lia,al[i]?,next i aj ai aI s' S' I'.obj hi,?_⟩
 have:=zjf (λy ρ σ=>opt (f y ρ) .stuck λρ=>X ρ σ) al i aI ai
 induction e:al[i]? with
 |none=>rw[e] at this;exact this
 |some y=>
  rw[e] at this
  have hl:i<al.length:=(List.getElem?_eq_some_iff.mp e).1
  exact⟨⟨by lia,hl⟩,this⟩
def jZ(a:Addr)(i:Nat)(o:Obj):Prop:=o.cls = .type "tuple_iterator"/\o.data = .fields #[.ref a,.int i 0]
def Cs(a:Addr)(i:Nat)(o:Obj):Prop:=o.cls = .type "list_iterator"/\o.data = .fields #[.ref a,.int i 0]
def jY(x:Str)(t:Tok)(i:Nat)(o:Obj):Prop:=o.cls = .type (strIterType x)/\o.data = .fields #[.str x t,.int i 0]
def jp(n:Nat)(i:Nat)(o:Obj):Prop:=o = { cls:=.type "range_iterator",dict:=none,data:=.fields #[rawInt i,rawInt ((n:Int) - i),rawInt 1],slots:=#[] }
theorem Qg(a:Addr)(i:Nat):aU (jZ a i):=⟨λo h=>⟨_,h.2⟩,λo h=>⟨_,h.1,by decide,by decide⟩⟩
theorem Q0(a:Addr)(i:Nat):aU (Cs a i):=⟨λo h=>⟨_,h.2⟩,λo h=>⟨_,h.1,by decide,by decide⟩⟩
theorem XC(x:Str)(t:Tok)(i:Nat):aU (jY x t i):=⟨λo h=>⟨_,h.2⟩,λo h=>⟨_,h.1,by unfold strIterType;split <;> decide,by unfold strIterType;split <;> decide⟩⟩
theorem Hf(n i:Nat):aU (jp n i):=⟨λo h=>by cases h;exact⟨_,rfl⟩,λo h=>by cases h;exact mH _ rfl (by decide) (by decide)⟩
theorem b8.push{P:Obj->Prop}(S:ax c A a9 ae aa L μ σ ρ s)(hp:P o)(cJ:o.isFreed=false){t:Nat}:ax c A a9 ae aa L μ σ ρ { s with heap:=s.heap.push o,toks:=t }/\b8 c L μ σ.n (s.heap.push o) s.heap.objs.size P/\aa.heap.get? s.heap.objs.size=none:=by
 have G:=S.hr.push o
 refine oE S.fr λm F=>?_
 refine dp (S.step (s':={ s with heap:=s.heap.push o,toks:=t }) G.1 G.2 ⟨rfl,rfl,rfl⟩) ⟨⟨o,we _ cJ,hp⟩,λi hi z=>wn (S.hr.lt hi) z,S.hr.cP,λz=>?_⟩ S.ex.new
 refine oE (F.has z).2.2.1 λo ho=>?_
 exact Nat.lt_irrefl _ (Heap.lt_size ho)
theorem Wv{it a:Addr}{i:Nat}{l:List AV}(hh:A.handled=none)(ht:IsTup s.heap a vs.toArray)(r:aH c μ σ.n s.heap l vs)(I:∃o,s.heap.get? it=some o/\jZ a i o):di prog c A it (jZ a) i μ σ s l[i]?:=by
 intro Q E h
 have hv:=r.at i
 have hit:IsTupIter s.heap it a i:=I
 have kP:a≠it:=λz=>by
  refine dR ht λo e1 e2 _=>?_
  refine dR I λo' e3 e4 _=>?_
  rw[z,e3] at e1;obtain rfl:=w3 e1
  rw[e4] at e2;exact w1 e2 (by decide)
 induction e:l[i]? with
 |none=>
  rw[e] at hv h
  exact next_tuple_end hh hit ht (by simpa using hv) λh' he=>h _ he ⟨rfl,rfl,rfl⟩
 |some y=>
  rw[e] at hv h
  refine au hv λv hv rv=>?_
  refine next_tuple_item hit ht (x:=v) (by simpa using hv) λh' gH hs=>h v _ ?_ gH hs.extBut ⟨rfl,rfl,rfl⟩
  refine dR I λoi e3 e4 e5=>?_
  refine rv.mono (wa _) (λ_ _=>rfl) λb o eb fb=>(hs.2 b λz=>?_).trans eb
  rw[z,e3] at eb;obtain rfl:=w3 eb
  exact(Qg a i).jC ⟨e4,e5⟩ fb
theorem Wh{it:Addr}{o i:Nat}{a:Addr}{l:List AV}(hh:A.handled=none)(ea:μ o=a)(hl:o < σ.n)(el:σ.get o = .list l)(H:HR c μ σ s.heap)(I:∃o,s.heap.get? it=some o/\Cs a i o):di prog c A it (Cs a) i μ σ s l[i]?:=by
 intro Q E h
 refine au (H.obj o hl) λob bJ r=>?_
 rw[el] at r
 cases r with
 |@list l vs e r=>
 have ht:s.heap.IsList a vs.toArray:=⟨_,ea▸bJ,rfl,e,rfl⟩
 have hv:=r.at i
 have hit:s.heap.IsListIter it a i:=I
 induction e:l[i]? with
 |none=>
  rw[e] at hv h
  exact wpAny_pyNext_list_end hh hit ht (by simpa using hv) λh' he=>h _ he ⟨rfl,rfl,rfl⟩
 |some y=>
  rw[e] at hv h
  refine au hv λv hv rv=>?_
  refine wpAny_pyNext_list_item hit ht (x:=v) (by simpa using hv) λh' gH hs=>h v _ ?_ gH hs.extBut ⟨rfl,rfl,rfl⟩
  refine dR I λoi e3 e4 e5=>?_
  refine rv.mono (wa _) (λ_ _=>rfl) λb o eb fb=>(hs.2 b λz=>?_).trans eb
  rw[z,e3] at eb;obtain rfl:=w3 eb
  exact(Q0 a i).jC ⟨e4,e5⟩ fb
theorem zhp(s:List Nat)(i:Nat):(rO s)[i]? = (s[i]?).map λch=>AV.str 0 [ch]:=by
 unfold rO
 have:∀l:List Nat,mapR (λch=>AV.str 0 [ch]) l=l.map λch=>AV.str 0 [ch]:=λl=>by
  induction l with
  |nil=>rfl
  |cons a l ih=>show _::_=_::_;rw[<-ih];rfl
 rw[this,List.getElem?_map]
theorem Wq{it:Addr}{x:List Nat}{t:Tok}{i:Nat}(hh:A.handled=none)(I:∃o,s.heap.get? it=some o/\jY (S x) t i o):di prog c A it (jY (S x) t) i μ σ s (rO x)[i]?:=by
 intro Q E h
 rw[zhp] at h
 have hx:(S x).cps[i]? = x[i]?:=by simp[S]
 induction ha:(S x).cps.all (·< 128) with
 |true=>
  have ty:strIterType (S x) = "str_ascii_iterator":=by unfold strIterType;rw[ha];rfl
  have hit:s.heap.IsStrIter it "str_ascii_iterator" (S x) t i:=by
   refine dR I λo e1 e2 e3=>?_
   exact mH o e1 (ty▸e2) e3
  induction e:x[i]? with
  |none=>rw[e] at h;exact wpAny_pyNext_ascii_end hh hit (hx.trans e) λh' he=>h _ he ⟨rfl,rfl,rfl⟩
  |some ch=>
   rw[e] at h
   refine wpAny_pyNext_ascii_item hit (hx.trans e) λh' gH hs=>h _ _ (VR.str 0 [ch] _) ?_ hs.extBut ⟨rfl,rfl,rfl⟩
   refine dR gH λo e1 e2 e3=>?_
   exact mH o e1 (ty▸e2) e3
 |false=>
  have ty:strIterType (S x) = "str_iterator":=by unfold strIterType;rw[ha];rfl
  have hit:s.heap.IsStrIter it "str_iterator" (S x) t i:=by
   refine dR I λo e1 e2 e3=>?_
   exact mH o e1 (ty▸e2) e3
  induction e:x[i]? with
  |none=>rw[e] at h;exact wpAny_pyNext_wide_end hh hit (hx.trans e) λh' he=>h _ he ⟨rfl,rfl,rfl⟩
  |some ch=>
   rw[e] at h
   refine wpAny_pyNext_wide_item hit (hx.trans e) λh' gH hs=>h _ _ (VR.str 0 [ch] _) ?_ hs.extBut ⟨rfl,rfl,rfl⟩
   refine dR gH λo e1 e2 e3=>?_
   exact mH o e1 (ty▸e2) e3
theorem ziy(n i k:Nat):(j7 n i)[k]? = if k<n then some (.int 0 (.ofNat (i+k))) else none:=by
 induction n generalizing i k with
 |zero=>
  have:j7 0 i=[]:=rfl
  rw[this];simp
 |succ n ih=>
  have:j7 (n+1) i = .int 0 (.ofNat i)::j7 n (i+1):=rfl
  rw[this]
  induction k using nC with
  |zero=>simp
  |succ k=>
   rw[List.getElem?_cons_succ,ih]
   by_cases q:k<n
   ·rw[if_pos q,if_pos (Nat.lt_succ_of_le q),show i+1+k=i+(k+1) from(Nat.add_right_comm _ _ _)]
   ·rw[if_neg q,if_neg (Nat.not_lt_of_le (Nat.lt_of_not_le q))]
theorem zhg(n i:Nat):(j7 n i).length=n:=by
 induction n generalizing i with
 |zero=>rfl
 |succ n ih=>show(j7 n (i+1)).length+1=_;rw[ih (i+1)]
theorem zgz{it:Addr}{i:Nat}(hh:A.handled=none)(hi:i<=n)(I:∃o,s.heap.get? it=some o/\jp n i o):di prog c A it (jp n) i μ σ s (j7 n 0)[i]?:=by
 intro Q E h
 refine au I λo e p=>?_
 have hit:IsRangeIter s.heap it i ((n:Int) - i) 1:=by cases p;exact e
 rw[ziy] at h
 by_cases q:i<n
 ·rw[if_pos q,Nat.zero_add] at h
  refine wpAny_pyNext_range_item hit (by lia) λh' gH hs=>h _ _ (VR.plain _ _) ⟨_,gH,?_⟩ hs.extBut ⟨rfl,rfl,rfl⟩
  show Obj.mk _ _ _ _=_
  have e1:((i:Int)+1)=((i+1:Nat):Int):=Eq.trans (Int.add_comm _ _) (Int.add_comm _ _)
  have e2:((n:Int) - i - 1)=(n:Int) - ((i+1:Nat):Int):=by lia
  rw[<-e2,<-e1]
 ·rw[if_neg q] at h
  exact wpAny_pyNext_range_end hh hit (by lia) λh' he=>h _ he ⟨rfl,rfl,rfl⟩
end
section
theorem SQ.loop{XX:XR}{t:Expr}{b:List Stmt}{it:Addr}(S:ax c A a9 ae aa L μ σ ρ s)(h:codeAny (model prog c.w) A (.forLoop t (.ref it) b [] env) (CG prog c A env L XX μ σ.n (j1 L s)) s'):
  codeAny (model prog c.w) A (.forLoop t (.ref it) b [] env) (CG prog c A env L XX a9 ae aa) s':=by
 refine wo h λx s' q=>?_
 induction x with
 |ok f=>exact SQ.back S q
 |error e=>exact wj q (λ_ _ q=>d7.back S q) λ_ _ q=>d7.back S q
theorem ua{t ie:Expr}{b:List Stmt}{D:RD}{f:AV->az->Option az}{X:XD}{G:Gl}{fa:Addr}(hh:A.handled=none)(hf:env.frame=some fa)(cJ:A.frames=some (env::outer))(hT:TG prog c A env L t f)(hi:SE prog c A env L ie D)(hb:ib prog c A env L b X)(hs:∀x,foldedSetIterable ie env x=pure x):
  SS prog c A env L (.For t ie b [] pos) (λρ σ=>((D ρ).v σ).bO ρ λv σ=>forA G (λy ρ σ=>opt (f y ρ) .stuck λρ=>X ρ σ) v ρ σ):=λa9 ae aa μ σ s ρ S0 ns=>by
 refine(?_:∀XX:XR,XX=((D ρ).v σ).bO ρ (λv σ=>forA G (λy ρ σ=>opt (f y ρ) .stuck λρ=>X ρ σ) v ρ σ)->XX≠.stuck->wpAny (model prog c.w) A (exec (.For t ie b [] pos) env) (SQ c A XX a9 ae aa L) (d7 c A XX a9 ae aa L) s) _ rfl ns
 clear ns
 intro XX eX ns
 refine oE S0.fr λm F=>?_
 refine wpAny_For ?_ hs
 refine WP.cM S0 (hi.v μ σ s ρ m S0.hr F) eX ns λy bC bV v s2 S2 X2 r er=>?_
 have Ky:=S2.again
 induction r using vC with
 |str q x t=>
  rcases xu (Nat.beq q 0) (mA (λy ρ σ=>opt (f y ρ) .stuck λρ=>X ρ σ) (rO x) ρ bC) XR.stuck with⟨e,z⟩ | ⟨_,z⟩
  case inr=>exact w1 (er.trans z) ns
  obtain rfl:q=0:=w4 e
  refine c6 (b8.push (o:={ cls:=.type (strIterType (S x)),data:=.fields #[.str (S x) t,.int 0 0] }) (P:=jY (S x) t 0) (t:=s2.toks) Ky ⟨rfl,rfl⟩ rfl) λS3 I3 h3=>?_
  refine wpAny_pyIter_strU (SQ.loop S2 ?_)
  exact PW (P:=jY (S x) t) hf cJ hT hb (XC _ _) h3 (λi aj ai aI s' S' I' hl=>Wq hh I') S3 I3 (er.trans z).symm ns
 |@tup l vs a ht rs=>
  refine c6 (b8.push (o:={ cls:=.type "tuple_iterator",data:=.fields #[.ref a,.int 0 0] }) (P:=jZ a 0) (t:=s2.toks) Ky ⟨rfl,rfl⟩ rfl) λS3 I3 h3=>?_
  refine iter_tuple ht (SQ.loop S2 ?_)
  refine PW (P:=jZ a) hf cJ hT hb (Qg _) h3 (λi aj ai aI s' S' I' hl=>?_) S3 I3 er.symm ns
  have r':=S2.val S' (.tup ht rs)
  generalize ev:Value.ref a=v at r'
  cases r' with
  |tup DY eZ=>cases ev;exact Wv hh DY eZ I'
 |@obj o ho=>
  refine au (S2.hr.obj o ho) λob bJ ro=>?_
  induction ed:bC.get o with
  |list l=>
   rw[ed] at ro
   cases ro with
   |@list _ vs ee rs=>
   have de:XX=nh (λy ρ σ=>opt (f y ρ) .stuck λρ=>X ρ σ) o G.fu 0 ρ bC:=by
    rw[er]
    show(bC.get o).on _ _ _ _ _=_
    rw[ed];rfl
   refine c6 (b8.push (o:={ cls:=.type "list_iterator",data:=.fields #[.ref (bV o),.int 0 0] }) (P:=Cs (bV o) 0) (t:=s2.toks) Ky ⟨rfl,rfl⟩ rfl) λS3 I3 h3=>?_
   refine wpAny_pyIter_list (items:=vs.toArray) ⟨_,bJ,rfl,_,rfl⟩ (SQ.loop S2 ?_)
   refine WC (P:=Cs (bV o)) (W:=λk i=>nh (λy ρ σ=>opt (f y ρ) .stuck λρ=>X ρ σ) o k i) (Gd:=λ_ _=>True) (n:=G.fu) hf cJ hT hb (Q0 _) h3 ?_ S3 I3 trivial de.symm ns
   rintro k i aj ai aI s' S' I' - hn
   have ea:aj o = bV o:=S'.ex.eq o ho
   have hl:o < ai.n:=w7 ho S'.ex.le
   induction k using nC with
   |zero=>exact w1 rfl hn
   |succ k=>
    induction iR:ai.get o with
    |list l'=>
     refine⟨k,rfl,l'[i]?,Wh hh ea hl iR S'.hr I'.obj,?_⟩
     have eW:nh (λy ρ σ=>opt (f y ρ) .stuck λρ=>X ρ σ) o (k+1) i aI ai=opt (dF l' i) (.ok .next aI ai) λv=>(opt (f v aI) .stuck λρ=>X ρ ai).turn (nh (λy ρ σ=>opt (f y ρ) .stuck λρ=>X ρ σ) o k (i+1)):=by
      show(ai.get o).on _ _ _ _ _=_
      rw[iR];rfl
     rw[jm] at eW
     induction e:l'[i]? with
     |none=>rw[e] at eW;exact eW
     |some y=>rw[e] at eW;exact⟨trivial,eW⟩
    |_=>
     refine w1 ?_ hn
     show(ai.get o).on _ _ _ _ _=_
     rw[iR];rfl
  |_=>
   refine w1 (er.trans ?_) ns
   show(bC.get o).on _ _ _ _ _=_
   rw[ed];rfl
 |_=>exact w1 er ns
theorem WP.C2{R:Rel β α}{m:Sem α}{r:Res β}{b:β}(h:WP prog c A R m r μ σ s)(e:r = .ok b ai){Q:α->Shared->Prop}{E:Value->Shared->Prop}(k:∀a s' aj,HR c aj ai s'.heap->Ext μ σ.n s.heap aj ai.n s'.heap->R aj ai.n s'.heap b a->b9 s s'->Q a s'):wpAny (model prog c.w) A m Q E s:=by
 subst e
 refine wj (h λz=>by contradiction) ?_ ?_
 ·rintro a s' ⟨b',aE,aj,z,H,X,r,sm⟩
  injection z with z1 z2
  subst z1 z2
  exact k a s' aj H X r sm
 ·rintro e s' ⟨l,_,_,z,_⟩
  contradiction
def zX(B:AV->az->AH->XR)(ρ:az)(v:AV)(σ:AH):XR:=match v with
 |.int q (.ofNat n)=>match Nat.beq q 0&&Nat.ble n 1000000 with
  |true=>mA B (j7 n 0) ρ σ
  |false=>.stuck
 |_=>.stuck
section
variable{XX:XR}{G:Prop}
theorem Gi{B:AV->az->AH->XR}{y:AV}(e:XX=zX B ρ y σ)(ns:XX≠.stuck)(r:VR c μ n h y v)(k:∀(n:Nat) (tk:Tok),n<=1000000->v = .int n tk->XX=mA B (j7 n 0) ρ σ->G):G:=by
 induction r using vC with
 |int q i tk=>induction i using Int.casesOn with
  |negSucc _=>exact w1 e ns
  |ofNat n=>
   replace e:XX=(match Nat.beq q 0&&Nat.ble n 1000000 with | true=>mA B (j7 n 0) ρ σ | false=>.stuck):=e
   induction hc:(Nat.beq q 0&&Nat.ble n 1000000) with
   |false=>rw[hc] at e;exact w1 e ns
   |true=>
    rw[hc] at e
    refine n2 hc λh1 h2=>?_
    obtain rfl:=w4 h1
    exact k n tk (w5 h2) (congrArg (λz=>Value.int z tk) (Int.zero_add _)) e
 |_=>exact w1 e ns
theorem zp9(r:Res AV)(F:AV->AH->XR):(r.bind λv σ=>Res.ok [v] σ).bO ρ (λl σ=>zf l .stuck λv t=>zf t (F v σ) λ_ _=>.stuck)=r.bO ρ F:=by
 induction r with | _=>rfl
theorem ET{F:AV->AH->XR}{l:List AV}(e:XX=zf l .stuck λv t=>zf t (F v σ) λ_ _=>.stuck)(ns:XX≠.stuck)(r:aH c μ n h l vs)(k:∀y v,vs=[v]->VR c μ n h y v->XX=F y σ->G):G:=by
 induction l using lC with
 |nil=>exact w1 e ns
 |cons y t=>induction t using lC with
  |nil=>exact aH.k1 (Q:=λw=>vs=w->G) r (λv r z=>k y v z r e) rfl
  |cons _ _=>exact w1 e ns
end
theorem XT{tk:Tok}{bV:Nat->Addr}{s2:Shared}{bC:AH}(hn:n<=1000000)(S2:ax c A a9 ae aa L bV bC ρ s2){Q:Value->Shared->Prop}{E:Value->Shared->Prop}(k:∀it s3 s4,ax c A a9 ae aa L bV bC ρ s3->(∀aN n₁ aw,ax c A aN n₁ aw L bV bC ρ s3->ax c A aN n₁ aw L bV bC ρ s4/\b8 c L bV bC.n s4.heap it (jp n 0)/\aw.heap.get? it=none)->Q (.ref it) s4):
  wpAny (model prog c.w) A (call (.type "range") [.int n tk]) (λx aw=>wpAny (model prog c.w) A (pyIter x) Q E aw) E s2:=by
 refine call_range_1 ?_
 have G:=S2.hr.push { cls:=.type "range",data:=.fields #[.int 0 s2.toks,.int n tk,.int 1 (s2.toks+1)] }
 have S3:=S2.step (s':={ s2 with heap:=s2.heap.push { cls:=.type "range",data:=.fields #[.int 0 s2.toks,.int n tk,.int 1 (s2.toks+1)] },toks:=s2.toks+1+1 }) G.1 G.2 ⟨rfl,rfl,rfl⟩
 refine wpAny_pyIter_range (IsRange.new _ _ _ _ _ _ _) (small_one (by decide) (by decide) (Int.ofNat_nonneg _) (by lia)) ?_
 rw[show Builtin.Range.rangeSize 0 n 1=n by rw[rangeSize_one];split <;> lia]
 exact k _ _ _ S3 λaN n₁ aw S=>b8.push (o:={ cls:=.type "range_iterator",data:=.fields #[rawInt 0,rawInt n,rawInt 1] }) (P:=jp n 0) (t:=s2.toks+1+1) S (by show Obj.mk _ _ _ _=_;simp) rfl
theorem Ar{t:Expr}{x:Str}{p pos':Pos}{e:Expr}{b:List Stmt}{D E:RD}{f:AV->az->Option az}{X:XD}{fa:Addr}(hh:A.handled=none)(hf:env.frame=some fa)(cJ:A.frames=some (env::outer))(hT:TG prog c A env L t f)(hr:SE prog c A env L (.Name x p) (mV (.bi 4)))(ha:SA prog c A env L [e] (jv D jw))(hb:ib prog c A env L b X):
  SS prog c A env L (.For t (.Call (.Name x p) [e] [] pos') b [] pos) (λρ σ=>((D ρ).v σ).bO ρ (zX (λy ρ σ=>opt (f y ρ) .stuck λρ=>X ρ σ) ρ)):=λa9 ae aa μ σ s ρ S0 ns=>by
 refine(?_:∀XX:XR,XX=((D ρ).v σ).bO ρ (zX (λy ρ σ=>opt (f y ρ) .stuck λρ=>X ρ σ) ρ)->XX≠.stuck->wpAny (model prog c.w) A (exec (.For t (.Call (.Name x p) [e] [] pos') b [] pos) env) (SQ c A XX a9 ae aa L) (d7 c A XX a9 ae aa L) s) _ rfl ns
 clear ns
 intro XX eX ns
 refine S0.fr.elim λm F=>wpAny_For ?_ (λ_=>rfl)
 show wpAny _ _ (do callWith pos' (<-eval (.Name x p) env) [] (backTo pos' (starEach [e] env)) (backToKw pos' (keywordEach [] env))) _ _ s
 refine wg ((hr.v μ σ s ρ m S0.hr F).C2 rfl λv s1 cq H1 X1 r1 C3=>?_)
 refine VR.kF r1 ?_
 have S1:=S0.step H1 X1 C3
 show wpAny _ _ (callWith pos' (.type "range") [] (backTo pos' (starEach [e] env)) []) _ _ s1
 refine PySem.callWith_type (ha.noStar pos') (xh ha ?_)
 refine S1.fr.elim λm1 F1=>WP.cM S1 (ha.sl.l pos' cq σ s1 ρ m1 H1 F1) (eX.trans (zp9 _ _).symm) ns λl bC bV vs s2 S2 X2 r2 er=>?_
 refine ET er ns r2 λy v YC r er=>Gi er ns r λn tk hn ev er=>?_
 subst ev YC
 show wpAny _ _ (call (.type "range") [.int n tk]) _ _ s2
 refine XT hn S2 λit s3 s4 S3 h=>?_
 have q:=h _ _ _ S3.again
 exact SQ.loop S3 (PW (P:=jp n) hf cJ hT hb (Hf _) q.2.2 (λi aj ai aI s' S' I' hl=>zgz hh (by rw[zhg] at hl;exact hl) I') q.1 q.2.1 er.symm ns)
end
def e8(ρ aI:az):Prop:=∀z,aC ρ z=aC aI z
theorem e8.set(h:e8 ρ aI)(x:Nat)(v:AV):e8 (zd ρ x v) (zd aI x v):=λz=>by rw[yv,yv,h z]
theorem e8.comm{x y:Nat}{v w:AV}(ne:x≠y):e8 (zd (zd ρ x v) y w) (zd (zd ρ y w) x v):=λz=>by
 rw[yv,yv,yv,yv]
 by_cases h:z=y
 ·rw[if_pos h,if_neg λq=>ne (q.symm.trans h),if_pos h]
 ·rw[if_neg h]
  by_cases q:z=x
  ·rw[if_pos q,if_pos q]
  ·rw[if_neg q,if_neg q,if_neg h]
theorem e8.trans{a b c:az}(h:e8 a b)(k:e8 b c):e8 a c:=λz=>(h z).trans (k z)
theorem e8.refl(a:az):e8 a a:=λ_=>rfl
theorem e8.symm{a b:az}(h:e8 a b):e8 b a:=λz=>(h z).symm
theorem e8.all(h:e8 ρ aI)(xs:List Nat)(l:List AV):e8 (yi xs l ρ) (yi xs l aI):=by
 induction xs generalizing l ρ aI with
 |nil=>exact h
 |cons x xs ih=>
  induction l using lC with
  |nil=>exact h
  |cons v l=>rw[xj,xj];exact ih (h.set x v) l
theorem e8.front(x:Nat)(v:AV)(xs:List Nat)(l:List AV)(h:x∉xs):e8 (yi xs l (zd ρ x v)) (zd (yi xs l ρ) x v):=by
 induction xs generalizing l ρ with
 |nil=>exact .refl _
 |cons y xs ih=>
  induction l using lC with
  |nil=>exact .refl _
  |cons w l=>
   rw[xj,xj]
   exact(e8.all (e8.comm (λz:x=y=>h (by rw[z];exact .head _))) xs l).trans (ih l λz=>h (.tail _ z))
theorem zem(xs:List Nat)(l:List AV)(ρ:az)(x:Nat)(v:AV)(e:xs.length=l.length):yi (xs++[x]) (l++[v]) ρ = zd (yi xs l ρ) x v:=by
 induction xs generalizing l ρ with
 |nil=>induction l using lC with
  |nil=>rfl
  |cons _ _=>cases e
 |cons y xs ih=>induction l using lC with
  |nil=>cases e
  |cons w l=>rw[List.cons_append,List.cons_append,xj,xj];exact ih l _ (Nat.succ.inj e)
theorem e8.rev(xs:List Nat)(l:List AV)(e:xs.length=l.length)(nd:xs.Nodup):e8 (yi xs.reverse l.reverse ρ) (yi xs l ρ):=by
 induction xs generalizing l ρ with
 |nil=>induction l using lC with
  |nil=>exact .refl _
  |cons _ _=>cases e
 |cons x xs ih=>induction l using lC with
  |nil=>cases e
  |cons v l=>
   rw[List.reverse_cons,List.reverse_cons,zem _ _ _ _ _ (by simpa using e),xj]
   rw[List.nodup_cons] at nd
   exact((ih l (Nat.succ.inj e) nd.2).set x v).trans (e8.front x v xs l nd.1).symm
section
theorem ax.same(S:ax c A a9 ae aa L μ σ ρ s)(h:e8 ρ aI):ax c A a9 ae aa L μ σ aI s:=
 ⟨S.hr,S.ex,S.sm,S.fr.elim λm F=>⟨m,F.ns,F.above,F.own,λx=>by rw[<-h x];exact F.vals x,F.fG,F.dj,F.lU⟩,S.out⟩
theorem An{es:List Expr}{k}{p:Pos}{xs:List Nat}{e:Expr}{D:RD}(hh:A.handled=none)(EO:bz env L)(hx:cn env L xs es)(h:SE prog c A env L e D)(hs:swapsWithSole [.Tuple es k p] e pos.line env=pure false)(hw:swappedStores [.Tuple es k p] e env=pure none):
  SS prog c A env L (.Assign [.Tuple es k p] e pos) (K3 xs D):=λa9 ae aa μ σ s ρ S ns=>by
 refine oE S.fr λm F=>?_
 refine wpAny_Assign_stores (WP.cM S (h.v μ σ s ρ m S.hr F) rfl ns λy ag ah v ar S2 X2 r er=>?_) hs hw
 show wpAny _ _ (assign (.Tuple es k p) _ v) _ _ ar
 induction e1:uw xs y ρ with
 |none=>rw[e1] at er;exact w1 er ns
 |some aI=>
  rw[e1] at er
  exact Qi hh EO hx _ _ _ _ _ _ _ _ _ _ S2 r e1 _ _ λs' S'=>⟨.next,_,ag,ah,er,S',rfl⟩
theorem zjs{xs:List Nat}(EO:bz env L)(h:∀x∈xs,mN env L x):∀{a9 ae aa μ σ s ρ}{l:List AV}{vs:List Value}{Q:Unit->Shared->Prop}{E},ax c A a9 ae aa L μ σ ρ s->aH c μ σ.n s.heap l vs->xs.length=l.length->
  (∀s',ax c A a9 ae aa L μ σ (yi xs l ρ) s'->Q () s')->wpAny (model prog c.w) A (assignInOrder (xs.map λn=>bindName env (nm n)) vs) Q E s:=by
 induction xs with
 |nil=>
  intro a9 ae aa μ σ s ρ l vs Q E S r e h
  induction r using aH.casesOn with
  |cons _ _=>cases e
  |nil=>exact wpAny_assignInOrder_none (h s S)
 |cons x xs ih=>
  intro a9 ae aa μ σ s ρ l vs Q E S r e hq
  induction r using aH.casesOn with
  |nil=>cases e
  |@cons y v l vs r rs=>
   refine wpAny_assignInOrder_more (wpAny_bindName (xz EO (h x (.head _)) S r λs' S' tk=>?_))
   exact ih (λx hx=>h x (.tail _ hx)) S' (rs.mono (wa _) (λ_ _=>rfl) tk) (Nat.succ.inj e) hq
theorem aH.rev{l:List AV}(r:aH c μ n h l vs):aH c μ n h l.reverse vs.reverse:=by
 have app:∀{l l':List AV}{vs mv:List Value},aH c μ n h l vs->aH c μ n h l' mv->aH c μ n h (l++l') (vs++mv):=by
  intro l l' vs mv r r'
  induction l generalizing vs with
  |nil=>cases r;exact r'
  |cons a l ih=>cases r with | cons x xs=>exact .cons x (ih xs)
 induction l generalizing vs with
 |nil=>cases r;exact .nil
 |cons a l ih=>cases r with | cons x xs=>rw[List.reverse_cons,List.reverse_cons];exact app (ih xs) (.cons x .nil)
theorem zlg{es:List Expr}{k}{p:Pos}{xs:List Nat}{e:Expr}{D:RD}(hh:A.handled=none)(EO:bz env L)(hx:∀x∈xs,mN env L x)(nd:xs.Nodup)(h:SE prog c A env L e D)(hs:swapsWithSole [.Tuple es k p] e pos.line env=pure false)(hw:swappedStores [.Tuple es k p] e env=pure (some (xs.map nm))):
  SS prog c A env L (.Assign [.Tuple es k p] e pos) (K3 xs D):=λa9 ae aa μ σ s ρ S ns=>by
 refine oE S.fr λm F=>?_
 rw[exec_Assign_arm]
 refine wg (wk ?_)
 rw[hs]
 refine wg (wh ?_)
 rw[if_neg (by decide)]
 refine wg (WP.cM S (h.v μ σ s ρ m S.hr F) rfl ns λy ag ah v ar S2 X2 r er=>?_)
 rw[hw]
 refine wg (wh ?_)
 unfold assignStores
 refine wg (wpAny_rule ?_)
 induction r using vC with
 |@tup l vs ad ht rs=>
  replace er:K3 xs D ρ σ = opt (ak (Nat.beq (len xs) (len l)) (some (yi xs l ρ)) none) .stuck λρ=>.ok .next ρ ag:=er
  induction q:Nat.beq (len xs) (len l) with
  |false=>rw[q] at er;exact w1 er ns
  |true=>
   rw[q] at er
   have hl:xs.length=l.length:=by rw[<-zb,<-zb];exact w4 q
   have dk:(xs.map nm).length=vs.toArray.size:=by rw[List.length_map,hl,List.size_toArray,rs.len]
   refine wg ?_
   rw[dk]
   refine unpackItems_tuple hh ht λh' he=>?_
   have k:∀b o,ar.heap.get? b=some o->h'.get? b=some o:=λb o e=>he b o (wn (Heap.lt_size e)) e
   have G:=S2.hr.dJ k
   have S':=S2.step (s':={ ar with heap:=h' }) G.1 G.2 ⟨rfl,rfl,rfl⟩
   refine wg ?_
   have e1:((xs.map nm).reverse.map λn=>bindName env n)=xs.reverse.map λn=>bindName env (nm n):=by
    rw[<-List.map_reverse,List.map_map];rfl
   rw[e1]
   have e2:vs.toArray.toList.reverse=vs.reverse:=by simp
   rw[e2]
   refine zjs EO (λx ZA=>hx x (List.mem_reverse.mp ZA)) S' (rs.ext S2.hr G.2).rev (by simpa using hl) λs3 S3=>wpAny_pure ?_
   exact lL .next _ ag ah er (S3.same (e8.rev xs l hl nd)) rfl
 |_=>exact w1 er ns
end
structure d_ (K:Frag) (C:Addr):Prop where
 base:subIn K (.ref C) (.type "BaseException")=some true
 ty:typeIn K (.ref C)=some (.type "type")
 self:exmOne K (.ref C) (.ref C)=some true
section
theorem Pb{e:Addr}{C:Addr}{vs:Array Value}(X:K.In h)(N:d_ K C)(he:h.get? e=some o)(hc:o.cls = .ref C)(hd:o.data = .fields vs):
  Looks M h (typeOf (.ref e)) (.ref C)/\Looks M h (isType (.ref e)) false/\Looks M h (isExcClass (.ref e)) false/\Looks M h (isInstance (.ref e) (.type "BaseException")) true/\Looks M h (raisedInstance (.ref e)) (.ref e):=by
 have t0:Looks M h (typeOf (.ref e)) (.ref C):=by
  have:Looks M h (loadPart e (some .none) >>= λo=>pure o.cls) o.cls:=(Looks.ld he).andThen .now
  rw[hc] at this
  exact(Looks.ld he).andThen (by rw[hc];exact .now)
 have t1:Looks M h (isType (.ref e)) false:=(Looks.ld he).andThen (by rw[hd];exact .now)
 refine⟨t0,t1,?_,t0.andThen (looks_subIn X N.base),?_⟩
 ·unfold isExcClass
  exact t1.andThen .now
 ·unfold raisedInstance
  exact t0.andThen ((looks_typeIn X N.ty).andThen .now)
theorem zmt{e:Expr}{D:RD}(X:K.In c.base)(N:∀C,c.bA C->d_ K C)(hh:A.handled=none)(h:SE prog c A env L e D):SS prog c A env L (.Raise (some e) none pos) (Ql D):=λa9 ae aa μ σ s ρ S ns=>by
 refine oE S.fr λm F=>?_
 rw[arm_exec_Raise]
 refine wg (wk ?_)
 show wpAny _ _ (raiseStmt env (some (do let v<-eval e env;standAt pos;pure v)) none) _ _ s
 unfold raiseStmt
 refine wg ?_
 refine wg (WP.cM S (h.v μ σ s ρ m S.hr F) rfl ns λy ag ah v ar S2 X2 r er=>?_)
 refine wg (wk (wh ?_))
 refine D8 v λ_ κ=>?_
 induction r using vC with
 |@obj l hl=>
  refine au (S2.hr.obj l hl) λo ho ro=>?_
  induction ed:ag.get l with
  |exc C d k=>
   rw[ed] at ro
   have de:Ql D ρ σ = ak (Nat.beq k 0) (.exc l ρ (ag.put l (.exc C d 1))) .stuck:=by
    rw[er]
    show(ag.get l).xS _ _=_
    rw[ed];rfl
   rcases xu (Nat.beq k 0) (XR.exc l ρ (ag.put l (.exc C d 1))) .stuck with⟨e0,z⟩ | ⟨_,z⟩
   case inr=>exact w1 (de.trans z) ns
   obtain rfl:k=0:=w4 e0
   replace de:=de.trans z
   cases ro with
   |@exc _ _ _ _ vs dw DE hc cH hd dk p_ wL=>
   refine jQ (Pb (M:=model prog c.w) (X.keeps S2.hr.keep) (N C dw) ho hc hd) λz0 z1 z2 z3 z4=>?_
   have h1:=p_ rfl
   have G:=S2.hr.set (l:=l) (o':=o) (a':=.exc C d 1) hl (λ_ _ e _=>e) ho (.exc dw DE hc cH hd dk (λz=>by cases z) (λ_=>wL (by decide))) (wa _)
   have S3:=S2.step (s':=ar) G.1 G.2 (.refl _)
   refine κ _ ?_;clear κ
   refine bP ?_
   refine wg (wi ?_)
   unfold excFromValue
   refine wg (z2.here ?_)
   rw[if_neg Bool.false_ne_true]
   refine wg (z3.here ?_)
   rw[if_pos rfl]
   refine wh ?_
   refine wg (z1.here ?_)
   rw[if_neg Bool.false_ne_true]
   refine wg (z4.here ?_)
   refine wg ?_
   unfold setFlight
   refine wg (wpAny_field ho hd h1 ?_)
   rw[if_neg (by decide)]
   refine wh ?_
   exact wpAny_raiseNew_none hh ⟨l,ρ,_,ah,de,S3,rfl,hl,C,d,0,o,vs,AH.bp _ _ _,ho,hd,.inl h1⟩
  |_=>
   refine w1 (er.trans ?_) ns
   show(ag.get l).xS _ _=_
   rw[ed];rfl
 |_=>exact w1 er ns
end
theorem zj1(ρ:az)(x z:Nat){y:AV}(e:aC (lJ ρ x) z=some y):z≠x/\aC ρ z=some y:=by
 induction ρ with
 |nil=>exact NS e
 |cons p l ih=>
  rw[pj]
  have ed:lJ (p::l) x=if p.1=x then lJ l x else p::lJ l x:=by
   show(Bool.rec (p::lJ l x) (lJ l x) (Nat.beq p.1 x):List (Nat×AV))=_
   by_cases q:p.1=x
   ·rw[if_pos q,q,show Nat.beq x x=true from Nat.beq_refl x]
   ·rw[if_neg q]
    induction h:Nat.beq p.1 x with
    |true=>exact w1 (w4 h) q
    |false=>rfl
  rw[ed] at e
  by_cases q:p.1=x
  ·rw[if_pos q] at e
   refine oA (ih e) λh1 h2=>?_
   exact⟨h1,by rw[if_neg λz'=>h1 (z'.symm.trans q)];exact h2⟩
  ·rw[if_neg q,pj] at e
   by_cases q':p.1=z
   ·rw[if_pos q'] at e ⊢
    exact⟨λz'=>q (q'.trans z'),e⟩
   ·rw[if_neg q'] at e ⊢
    exact ih e
theorem zbq: entryFor table "proto.unchain" = some Builtin.«proto.unchain»:=entryFor_of_fast (by kernel_rfl)
section
theorem ax.around{A':Around}(S:ax c A a9 ae aa L μ σ ρ s)(h:A'.frames=A.frames):ax c A' a9 ae aa L μ σ ρ s:=
 ⟨S.hr,S.ex,S.sm,S.fr.elim λm F=>⟨m,F.ns,F.above,F.own,F.vals,(by refine au F.fG λfs e r=>?_;exact aT fs (h.trans e) r),F.dj,F.lU⟩,S.out⟩
theorem Wa{E:Value->Shared->Prop}{Q:Unit->Shared->Prop}{x:Nat}(EO:bz env L)(hx:env.kindOf (nm x)=some .local)(hn:L.all.lookup (nm x)=none)(S:ax c A a9 ae aa L μ σ ρ s)(h:∀s',ax c A a9 ae aa L μ σ (lJ ρ x) s'->Heap.SameBut L.a s.heap s'.heap->Q () s'):wpAny M A (do bindName env (nm x) .none;unbindBehindTheSuite env (nm x) pos) Q E s:=by
 refine oE S.fr λm F=>?_
 refine wg (wpAny_bindName (wpAny_storeName_local hx (EO.loc▸F.ns) (λh1 Rx hs=>?_) (JH EO)))
 rw[EO.loc] at Rx hs
 refine c6 (S.iF (s':={ s with heap:=h1,toks:=s.toks+1 }) F hs ⟨rfl,rfl,rfl⟩ hn (.none) Rx) λF1 S1 tk=>?_
 unfold unbindBehindTheSuite
 refine wpAny_onRaise (wpAny_unbindName_local (s:={ s with heap:=h1,toks:=s.toks+1 }) hx (EO.loc▸F1.ns) (v:=.none) (if_pos rfl) (JH EO) λh2 u Lw DW=>?_)
 rw[EO.loc] at Lw DW
 refine h _ ?_ (hs.trans DW)
 refine jS (S1.frame (s':={ s with heap:=h2,toks:=s.toks+1 }) F1 (.inl rfl) DW ⟨rfl,rfl,rfl⟩) λb1 b2 b3 Ax=>?_
 have hc:∀p∈L.all,h2.get? p.2=h1.get? p.2:=λp hp=>DW.2 _ (PK F1 hp)
 refine⟨b1,b2,b3,⟨_,Lw,F.above,F.own,λz=>?_,F1.fG.store DW λ_=>?_,λp hp=>?_,F.lU⟩,S.out⟩
 ·induction e:aC (lJ ρ x) z with
  |none=>trivial
  |some y=>
   refine oA (zj1 ρ x z e) λne e2=>?_
   have:=F1.vals z
   rw[yv,if_neg ne,e2] at this
   refine au this λw hw r=>?_
   exact aT w ((PY hc λ_=>if_neg λe=>ne (Cg e)).trans hw) (r.mono (wa _) (λ_ _=>rfl) Ax)
 ·refine ou Lw λo' es ep iq fL _=>?_
  exact⟨o',iq,es,ep,fL⟩
 ·refine c6 (F1.dj p hp) λa1 a2 q9=>?_;refine bw q9 λw o ho hd=>?_
  exact⟨a1,a2,w,o,(hc p hp).trans ho,hd⟩
theorem bS.same(S:ax c A a9 ae aa L μ σ ρ s){l:Nat}{e:Value}(F:bS c aa.heap μ σ s.heap l e)(sb:Heap.SameBut L.a s.heap h'):bS c aa.heap μ σ h' l e:=by
 refine oA F λe0 q9=>?_;refine oA q9 λhl q9=>?_;refine eC q9 λC d k o q9=>?_;refine jR q9 λvs ha ho hd q9=>?_;refine lN q9 λT oT ts h1 hT hc hF r=>?_
 refine oE S.fr λm Fm=>?_
 refine⟨e0,hl,C,d,k,o,vs,ha,(sb.2 _ (Fm.own l hl)).trans ho,hd,T,oT,ts,h1,(sb.2 _ λz=>?_).trans hT,hc,hF,r⟩
 refine ou Fm.ns λo2 es ep lV hd2 _=>?_
 rw[z,lV] at hT;obtain rfl:=w3 hT
 rw[hd2] at hF;contradiction
theorem KS{XX:XR}{b:Bool}{t:XR}{G:Prop}(e:XX=ak b t .stuck)(ns:XX≠.stuck)(k:b=true->XX=t->G):G:=by
 cases b with
 |true=>exact k rfl e
 |false=>exact w1 e ns
theorem zp5{XX:XR}{l l':Nat}{G:Prop}(e:XX=(σ.get l).xS .stuck λ_ _ k=>(σ.get l').xS .stuck λC d k'=>ak (Nat.blt k 2) (ak (Nat.beq k' 0) (ak (Nat.beq l l') .stuck (.exc l' ρ (σ.put l' (.exc C d 2)))) .stuck) .stuck)(ns:XX≠.stuck)(g:∀Ch dh kh C d,σ.get l = .exc Ch dh kh->σ.get l' = .exc C d 0->kh<2->l≠l'->XX = .exc l' ρ (σ.put l' (.exc C d 2))->G):G:=by
 generalize hx:σ.get l=x at e
 generalize hy:σ.get l'=y at e
 induction x using ao.casesOn with
 |exc Ch dh kh=>induction y using ao.casesOn with
  |exc C d k=>
   refine KS e ns λh1 e=>KS e ns λh2 e=>?_
   rcases xu (Nat.beq l l') .stuck (XR.exc l' ρ (σ.put l' (.exc C d 2))) with⟨_,z⟩ | ⟨h3,z⟩
   ·exact w1 (e.trans z) ns
   ·obtain rfl:k=0:=w4 h2
    exact g _ _ _ _ _ hx hy (w5 h1) (wm h3) (e.trans z)
  |_=>exact w1 e ns
 |_=>exact w1 e ns
theorem zjw{e:Expr}{D:RD}{l:Nat}{el:Addr}(X:K.In c.base)(N:∀C,c.bA C->d_ K C)(hh:A.handled=some (.ref el))(h:SE prog c A env L e D)(S:ax c A a9 ae aa L μ σ ρ s)(hl:l < σ.n)(Iq:μ l=el)(ns:Hj D l ρ σ≠.stuck):
  wpAny (model prog c.w) A (exec (.Raise (some e) none pos) env) (SQ c A (Hj D l ρ σ) a9 ae aa L) (d7 c A (Hj D l ρ σ) a9 ae aa L) s:=by
 refine(?_:∀XX:XR,XX=Hj D l ρ σ->XX≠.stuck->wpAny (model prog c.w) A (exec (.Raise (some e) none pos) env) (SQ c A XX a9 ae aa L) (d7 c A XX a9 ae aa L) s) _ rfl ns
 clear ns
 intro XX eX ns
 rw[arm_exec_Raise]
 refine wg (wk ?_)
 show wpAny _ _ (raiseStmt env (some (do let v<-eval e env;standAt pos;pure v)) none) _ _ s
 unfold raiseStmt
 refine wg ?_
 refine S.fr.elim λm F=>wg (WP.cM S (h.v μ σ s ρ m S.hr F) eX ns λy ag ah v ar S2 X2 r er=>?_)
 refine wg (wk (wh ?_))
 refine D8 v λ_ κ=>?_
 induction r using vC with
 |@obj l' iY=>
  have Rw:l < ag.n:=w7 hl X2.le
  have DG:ah l=el:=(X2.eq l hl).trans Iq
  refine zp5 er ns λCh dh kh C d Yv ed Zg nll er=>?_
  refine HR.iw S2.hr Rw Yv λoh vsh RA _ _ _ _ Z3 _ _ DC=>HR.iw S2.hr iY ed λo vs ho dw DE hc cH hd dk p_ _=>?_
  rw[DG] at RA
  refine jQ (Pb (M:=model prog c.w) (X.keeps S2.hr.keep) (N C dw) ho hc hd) λz0 z1 z2 z3 z4=>?_
  have h1:=p_ rfl
  refine κ _ ?_;clear κ
  refine bP ?_
  refine wg (wi ?_)
  unfold excFromValue
  refine wg (z2.here ?_)
  rw[if_neg Bool.false_ne_true]
  refine wg (z3.here ?_)
  rw[if_pos rfl]
  refine wh ?_
  refine wg (z1.here ?_)
  rw[if_neg Bool.false_ne_true]
  refine wg (z4.here ?_)
  refine wg ?_
  unfold setFlight
  refine wg (wpAny_field ho hd h1 ?_)
  rw[if_neg (by decide)]
  refine wh ?_
  unfold raiseNew
  refine wg (wpAny_handled ?_)
  rw[hh]
  have nel:el≠ah l':=λz=>nll (S2.hr.inj l l' Rw iY (DG.trans z))
  dsimp only
  rw[if_pos (by simpa using nel)]
  refine wg (wi (wpAny_runValue (codeAny_builtin zbq ?_)))
  unfold Builtin.«proto.unchain»
  dsimp only
  refine wg (wpAny_field RA Z3 (DC Zg) ?_)
  rw[if_pos (by decide)]
  refine wg (wh (wh ?_))
  show wpAny _ _ (setField (.ref (ah l')) 2 (.ref el) >>= _) _ _ ar
  have Io:=Obj.data_mapFields hd (·.setIfInBounds 2 (Value.ref el))
  have Z6:=Heap.get?_update_self (Obj.mapFields (·.setIfInBounds 2 (Value.ref el))) ho (Obj.isFreed_of_fields Io)
  have G:=S2.hr.update (l:=l') (a':=.exc C d 2) (f:=Obj.mapFields (·.setIfInBounds 2 (Value.ref el))) iY ho (Obj.isFreed_of_fields Io)
   (.exc dw DE ((Obj.cls_mapFields _ _).trans hc) ((Vm _ _).trans cH) Io (by simpa using dk) (λz=>by cases z) (λz=>absurd z (by decide)))
  refine wg (wpAny_setField ho hd (uW dk (dQ rfl)) ?_)
  have S3:=S2.step (s':={ ar with heap:=ar.heap.update (ah l') (Obj.mapFields (·.setIfInBounds 2 (Value.ref el))) }) G.1 G.2 ⟨rfl,rfl,rfl⟩
  refine wpAny_throw ⟨l',ρ,_,ah,er,S3,rfl,iY,C,d,1,_,_,AH.bp _ _ _,Z6,Io,.inl ?_⟩
  rw[Array.getElem?_setIfInBounds_ne (by decide)];exact h1
 |_=>exact w1 er ns
end
noncomputable def PN(r:Bool)(e:Expr)(p:Pos):Stmt:=if r then .Raise (some e) none p else .Return (some e) p
section
theorem SQ.around{A':Around}{X:XR}{f:Flow}(h:SQ c A X a9 ae aa L f s')(e:A'.frames=A.frames):SQ c A' X a9 ae aa L f s':=by
 refine fc h λfl aI ai aj e1 T hf=>?_
 exact lL fl aI ai aj e1 (T.around e) hf
theorem d7.around{A':Around}{X:XR}{f:Value}(h:d7 c A X a9 ae aa L f s')(e:A'.frames=A.frames):d7 c A' X a9 ae aa L f s':=by
 refine fc h λfl aI ai aj e1 T hf=>?_
 exact lL fl aI ai aj e1 (T.around e) hf
theorem zk9{e:Expr}{D:RD}{p:Pos}{r:Bool}{l:Nat}{el:Addr}(X:K.In c.base)(N:∀C,c.bA C->d_ K C)(hh:A.handled=some (.ref el))(h:SE prog c A env L e D)(S:ax c A a9 ae aa L μ σ ρ s)(hl:l < σ.n)(Iq:μ l=el)(ns:Cb r D l ρ σ≠.stuck):
  wpAny (model prog c.w) A (execs [PN r e p] env) (SQ c A (Cb r D l ρ σ) a9 ae aa L) (d7 c A (Cb r D l ρ σ) a9 ae aa L) s:=by
 refine wpAny_execs_cons ?_
 induction r with
 |true=>
  refine wj (zjw (D:=D) X N hh h S hl Iq ns) (λf s' q=>?_) λ_ _ q=>q
  refine fc q λfl aI ai aj e1 T hf=>?_
  induction fl with
  |ret y=>refine au hf ?_;clear hf;rintro v rfl hv;exact⟨_,aI,ai,aj,e1,T,v,rfl,hv⟩
  |next=>cases hf;exact wpAny_execs_nil ⟨_,aI,ai,aj,e1,T,rfl⟩
  |cont=>cases hf;exact lL _ aI ai aj e1 T rfl
 |false=>
  refine wj (ub h a9 ae aa μ σ s ρ S ns) (λf s' q=>?_) λ_ _ q=>q
  refine fc q λfl aI ai aj e1 T hf=>?_
  induction fl with
  |ret y=>refine au hf ?_;clear hf;rintro v rfl hv;exact⟨_,aI,ai,aj,e1,T,v,rfl,hv⟩
  |next=>cases hf;exact wpAny_execs_nil ⟨_,aI,ai,aj,e1,T,rfl⟩
  |cont=>cases hf;exact lL _ aI ai aj e1 T rfl
theorem zie{te:Expr}{p fN:Pos}{C:Addr}{x:Nat}{r:Bool}{e:Expr}{D:RD}{l:Nat}{fa:Addr}{XX:XR}(X:K.In c.base)(N:∀C,c.bA C->d_ K C)(EO:bz env L)(hx:env.kindOf (nm x)=some .local)(D_:L.all.lookup (nm x)=none)(hf:env.frame=some fa)(cJ:A.frames=some (env::outer))(nB:GN prog c env L te (.ref C))(he:∀hv,SE prog c (A.mark (some hv)) env L e D)(S:ax c A a9 ae aa L μ σ ρ s)(F:bS c aa.heap μ σ s.heap l (.ref (μ l)))(eX:XX=Qn (mV (.con (.ref C))) x r D l ρ σ)(ns:XX≠.stuck):
  wpAny (model prog c.w) A (handleBy (.ref (μ l)) env [.ExceptHandler (some te) (some (nm x)) [PN r e p] fN]) (SQ c A XX a9 ae aa L) (d7 c A XX a9 ae aa L) s:=by
 refine cps λ_ κ=>?_;refine oA (id F) λ_ q9=>?_;refine oA q9 λhl q9=>?_;refine eC q9 λC' d k o q9=>?_;refine jR q9 λvs ha ho hd hT=>?_
 refine κ ?_;clear κ;refine HR.iw S.hr hl ha λo2 _ lV dw _ hc _ _ _ _ _=>?_
 rw[Option.some.inj (lV.symm.trans ho)] at hc
 have e9:XX=ak (Nat.beq C C') (G_ x (Cb r D l (zd ρ x (.obj l)) σ)) .stuck:=by
  rw[eX]
  show Qt σ l _ _=_
  unfold Qt
  rw[ha];rfl
 refine KS e9 ns λe0 e1=>?_
 obtain rfl:C=C':=w4 e0
 have n1:Cb r D l (zd ρ x (.obj l)) σ≠.stuck:=λz=>ns (by rw[e1,z];rfl)
 refine wpAny_handleBy_cons (codeAny_handlers_test ?_) (by intro q;contradiction)
 have S':ax c (A.mark (some (.ref (μ l)))) a9 ae aa L μ σ ρ s:=S.around rfl
 refine S'.fr.elim λm Fm=>nB _ μ σ s m ρ S'.hr Fm _ _ ?_
 have X':=X.keeps S.hr.keep
 refine(exm_one X' (Pb (M:=model prog c.w) X' (N C dw) ho hc hd).1 (N C dw).self).here ?_
 show codeAny _ _ _ _ _
 refine codeAny_handlers_suite_as ?_
 refine jc S' F λs2 S2 F2=>?_
 refine xz EO (.inl ⟨hx,D_⟩) S2 (.obj hl) λs3 S3 _=>?_
 refine wj (zk9 X N rfl (he _) S3 hl rfl n1) (λf s4 q=>?_) (λev s4 q=>?_)
 ·refine(q.around (A':=A) rfl).k λfl mI dq gc e4 S4 sV=>?_
  rw[e4] at e1
  show wpAny _ _ (do bindName env (nm x) .none;unbindBehindTheSuite env (nm x) fN) _ _ s4
  refine Wa EO hx D_ S4.again λs5 S5 _=>⟨fl,lJ mI x,dq,gc,e1,S4.back S5,?_⟩
  induction fl with
  |next=>exact sV
  |cont=>exact sV
  |ret y=>refine au sV ?_;clear sV;rintro v rfl hv;exact aT v rfl (S4.val S5 hv)
 ·refine q.k λl4 mI dq gc e4 S4 F4=>?_
  rw[e4] at e1
  refine Hl hf cJ S4 F4 λs5 S5 F5=>?_
  refine Wa EO hx D_ S5 λs6 S6 sb=>?_
  have F6:=F5.same S5 sb
  refine cps λ_ κ=>?_;refine oA (id F6) ?_;rintro rfl q9;refine oA q9 λhl6 q9=>?_;refine eC q9 λC6 d6 k6 o6 q9=>?_;refine jR q9 λJl ha6 Zo Z2 q9=>?_;refine ou q9 λT6 oT6 ts6 YL hT6 hr6=>?_
  refine κ ?_;clear κ
  unfold PySem.passOn
  refine wg (wpAny_field Zo Z2 YL ?_)
  rw[if_neg (show ¬(Value.ref T6==Value.none)=true from by simp)]
  refine wg (jc S6 F6 λs7 S7 F7=>wpAny_throw ?_)
  unfold notedBy
  refine Hl hf cJ S7 F7.Ii λs8 S8 F8=>?_
  have Yi:ax c A a9 ae aa L gc dq (lJ mI x) s8:=S8.around rfl
  exact VA Yi F8 λs9 S9 F9=>⟨l4,lJ mI x,dq,gc,e1,S9,F9.Ii⟩
theorem uc{bs:List Stmt}{te:Expr}{p fN:Pos}{C:Addr}{x:Nat}{r:Bool}{e:Expr}{D:RD}{B:XD}{fa:Addr}(X:K.In c.base)(N:∀C,c.bA C->d_ K C)(EO:bz env L)(hx:env.kindOf (nm x)=some .local)(D_:L.all.lookup (nm x)=none)(hf:env.frame=some fa)(cJ:A.frames=some (env::outer))(nB:GN prog c env L te (.ref C))(he:∀hv,SE prog c (A.mark (some hv)) env L e D)(hb:ib prog c A env L bs B):
  SS prog c A env L (.Try bs [.ExceptHandler (some te) (some (nm x)) [PN r e p] fN] [] [] pos) (o9 B (mV (.con (.ref C))) x r D):=λa9 ae aa μ σ s ρ S ns=>by
 have n1:B ρ σ≠.stuck:=λz=>ns (by show(XR.rec _ _ _ (B ρ σ):XR)=_;rw[z])
 rw[arm_exec_Try]
 refine wg (wk (wpAny_tryStmt_except ?_))
 refine wj (hb a9 ae aa μ σ s ρ S n1) (λf s1 q=>?_) (λev s1 q=>?_)
 ·refine fc q λfl bo aE cq e1 S1 DI=>?_
  have e2:o9 B (mV (.con (.ref C))) x r D ρ σ = .ok fl bo aE:=by show(XR.rec _ _ _ (B ρ σ):XR)=_;rw[e1]
  have fin:SQ c A (o9 B (mV (.con (.ref C))) x r D ρ σ) a9 ae aa L f s1:=⟨fl,bo,aE,cq,e2,S1,DI⟩
  induction fl with
  |next=>cases DI;exact wpAny_execs_nil fin
  |cont=>cases DI;exact fin
  |ret y=>refine au DI ?_;clear DI;rintro v rfl hv;exact fin
 ·refine fc q λl bo aE cq e1 S1 F1=>?_
  have e2:o9 B (mV (.con (.ref C))) x r D ρ σ = Qn (mV (.con (.ref C))) x r D l bo aE:=by show(XR.rec _ _ _ (B ρ σ):XR)=_;rw[e1]
  obtain rfl:ev = .ref (cq l):=F1.1
  exact Hl hf cJ S1 F1 λs2 S2 F2=>jc S2 F2 λs3 S3 F3=>zie X N EO hx D_ hf cJ nB he S3 F3 e2 ns
end
theorem zj2(n:Nat)(ds args:List AV):xb n [] ds args=zf args (some []) λ_ _=>none:=rfl
theorem zge(n p:Nat)(ps:List Nat)(ds args:List AV):xb n (p::ps) ds args=zf args (ak (Nat.ble (Nat.succ n) (len ds)) (opt (dF ds (len ds - Nat.succ n)) none λd=>opt (xb (n - 1) ps ds []) none λr=>some ((p,d)::r)) none) λa t=>opt (xb (n - 1) ps ds t) none λr=>some ((p,a)::r):=rfl
theorem zjj(ps:List Nat)(ds:List AV):∀(args:List AV) (ρ:az),xb (len ps - 1) ps ds args=some ρ->args.length<=ps.length/\ps.length<=ds.length+args.length/\ρ = ps.zip (args++ds.drop (ds.length+args.length - ps.length)):=by
 induction ps with
 |nil=>
  intro args ρ h
  rw[zj2] at h
  induction args using lC with
  |nil=>obtain rfl:=w3 h;exact dp (wa _) (w9 _) (by simp)
  |cons _ _=>exact NS h
 |cons p ps ih=>
  intro args ρ h
  have e1:len (p::ps) - 1=len ps:=rfl
  rw[e1,zge] at h
  induction args using lC with
  |nil=>
   change ak (Nat.ble (Nat.succ (len ps)) (len ds)) (opt (dF ds (len ds - Nat.succ (len ps))) none λd=>opt (xb (len ps - 1) ps ds []) none λr=>some ((p,d)::r)) none=some ρ at h
   induction q:Nat.ble (Nat.succ (len ps)) (len ds) with
   |false=>rw[q] at h;exact NS h
   |true=>
    rw[q] at h
    change opt (dF ds (len ds - Nat.succ (len ps))) none (λd=>opt (xb (len ps - 1) ps ds []) none λr=>some ((p,d)::r))=some ρ at h
    have hle:ps.length+1<=ds.length:=by have:=w5 q;rwa [zb,zb] at this
    rw[jm,zb,zb] at h
    have iZ:ds.length - (ps.length+1)<ds.length:=by lia
    rw[show ds.length - Nat.succ ps.length=ds.length - (ps.length+1) from rfl,List.getElem?_eq_getElem iZ] at h
    change opt (xb (ps.length - 1) ps ds []) none (λr=>some ((p,ds[ds.length - (ps.length+1)])::r))=some ρ at h
    generalize qA:ds[ds.length - (ps.length+1)]=d0 at h
    rw[<-zb] at h
    induction e:xb (len ps - 1) ps ds [] with
    |none=>rw[e] at h;exact NS h
    |some r=>
     rw[e] at h
     refine c6 (ih [] r e) λh1 h2 h3=>?_
     refine dp (w9 _) (by simp;exact hle) ?_
     obtain rfl:=w3 h
     rw[h3]
     simp only[List.length_nil,Nat.add_zero,List.nil_append,List.length_cons]
     rw[List.drop_eq_getElem_cons iZ,List.zip_cons_cons,qA,show ds.length - (ps.length+1)+1=ds.length - ps.length by lia]
  |cons a t=>
   change opt (xb (len ps - 1) ps ds t) none (λr=>some ((p,a)::r))=some ρ at h
   induction e:xb (len ps - 1) ps ds t with
   |none=>rw[e] at h;exact NS h
   |some r=>
    rw[e] at h
    refine c6 (ih t r e) λh1 h2 h3=>?_
    obtain rfl:=w3 h
    refine dp (by simp;exact h1) (by simp;exact Nat.lt_succ_of_le h2) ?_
    rw[h3,List.cons_append,List.zip_cons_cons]
    simp only[List.length_cons]
    rw[show ds.length+(t.length+1) - (ps.length+1)=ds.length+t.length - ps.length by lia]
theorem aH.app{l l':List AV}{mv:List Value}(r:aH c μ n h l vs)(r':aH c μ n h l' mv):aH c μ n h (l++l') (vs++mv):=by
 induction l generalizing vs with
 |nil=>cases r;exact r'
 |cons a l ih=>cases r with | cons x xs=>exact .cons x (ih xs)
theorem aH.drop{l:List AV}(r:aH c μ n h l vs)(k:Nat):aH c μ n h (l.drop k) (vs.drop k):=by
 induction k generalizing l vs with
 |zero=>exact r
 |succ k ih=>induction r using aH.casesOn with
  |nil=>exact .nil
  |cons x xs=>exact ih xs
theorem W3{c:Cx}{μ:Nat->Addr}{n:Nat}{h:Heap}:∀(ps:List Nat) {ys:List AV}{ws:List Value},aH c μ n h ys ws->∀x y,aC (ps.zip ys) x=some y->∃v,((ps.map nm).zip ws).lookup (nm x)=some v/\VR c μ n h y v
 |[],_,_,_,x,y,e=>by simp at e;exact NS e
 |p::ps,_,_,.nil,x,y,e=>by simp at e;exact NS e
 |p::ps,_,_,.cons (v:=v) r rs,x,y,e=>by
  rw[List.zip_cons_cons,pj] at e
  rw[List.map_cons,List.zip_cons_cons,List.lookup_cons]
  by_cases q:p=x
  ·subst q
   rw[if_pos rfl] at e
   obtain rfl:=w3 e
   exact aT v (by rw[show(nm p==nm p)=true from by simp]) r
  ·rw[if_neg q] at e
   have:(nm x==nm p)=false:=by
    induction h:nm x==nm p with
    |false=>rfl
    |true=>exact w1 (Cg (eq_of_beq h)).symm q
   rw[this]
   exact W3 ps rs x y e
theorem Vz{kd:Str->Option NameKind}{n:Str}:∀{l:List (Str×Value)}{m:Str->Option Value},n∉l.map (·.1)->bindL kd l m n=m n
 |[],_,_=>rfl
 |(k,v)::l,m,h=>by
  unfold bindL
  rw[Vz λq=>h (.tail _ q)]
  split
  ·exact if_neg λz:n=k=>h (by rw[z];exact .head _)
  ·rfl
theorem Vy{kd:Str->Option NameKind}{n:Str}:∀{l:List (Str×Value)}{m:Str->Option Value},n∉l.map (·.1)->bindC kd l m n=m n
 |[],_,_=>rfl
 |(k,v)::l,m,h=>by
  unfold bindC
  rw[Vy λq=>h (.tail _ q)]
  split
  ·rfl
  ·exact if_neg λz:n=k=>h (by rw[z];exact .head _)
theorem WM{kd:Str->Option NameKind}{n:Str}{v:Value}(hk:kd n=some .local):∀{l:List (Str×Value)}{m:Str->Option Value},(l.map (·.1)).Nodup->l.lookup n=some v->bindL kd l m n=some v
 |[],_,_,h=>by exact NS h
 |(k,w)::l,m,nd,h=>by
  rw[List.map_cons,List.nodup_cons] at nd
  rw[List.lookup_cons] at h
  unfold bindL
  induction q:n==k with
  |true=>
   rw[q] at h;obtain rfl:=w3 h
   obtain rfl:=eq_of_beq q
   rw[Vz nd.1,if_pos hk]
   exact if_pos rfl
  |false=>
   rw[q] at h
   exact WM hk nd.2 h
theorem Wk{kd:Str->Option NameKind}{n:Str}{v:Value}(hk:kd n≠some .local):∀{l:List (Str×Value)}{m:Str->Option Value},(l.map (·.1)).Nodup->l.lookup n=some v->bindC kd l m n=some v
 |[],_,_,h=>by exact NS h
 |(k,w)::l,m,nd,h=>by
  rw[List.map_cons,List.nodup_cons] at nd
  rw[List.lookup_cons] at h
  unfold bindC
  induction q:n==k with
  |true=>
   rw[q] at h;obtain rfl:=w3 h
   obtain rfl:=eq_of_beq q
   rw[Vy nd.1,if_neg hk]
   exact if_pos rfl
  |false=>
   rw[q] at h
   exact Wk hk nd.2 h
noncomputable def bD(scope:Scope):List Str:=(cellsFrom 0 scope.names []).map (·.1)
theorem kz(scope:Scope)(n:Nat):(cellsFrom n scope.names []).map (·.1)=bD scope:=cellsFrom_names scope.names n 0 [] [] rfl
theorem zgw{l:List (Str×Addr)}{p:Str×Addr}(nd:(l.map (·.1)).Nodup)(h:p∈l):l.lookup p.1=some p.2:=by
 induction l with
 |nil=>cases h
 |cons q l ih=>
  obtain⟨k,b⟩:=q
  rw[List.map_cons,List.nodup_cons] at nd
  rw[List.lookup_cons]
  rcases w8.mp h with rfl | h
  ·rw[show(k==k)=true from by simp]
  ·have:(p.1==k)=false:=by
    induction e:p.1==k with
    |false=>rfl
    |true=>exact w1 (eq_of_beq e▸List.mem_map_of_mem (f:=(·.1)) h) nd.1
   rw[this];exact ih nd.2 h
theorem OQ{l:List (Str×Addr)}{n:Str}(h:n∉l.map (·.1)):l.lookup n=none:=by
 induction e:l.lookup n with
 |none=>rfl
 |some a=>exact w1 (List.mem_map_of_mem (f:=(·.1)) (y6 e)) h
theorem OP{l:List (Str×Addr)}{n:Str}(h:n∈l.map (·.1)):∃a,l.lookup n=some a:=by
 induction l with
 |nil=>cases h
 |cons q l ih=>
  obtain⟨k,b⟩:=q
  rw[List.lookup_cons]
  induction e:n==k with
  |true=>exact⟨b,rfl⟩
  |false=>
   rcases w8.mp h with r | r
   ·have:n=k:=r
    rw[this] at e;simp at e
   ·exact ih r
noncomputable def dB(X:XD)(f:Fn)(args:List AV)(σ:AH):Res AV:=opt (xb (len f.ps - 1) f.ps f.ds args) .stuck λρ=>jM (X ρ σ)
structure FnAt (c:Cx) (K:Frag) (a:Addr) (f:Fn) (qual:Str) (body:List Stmt) (scope:Scope) (c5:Value):Prop where
 obj:∃oc od nM name params dV kV doc pm an ct,K.lookup a=some ⟨oc,od,.func (fnX name qual params body scope [] dV kV doc pm an c5 ct),nM⟩/\gj params (f.ps.map nm)/\
  ((∃T oT n arr,dV = .ref T/\K.lookup T=some oT/\oT.data = .seq arr n/\∀μ n h,K.In h->aH c μ n h f.ds arr.toList)\/(dV = .none/\f.ds=[]))
 code:codeIn K c5 qual=true
 few:f.ds.length<=f.ps.length
 locs:∀p∈f.ps,(scope.names.lookup (nm p)=some .local/\nm p∉bD scope)\/(scope.names.lookup (nm p)=some .cell/\nm p∈bD scope)
 ak:(bD scope).Nodup
 co:scope.isCoroutine=false
 gen:scope.isGenerator=false
 kind:scope.kind = .function
noncomputable def lG(scope:Scope)(L:Addr):Fm:=⟨L,cellsFrom (L+1) scope.names [],[]⟩
section
variable{G:Gl}{C CQ:Call}
theorem WO{good:Cx->XR->Prop}{a:Addr}{f:Fn}{qual:Str}{body:List Stmt}{c5:Value}(X:K.In c.base)(eG:c.base.NoLimit)(dK:∃o,c.base.get? (c.base.objs.size - 1)=some o)(hA:A.depth<recursionLimit)(F:FnAt c K a f qual body scope c5)(H:HR c μ σ s.heap)(sk:cX c A μ σ.n s.heap)(r:aH c μ σ.n s.heap args vs)(eb:xb (len f.ps - 1) f.ps f.ds args=some ρ)(hb:∀L s1,ax c (A.deeper (envX qual scope L a c5 (cellsFrom (L+1) scope.names []))) μ σ.n s (lG scope L) μ σ ρ s1->
   wpAny (model prog c.w) (A.deeper (envX qual scope L a c5 (cellsFrom (L+1) scope.names []))) (execs body (envX qual scope L a c5 (cellsFrom (L+1) scope.names [])))
    (λfl s'=>∃c' X,good c' X/\SQ c' (A.deeper (envX qual scope L a c5 (cellsFrom (L+1) scope.names []))) X μ σ.n s (lG scope L) fl s')
    (λe s'=>∃X,good c X/\d7 c (A.deeper (envX qual scope L a c5 (cellsFrom (L+1) scope.names []))) X μ σ.n s (lG scope L) e s') s1):
  codeAny (model prog c.w) A (.call (.ref a) ⟨vs,[]⟩) (λx s'=>∃c' X,good c' X/\RR c' (jM X) μ σ s x s') s:=by
 refine cps λ_ κ=>?_;obtain⟨⟨oc,od,nM,name,params,dV,kV,doc,pm,an,ct,ho,PP,qB⟩,DA,Ln,DL,Lk,Z1,Lo,hk⟩:=F
 have Xs:=X.keeps H.keep
 ·refine c6 (zjj f.ps f.ds args ρ eb) λb1 b2 b3=>?_
  have hl:=r.len
  obtain⟨dl,Z4,V7⟩:∃dl:List Value,((∃k,dV = .ref k/\∃o n,s.heap.get? k=some o/\o.data = .seq dl.toArray n)\/(dV = .none/\dl=[]))/\aH c μ σ.n s.heap f.ds dl:=by
   rcases qB with⟨T,oT,n,arr,e1,e2,e3,e4⟩ | ⟨e1,e2⟩
   ·exact aT arr.toList (.inl ⟨T,e1,oT,n,Xs _ _ e2,by rw[e3]⟩) (e4 _ _ _ Xs)
   ·exact aT ([]) (.inr ⟨e1,rfl⟩) (by rw[e2];exact .nil)
  refine κ ?_;clear κ
  have Lm:=V7.len
  have Lx:(f.ps.map nm).length=f.ps.length:=List.length_map _
  have nA:=zg4 (fd:=fnX name qual params body scope [] dV kV doc pm an c5 ct) (ns:=f.ps.map nm) (vs:=vs) (dl:=dl) (s:=s) PP Z4 (uX hl (uW Lx b1)) (uX Lm (uW Lx Ln)) (by omega)
  rw[Lx] at nA
  have Za:vs.length - (f.ps.length - dl.length)=f.ds.length+args.length - f.ps.length:=by omega
  rw[Za] at nA
  have Gj:aH c μ σ.n s.heap (args++f.ds.drop (f.ds.length+args.length - f.ps.length)) (vs++dl.drop (f.ds.length+args.length - f.ps.length)):=r.app (V7.drop _)
  have hlen:(f.ps.map nm).length<=(vs++dl.drop (f.ds.length+args.length - f.ps.length)).length:=by simp;omega
  have gS:((f.ps.map nm).zip (vs++dl.drop (f.ds.length+args.length - f.ps.length))).map (·.1)=f.ps.map nm:=List.map_fst_zip hlen
  have DQ:(((f.ps.map nm).zip (vs++dl.drop (f.ds.length+args.length - f.ps.length))).map (·.1)).Nodup:=by rw[gS];exact PP.nd
  generalize Y':(f.ps.map nm).zip (vs++dl.drop (f.ds.length+args.length - f.ps.length))=binds at *
  refine codeAny_call_function hA (Xs _ _ ho) rfl Z1 Lo rfl (codeRec_of Xs DA) (nA _ _ _ _ ?_)
  refine wpAny_newFunctionEnv_cells hk (λx hx=>?_) λYy he s1 x=>?_
  ·have:x.1∈f.ps.map nm:=gS▸List.mem_map_of_mem (f:=(·.1)) hx
   refine au (List.mem_map.mp this) λp hp e=>?_
   rw[<-e]
   rcases DL p hp with⟨h1,_⟩ | ⟨h1,h2⟩
   ·exact .inl h1
   ·refine .inr ⟨h1,?_⟩
    refine oE (OP (l:=cellsFrom (s.heap.objs.size+1) scope.names []) (by rw[kz];exact h2)) λa ha=>?_
    rw[ha];rfl
  ·subst he
   have iX:=x.toInCall.keep
   have Ry:=x.toInCall.ns
   have La:b9 s s1:=by refine bw x.done λbx tk La _=>?_;rw[La];exact dp rfl rfl rfl
   refine⟨(eG.keeps H.keep).keeps iX,codeAny_func ?_⟩
   have G1:=H.dJ iX
   refine dR sk λfs e1 e2 e3=>?_
   have hL:s.heap.get? s.heap.objs.size=none:=Heap.get?_none_of_le (wa _)
   refine ou (id Ry) λoL es ep Rz Ro rL=>?_
   have R7:∀p∈cellsFrom (s.heap.objs.size+1) scope.names [],s.heap.objs.size<p.2:=λp hp=>x.above p.1 p.2 hp
   have R9:∀p∈cellsFrom (s.heap.objs.size+1) scope.names [],s.heap.get? p.2=none:=λp hp=>Heap.get?_none_of_le (Nat.le_of_lt (R7 p hp))
   have Ze:∀n,(newEnv scope s.heap.objs.size mainGlobals (cellsFrom (s.heap.objs.size+1) scope.names []) (qual++".<locals>.") (some a) c5 none builtinsNs).kindOf n=scope.names.lookup n:=λ_=>rfl
   have St:ax c (A.deeper (envX qual scope s.heap.objs.size a c5 (cellsFrom (s.heap.objs.size+1) scope.names []))) μ σ.n s (lG scope s.heap.objs.size) μ σ ρ s1:=by
    refine⟨G1.1,G1.2,La,⟨_,Ry,?_,λi hi z=>wn (H.lt hi) z,λy=>?_,⟨_,Around.frames_deeper e1,?_,?_⟩,λp hp=>⟨?_,λi hi z=>?_,?_⟩,?_⟩,?_⟩
    ·refine oE dK λo ht=>?_
     exact Nat.le_of_pred_lt (Heap.lt_size (H.keep _ _ ht))
    ·induction eg:aC ρ y with
     |none=>trivial
     |some z=>
      rw[b3] at eg
      refine au (W3 f.ps Gj y z eg) λv hv rv=>?_
      rw[Y'] at hv
      refine aT v ?_ (rv.ext H G1.2)
      have Lu:nm y∈f.ps.map nm:=by
       rw[<-gS]
       have mem:∀{l:List (Str×Value)},l.lookup (nm y)=some v->nm y∈l.map (·.1):=λ{l} h=>by
        induction e:decide (nm y∈l.map (·.1)) with
        |true=>exact wl e
        |false=>rw[Vx (of_decide_eq_false e)] at h;exact NS h
       exact mem hv
      refine au (List.mem_map.mp Lu) λp hp e=>?_
      unfold look
      rcases DL p hp with⟨h1,h2⟩ | ⟨h1,h2⟩
      ·rw[show(lG scope s.heap.objs.size).all.lookup (nm y)=none from OQ (by rw[<-e];show nm p∉(cellsFrom _ scope.names []).map (·.1);rw[kz];exact h2)]
       exact WM (by rw[<-e];exact h1) DQ hv
      ·refine oE (OP (l:=cellsFrom (s.heap.objs.size+1) scope.names []) (n:=nm y) (by rw[kz,<-e];exact h2)) λca wK=>?_
       rw[show(lG scope s.heap.objs.size).all.lookup (nm y)=some ca from wK]
       refine(IsCell.val (x.cell _ _ wK)).trans (Wk ?_ DQ hv)
       rw[<-e];exact λz=>by rw[Ze,h1] at z;cases z
    ·refine dp (by show scope.kind≠_;rw[hk];decide) ⟨s.heap.objs.size,oL,rfl,H.cP,Rz,λws z=>by rw[Ro] at z;contradiction⟩ (e2.of_keeps λb o e _=>⟨o,iX b o e,rfl⟩)
    ·intro e he l hl
     rcases w8.mp he with rfl | he
     ·obtain rfl:s.heap.objs.size=l:=w3 hl
      exact⟨λi hi z=>wn (H.lt hi) z,oL,Rz,es,ep,Ro⟩
     ·obtain⟨q1,o,q2,q3⟩:=e3 e he l hl
      exact⟨q1,o,iX _ _ q2,q3⟩
    ·induction q:c.base.get? p.2 with
     |none=>rfl
     |some o=>have:=H.keep _ _ q;rw[R9 p hp] at this;exact NS this
    ·exact Nat.lt_irrefl _ (Nat.lt_trans (R7 p hp) (z▸H.lt hi))
    ·exact⟨_,x.cell _ _ (zgw (by show((cellsFrom _ scope.names []).map (·.1)).Nodup;rw[kz];exact Lk) hp)⟩
    ·exact List.pairwise_map.mpr x.apart
    ·rintro b (rfl | ⟨p,hp,rfl⟩)
     ·exact hL
     ·exact R9 p hp
   refine wj (hb s.heap.objs.size s1 St) (λfl s' q=>?_) (λev s' q=>?_)
   ·refine q.elim λc' q=>q.elim λX q=>q.2.k λLc aI ai aj e4 S' hf=>?_
    induction Lc using Fl.casesOn with
    |ret y=>exact hf.elim λv w=>by rw[w.1];exact⟨c',X,q.1,y,ai,aj,by rw[e4];rfl,S'.hr,S'.ex,w.2,S'.sm⟩
    |next=>rw[show fl = .next from hf];exact⟨c',X,q.1,.none,ai,aj,by rw[e4];rfl,S'.hr,S'.ex,.none,S'.sm⟩
    |cont=>rw[show fl = .cont from hf];exact⟨c',X,q.1,.none,ai,aj,by rw[e4];rfl,S'.hr,S'.ex,.none,S'.sm⟩
   ·refine q.elim λX q=>q.2.k λl aI ai aj e4 S' F'=>?_
    exact zh2 rfl (Around.frames_deeper e1) S' F' λs2 S2 F2=>⟨c,X,q.1,l,ai,aj,by rw[e4];rfl,S2.hr,S2.ex,F2.Ii,S2.sm⟩
theorem PC{gk:XD}{a:Addr}{f:Fn}{qual:Str}{body:List Stmt}{c5:Value}(X:K.In c.base)(eG:c.base.NoLimit)(dK:∃o,c.base.get? (c.base.objs.size - 1)=some o)(hA:A.depth<recursionLimit)(F:FnAt c K a f qual body scope c5)(hb:∀L,ib prog c (A.deeper (envX qual scope L a c5 (cellsFrom (L+1) scope.names []))) (envX qual scope L a c5 (cellsFrom (L+1) scope.names [])) (lG scope L) body gk)(H:HR c μ σ s.heap)(sk:cX c A μ σ.n s.heap)(r:aH c μ σ.n s.heap args vs)(ns:dB gk f args σ≠.stuck):
  codeAny (model prog c.w) A (.call (.ref a) ⟨vs,[]⟩) (RR c (dB gk f args σ) μ σ s) s:=by
 have eR:dB gk f args σ = opt (xb (len f.ps - 1) f.ps f.ds args) .stuck λρ=>jM (gk ρ σ):=rfl
 induction eb:xb (len f.ps - 1) f.ps f.ds args with
 |none=>rw[eR,eb] at ns;exact w1 rfl ns
 |some ρ=>
  rw[eb] at eR
  replace eR:dB gk f args σ = jM (gk ρ σ):=eR
  have n1:gk ρ σ≠.stuck:=λz=>ns (by rw[eR,z];rfl)
  refine wo (WO (good:=λc' X=>c'=c/\X=gk ρ σ) X eG dK hA F H sk r eb λL s1 St=>wj (hb L μ σ.n s μ σ s1 ρ St n1) (λfl s' q=>⟨c,_,⟨rfl,rfl⟩,q⟩) λe s' q=>⟨_,⟨rfl,rfl⟩,q⟩) λx s' q=>?_
  refine bw q ?_;clear q;rintro c' X' ⟨rfl,rfl⟩ q
  rw[eR]
  exact q
theorem zlt{a:Addr}{f:Fn}{qual:Str}{body:List Stmt}{c5:Value}(X:K.In c.base)(eG:c.base.NoLimit)(dK:∃o,c.base.get? (c.base.objs.size - 1)=some o)(hA:A.depth<recursionLimit)(F:FnAt c K a f qual body scope c5)(hb:∀L,ib prog c (A.deeper (envX qual scope L a c5 (cellsFrom (L+1) scope.names []))) (envX qual scope L a c5 (cellsFrom (L+1) scope.names [])) (lG scope L) body (ex G C CQ f.body))(H:HR c μ σ s.heap)(sk:cX c A μ σ.n s.heap)(r:aH c μ σ.n s.heap args vs)(ns:runF G C CQ f args σ≠.stuck):
  codeAny (model prog c.w) A (.call (.ref a) ⟨vs,[]⟩) (RR c (runF G C CQ f args σ) μ σ s) s:=PC X eG dK hA F hb H sk r ns
end
section
theorem ax.weak(S:ax c A a9 ae aa L μ σ ρ s)(h:∀z y,aC aI z=some y->aC ρ z=some y):ax c A a9 ae aa L μ σ aI s:=
 ⟨S.hr,S.ex,S.sm,S.fr.elim λm F=>⟨m,F.ns,F.above,F.own,λx=>by
  have:=F.vals x
  induction e:aC aI x with
  |none=>trivial
  |some y=>rw[h x y e] at this;exact this,F.fG,F.dj,F.lU⟩,S.out⟩
theorem ax.other(S:ax c A a9 ae aa L μ σ ρ s){b:Addr}(own:∀i,i < σ.n->μ i≠b)(base:c.base.get? b=none)(ne:¬L.iM b)(nc:∀p∈L.all,p.2≠b)(ho:aa.heap.get? b=none)(nf:∀o,s.heap.get? b=some o->¬Fix o)(Mf:∀fs,A.frames=some fs->∀e∈fs,e.frame≠some b)(k:∀b' o,b'≠b->s.heap.get? b'=some o->s'.heap.get? b'=some o)(sm:b9 s s'):ax c A a9 ae aa L μ σ ρ s':=by
 have tk:y1 s.heap s'.heap:=λb' o e f=>k b' o (λz=>nf o (z▸e) f) e
 refine⟨⟨λb' o e=>k b' o (λz=>by rw[z,base] at e;exact NS e) (S.hr.keep b' o e),λi hi=>?_,S.hr.inj,S.hr.new⟩,⟨S.ex.le,S.ex.eq,S.ex.fresh,λb' o e ne=>?_,λi hi e=>?_⟩,S.sm.trans sm,?_,S.out⟩
 ·refine au (S.hr.obj i hi) λo e r=>?_
  exact aT o (k _ o (own i hi) e) (r.mono (wa _) (λ_ _=>rfl) tk)
 ·refine au (S.ex.kp b' o e ne) λsl e1 q1=>?_
  exact aT sl (k b' _ (λz=>by rw[z,ho] at e;exact NS e) e1) q1
 ·refine oE (wq.mp (S.ex.own i hi e)) λo e1=>?_
  rw[k _ o (λz=>by rw[z,ho] at e;exact FT e) e1];rfl
 ·refine oE S.fr λm F=>?_
  refine dR F.fG λfs e1 e2 e3=>?_
  have DR:=Mf fs e1
  refine⟨m,F.step (wa _) (λ_ _=>rfl) tk (by refine dY F.ns λo _ _ ho _=>?_;exact⟨o.slots,λo2 e=>by rw[ho] at e;obtain rfl:=w3 e;exact k _ _ (λz=>ne (z▸.inl rfl)) ho⟩) (λp hp=>?_) (λi a b=>w1 b (Nat.not_lt.mpr a)) ⟨fs,e1,?_,λe he l hl=>⟨(e3 e he l hl).1,?_⟩⟩⟩
  ·refine c6 (F.dj p hp) λ_ _ q9=>?_;refine bw q9 λv o ho hd=>?_
   exact(k _ o (nc p hp) ho).trans ho.symm
  ·clear e1 e3
   induction fs with
   |nil=>trivial
   |cons env rest ih=>
    refine c6 e2 ?_;clear e2;rintro hk ⟨L',ob,hf,hn,ho,hd⟩ hr
    exact dp hk ⟨L',ob,hf,hn,k _ _ (λz=>DR env (.head _) (z▸hf)) ho,hd⟩ (ih hr λe he=>DR e (.tail _ he))
  ·refine au (e3 e he l hl).2 λo e4 e5=>?_
   exact aT o (k l o (λz=>DR e he (z▸hl)) e4) e5
noncomputable def aF(names:List (Str×NameKind))(cells acc:List (Str×Addr)):List (Str×Addr):=names.foldl (λcs p=>if (p.2==.free)=true then (p.1,(cells.lookup p.1).getD 0)::cs else cs) acc
theorem zbm(h:∀p∈scope.names,p.2 = .free->∃a,env.cells.lookup p.1=some a):closureFor scope env=pure (aF scope.names env.cells []):=by
 unfold closureFor
 have key:∀(l:List (Str×NameKind)) (acc:List (Str×Addr)),(∀p∈l,p.2 = .free->∃a,env.cells.lookup p.1=some a)->
   (forIn l acc λ(x:Str×NameKind) cs=>if (x.2==NameKind.free)=true then do let a<-cellOf env x.1;pure (ForInStep.yield ((x.1,a)::cs)) else pure (ForInStep.yield cs))=(pure (aF l env.cells acc):Sem (List (Str×Addr))):=by
  intro l
  induction l with
  |nil=>intro acc _;rfl
  |cons p l ih=>
   intro acc hh
   rw[List.forIn_cons]
   unfold aF
   rw[List.foldl_cons]
   by_cases q:(p.2==NameKind.free)=true
   ·rw[if_pos q,if_pos q]
    refine oE (hh p (.head _) (by simpa using q)) λa ha=>?_
    have hc:cellOf env p.1=pure a:=by unfold cellOf;rw[ha]
    rw[hc,ha]
    exact ih _ λp hp=>hh p (.tail _ hp)
   ·rw[if_neg q,if_neg q]
    exact ih _ λp hp=>hh p (.tail _ hp)
 have:=key scope.names [] h
 simp only[closureFor]
 exact(congrArg (λt:Sem (List (Str×Addr))=>t >>= pure) this)
end
section
variable{w:World}{E:Value->Shared->Prop}{R:Result->Shared->Prop}
theorem z51{elt target iter:Expr}{ifs:List Expr}{it acc:Value}(I:Nat->Shared->Prop)(turn:∀n s,I n s->wpAny (model prog w) A (pyNext it) (λr aw=>match r with
   |none=>R (.ok .next) aw
   |some v=>wpAny (model prog w) A (letOwnedTupleGo target it v) (λ_ u6=>wpAny (model prog w) A (assign target env v) (λ_ ar=>
     wpAny (model prog w) A (forIn ifs true λc r=>if r=true then do let ok<-isTrue c env (eval c env);pure (ForInStep.yield ok) else pure (ForInStep.yield r)) (λok aL=>
      if ok=true then wpAny (model prog w) A (eval elt env) (λx bQ=>
       wpAny (model prog w) A (call (.builtin "list.append") [acc,x]) (λ_ fV=>∃m,m<n/\I m fV) (notedBy (model prog w) A env λe s'=>R (.error e) s') bQ) (notedBy (model prog w) A env λe s'=>R (.error e) s') aL
      else ∃m,m<n/\I m aL) (notedBy (model prog w) A env λe s'=>R (.error e) s') ar) (notedBy (model prog w) A env λe s'=>R (.error e) s') u6) (notedBy (model prog w) A env λe s'=>R (.error e) s') aw) (notedBy (model prog w) A env λe s'=>R (.error e) s') s)(n:Nat)(h:I n s):
  codeAny (model prog w) A (.compLoop (.ListComp elt [⟨target,iter,ifs,0⟩] scope pos) 0 it acc env) R s:=by
 refine codeAny_loop rfl I (λn s hI=>?_) n h
 show wpAny _ A ((compTurn (.ListComp elt [⟨target,iter,ifs,0⟩] scope pos) 0 it acc env).onRaise (λx=>do noteFrame x env;theTreesLotGoes x)) _ _ s
 refine wpAny_noted ?_
 rw[compTurn_list]
 refine wg (wk (wg (wj (turn n s hI) (λr aw bx=>?_) λ_ _ h'=>h')))
 induction r with
 |none=>exact wh bx
 |some v=>
  refine wg (wj bx (λ_ u6 D'=>?_) λ_ _ h'=>h')
  refine wg (wj D' (λ_ ar LJ=>wg (wj LJ (λok aL E0=>?_) λ_ _ h'=>h')) λ_ _ h'=>h')
  induction ok with
  |false=>exact wh ⟨rfl,E0⟩
  |true=>
   exact wg (wg (wj E0 (λx bQ LK=>wg (wj LK (λ_ fV LL=>wh (wh ⟨rfl,LL⟩)) λ_ _ h'=>h')) λ_ _ h'=>h'))
end
section
variable{fJ:Env}
structure Acc (c:Cx) (L:Fm) (aa:Shared) (μ:Nat->Addr) (n:Nat) (h:Heap) (a:Addr) (l:List AV):Prop where
 obj:∃vs,h.PlainList a vs.toArray/\aH c μ n h l vs
 own:∀i,i<n->μ i≠a
 base:c.base.get? a=none
 ne:¬L.iM a
 new:aa.heap.get? a=none
theorem C9{a:Addr}{vs:Array Value}(x:h.PlainList a vs)(e:h.get? a=some o):¬pC o/\¬Fix o/\(∀v,o.data≠.cell v)/\o.cls = .type "list":=by
 refine oE x λn e'=>?_
 rw[e] at e';obtain rfl:=w3 e'
 refine nH ?_ ?_ (λv z=>(by contradiction)) rfl
 ·rintro ⟨es,k,z⟩;contradiction
 ·rintro (⟨z,_⟩ | ⟨C,d,z⟩)
  ·simp at z
  ·exact w1 (congrArg Obj.cls z) (by simp[instObj])
theorem Acc.ext{a:Addr}{l:List AV}(X:Acc c L aa μ σ.n s.heap a l)(H:HR c μ σ s.heap)(x:Ext μ σ.n s.heap aj n' h'):Acc c L aa aj n' h' a l:=by
 refine au X.obj λvs ho r=>?_
 refine oE (id ho) λn e=>?_
 refine⟨⟨vs,⟨n,x.kp.same e X.own (C9 ho e).1⟩,r.ext H x⟩,λi hi z=>?_,X.base,X.ne,X.new⟩
 by_cases q:i < σ.n
 ·rw[x.eq i q] at z;exact X.own i q z
 ·have:=x.fresh i (Nat.not_lt.mp q) hi
  rw[z,e] at this;exact SN this
theorem Acc.keep{a:Addr}{l:List AV}(X:Acc c L aa μ σ.n s.heap a l)(tk:y1 s.heap h')(k:∀o,s.heap.get? a=some o->h'.get? a=some o):Acc c L aa μ σ.n h' a l:=by
 refine au X.obj λvs ho r=>?_
 exact⟨⟨vs,ho.at k,r.mono (wa _) (λ_ _=>rfl) tk⟩,X.own,X.base,X.ne,X.new⟩
theorem b8.ext{P:Obj->Prop}{it:Addr}(I:b8 c L μ σ.n s.heap it P)(x:aU P)(X:Ext μ σ.n s.heap aj n' h'):b8 c L aj n' h' it P:=by
 refine au I.obj λo e p=>?_
 refine⟨⟨o,X.kp.same e I.own (x.iy p),p⟩,λi hi z=>?_,I.base,I.ne⟩
 by_cases q:i < σ.n
 ·rw[X.eq i q] at z;exact I.own i q z
 ·have:=X.fresh i (Nat.not_lt.mp q) hi
  rw[z,e] at this;exact SN this
theorem b8.same{P:Obj->Prop}{it:Addr}(I:b8 c L μ σ.n s.heap it P)(k:∀o,s.heap.get? it=some o->h'.get? it=some o):b8 c L μ σ.n h' it P:=by
 refine au I.obj λo e p=>?_
 exact⟨⟨o,k o e,p⟩,I.own,I.base,I.ne⟩
theorem Mh{r:Res β}(h:hH r≠.stuck):∃b σ,r = .ok b σ:=by
 induction r with
 |ok b σ=>exact⟨b,σ,rfl⟩
 |exc l σ=>exact w1 rfl h
 |stuck=>exact w1 rfl h
theorem Hu(f:AV->AH->Res (Option AV))(nx:Nx)(n i:Nat)(acc:List AV)(σ:AH):ym f nx (n+1) i acc σ = (nx i σ).bind λy σ=>opt y (.ok acc σ) λy=>(f y σ).bind λr σ=>ym f nx n (i+1) (opt r acc λz=>app acc [z]) σ:=rfl
def Yj(prog:Program)(c:Cx)(A:Around)(env:Env)(L:Fm)(t:Expr)(f:AV->az->Option az):Prop:=∀a9 ae aa μ σ s ρ y v aI,ax c A a9 ae aa L μ σ ρ s->VR c μ σ.n s.heap y v->f y ρ = some aI->
 ∀(Q:Unit->Shared->Prop) E,(∀s',ax c A a9 ae aa L μ σ aI s'->Ext μ σ.n (j1 L s).heap μ σ.n s'.heap->Q () s')->wpAny (model prog c.w) A (assign t env v) Q E s
theorem TG.k{t:Expr}{f:AV->az->Option az}(h:TG prog c A env L t f):Yj prog c A env L t f:=λa9 ae aa μ σ s ρ y v aI S r e Q E hq=>
 h μ σ.n (j1 L s) μ σ s ρ y v aI S.again r e Q E λs' S'=>hq s' (S.back S') S'.ex
inductive eh (prog:Program) (c:Cx) (A:Around) (env:Env) (L:Fm):List Expr->RD->Prop
 |none:eh prog c A env L [] (mV (.bool true))
 |one {x:Expr}{D:RD}:SE prog c A env L x D->eh prog c A env L [x] D
theorem eh.wp{ifs:List Expr}{D:RD}(h:eh prog c A fJ L ifs D){m:Str->Option Value}(H:HR c μ σ s.heap)(F:cm c A μ σ.n s.heap L m ρ):
  WP prog c A RB (forIn ifs true λc r=>if r=true then do let ok<-isTrue c fJ (eval c fJ);pure (ForInStep.yield ok) else pure (ForInStep.yield r)) ((D ρ).b σ) μ σ s:=by
 cases h with
 |none=>exact λ_=>wpAny_tests_nil ⟨true,σ,μ,rfl,H,.refl _ _ _,rfl,.refl _⟩
 |one hx=>exact λns=>wpAny_tests_one (hx.b μ σ s ρ m H F ns)
def H_(c:Cx)(A:Around)(L:Fm)(a9:Nat->Addr)(ae:Nat)(aa:Shared)(ρ:az)(fu:Nat)(it acc:Addr)(P:Nat->Obj->Prop)(F:Nat->Nat->List AV->AH->Res (List AV))(r:Res (List AV))(n:Nat)(s':Shared):Prop:=
 ∃i aj ai l,n+i=fu/\l.length<=i/\ax c A a9 ae aa L aj ai ρ s'/\b8 c L aj ai.n s'.heap it (P i)/\Acc c L aa aj ai.n s'.heap acc l/\F n i l ai=r
theorem H_.k{fu:Nat}{it acc:Addr}{P:Nat->Obj->Prop}{F:Nat->Nat->List AV->AH->Res (List AV)}{r:Res (List AV)}{G:Prop}(h:H_ c A L a9 ae aa ρ fu it acc P F r n s)(k:∀i aj ai l,n+i=fu->l.length<=i->ax c A a9 ae aa L aj ai ρ s->b8 c L aj ai.n s.heap it (P i)->Acc c L aa aj ai.n s.heap acc l->F n i l ai=r->G):G:=by
 refine eC h λi aj ai l q9=>?_;refine c6 q9 λa b q9=>?_;refine jS q9 λx d e f=>?_
 exact k i aj ai l a b x d e f
section
variable{B:AV->AH->Res (Option AV)}{nx:Nx}{i:Nat}{l lr:List AV}{bZ:AH}{G:Prop}
theorem zox(e:ym B nx n i l σ = .ok lr bZ)(k:∀m,n=m+1->nx i σ≠.stuck->G):G:=by
 induction n using nC with
 |zero=>contradiction
 |succ m=>exact k m rfl λz=>by rw[Hu,z] at e;contradiction
theorem zp1(e:ym B nx (n+1) i l σ = .ok lr bZ)(z:nx i σ = .ok none σ):l=lr/\σ = bZ:=by
 rw[Hu,z] at e
 injection e with a b
 exact⟨a,b⟩
theorem zp3{y:AV}(e:ym B nx (n+1) i l σ = .ok lr bZ)(z:nx i σ = .ok (some y) σ)(k:∀rr dq,B y σ = .ok rr dq->ym B nx n (i+1) (opt rr l λz=>app l [z]) dq = .ok lr bZ->G):G:=by
 rw[Hu,z] at e
 replace e:(B y σ).bind (λr σ=>ym B nx n (i+1) (opt r l λz=>app l [z]) σ) = .ok lr bZ:=e
 induction q:B y σ with
 |ok rr dq=>rw[q] at e;exact k rr dq q e
 |exc l σ=>rw[q] at e;contradiction
 |stuck=>rw[q] at e;contradiction
theorem opS{o:Option α}{f:α->Res β}{b:β}(e:opt o .stuck f = .ok b ai)(k:∀a,o=some a->f a = .ok b ai->G):G:=by
 induction o using Option.casesOn with
 |none=>contradiction
 |some a=>exact k a rfl e
theorem xO{r:Res β}{b:β}(h:hH r = .ok b σ):r = .ok b σ:=by
 induction r with
 |ok _ _=>exact h
 |_=>contradiction
theorem xT{d e:Den}{rr:Option AV}{dq:AH}(h:xy d e σ = .ok rr dq)(k:∀b jW,d.b σ = .ok b jW->(b=false->rr=none/\jW = dq)->(b=true->∃z,e.v jW = .ok z dq/\rr=some z)->G):G:=by
 replace h:(d.b σ).bind (λr σ=>ak r ((e.v σ).bind λz σ=>.ok (some z) σ) (.ok none σ)) = .ok rr dq:=h
 induction q:d.b σ with
 |ok b jW=>
  rw[q] at h
  refine k b jW q (λz=>?_) λz=>?_
  ·subst z
   injection (show Res.ok none jW=Res.ok rr dq from h) with a b
   exact⟨a.symm,b⟩
  ·subst z
   replace h:(e.v jW).bind (λz σ=>.ok (some z) σ) = .ok rr dq:=h
   induction q2:e.v jW with
   |ok z CE=>
    rw[q2] at h
    injection (show Res.ok (some z) CE=Res.ok rr dq from h) with a b
    exact aT z (by rw[b]) a.symm
   |exc l σ=>rw[q2] at h;contradiction
   |stuck=>rw[q2] at h;contradiction
 |exc l σ=>rw[q] at h;contradiction
 |stuck=>rw[q] at h;contradiction
end
theorem b8.tk{it:Addr}{P:Obj->Prop}(I:b8 c L μ n h it P)(x:aU P)(hk:Heap.ExtBut it h h'):y1 h h':=λb o eb fb=>hk b o (λz=>by
 refine au I.obj λoi ei pi=>?_
 rw[z,ei] at eb;obtain rfl:=w3 eb;exact x.jC pi fb) eb
theorem Acc.ED{it acc:Addr}{P:Obj->Prop}{l:List AV}(X:Acc c L aa μ n h acc l)(I:b8 c L μ n h it P)(x:aU P):acc≠it:=λz=>by
 refine au X.obj ?_;rintro vs1 ⟨ne1,Sf⟩ rv1
 refine au I.obj λoi ei pi=>?_
 rw[z,ei] at Sf;obtain rfl:=w3 Sf
 refine oE (x.fields _ pi) λws hw=>?_
 contradiction
theorem zpd{it acc:Addr}{P:Nat->Obj->Prop}{fu i:Nat}{F:Nat->Nat->List AV->AH->Res (List AV)}{r:Res (List AV)}{l:List AV}{z:AV}{vz:Value}{Q:Value->Shared->Prop}{E:Value->Shared->Prop}(Iu:fu<=100000)(hn:n+1+i=fu)(Iv:l.length<=i)(Dv:acc≠it)(S:ax c A a9 ae aa L μ σ ρ s)(I:b8 c L μ σ.n s.heap it (P (i+1)))(X:Acc c L aa μ σ.n s.heap acc l)(rz:VR c μ σ.n s.heap z vz)(e:F n (i+1) (app l [z]) σ = r)(hq:∀h',H_ c A L a9 ae aa ρ fu it acc P F r n { s with heap:=h' }->Q .none { s with heap:=h' }):wpAny (model prog c.w) A (call (.builtin "list.append") [.ref acc,vz] []) Q E s:=by
 refine au X.obj λJl Fe V8=>?_
 have hlen:=V8.len
 refine wpAny_list_append_plain Fe (λh' pl' sb=>hq h' ?_) (by rw[sizeLine_eq];simp;lia)
 have Mf:∀fs,A.frames=some fs->∀e∈fs,e.frame≠some acc:=λfs pR e DF hf=>by
  refine oE S.fr λm6 F6=>?_
  refine dR F6.fG λIl vV _ ir=>?_
  obtain rfl:=w3 (pR.symm.trans vV)
  refine au (ir e DF acc hf).2 λo Yz d2=>?_
  exact(C9 Fe Yz).1 d2
 have nc:∀p∈L.all,p.2≠acc:=λp hp z=>by
  refine oE S.fr λm6 F6=>?_
  refine c6 (F6.dj p hp) λ_ _ q9=>?_;refine bw q9 λw o lV hd2=>?_
  exact(C9 Fe (z▸lV)).2.2.1 _ hd2
 have S7:=S.other (s':={ s with heap:=h' }) X.own X.base X.ne nc X.new (λo eo=>(C9 Fe eo).2.1) Mf (λb o ne eb=>(sb.2 b ne).trans eb) ⟨rfl,rfl,rfl⟩
 have Vd:y1 s.heap h':=λb o eb fb=>(sb.2 b λz=>(C9 Fe (z▸eb)).2.1 fb).trans eb
 refine⟨i+1,μ,σ,app l [z],(Eq.symm (Eq.trans hn.symm (Nat.add_right_comm _ _ _))),?_,S7,I.same λo eo=>(sb.2 _ (Ne.symm Dv)).trans eo,⟨⟨Jl++[vz],?_,?_⟩,X.own,X.base,X.ne,X.new⟩,e⟩
 ·rw[j9];simp;exact Iv
 ·rw[show(Jl++[vz]).toArray=Jl.toArray.push vz by simp]
  exact pl'
 ·rw[j9]
  exact(V8.mono (wa _) (λ_ _=>rfl) Vd).app (.cons (rz.mono (wa _) (λ_ _=>rfl) Vd) .nil)
theorem ziq{t elt iter:Expr}{ifs:List Expr}{f:AV->az->Option az}{De Dc:RD}{it acc:Addr}{P:Nat->Obj->Prop}{nx:Nx}{fu:Nat}{R:Result->Shared->Prop}{lr:List AV}{bZ:AH}(hT:TG prog c A fJ L t f)(he:SE prog c A fJ L elt De)(hc:eh prog c A fJ L ifs Dc)(x:∀i,aU (P i))(ho:aa.heap.get? it=none)(Iu:fu<=100000)(wM:∀y bo,f y ρ = some bo->∀z w,aC ρ z=some w->aC bo z=some w)(step:∀i aj ai s',ax c A a9 ae aa L aj ai ρ s'->b8 c L aj ai.n s'.heap it (P i)->nx i ai≠.stuck->∃r,nx i ai = .ok r ai/\di prog c A it P i aj ai s' r)(S:ax c A a9 ae aa L μ σ ρ s)(I:b8 c L μ σ.n s.heap it (P 0))(X:Acc c L aa μ σ.n s.heap acc [])(e:ym (λy σ=>opt (f y ρ) .stuck λρ=>hH (xy (Dc ρ) (De ρ) σ)) nx fu 0 [] σ = .ok lr bZ)(hR:∀aj s',ax c A a9 ae aa L aj bZ ρ s'->Acc c L aa aj bZ.n s'.heap acc lr->R (.ok .next) s'):
  codeAny (model prog c.w) A (.compLoop (.ListComp elt [⟨t,iter,ifs,0⟩] scope pos) 0 (.ref it) (.ref acc) fJ) R s:=by
 generalize hB:(λ(y:AV) (σ:AH)=>opt (f y ρ) Res.stuck λρ=>hH (xy (Dc ρ) (De ρ) σ))=B at e
 refine z51 (H_ c A L a9 ae aa ρ fu it acc P (ym B nx) (.ok lr bZ)) ?_ fu ⟨0,μ,σ,[],rfl,wa _,S,I,X,e⟩
 intro n1 s1 iv
 refine iv.k λi cq aE l hn Iv S1 I1 X1 e1=>zox e1 λn en n0=>(step i cq aE s1 S1 I1 n0).elim λr hr=>hr.2 _ _ ?_
 have er:=hr.1
 have Dv:=X1.ED I1 (x i)
 rw[en] at e1 hn
 clear hr iv
 induction r using Option.casesOn with
 |none=>
  intro s' hk sm
  have q:=zp1 e1 er
  have S2:=S1.iter I1 (x i) ho (λb o ne=>hk b o ne) sm
  have X2:=X1.keep (I1.tk (x i) hk) λo eo=>hk _ _ Dv eo
  rw[q.1,q.2] at X2
  rw[q.2] at S2
  exact hR cq s' S2 X2
 |some y=>
  intro v s' hv hi hk sm
  refine zp3 e1 er λrr dq eB e2=>?_
  rw[<-hB] at eB
  have S2:=S1.iter I1 (x i) ho (λb o ne=>hk b o ne) sm
  have X2:=X1.keep (I1.tk (x i) hk) λo eo=>hk _ _ Dv eo
  refine PB (x (i+1)) hi (opS eB λdD ef eo=>xT (xO eo) λb jW e5 kf kt=>?_)
  refine(TG.k hT) _ _ _ _ _ _ _ _ _ _ S2 hv ef _ _ λs3 S3 x3=>?_
  have DS:∀b o,¬L.iM b->s'.heap.get? b=some o->(j1 L s').heap.get? b=some o:=λb o ne eb=>(xc _ ne).trans eb
  have I3:b8 c L cq aE.n s3.heap it (P (i+1)):=by
   refine au hi λo eo po=>?_
   exact⟨⟨o,x3.kp.same (DS _ _ I1.ne eo) I1.own ((x (i+1)).iy po),po⟩,I1.own,I1.base,I1.ne⟩
  have X3:Acc c L aa cq aE.n s3.heap acc l:=by
   refine au X2.obj λvs2 nN OA=>?_
   refine oE (id nN) λk2 Sg=>?_
   exact⟨⟨vs2,⟨k2,x3.kp.same (DS _ _ X2.ne Sg) X2.own (C9 nN Sg).1⟩,(OA.mono (wa _) (λ_ _=>rfl) S2.f_.2).ext S2.f_.1 x3⟩,X2.own,X2.base,X2.ne,X2.new⟩
  refine S3.fr.elim λm3 F3=>(hc.wp S3.hr F3).C2 e5 λok s4 iJ H5 X5 hb GH=>?_
  have S5:=S3.step H5 X5 GH
  have I5:=I3.ext (x (i+1)) X5
  have A5:=X3.ext S3.hr X5
  have hb:ok=b:=hb.symm
  rw[hb]
  induction b with
  |false=>
   have q:=kf rfl
   rw[q.1,<-q.2] at e2
   exact⟨n,en▸wb n,i+1,iJ,_,l,by lia,(Nat.le_succ_of_le Iv),S5.weak (wM y dD ef),I5,A5,e2⟩
  |true=>
   refine(kt rfl).elim λz q=>?_
   rw[q.2] at e2
   refine S5.fr.elim λm5 F5=>(he.v iJ jW s4 dD m5 S5.hr F5).C2 q.1 λvz s6 CD H6 X6 rz Ac=>?_
   exact zpd Iu hn Iv Dv ((S5.step H6 X6 Ac).weak (wM y dD ef)) (I5.ext (x (i+1)) X6) (A5.ext S5.hr X6) rz e2 λh' iv=>⟨n,en▸wb n,iv⟩
end
theorem VY(fv:List Nat)(ρ:az){z:Nat}{y:AV}(h:aC (aY fv ρ) z=some y):z∈fv/\aC ρ z=some y:=by
 induction fv with
 |nil=>exact NS h
 |cons x fv ih=>
  have e0:aY (x::fv) ρ = opt (aC ρ x) (aY fv ρ) λv=>(x,v)::aY fv ρ:=rfl
  rw[e0] at h
  induction e:aC ρ x with
  |none=>rw[e] at h;exact⟨.tail _ (ih h).1,(ih h).2⟩
  |some w=>
   rw[e] at h
   change aC ((x,w)::aY fv ρ) z=some y at h
   rw[pj] at h
   by_cases q:x=z
   ·rw[if_pos q] at h;obtain rfl:=w3 h;subst q;exact⟨.head _,e⟩
   ·rw[if_neg q] at h;exact⟨.tail _ (ih h).1,(ih h).2⟩
noncomputable def gR(cl:List (Str×Addr))(C:Addr):Fm:=⟨C,[],cl⟩
section
structure i9 (env:Env) (L:Fm) (scope:Scope) (fv:List Nat):Prop where
 kind:scope.kind = .function
 cell:∀x∈scope.names,x.2≠.cell
 names:∀x∈scope.names,x.2 = .local->scope.names.lookup x.1=some .local
 free:∀p∈scope.names,p.2 = .free->∃a,L.all.lookup p.1=some a
 cl:∀p∈aF scope.names L.all [],L.all.lookup p.1=some p.2
 nd:((aF scope.names L.all []).map (·.2)).Nodup
 fv:∀x∈fv,∃ca,(aF scope.names L.all []).lookup (nm x)=some ca
theorem Wb{t elt iter:Expr}{ifs:List Expr}{fv:List Nat}{f:AV->az->Option az}{De Dc:RD}{P:Nat->Obj->Prop}{nx:Nx}{fu:Nat}{lr:List AV}{bZ:AH}{oi:Obj}{tk:Nat}{RR:Value->Addr->Result->Shared->Prop}{E:Value->Shared->Prop}{m:Str->Option Value}(EO:bz env L)(CO:i9 env L scope fv)(hT:∀C,TG prog c A (compEnvC scope (aF scope.names L.all []) C env) (gR (aF scope.names L.all []) C) t f)(he:∀C,SE prog c A (compEnvC scope (aF scope.names L.all []) C env) (gR (aF scope.names L.all []) C) elt De)(hc:∀C,eh prog c A (compEnvC scope (aF scope.names L.all []) C env) (gR (aF scope.names L.all []) C) ifs Dc)(x:∀i,aU (P i))(Iu:fu<=100000)(wM:∀ρ y bo,f y (aY fv ρ)=some bo->∀z w,aC (aY fv ρ) z=some w->aC bo z=some w)(H:HR c μ σ s.heap)(F:cm c A μ σ.n s.heap L m ρ)(hP:P 0 oi)(Zp:oi.isFreed=false)(step:∀i L' aj ai s',ax c A μ σ.n s L' aj ai (aY fv ρ) s'->b8 c L' aj ai.n s'.heap s.heap.objs.size (P i)->nx i ai≠.stuck->∃r,nx i ai = .ok r ai/\di prog c A s.heap.objs.size P i aj ai s' r)(self:∀(s':Shared) (Q:Value->Shared->Prop) E,(∃o,s'.heap.get? s.heap.objs.size=some o/\P 0 o)->Q (.ref s.heap.objs.size) s'->wpAny (model prog c.w) A (pyIter (.ref s.heap.objs.size)) Q E s')(e:ym (λy σ=>opt (f y (aY fv ρ)) .stuck λρ=>hH (xy (Dc ρ) (De ρ) σ)) nx fu 0 [] σ = .ok lr bZ)(hR:∀acc C aj s',ax c A μ σ.n s (gR (aF scope.names L.all []) C) aj bZ (aY fv ρ) s'->Acc c (gR (aF scope.names L.all []) C) s aj bZ.n s'.heap acc lr->RR (.ref acc) C (.ok .next) s'):
  wpAny (model prog c.w) A (newList []) (λacc aL=>wpAny (model prog c.w) A (newFunctionEnv scope env.globals (aF scope.names L.all []) [] env.qual none .none (some env)) (λfJ bQ=>
   codeAny (model prog c.w) A (.compStart (.ListComp elt [⟨t,iter,ifs,0⟩] scope pos) 0 (.ref s.heap.objs.size) acc { fJ with scope:=relabel scope env }) (RR acc fJ.locals) bQ) E aL) E { s with heap:=s.heap.push oi,toks:=tk }:=by
 refine wpAny_newObj_type (wpAny_newFunctionEnv CO.cell (by intro y hy;simp at hy) (λbx fk dx=>?_) CO.kind)
 dsimp only at fk dx ⊢
 generalize Li:s.heap.push oi=H1 at fk dx ⊢
 generalize Im:H1.push { cls:=.type "list",dict:=none,data:=.seq ([]:List Value).toArray } = H2 at fk dx ⊢
 have z1:H1.objs.size=s.heap.objs.size+1:=by rw[<-Li,Heap.size_push]
 have z2:H2.objs.size=s.heap.objs.size+2:=by rw[<-Im,Heap.size_push,z1]
 have old:∀b o,s.heap.get? b=some o->bx.get? b=some o:=λb o e=>
  dx.extBut b o (wn (w7 (Heap.lt_size e) ((so z2):s.heap.objs.size<=H2.objs.size))) (wc _ (Im▸wc _ (Li▸wc _ e)))
 have Rk:bx.get? s.heap.objs.size=some oi:=dx.extBut _ _ (wn ((HX z2):s.heap.objs.size<H2.objs.size)) (wc _ (Im▸wc _ (Li▸we _ Zp)))
 have Ld:bx.get? H1.objs.size=some { cls:=.type "list",dict:=none,data:=.seq ([]:List Value).toArray }:=dx.extBut _ _ (wn (by lia:H1.objs.size<H2.objs.size)) (wc _ (Im▸we _ rfl))
 have fresh:∀a,s.heap.objs.size<=a->s.heap.get? a=none:=λa ha=>Heap.get?_none_of_le ha
 have G:=H.dJ old
 have nq:∀a,s.heap.objs.size<=a->c.base.get? a=none:=λa ha=>by
  induction q:c.base.get? a with
  |none=>rfl
  |some o=>have:=H.keep _ _ q;rw[fresh a ha] at this;exact NS this
 generalize hC:H2.objs.size=C at fk dx ⊢
 rw[hC] at z2
 have YU:L.a<s.heap.objs.size:=by refine dY F.ns λo _ _ ho _=>?_;exact Heap.lt_size ho
 have S4:ax c A μ σ.n s (gR (aF scope.names L.all []) C) μ σ (aY fv ρ) { s with heap:=bx,toks:=tk+([]:List (Str×Value)).length }:=by
  refine⟨G.1,G.2,⟨rfl,rfl,rfl⟩,⟨_,fk,?_,λi hi z=>?_,λy=>?_,F.fG.ext G.2,λp hp=>?_,?_⟩,?_⟩
  ·exact Nat.le_trans F.above (Nat.le_of_lt (w7 YU ((so z2):s.heap.objs.size<=C)))
  ·exact wn (w7 (H.lt hi) ((so z2):s.heap.objs.size<=C)) z
  ·induction eg:aC (aY fv ρ) y with
   |none=>trivial
   |some w=>
    refine oA (VY fv ρ eg) λhy ew=>?_
    have V:=F.vals y
    rw[ew] at V
    refine au V λv hv r=>?_
    refine aT v ?_ (r.ext H G.2)
    refine oE (CO.fv y hy) λca wK=>?_
    have pZ:=CO.cl _ (y6 wK)
    unfold look at hv ⊢
    rw[pZ] at hv
    have:(gR (aF scope.names L.all []) C).all.lookup (nm y)=some ca:=by show(aF scope.names L.all []++[]).lookup _=_;rw[List.append_nil];exact wK
    rw[this]
    refine c6 (F.dj _ (y6 pZ)) λ_ _ q9=>?_;refine bw q9 λw' o' iq fL=>?_
    have e1:=IsCell.val (h:=s.heap) ⟨o',iq,fL⟩
    have e2:=IsCell.val (h:=bx) ⟨o',old _ _ iq,fL⟩
    exact e2.trans (e1.symm.trans hv)
  ·have RC:p∈aF scope.names L.all []:=by
    have:p∈aF scope.names L.all []++[]:=hp
    rwa [List.append_nil] at this
   obtain⟨a1,a2,w',hw⟩:=F.dj _ (y6 (CO.cl p RC))
   exact⟨a1,a2,w',hw.keeps old⟩
  ·show((aF scope.names L.all []++([]:List (Str×Addr))).map (·.2)).Nodup
   rw[List.append_nil];exact CO.nd
  ·rintro b (hb | ⟨p,hp,_⟩)
   ·rw[show b=C from hb];exact fresh C (so z2)
   ·cases hp
 have Sa:∀a,a<C->¬(gR (aF scope.names L.all []) C).iM a:=λa ha z=>by
  rcases z with z | ⟨p,hp,_⟩
  ·exact wn ha z
  ·cases hp
 have I4:b8 c (gR (aF scope.names L.all []) C) μ σ.n bx s.heap.objs.size (P 0):=⟨⟨oi,Rk,hP⟩,λi hi z=>wn (H.lt hi) z,nq _ (wa _),Sa _ ((HX z2):s.heap.objs.size<C)⟩
 have A4:Acc c (gR (aF scope.names L.all []) C) s μ σ.n bx H1.objs.size []:=⟨⟨[],⟨_,Ld⟩,.nil⟩,λi hi z=>wn (w7 (H.lt hi) ((so z1):s.heap.objs.size<=H1.objs.size)) z,nq _ ((so z1):s.heap.objs.size<=H1.objs.size),Sa _ (by lia:H1.objs.size<C),fresh _ ((so z1):s.heap.objs.size<=H1.objs.size)⟩
 have loop:codeAny (model prog c.w) A (.compLoop (.ListComp elt [⟨t,iter,ifs,0⟩] scope pos) 0 (.ref s.heap.objs.size) (.ref H1.objs.size) (compEnvC scope (aF scope.names L.all []) C env)) (RR (.ref H1.objs.size) C) { s with heap:=bx,toks:=tk+([]:List (Str×Value)).length }:=
  ziq (hT C) (he C) (hc C) x (fresh _ (wa _)) Iu (λy bo=>wM ρ y bo) (λi aj ai s'=>step i _ aj ai s') S4 I4 A4 e λaj s'=>hR _ _ aj s'
 exact codeAny_compStart_list loop (self _ _ _ ⟨oi,Rk,hP⟩ loop)
end
theorem yd(s t:List Nat):cu s t=true↔s=t:=by
 induction s generalizing t with
 |nil=>induction t using lC with
  |nil=>exact⟨λ_=>rfl,λ_=>rfl⟩
  |cons b t=>exact⟨λh=>(by exact FT h),λh=>(by cases h)⟩
 |cons a s ih=>induction t using lC with
  |nil=>exact⟨λh=>(by exact FT h),λh=>(by cases h)⟩
  |cons b t=>
   have e0:cu (a::s) (b::t)=ak (Nat.beq a b) (cu s t) false:=rfl
   rw[e0]
   induction q:Nat.beq a b with
   |true=>
    obtain rfl:=w4 q
    show cu s t=true↔_
    rw[ih t]
    exact⟨λh=>by rw[h],λh=>(List.cons.inj h).2⟩
   |false=>
    refine⟨λh=>(by exact FT h),λh=>?_⟩
    have:=(List.cons.inj h).1
    subst this
    exact w1 q (by simp)
theorem zij{s t:List Nat}(h:cu s t=false):s≠t:=λe=>by rw[(yd s t).mpr e] at h;exact TF h
theorem Wi(p:List Nat×AV)(l:List (List Nat×AV))(x:List Nat):getD (p::l) x=if p.1=x then some p.2 else getD l x:=by
 show ak (cu p.1 x) (some p.2) (getD l x)=_
 by_cases q:p.1=x
 ·rw[if_pos q,(yd _ _).mpr q];rfl
 ·rw[if_neg q]
  induction e:cu p.1 x with
  |true=>exact w1 ((yd _ _).mp e) q
  |false=>rfl
theorem zib{l:List (List Nat×AV)}{x:List Nat}(h:getD l x=none):∀p∈l,p.1≠x:=by
 induction l with
 |nil=>exact λ_ h=>nomatch h
 |cons p l ih=>
  rw[Wi] at h
  intro q hq
  by_cases e:p.1=x
  ·rw[if_pos e] at h;exact SN h
  ·rw[if_neg e] at h
   rcases w8.mp hq with rfl | hq
   ·exact e
   ·exact ih h q hq
theorem OS{a b:List Nat}(h:S a=S b):a=b:=by
 have:=congrArg (λs:Str=>s.cps.toList) h
 simpa [S] using this
theorem zi3{es:List (List Nat×AV)}(h:ix es=true):(es.map λe=>S e.1).Nodup:=by
 induction es with
 |nil=>exact .nil
 |cons e l ih=>
  have e0:ix (e::l)=ak (opt (getD l e.1) true λ_=>false) (ix l) false:=rfl
  rw[e0] at h
  induction q:getD l e.1 with
  |some _=>rw[q] at h;exact FT h
  |none=>
   rw[q] at h
   rw[List.map_cons,List.nodup_cons]
   refine⟨λhm=>?_,ih h⟩
   refine au (List.mem_map.mp hm) λp hp ep=>?_
   exact zib q p hp (OS ep)
theorem Pr{es:List (List Nat×AV)}{ents:List DictEntry}(r:fz c μ n h es ents):
  ∃gw:List (Str×Value),Pairs (strKind prog c.w) ents gw/\gw.map (·.1)=es.map (λe=>S e.1)/\∀e∈ents,∃k,(strKind prog c.w).is k e.key=true/\e.hash=(strKind prog c.w).hash k:=by
 induction r with
 |nil=>exact mH ([]) .nil rfl (λ_ h=>nomatch h)
 |@cons a t x v l es _ _ ih=>
  refine dR ih λgw h1 h2 h3=>?_
  have hk:(strKind prog c.w).is (S a) (.str (S a) t)=true:=by show Value.isStrOf (S a) (.str (S a) t)=true;simp[Value.isStrOf]
  refine mH ((S a,v)::gw) (.cons hk rfl h1) (by simp[h2]) (λe he=>?_)
  rcases w8.mp he with rfl | he
  ·exact aT (S a) hk rfl
  ·exact h3 e he
def pD(d:Addr)(n k:Nat)(i:Nat)(o:Obj):Prop:=o.cls = .type "dict_keyiterator"/\o.data = .fields #[.ref d,.int i 0,.int n 0,.int k 0]
theorem wX(d:Addr)(n k i:Nat):aU (pD d n k i):=⟨λo h=>⟨_,h.2⟩,λo h=>⟨_,h.1,by decide,by decide⟩⟩
theorem zjk(es:List (List Nat×AV))(i:Nat):(jt es)[i]? = (es[i]?).map λe=>AV.str 0 e.1:=by
 have:jt es=es.map λe=>AV.str 0 e.1:=by
  unfold jt
  induction es with
  |nil=>rfl
  |cons a l ih=>show _::_=_::_;rw[<-ih];rfl
 rw[this,List.getElem?_map]
section
theorem X8{o k:Nat}{es:List (List Nat×AV)}(H:HR c μ σ s.heap)(ho:o < σ.n)(e:σ.get o = .dict false k es)(hn:ix es=true):
  ∃gw,s.heap.DictAt (strKind prog c.w) (μ o) gw k/\gw.map (·.1)=es.map (λe=>S e.1):=by
 refine au (H.obj o ho) λob bJ r=>?_
 rw[e] at r
 cases r with
 |@dict _ _ pre ents _ k' r1 r2 r3=>
  refine oA (r3 rfl) ?_;rintro rfl rfl
  refine dR (Pr (prog:=prog) r1) λgw h1 h2 h3=>?_
  exact aT gw ⟨_,_,bJ,⟨rfl,rfl,rfl⟩,rfl,λe he=>h3 e (by simpa [dictOf] using he),by simpa [dictOf] using h1,by rw[h2];exact zi3 hn⟩ h2
theorem zke{it:Addr}{o k i:Nat}{es:List (List Nat×AV)}(hh:A.handled=none)(H:HR c μ σ s.heap)(ho:o < σ.n)(e:σ.get o = .dict false k es)(hn:ix es=true)(I:∃ob,s.heap.get? it=some ob/\pD (μ o) es.length k i ob):
  di prog c A it (pD (μ o) es.length k) i μ σ s (jt es)[i]?:=by
 intro Q E h
 refine au (X8 (prog:=prog) H ho e hn) λgw hd hk=>?_
 have hl:gw.length=es.length:=by have:=congrArg List.length hk;simpa using this
 have hit:s.heap.IsKeyIter it (μ o) i gw.length k:=by rw[hl];exact I
 rw[zjk] at h
 have YX:∀j:Nat,(gw[j]?).map (·.1)=(es[j]?).map λe=>S e.1:=λj=>by rw[<-List.getElem?_map,hk,List.getElem?_map]
 have h0:=YX i
 induction e1:es[i]? with
 |none=>
  rw[e1] at h h0
  have:gw[i]? = none:=by induction q:gw[i]? with
   |none=>rfl
   |some _=>rw[q] at h0;exact SN h0
  exact wpAny_pyNext_dict_end hh hit hd this λh' he=>h _ he ⟨rfl,rfl,rfl⟩
 |some p=>
  rw[e1] at h h0
  induction q:gw[i]? with
  |none=>rw[q] at h0;exact NS h0
  |some kv=>
   rw[q] at h0
   obtain⟨kk,vv⟩:=kv
   have Yw:kk=S p.1:=w3 h0
   refine wpAny_pyNext_dict_item hit hd q λkey h' kK gH hs=>?_
   refine oE (Value.isStrOf_shape kK) ?_;rintro t rfl
   subst Yw
   exact h _ _ (VR.str 0 p.1 t) (by rw[<-hl];exact gH) hs.extBut ⟨rfl,rfl,rfl⟩
structure Src (prog:Program) (c:Cx) (A:Around) (μ:Nat->Addr) (σ:AH) (s:Shared) (v:Value) (nx:Nx) (P:Nat->Obj->Prop) (oi:Obj):Prop where
 io:∀i,aU (P i)
 pI:P 0 oi
 live:oi.isFreed=false
 make:∀(Q:Value->Shared->Prop) E,Q (.ref s.heap.objs.size) { s with heap:=s.heap.push oi }->wpAny (model prog c.w) A (pyIter v) Q E s
 step:∀i aj (ai:AH) (s':Shared),Ext μ σ.n s.heap aj ai.n s'.heap->HR c aj ai s'.heap->(∃o,s'.heap.get? s.heap.objs.size=some o/\P i o)->nx i ai≠.stuck->∃r,nx i ai = .ok r ai/\di prog c A s.heap.objs.size P i aj ai s' r
 self:∀(s':Shared) (Q:Value->Shared->Prop) E,(∃o,s'.heap.get? s.heap.objs.size=some o/\P 0 o)->Q (.ref s.heap.objs.size) s'->wpAny (model prog c.w) A (pyIter (.ref s.heap.objs.size)) Q E s'
theorem XG{y:AV}{nx:Nx}(hh:A.handled=none)(bq:∃o,c.base.get? sysModules=some o)(H:HR c μ σ s.heap)(r:VR c μ σ.n s.heap y v)(e:lH y σ = some nx)(n0:nx 0 σ≠.stuck):∃P oi,Src prog c A μ σ s v nx P oi:=by
 induction r using vC with
 |str q x t=>
  have e0:lH (.str q x) σ = ak (Nat.beq q 0) (some (uJ (rO x))) none:=rfl
  rw[e0] at e
  induction hq:Nat.beq q 0 with
  |false=>rw[hq] at e;exact NS e
  |true=>
   rw[hq] at e
   obtain rfl:uJ (rO x)=nx:=w3 e
   obtain rfl:q=0:=w4 hq
   refine⟨jY (S x) t,{ cls:=.type (strIterType (S x)),data:=.fields #[.str (S x) t,.int 0 0] },XC _ _,⟨rfl,rfl⟩,rfl,λQ E q=>wpAny_pyIter_strU q,λi aj ai s' X H' I _=>⟨_,by unfold uJ;rw[jm],Wq hh I⟩,λs' Q E I q=>?_⟩
   refine dR I λo e1 e2 e3=>?_
   induction ha:(S x).cps.all (·< 128) with
   |true=>exact wpAny_pyIter_striter_ascii ⟨o,e1,by rw[e2];unfold strIterType;rw[ha];rfl,e3⟩ q
   |false=>exact wpAny_pyIter_striter_wide ⟨o,e1,by rw[e2];unfold strIterType;rw[ha];rfl,e3⟩ q
 |@tup l vs a ht rs=>
  obtain rfl:uJ l=nx:=w3 e
  refine⟨jZ a,{ cls:=.type "tuple_iterator",data:=.fields #[.ref a,.int 0 0] },Qg _,⟨rfl,rfl⟩,rfl,λQ E q=>iter_tuple ht q,λi aj ai s' X H' I _=>⟨_,by unfold uJ;rw[jm],?_⟩,λs' Q E I q=>wpAny_pyIter_tupleiter I q⟩
  have r':=(VR.tup ht rs).ext H X
  generalize ev:Value.ref a=v at r'
  cases r' with
  |tup DY eZ=>cases ev;exact Wv hh DY eZ I
 |@obj o ho=>
  refine au (H.obj o ho) λob bJ ro=>?_
  have e0:lH (.obj o) σ = ao.rec (motive:=λ_=>Option Nx) (λ_=>some (Ci o)) (λ_ k es=>some (uF o k (len es))) (λ_=>none) (λ_ _ _=>none) none (λ_=>none) (σ.get o):=rfl
  rw[e0] at e
  induction ed:σ.get o with
  |list l=>
   rw[ed] at e ro
   obtain rfl:Ci o=nx:=w3 e
   cases ro with
   |@list _ vs ee rs=>
   refine⟨Cs (μ o),{ cls:=.type "list_iterator",data:=.fields #[.ref (μ o),.int 0 0] },Q0 _,⟨rfl,rfl⟩,rfl,λQ E q=>wpAny_pyIter_list (items:=vs.toArray) ⟨_,bJ,rfl,_,rfl⟩ q,λi aj ai s' X H' I ns=>?_,λs' Q E I q=>wpAny_pyIter_listiter I q⟩
   unfold Ci at ns ⊢
   unfold zh at ns ⊢
   induction iR:ai.get o with
   |list l'=>exact aT _ (by rw[<-jm];rfl) (Wh hh (X.eq o ho) (w7 ho X.le) iR H' I)
   |_=>rw[iR] at ns;exact w1 rfl ns
  |dict u k es=>
   rw[ed] at e
   obtain rfl:uF o k (len es)=nx:=w3 e
   have dn:∀(i:Nat) (ai:AH),uF o k (len es) i ai≠.stuck->∃cQ,ai.get o = .dict false k cQ/\cQ.length=es.length/\ix cQ=true/\uF o k (len es) i ai = .ok (jt cQ)[i]? ai:=λi ai ns=>by
    unfold uF at ns ⊢
    induction iR:ai.get o with
    |dict u' k' cQ=>
     rw[iR] at ns
     change ak u' Res.stuck (ak (Nat.beq k k') (ak (Nat.beq (len es) (len cQ)) (ak (ix cQ) (Res.ok (dF (jt cQ) i) ai) .stuck) .stuck) .stuck)≠.stuck at ns
     show ∃YA,_/\_/\_/\ak u' Res.stuck (ak (Nat.beq k k') (ak (Nat.beq (len es) (len cQ)) (ak (ix cQ) (Res.ok (dF (jt cQ) i) ai) .stuck) .stuck) .stuck)=_
     induction u' with
     |true=>exact w1 rfl ns
     |false=>
      induction q1:Nat.beq k k' with
      |false=>rw[q1] at ns;exact w1 rfl ns
      |true=>
       rw[q1] at ns
       induction q2:Nat.beq (len es) (len cQ) with
       |false=>rw[q2] at ns;exact w1 rfl ns
       |true=>
        rw[q2] at ns
        induction q3:ix cQ with
        |false=>rw[q3] at ns;exact w1 rfl ns
        |true=>
         obtain rfl:=w4 q1
         have:=w4 q2
         rw[zb,zb] at this
         exact sZ cQ rfl this.symm q3 (by rw[jm];rfl)
    |_=>rw[iR] at ns;exact w1 rfl ns
   refine jR (dn 0 σ n0) λYB f1 f2 f3 _=>?_
   refine au (X8 (prog:=prog) H ho f1 f3) λgw hd hk=>?_
   have hl:gw.length=es.length:=by have:=congrArg List.length hk;simp at this;exact Eq.trans this f2
   have Bz:(μ o==sysModules)=false:=by
    induction q:μ o==sysModules with
    |false=>rfl
    |true=>
     refine oE bq λos hs=>?_
     have:=H.new o ho
     rw[eq_of_beq q,hs] at this;exact SN this
   refine⟨pD (μ o) es.length k,{ cls:=.type "dict_keyiterator",data:=.fields #[.ref (μ o),.int 0 0,.int es.length 0,.int k 0] },wX _ _ _,⟨rfl,rfl⟩,rfl,λQ E q=>wpAny_pyIter_dict Bz hd (by rw[hl];exact q),λi aj ai s' X H' I ns=>?_,λs' Q E I q=>wpAny_pyIter_keyiter I q⟩
   refine jR (dn i ai ns) λcQ g1 g2 g3 g4=>?_
   refine aT _ g4 ?_
   have:=zke (prog:=prog) (A:=A) (it:=s.heap.objs.size) (i:=i) hh H' (w7 ho X.le) g1 g3 (by rw[g2,X.eq o ho];exact I)
   rw[g2,X.eq o ho] at this
   exact this
  |_=>rw[ed] at e;exact NS e
 |_=>exact NS e
end
section
theorem Wj{L':Fm}{bZ:AH}{acc:Addr}{lr:List AV}(S:ax c A μ σ.n s L' aj bZ aI s')(X:Acc c L' s aj bZ.n s'.heap acc lr)(sb:Heap.SameBut L'.a s'.heap h'):
  HR c (yg aj bZ.n acc) (bZ.push (.list lr)) h'/\Ext μ σ.n s.heap (yg aj bZ.n acc) (bZ.push (.list lr)).n h':=by
 refine cps λ_ κ=>?_;refine oE S.fr λm F=>?_
 refine jS (S.frame F (.inl rfl) (s':={ s' with heap:=h' }) sb ⟨rfl,rfl,rfl⟩) λa b _ tk=>?_
 have neL:acc≠L'.a:=λz=>X.ne (.inl z)
 refine au X.obj ?_;rintro vs ⟨n,e⟩ r
 have e':h'.get? acc=some { cls:=.type "list",data:=.seq vs.toArray n }:=(sb.2 _ neL).trans e
 refine κ ?_;clear κ;refine⟨a.adopt e' X.own X.base (.list ((r.mono (wa _) (λ_ _=>rfl) tk).mono (Nat.le_succ _) (λi hi=>y8 hi) (λ_ _ e _=>e))),?_⟩
 refine⟨Nat.le_succ_of_le b.le,λi hi=>(y8 (w7 hi b.le)).trans (b.eq i hi),λi h1 h2=>?_,b.kp,b.own⟩
 by_cases q:i < bZ.n
 ·rw[y8 q];exact b.fresh i h1 q
 ·have YM:i < bZ.n+1:=h2
  obtain rfl:i = bZ.n:=HW YM q
  rw[zz];exact X.new
structure cj (prog:Program) (c:Cx) (A:Around) (env:Env) (L:Fm) (G:Gl) (scope:Scope) (fv:List Nat) (t elt iter:Expr) (ifs:List Expr) (f:AV->az->Option az) (De Dc Di:RD):Prop where
 hh:A.handled=none
 bq:∃o,c.base.get? sysModules=some o
 fu:G.fu<=100000/\0<G.fu
 EO:bz env L
 CO:i9 env L scope fv
 hT:∀C,TG prog c A (compEnvC scope (aF scope.names L.all []) C env) (gR (aF scope.names L.all []) C) t f
 he:∀C,SE prog c A (compEnvC scope (aF scope.names L.all []) C env) (gR (aF scope.names L.all []) C) elt De
 hc:∀C,eh prog c A (compEnvC scope (aF scope.names L.all []) C env) (gR (aF scope.names L.all []) C) ifs Dc
 hi:SE prog c A env L iter Di
 hs:∀x,foldedSetIterable iter env x=pure x
 wM:∀ρ y bo,f y (aY fv ρ)=some bo->∀z w,aC (aY fv ρ) z=some w->aC bo z=some w
theorem WJ{f:AV->AH->Res (Option AV)}{nx:Nx}{fu:Nat}{acc:List AV}(h:ym f nx fu 0 acc σ≠.stuck)(hf:0<fu):nx 0 σ≠.stuck:=λz=>by
 induction fu using nC with
 |zero=>exact w1 hf (Nat.lt_irrefl _)
 |succ n=>rw[Hu,z] at h;exact h rfl
theorem cj.D6{G:Gl}{fv:List Nat}{t elt iter:Expr}{ifs:List Expr}{f:AV->az->Option az}{De Dc Di:RD}(P:cj prog c A env L G scope fv t elt iter ifs f De Dc Di):closureFor scope env=pure (aF scope.names L.all []):=by
 rw[zbm (by rw[P.EO.dj];exact P.CO.free),P.EO.dj]
noncomputable def B1(G:Gl)(f:AV->az->Option az)(fv:List Nat)(De Dc Di:RD)(ρ:az):Den:=lit λσ=>((Di ρ).v σ).bind λv σ=>opt (lH v σ) .stuck λnx=>
 (ym (λy σ=>opt (f y (aY fv ρ)) .stuck λρ=>hH (xy (Dc ρ) (De ρ) σ)) nx G.fu 0 [] σ).bind λr σ=>ye (.list r) σ
theorem Px{f:AV->AH->Res (Option AV)}{nx:Nx}(hf:∀y σ,∀l ai,f y σ≠.exc l ai)(hn:∀i σ,∀l ai,nx i σ≠.exc l ai):∀(n i:Nat) (acc:List AV) (σ:AH),ym f nx n i acc σ≠.stuck->∃lr bZ,ym f nx n i acc σ = .ok lr bZ
 |0,_,_,_,h=>w1 rfl h
 |n+1,i,acc,σ,h=>by
  rw[Hu] at h ⊢
  induction e:nx i σ with
  |stuck=>rw[e] at h;exact w1 rfl h
  |exc l ai=>exact w1 e (hn i σ l ai)
  |ok y aE=>
   rw[e] at h
   induction y with
   |none=>exact⟨acc,aE,rfl⟩
   |some y=>
    change(f y aE).bind (λr σ=>ym f nx n (i+1) (opt r acc λz=>app acc [z]) σ)≠.stuck at h
    show ∃lr bZ,(f y aE).bind (λr σ=>ym f nx n (i+1) (opt r acc λz=>app acc [z]) σ) = .ok lr bZ
    induction e1:f y aE with
    |stuck=>rw[e1] at h;exact w1 rfl h
    |exc l ai=>exact w1 e1 (hf y aE l ai)
    |ok r bC=>
     rw[e1] at h
     exact Px hf hn n (i+1) _ bC h
theorem zhj(r:Res β):∀l ai,hH r≠.exc l ai:=λl ai h=>by cases r <;> contradiction
theorem W4{f:AV->az->Option az}{fv:List Nat}{De Dc:RD}(y:AV)(σ:AH):∀l ai,(opt (f y (aY fv ρ)) (Res.stuck:Res (Option AV)) λρ=>hH (xy (Dc ρ) (De ρ) σ))≠.exc l ai:=λl ai h=>by
 induction e:f y (aY fv ρ) with
 |none=>rw[e] at h;contradiction
 |some bo=>rw[e] at h;exact zhj _ l ai h
theorem VJ{v:AV}{u_:AH}{nx:Nx}(e:lH v u_=some nx)(i:Nat)(σ:AH):∀l ai,nx i σ≠.exc l ai:=λl ai h=>by
 induction v using AV.casesOn with
 |str q s=>
  have e0:lH (.str q s) u_=ak (Nat.beq q 0) (some (uJ (rO s))) none:=rfl
  rw[e0] at e
  induction hq:Nat.beq q 0 with
  |false=>rw[hq] at e;exact NS e
  |true=>rw[hq] at e;obtain rfl:=w3 e;contradiction
 |tup l=>obtain rfl:=w3 e;contradiction
 |obj o=>
  have e0:lH (.obj o) u_=ao.rec (motive:=λ_=>Option Nx) (λ_=>some (Ci o)) (λ_ k es=>some (uF o k (len es))) (λ_=>none) (λ_ _ _=>none) none (λ_=>none) (u_.get o):=rfl
  rw[e0] at e
  induction ed:u_.get o with
  |list l=>
   rw[ed] at e;obtain rfl:=w3 e
   unfold Ci zh at h
   cases iR:σ.get o <;> rw[iR] at h <;> contradiction
  |dict u k es=>
   rw[ed] at e;obtain rfl:=w3 e
   unfold uF at h
   induction iR:σ.get o with
   |dict u' k' cQ=>
    rw[iR] at h
    change ak u' Res.stuck (ak (Nat.beq k k') (ak (Nat.beq (len es) (len cQ)) (ak (ix cQ) (Res.ok (dF (jt cQ) i) σ) .stuck) .stuck) .stuck) = .exc l ai at h
    induction u' with
    |true=>contradiction
    |false=>
     change ak (Nat.beq k k') (ak (Nat.beq (len es) (len cQ)) (ak (ix cQ) (Res.ok (dF (jt cQ) i) σ) .stuck) .stuck) .stuck = .exc l ai at h
     induction q1:Nat.beq k k' with
     |false=>rw[q1] at h;contradiction
     |true=>
      rw[q1] at h
      change ak (Nat.beq (len es) (len cQ)) (ak (ix cQ) (Res.ok (dF (jt cQ) i) σ) .stuck) .stuck = .exc l ai at h
      induction q2:Nat.beq (len es) (len cQ) with
      |false=>rw[q2] at h;contradiction
      |true=>
       rw[q2] at h
       change ak (ix cQ) (Res.ok (dF (jt cQ) i) σ) .stuck = .exc l ai at h
       cases q3:ix cQ <;> rw[q3] at h <;> contradiction
   |_=>rw[iR] at h;contradiction
  |_=>rw[ed] at e;exact NS e
 |_=>exact NS e
theorem Xj{G:Gl}{fv:List Nat}{t elt iter:Expr}{ifs:List Expr}{f:AV->az->Option az}{De Dc Di:RD}(P:cj prog c A env L G scope fv t elt iter ifs f De Dc Di):
  SE prog c A env L (.ListComp elt [⟨t,iter,ifs,0⟩] scope pos) (B1 G f fv De Dc Di):=by
 refine SE.l7 (d:=λρ σ=>((Di ρ).v σ).bind λv σ=>opt (lH v σ) .stuck λnx=>
  (ym (λy σ=>opt (f y (aY fv ρ)) .stuck λρ=>hH (xy (Dc ρ) (De ρ) σ)) nx G.fu 0 [] σ).bind λr σ=>ye (.list r) σ) (λμ σ s ρ m H F R hR aA=>?_) λ_=>rfl
 rw[eval_ListComp]
 refine wpAny_comprehension_free (use:=none) rfl P.hs P.D6 P.CO.kind P.CO.names ?_
 refine WP.into (.refl _ _ _) (.refl _) (P.hi.v μ σ s ρ m H F) hR aA λy aE cq v s1 H1 X1 X r e er=>?_
 have F1:=F.on H X1
 induction en:lH y aE with
 |none=>rw[en] at er;exact w1 er aA
 |some nx=>
  rw[en] at er
  replace er:_=(ym (λy σ=>opt (f y (aY fv ρ)) .stuck λρ=>hH (xy (Dc ρ) (De ρ) σ)) nx G.fu 0 [] aE).bind λr σ=>ye (.list r) σ:=er
  have nc:ym (λy σ=>opt (f y (aY fv ρ)) .stuck λρ=>hH (xy (Dc ρ) (De ρ) σ)) nx G.fu 0 [] aE≠.stuck:=λz=>aA (by rw[er,z];rfl)
  refine eQ (Px W4 (VJ en) G.fu 0 [] aE nc) λlr bZ ec=>?_
  rw[ec] at er
  refine eQ (XG (prog:=prog) P.hh P.bq H1 r en (WJ nc P.fu.2)) λPi oi K=>?_
  refine K.make _ _ ?_
  refine Wb (RR:=λacc C=>compPost (model prog c.w) A (PE c _ μ σ s) none (PQ c (RV c) _ μ σ s) acc C) P.EO P.CO P.hT P.he P.hc K.io P.fu.1 P.wM H1 F1 K.pI K.live (λi L' aj ai s' S' I' ns=>K.step i aj ai s' S'.ex S'.hr I'.obj ns) K.self ec λacc C aj s' S' X'=>?_
  refine oE S'.fr λm' F'=>?_
  refine aT m' F'.ns (λh' sb=>?_)
  refine oA (Wj S' X' (h':=h') sb) λH2 X2=>?_
  refine PQ.fin H2 (X.trans X2) ((e.trans S'.sm).trans ⟨rfl,rfl,rfl⟩) er ?_
  have:=VR.obj (c:=c) (μ:=yg aj bZ.n acc) (n:=bZ.n+1) (h:=h') (i:=bZ.n) (wb _)
  rw[zz] at this
  exact this
theorem Xv{G:Gl}{fv:List Nat}{t elt iter:Expr}{ifs:List Expr}{f:AV->az->Option az}{De Dc Di:RD}{py GI:Pos}{y:Nat}(P:cj prog c A env L G scope fv t elt iter ifs f De Dc Di)(hy:mN env L y)(Iy:swapsWith (.ListComp elt [⟨t,iter,ifs,0⟩] scope pos) (some (.Name (nm y) py)) GI.line env=pure true):
  SS prog c A env L (.Assign [.Name (nm y) py] (.ListComp elt [⟨t,iter,ifs,0⟩] scope pos) GI) (r_ y (B1 G f fv De Dc Di)):=λa9 ae aa μ σ s ρ S0 ns=>by
 refine oE S0.fr λm F=>?_
 rw[exec_Assign_Name_used _ _ _ _ Iy]
 refine wg (wk (wg ?_))
 show wpAny _ A (do let _<-comprehension (.ListComp elt [⟨t,iter,ifs,0⟩] scope pos) scope env _ (newList []) false (eval iter env) (some (assign (.Name (nm y) py) env))) _ _ s
 refine wg (wj (wpAny_comprehension_free (use:=some (assign (.Name (nm y) py) env)) (Q:=λ_ s'=>SQ c A (r_ y (B1 G f fv De Dc Di) ρ σ) a9 ae aa L .next s') rfl P.hs P.D6 P.CO.kind P.CO.names ?_) (λ_ s' hq=>wh (wh hq)) λ_ _ e=>e)
 have e0:r_ y (B1 G f fv De Dc Di) ρ σ = ((Di ρ).v σ).bO ρ λv σ=>(opt (lH v σ) .stuck λnx=>(ym (λy σ=>opt (f y (aY fv ρ)) .stuck λρ=>hH (xy (Dc ρ) (De ρ) σ)) nx G.fu 0 [] σ).bind λr σ=>ye (.list r) σ).bO ρ λv σ=>.ok .next (zd ρ y v) σ:=by
  show(((Di ρ).v σ).bind _).bO ρ _=_
  cases(Di ρ).v σ <;> rfl
 refine WP.cM S0 (P.hi.v μ σ s ρ m S0.hr F) e0 ns λv0 aE cq v s1 S1 X1 r er=>?_
 refine cps λ_ κ=>?_;refine oE S1.fr λm1 F1=>?_
 induction en:lH v0 aE with
 |none=>rw[en] at er;exact w1 er ns
 |some nx=>
  rw[en] at er
  replace er:_=((ym (λy σ=>opt (f y (aY fv ρ)) .stuck λρ=>hH (xy (Dc ρ) (De ρ) σ)) nx G.fu 0 [] aE).bind λr σ=>ye (.list r) σ).bO ρ λv σ=>.ok .next (zd ρ y v) σ:=er
  have nc:ym (λy σ=>opt (f y (aY fv ρ)) .stuck λρ=>hH (xy (Dc ρ) (De ρ) σ)) nx G.fu 0 [] aE≠.stuck:=λz=>ns (by rw[er,z];rfl)
  refine eQ (Px W4 (VJ en) G.fu 0 [] aE nc) λlr bZ ec=>?_
  rw[ec] at er
  replace er:_=XR.ok .next (zd ρ y (.obj bZ.n)) (bZ.push (.list lr)):=er
  refine eQ (XG (prog:=prog) P.hh P.bq S1.hr r en (WJ nc P.fu.2)) λPi oi K=>?_
  refine κ ?_;clear κ;refine K.make _ _ ?_
  refine Wb (RR:=λacc C=>compPost (model prog c.w) A (d7 c A (r_ y (B1 G f fv De Dc Di) ρ σ) a9 ae aa L) (some (assign (.Name (nm y) py) env)) (λ_ s'=>SQ c A (r_ y (B1 G f fv De Dc Di) ρ σ) a9 ae aa L .next s') acc C)
   P.EO P.CO P.hT P.he P.hc K.io P.fu.1 P.wM S1.hr F1 K.pI K.live (λi L' aj ai s' S' I' ns=>K.step i aj ai s' S'.ex S'.hr I'.obj ns) K.self ec λacc C aj s' S' X'=>?_
  refine cps λ_ κ=>?_;refine oE S'.fr λm' F'=>?_
  refine oA (Wj S' X' (h':=s'.heap) (Heap.SameBut.refl _ _)) λH2 X2=>?_
  have S2:=S1.step H2 X2 S'.sm
  have rv:VR c (yg aj bZ.n acc) (bZ.push (.list lr)).n s'.heap (.obj bZ.n) (.ref acc):=by
   have:=VR.obj (c:=c) (μ:=yg aj bZ.n acc) (n:=bZ.n+1) (h:=s'.heap) (i:=bZ.n) (wb _)
   rw[zz] at this
   exact this
  refine κ ?_;clear κ;show wpAny _ A (assign (.Name (nm y) py) env (.ref acc)) _ _ s'
  have iU:s1.heap.get? C=none:=S'.out C (.inl rfl)
  have hC:∀b,L.iM b->b≠C:=λb hb z=>by
   refine oE (F1.has hb).2.2.1 λo ho=>?_
   rw[z,iU] at ho;exact NS ho
  have sP:∀p∈L.all,p.2≠C:=λp hp z=>by
   refine c6 (F1.dj p hp) λ_ _ q9=>?_;refine bw q9 λw o ho _=>?_
   rw[z,iU] at ho;exact NS ho
  have Lh:aa.heap.get? C=none:=S1.ex.none iU
  have Ds:∀i,i<(bZ.push (.list lr)).n->yg aj bZ.n acc i≠C:=λi hi z=>by
   by_cases q:i < bZ.n
   ·rw[y8 q] at z;exact F'.own i q z
   ·have gH:i < bZ.n+1:=hi
    obtain rfl:i = bZ.n:=HW gH q
    rw[zz] at z
    exact X'.ne (.inl z)
  have step:∀s3,ax c A a9 ae aa L (yg aj bZ.n acc) (bZ.push (.list lr)) (zd ρ y (.obj bZ.n)) s3->s3.heap.Ns C m'->∃m,s3.heap.Ns C m/\∀h',Heap.SameBut C s3.heap h'->SQ c A (r_ y (B1 G f fv De Dc Di) ρ σ) a9 ae aa L .next { s3 with heap:=h' }:=λs3 S3 N3=>by
   refine aT m' N3 (λh' sb=>⟨.next,zd ρ y (.obj bZ.n),bZ.push (.list lr),yg aj bZ.n acc,er,?_,rfl⟩)
   refine S3.other (b:=C) Ds (S'.fr.elim λm F=>(F.has (.inl rfl)).1) (λz=>hC C z rfl) sP Lh (λo eo=>W6 N3 eo) (λfs pR e he hf=>?_) (λb o ne eb=>(sb.2 b ne).trans eb) ⟨rfl,rfl,rfl⟩
   refine dR F1.fG λIl vV _ ir=>?_
   obtain rfl:=w3 (pR.symm.trans vV)
   refine au (ir e he C hf).2 λo eo _=>?_
   rw[iU] at eo;exact NS eo
  refine oE S2.fr λm2 F2=>?_
  refine wpAny_assign_Name ?_
  rcases hy with⟨hx,hn⟩ | ⟨hx,ca,hn,DN⟩
  ·refine wpAny_storeName_local hx (P.EO.loc▸F2.ns) (λh' DP hs=>?_) (JH P.EO)
   rw[P.EO.loc] at DP hs
   refine cps λ_ κ=>?_;refine c6 (S2.iF (s':={ s' with heap:=h',toks:=s'.toks+1 }) F2 hs ⟨rfl,rfl,rfl⟩ hn rv DP) λ_ a b=>?_
   refine κ ?_;clear κ;exact step _ a (F'.ns.sameBut hs (Ne.symm (hC L.a (.inl rfl))))
  ·refine cps λ_ κ=>?_;obtain⟨_,_,w,hw⟩:=F2.dj _ (y6 hn)
   refine κ ?_;clear κ;refine wpAny_storeName_cell P.EO.kind hx (by rw[P.EO.dj];exact hn) hw λh' hc hs=>?_
   refine oA (S2.n_ (s':={ s' with heap:=h' }) F2 hs ⟨rfl,rfl,rfl⟩ hn DN rv hc) λa b=>?_
   exact step _ a (F'.ns.sameBut hs (Ne.symm (sP _ (y6 hn))))
end
theorem Xe(i j:Int):iadd i j=i+j:=by
 induction i with
 |ofNat m=>induction j with
  |ofNat n=>rfl
  |negSucc n=>rfl
 |negSucc m=>rfl
theorem zjt(a b:List Nat):S a++S b=S (a++b):=by
 show Str.mk (a.toArray++b.toArray)=Str.mk (a++b).toArray
 simp
theorem zr(a:List Nat):(S a).length=a.length:=by
 show a.toArray.size=_
 simp
theorem z8{b:Bool}{t z:β}(h:ak b t z≠z):b=true/\ak b t z=t:=by
 induction b with
 |true=>exact⟨rfl,rfl⟩
 |false=>exact w1 rfl h
theorem oB{b:Bool}{t z:β}{P:Prop}(h:ak b t z≠z)(k:b=true->ak b t z=t->t≠z->P):P:=by
 cases b with
 |true=>exact k rfl rfl h
 |false=>exact w1 rfl h
theorem Fd{o:Option α}{z:β}{f:α->β}{P:Prop}(h:opt o z f≠z)(k:∀a,o=some a->opt o z f=f a->f a≠z->P):P:=by
 cases o with
 |none=>exact w1 rfl h
 |some a=>exact k a rfl rfl h
theorem Dr{b:Bool}{r:Res β}(h:guard b r≠.stuck):b=true/\guard b r=r:=by
 induction b with
 |true=>exact⟨rfl,rfl⟩
 |false=>exact w1 rfl h
theorem zio{o:Nat}{l:List AV}{f:List AV->Res β}(e:σ.get o = .list l):zh σ o f=f l:=by unfold zh;rw[e];rfl
theorem yj{o:Nat}{f:List AV->Res β}(h:zh σ o f≠.stuck):∃l,σ.get o = .list l/\zh σ o f=f l:=by
 induction e:σ.get o with
 |list l=>exact aT l rfl (zio e)
 |_=>refine w1 ?_ h;unfold zh;rw[e];rfl
theorem HO{o:Nat}{f:List AV->Res β}{P:Prop}(h:zh σ o f≠.stuck)(k:∀l,σ.get o = .list l->zh σ o f=f l->f l≠.stuck->P):P:=by
 refine au (yj h) λl e e'=>?_
 exact k l e e' λz=>h (e'.trans z)
theorem W9{o:Nat}{f:Bool->List (List Nat×AV)->Res β}(h:xd σ o f≠.stuck):∃u k es,σ.get o = .dict u k es/\xd σ o f=f u es:=by
 induction e:σ.get o with
 |dict u k es=>exact CC u k es rfl (by unfold xd;rw[e];rfl)
 |_=>refine w1 ?_ h;unfold xd;rw[e];rfl
theorem HR.listOf(H:HR c μ σ h){o:Nat}(ho:o < σ.n){l:List AV}(e:σ.get o = .list l):∃vs n,h.get? (μ o)=some { cls:=.type "list",data:=.seq vs.toArray n }/\aH c μ σ.n h l vs:=H.Ec ho e λvs n a b=>⟨vs,n,a,b⟩
section
variable{b:Bool}{t z r:β}{P:Prop}(ns:r≠z)
include ns
theorem bT(e:ak b t z=r)(k:b=true->t=r->P):P:=by
 cases b with
 |true=>exact k rfl e
 |false=>exact w1 e.symm ns
theorem fC{o:Option α}{f:α->β}(e:opt o z f=r)(k:∀a,o=some a->f a=r->P):P:=by
 cases o with
 |none=>exact w1 e.symm ns
 |some a=>exact k a rfl e
end
theorem jE{b:Bool}{t z r:β}{P:Prop}(e:ak b t z=r)(k:b=true->t=r->P)(k':b=false->z=r->P):P:=by
 cases b with
 |true=>exact k rfl e
 |false=>exact k' rfl e
theorem M6{o:Nat}{f:List AV->Res β}{r:Res β}{P:Prop}(ns:r≠.stuck)(e:zh σ o f=r)(k:∀l,σ.get o = .list l->f l=r->P):P:=HO (λz=>ns (e.symm.trans z)) λl a b _=>k l a (b.symm.trans e)
theorem Ys{o:Nat}{f:Bool->List (List Nat×AV)->Res β}{r:Res β}{P:Prop}(ns:r≠.stuck)(e:xd σ o f=r)(k:∀u k es,σ.get o = .dict u k es->f u es=r->P):P:=by
 refine dY (W9 (λz=>ns (e.symm.trans z))) λu j es a b=>?_
 exact k u j es a (b.symm.trans e)
theorem HT{f:AV->Res β}(h:mE args f≠.stuck):∃a,args=[a]:=match args,h with
 |[a],_=>⟨a,rfl⟩
 |[],h=>w1 rfl h
 |_::_::_,h=>w1 rfl h
theorem HQ{f:AV->AV->Res β}(h:j' args f≠.stuck):∃a b,args=[a,b]:=match args,h with
 |[a,b],_=>⟨a,b,rfl⟩
 |[],h=>w1 rfl h
 |[_],h=>w1 rfl h
 |_::_::_::_,h=>w1 rfl h
section
variable{M:AV->Value->Prop}{a:AV}
@[elab_as_elim]
theorem VR.on{i:Nat->Int->Res β}{t:Nat->List Nat->Res β}{u:List AV->Res β}{o:Nat->Res β}(r:VR c μ n h a v)(ns:a.on .stuck i t u o≠.stuck)(ki:∀q j x,i q j≠.stuck->M (.int q j) (.int (c.off q+j) x))(kt:∀q y x,t q y≠.stuck->M (.str q y) (.str (S (c.wrap q y)) x))(ku:∀l vs b,u l≠.stuck->IsTup h b vs.toArray->aH c μ n h l vs->M (.tup l) (.ref b))(ko:∀j,o j≠.stuck->j<n->M (.obj j) (.ref (μ j))):M a v:=by
 revert ns
 induction r using vC with
 |int q j x=>exact ki q j x
 |str q y x=>exact kt q y x
 |tup x y=>exact λz=>ku _ _ _ z x y
 |obj x=>exact λz=>ko _ z x
 |_=>exact λz=>w1 rfl z
section
variable{r0:Res β}(r:VR c μ n h a v)(ns:r0≠.stuck)
include r ns
@[elab_as_elim]
theorem VR.eS{f:Nat->List Nat->Res β}(e:sj a f=r0)(k:∀q s t,f q s=r0->M (.str q s) (.str (S (c.wrap q s)) t)):M a v:=by
 revert e
 induction r using vC with
 |str q y x=>exact k q y x
 |_=>exact λe=>w1 e.symm ns
@[elab_as_elim]
theorem VR.eI{f:Nat->Int->Res β}(e:l5 a f=r0)(k:∀q i t,f q i=r0->M (.int q i) (.int (c.off q+i) t)):M a v:=by
 revert e
 induction r using vC with
 |int q y x=>exact k q y x
 |_=>exact λe=>w1 e.symm ns
@[elab_as_elim]
theorem VR.eO{f:Nat->Res β}(e:sh a f=r0)(k:∀i,f i=r0->i<n->M (.obj i) (.ref (μ i))):M a v:=by
 revert e
 induction r using vC with
 |obj x=>exact λe=>k _ e x
 |_=>exact λe=>w1 e.symm ns
@[elab_as_elim]
theorem VR.eN{f:Nat->Nat->Res β}(e:Bn a f=r0)(k:∀q j t,f q j=r0->M (.int q (.ofNat j)) (.int (c.off q + .ofNat j) t)):M a v:=r.eI ns e λq i t=>match i with
 |.ofNat j=>k q j t
 |.negSucc _=>λz=>w1 z.symm ns
@[elab_as_elim]
theorem VR.eE{n':Res β}{f:Int->Res β}(e:qO a n' f=r0)(kn:n'=r0->M .none .none)(ki:∀i t,f i=r0->M (.int 0 i) (.int i t)):M a v:=by
 revert e
 induction r using vC with
 |none=>exact kn
 |int q i t=>exact λe=>bT ns e λh=>z5 h λe=>Eq.subst (motive:=λz=>M (.int 0 i) (.int z t)) (Int.zero_add i).symm (ki i t e)
 |_=>exact λe=>w1 e.symm ns
end
@[elab_as_elim]
theorem VR.oS{f:Nat->List Nat->Res β}(r:VR c μ n h a v)(ns:sj a f≠.stuck)(k:∀q s t,f q s≠.stuck->M (.str q s) (.str (S (c.wrap q s)) t)):M a v:=r.on ns (λ_ _ _ z=>w1 rfl z) k (λ_ _ _ z=>w1 rfl z) λ_ z=>w1 rfl z
@[elab_as_elim]
theorem VR.oI{f:Nat->Int->Res β}(r:VR c μ n h a v)(ns:l5 a f≠.stuck)(k:∀q i t,f q i≠.stuck->M (.int q i) (.int (c.off q+i) t)):M a v:=r.on ns k (λ_ _ _ z=>w1 rfl z) (λ_ _ _ z=>w1 rfl z) λ_ z=>w1 rfl z
@[elab_as_elim]
theorem VR.oO{f:Nat->Res β}(r:VR c μ n h a v)(ns:sh a f≠.stuck)(k:∀i,f i≠.stuck->i<n->M (.obj i) (.ref (μ i))):M a v:=r.on ns (λ_ _ _ z=>w1 rfl z) (λ_ _ _ z=>w1 rfl z) (λ_ _ _ z=>w1 rfl z) k
@[elab_as_elim]
theorem VR.oU{f:List AV->Res β}(r:VR c μ n h a v)(ns:a.on .stuck (λ_ _=>.stuck) (λ_ _=>.stuck) f (λ_=>.stuck)≠.stuck)(k:∀l vs b,f l≠.stuck->IsTup h b vs.toArray->aH c μ n h l vs->M (.tup l) (.ref b)):M a v:=r.on ns (λ_ _ _ z=>w1 rfl z) (λ_ _ _ z=>w1 rfl z) k λ_ z=>w1 rfl z
@[elab_as_elim]
theorem VR.oN{f:Nat->Nat->Res β}(r:VR c μ n h a v)(ns:Bn a f≠.stuck)(k:∀q j t,f q j≠.stuck->M (.int q (.ofNat j)) (.int (c.off q + .ofNat j) t)):M a v:=r.oI ns λq i t=>match i with
 |.ofNat j=>k q j t
 |.negSucc _=>λz=>w1 rfl z
end
theorem za{q k:Nat}(h:Nat.beq q k=true):q=k:=w4 h
theorem y7(c:Cx):c.off 0=0:=rfl
theorem b9.tok(s:Shared)(k:Nat):b9 s { s with toks:=k }:=⟨rfl,rfl,rfl⟩
section
theorem PQ.tok{a:Value}{b:AV}{rr:Res AV}{k:Nat}(H:HR c μ σ s.heap)(er:rr = .ok b σ)(x:VR c μ σ.n s.heap b a):PQ c (RV c) rr μ σ s a { s with toks:=k }:=
 PQ.fin (aw:={ s with toks:=k }) H (.refl _ _ _) ⟨rfl,rfl,rfl⟩ er x
theorem VR.cy{q:Nat}{i k:Int}{t:Tok}(h:c.off q+i=k):VR c μ σ.n s.heap (.int q i) (.int k t):=by
 rw[<-h];exact .int q i t
theorem VR.lz{q:Nat}{x:List Nat}{y:Str}{t:Tok}(h:S (c.wrap q x)=y):VR c μ σ.n s.heap (.str q x) (.str y t):=by
 rw[<-h];exact .str q x t
theorem zl8(q:Nat)(x y:List Nat)(h:q<=1):c.wrap q (x++y)=c.wrap q x++y:=by
 match q,h with
 |0,_=>rfl
 |1,_=>show c.P++(x++y)=c.P++x++y;rw[List.append_assoc]
theorem zl3(q:Nat)(x:List Nat)(h:q<=1):(c.wrap q x).length<=c.P.length+x.length:=by
 match q,h with
 |0,_=>show x.length<=_;exact Nat.le_add_left _ _
 |1,_=>show(c.P++x).length<=_;simp
theorem W'{op:Value->Value->Sem Value}(ho:∀(x y:Str) (t u:Tok) (s:Shared) (Q:Value->Shared->Prop) E,(∀t' k,Q (.str (x++y) t') { s with toks:=k })->x.length+y.length<=sizeLine->wpAny (model prog c.w) A (op (.str x t) (.str y u)) Q E s)(hP:c.P.length<=1000000){q q':Nat}{x y:List Nat}{t u:Tok}(H:HR c μ σ s.heap)(ns:mS q x q' y σ≠.stuck):
  wpAny (model prog c.w) A (op (.str (S (c.wrap q x)) t) (.str (S (c.wrap q' y)) u)) (PQ c (RV c) (mS q x q' y σ) μ σ s) (PE c (mS q x q' y σ) μ σ s) s:=by
 unfold mS at ns ⊢
 refine oA (z8 ns) λh1 e1=>?_
 rw[e1] at ns ⊢
 unfold pl at ns ⊢
 refine oA (z8 ns) λh2 e2=>?_
 rw[e2] at ns ⊢
 refine oA (z8 ns) λh3 e3=>?_
 rw[e3] at ns ⊢
 obtain rfl:=za h2
 have hq:q<=1:=w5 h1
 have hl:=w5 h3
 rw[zb,zb] at hl
 have hw:=zl3 (c:=c) q x hq
 refine ho _ _ _ _ _ _ _ (λt' k=>PQ.tok H rfl (VR.lz ?_)) ?_
 ·rw[j9,zl8 q x y hq,<-zjt];rfl
 ·rw[zr,zr,sizeLine_eq]
  have:(c.wrap 0 y).length=y.length:=rfl
  lia
theorem X0{op:Value->Value->Sem Value}(ho:∀(a b:Int) (t u:Tok) (s:Shared) (Q:Value->Shared->Prop) E,Q (.int (a+b) s.toks) { s with toks:=s.toks+1 }->wpAny (model prog c.w) A (op (.int a t) (.int b u)) Q E s){q q':Nat}{i j:Int}{t u:Tok}(H:HR c μ σ s.heap)(ns:mQ q i q' j σ≠.stuck):
  wpAny (model prog c.w) A (op (.int (c.off q+i) t) (.int (c.off q'+j) u)) (PQ c (RV c) (mQ q i q' j σ) μ σ s) (PE c (mQ q i q' j σ) μ σ s) s:=by
 unfold mQ at ns ⊢
 rcases xu (Nat.beq q' 0) (Res.ok (AV.int q (iadd i j)) σ) (ak (Nat.beq q 0) (.ok (.int q' (iadd i j)) σ) .stuck) with⟨h1,e1⟩ | ⟨h1,e1⟩
 ·rw[e1]
  obtain rfl:=za h1
  refine ho _ _ _ _ _ _ _ (PQ.tok H rfl (VR.cy ?_))
  rw[Xe,y7];lia
 ·rw[e1] at ns ⊢
  refine oA (z8 ns) λh2 e2=>?_
  rw[e2]
  obtain rfl:=za h2
  refine ho _ _ _ _ _ _ _ (PQ.tok H rfl (VR.cy ?_))
  rw[Xe,y7];lia
theorem zm7{l m:List AV}{a b:Value}(H:HR c μ σ s.heap)(r:VR c μ σ.n s.heap (.tup l) a)(r':VR c μ σ.n s.heap (.tup m) b)(ns:mT l m σ≠.stuck):
  wpAny (model prog c.w) A (binaryOp .Add a b) (PQ c (RV c) (mT l m σ) μ σ s) (PE c (mT l m σ) μ σ s) s:=by
 unfold mT at ns ⊢
 refine oA (z8 ns) λh1 e1=>?_
 rw[e1]
 have hl:=w5 h1
 rw[zb,zb] at hl
 cases r with
 |@tup _ vs ta ht rs=>
 cases r' with
 |@tup _ ws tb hb eZ=>
 have z1:=rs.len
 have z2:=eZ.len
 refine cps λ_ κ=>?_;refine au (id ht) ?_;rintro ⟨cls,dd,data,sl⟩ ho q9;obtain⟨hc,n,hd⟩:=q9
 refine au (id hb) ?_;rintro ⟨Yq,KV,data2,OD⟩ lV q9;obtain⟨Rm,n2,hd2⟩:=q9
 simp only at hc hd Rm hd2
 subst hc hd Rm hd2
 have e:vs.toArray++ws.toArray=(vs++ws).toArray:=by simp
 by_cases hv:vs=[]
 ·subst hv
  refine κ ?_;clear κ;refine concat_meets ⟨_,ho,rfl⟩ ⟨_,lV,rfl⟩ noFill_tuple_add seq_tuple_add PySem.F.slot_tuple_add PySem.F.entry_tuple_add (PySem.F.args_tuple_add_2 _ _)
   (tuple_addW0 ta tb _ ws.toArray n n2 dd KV sl OD (by simp)) ⟨ho,lV,?_⟩
  cases rs
  exact PQ.fin H (.refl _ _ _) (.refl _) rfl (.tup hb eZ)
 ·by_cases hw:ws=[]
  ·subst hw
   refine κ ?_;clear κ;refine concat_meets ⟨_,ho,rfl⟩ ⟨_,lV,rfl⟩ noFill_tuple_add seq_tuple_add PySem.F.slot_tuple_add PySem.F.entry_tuple_add (PySem.F.args_tuple_add_2 _ _)
    (tuple_addW1 ta tb vs.toArray _ n n2 dd KV sl OD (by simpa using hv) (by simp)) ⟨ho,lV,?_⟩
   cases eZ
   exact PQ.fin H (.refl _ _ _) (.refl _) (by rw[j9,List.append_nil]) (.tup ht rs)
  ·refine κ ?_;clear κ;refine concat_meets ⟨_,ho,rfl⟩ ⟨_,lV,rfl⟩ noFill_tuple_add seq_tuple_add PySem.F.slot_tuple_add PySem.F.entry_tuple_add (PySem.F.args_tuple_add_2 _ _)
    (tuple_addW2 ta tb vs.toArray ws.toArray n n2 dd KV sl OD (by simpa using hv) (by simpa using hw) (by rw[List.size_toArray,List.size_toArray,sizeLine_eq];exact pG z1 z2 hl rfl)) ⟨ho,lV,?_⟩
   rw[e]
   have G:=H.push { cls:=.type "tuple",data:=.seq (vs++ws).toArray }
   refine PQ.fin (aw:={ s with heap:=s.heap.push { cls:=.type "tuple",data:=.seq (vs++ws).toArray } }) G.1 G.2 ⟨rfl,rfl,rfl⟩ rfl (.tup ⟨_,we _ rfl,rfl,_,rfl⟩ ?_)
   rw[j9]
   exact(rs.app eZ).ext H G.2
theorem zmg{o p:Nat}(H:HR c μ σ s.heap)(ho:o < σ.n)(hp:p < σ.n)(ns:mR o p σ≠.stuck):
  wpAny (model prog c.w) A (binaryOp .Add (.ref (μ o)) (.ref (μ p))) (PQ c (RV c) (mR o p σ) μ σ s) (PE c (mR o p σ) μ σ s) s:=by
 unfold mR at ns ⊢
 refine au (yj ns) λl el e1=>?_
 rw[e1] at ns ⊢
 refine au (yj ns) λm em e2=>?_
 rw[e2] at ns ⊢
 refine oA (z8 ns) λh1 e3=>?_
 have hl:=w5 h1
 rw[zb,zb] at hl
 refine bw (H.listOf ho el) λvs n bJ rs=>?_
 refine bw (H.listOf hp em) λws n' qD eZ=>?_
 have z1:=rs.len
 have z2:=eZ.len
 refine P.add_list bJ qD ?_ (by rw[List.size_toArray,List.size_toArray,sizeLine_eq];exact pG z1 z2 hl rfl)
 have e4:vs.toArray++ws.toArray=(vs++ws).toArray:=by simp
 rw[e4]
 have XX:=(H.push { cls:=.type "list",data:=.seq (vs++ws).toArray }).2
 have G:=H.alloc (o:={ cls:=.type "list",data:=.seq (vs++ws).toArray }) (a:=.list (app l m)) rfl (.list (by
  rw[j9]
  exact((rs.app eZ).ext H XX).mono (Nat.le_succ _) (λi hi=>y8 hi) (λ_ _ e _=>e)))
 refine PQ.fin (aw:={ s with heap:=s.heap.push { cls:=.type "list",data:=.seq (vs++ws).toArray } }) G.1 G.2 ⟨rfl,rfl,rfl⟩ e3 ?_
 have:=VR.obj (c:=c) (μ:=yg μ σ.n s.heap.objs.size) (n:=σ.n+1) (h:=s.heap.push { cls:=.type "list",data:=.seq (vs++ws).toArray }) (i:=σ.n) (wb _)
 rw[zz] at this
 exact this
theorem xV(hP:c.P.length<=1000000):ov prog c A (binaryOp .Add) (bh 0):=λμ σ s y z v w H ry rz ns=>
 ry.on (M:=λy v=>WP prog c A (RV c) (binaryOp .Add v w) (HC y z σ) μ σ s) (show HC y z σ≠.stuck from ns)
  (λ_ _ _ ns=>rz.oI ns λ_ _ _ ns _=>X0 (λa b t u s Q E h=>P.add_int h) H ns)
  (λ_ _ _ ns=>rz.oS ns λ_ _ _ ns _=>W' (λx y t u s Q E h hz=>SB.add h hz) hP H ns)
  (λ_ _ _ ns ht rs=>rz.oU ns λ_ _ _ ns DY eZ _=>zm7 H (.tup ht rs) (.tup DY eZ) ns)
  (λo ns hi=>rz.oO ns λ_ ns hj _=>zmg H hi hj ns) ns
end
theorem xf{i:Int}(h:yy i=true):-(2 ^ 60)<=i/\i<2 ^ 60:=by
 induction i with
 |ofNat k=>
  have:Nat.blt k 1152921504606846976=true:=h
  have:=w5 this
  constructor
  ·exact Int.le_trans (by decide) (Int.natCast_nonneg k)
  ·show(k:Int)<2 ^ 60
   lia
 |negSucc k=>
  have:Nat.blt k 1152921504606846976=true:=h
  have:=w5 this
  constructor
  ·show -(2 ^ 60)<=Int.negSucc k
   rw[Int.negSucc_eq];lia
  ·rw[Int.negSucc_eq];lia
theorem WY{j:Int}(h:nL j=true):¬(j==0)=true:=by
 induction j with
 |ofNat k=>induction k using nC with
  |zero=>exact FT h
  |succ k=>simp;lia
 |negSucc k=>simp
theorem za8{x y:Int}(h:yy y=true):¬(Builtin.divisionGoesByPylong x y)=true:=by
 have:=xf h
 unfold Builtin.divisionGoesByPylong
 simp only[Bool.and_eq_true,decide_eq_true_eq,not_and]
 intro h1
 exfalso
 split at h1
 ·lia
 ·have hn:y.natAbs<2 ^ 61:=by lia
  have:y.natAbs.log2<61:=by
   rcases Nat.eq_zero_or_pos y.natAbs with h0 | hp
   ·rw[h0];decide
   ·exact(Nat.log2_lt (Nat.ne_of_gt hp)).mpr hn
  lia
theorem zi6(s:List Nat)(n:Nat):(List.replicate n s.toArray).foldl (·++·) #[]=(rep s n).toArray:=by
 have key:∀(n:Nat) (a:Array Nat),(List.replicate n s.toArray).foldl (·++·) a=a++(rep s n).toArray:=by
  intro n
  induction n with
  |zero=>intro a;show a=a++([]:List Nat).toArray;simp
  |succ n ih=>
   intro a
   rw[List.replicate_succ,List.foldl_cons,ih]
   show a++s.toArray++(rep s n).toArray=a++(s++rep s n).toArray
   simp
 rw[key];simp
section
theorem yq(i:Int):c.off 0+i=i:=Int.zero_add i
theorem Kg{t:Value->Value->Sem Value}{f:Nat->Int->Nat->Int->AH->Res AV}(h:∀μ σ s q i q' j x u r0,HR c μ σ s.heap->r0≠.stuck->f q i q' j σ = r0->wpAny (model prog c.w) A (t (.int (c.off q+i) x) (.int (c.off q'+j) u)) (PQ c (RV c) r0 μ σ s) (PE c r0 μ σ s) s):
  ov prog c A t λy z σ=>lW y z λq i q' j=>f q i q' j σ:=λμ σ s y z v w H ry rz ns=>
 ry.oI (M:=λy v=>WP prog c A (RV c) (t v w) (lW y z λq i q' j=>f q i q' j σ) μ σ s) ns (λq i x ns=>rz.oI ns λq' j u _=>WP.gn λr0 er ns=>h _ _ _ _ _ _ _ _ _ _ H ns er) ns
theorem yJ: ov prog c A (binaryOp .Sub) (bh 1):=Kg (f:=GQ) λμ σ s q i q' j x u r0 H ns er=>by
 refine jE er (λh1=>z5 h1 λer=>?_) λ_ er=>bT ns er λh2=>z5 h2 λer=>?_
 ·refine P.sub_int (PQ.tok H er.symm (VR.cy ?_))
  rw[yq]
  exact(Int.add_sub_assoc _ _ _).symm
 ·refine P.sub_int (PQ.tok H er.symm (VR.cy ?_))
  show _+(i - j)=_
  rw[yq];lia
theorem zoy{q q':Nat}{i j:Int}{x u:Tok}{r0:Res AV}(H:HR c μ σ s.heap)(ns:r0≠.stuck)(er:EA q i q' j σ = r0):wpAny (model prog c.w) A (binaryOp .Mult (.int (c.off q+i) x) (.int (c.off q'+j) u)) (PQ c (RV c) r0 μ σ s) (PE c r0 μ σ s) s:=by
 refine bT ns er λh1=>z5 h1 λer=>bT ns er λh2=>z5 h2 λer=>bT ns er λh3 er=>?_
 rw[yq,yq]
 refine P.mul_int (PQ.tok H er.symm (VR.cy (yq _))) (jE h3 (λhj _=>?_) λ_ hi=>?_)
 ·have hb:=xf hj
  exact .of_right (intBits_le_64 (by omega) (by omega))
 ·have hb:=xf hi
  exact .of_left (intBits_le_64 (by omega) (by omega))
theorem zpj(k:Nat):rep [] k=[]:=by
 induction k with
 |zero=>rfl
 |succ k ih=>exact ih
theorem zph(x:List Nat)(n:Nat):S (rep x n)=Txt.mul (S x) (n:Int):=by
 unfold Txt.mul
 by_cases h5:(n:Int)<1
 ·rw[if_pos h5]
  obtain rfl:n=0:=by lia
  rfl
 ·rw[if_neg h5]
  by_cases h6:((n:Int)==1||(S x).length==0)=true
  ·rw[if_pos h6]
   rw[Bool.or_eq_true] at h6
   rcases h6 with h6 | h6
   ·obtain rfl:n=1:=by have:=eq_of_beq h6;lia
    exact congrArg S (List.append_nil x)
   ·rw[zr] at h6
    obtain rfl:x=[]:=List.eq_nil_of_length_eq_zero (eq_of_beq h6)
    rw[zpj]
  ·rw[if_neg h6,Int.toNat_natCast]
   show Str.mk (rep x n).toArray=Str.mk ((List.replicate n x.toArray).foldl (·++·) #[])
   rw[zi6]
theorem zp7{q q':Nat}{x:List Nat}{j:Int}{t u:Tok}{r0:Res AV}(H:HR c μ σ s.heap)(ns:r0≠.stuck)(er:EB q x q' j σ = r0):wpAny (model prog c.w) A (binaryOp .Mult (.str (S (c.wrap q x)) t) (.int (c.off q'+j) u)) (PQ c (RV c) r0 μ σ s) (PE c r0 μ σ s) s:=by
 refine bT ns er λh1=>z5 h1 λer=>bT ns er λh2=>z5 h2 λer=>?_
 rw[yq]
 induction j with
 |negSucc k=>exact w1 er.symm ns
 |ofNat n=>
  refine bT ns er λh3 er=>bT ns er λh4 er=>?_
  have b3:=w5 h3
  have b4:=w5 h4
  rw[zb] at b4
  show wpAny _ _ (binaryOp .Mult (.str (S x) t) (.int (n:Int) u)) _ _ _
  refine SB.mul ⟨?_,λh5 _ h6=>?_,λ_ _=>?_⟩ λt' k=>PQ.tok H er.symm (VR.lz (q:=0) (zph x n))
  ·rw[decide_eq_false (show ¬(n:Int) < -(2 ^ 63) from(Int.not_lt_of_ge (Int.ofNat_nonneg _))),decide_eq_false (show ¬(n:Int)>=2 ^ 63 by lia)];rfl
  ·rw[zr] at h6
   have:=Int.lt_mul_of_ediv_lt (show 0<(n:Int) from(Int.le_of_not_gt h5)) h6
   have h7:(x.length:Int) * (n:Int)=((x.length * n:Nat):Int):=(Int.natCast_mul _ _).symm
   lia
  ·unfold Builtin.Str.tooLong
   rw[zr,sizeLine_eq,Int.toNat_natCast]
   exact decide_eq_false (QR b4 rfl)
theorem yC: ov prog c A (binaryOp .Mult) (bh 2):=λμ σ s y z v w H ry rz ns=>
 ry.on (M:=λy v=>WP prog c A (RV c) (binaryOp .Mult v w) (Q8 y z σ) μ σ s) (show Q8 y z σ≠.stuck from ns)
  (λ_ _ _ ns=>rz.oI ns λ_ _ _ _=>WP.gn λ_ er ns=>zoy H ns er)
  (λ_ _ _ ns=>rz.oI ns λ_ _ _ _=>WP.gn λ_ er ns=>zp7 H ns er)
  (λ_ _ _ ns=>w1 rfl ns) (λ_ ns=>w1 rfl ns) ns
theorem xZ: ov prog c A (binaryOp .FloorDiv) (bh 3):=Kg (f:=Df) λμ σ s q i q' j x u r0 H ns er=>by
 refine bT ns er λh1=>z5 h1 λer=>bT ns er λh2=>z5 h2 λer=>bT ns er λh3 er=>bT ns er λh4 er=>?_
 rw[yq,yq]
 exact AutoIntOps.floordiv_1 (WY h3) (za8 h4) (PQ.tok H er.symm (VR.cy (yq _)))
theorem yB: ov prog c A (binaryOp .Mod) (bh 4):=Kg (f:=Ez) λμ σ s q i q' j x u r0 H ns er=>by
 refine bT ns er λh1=>z5 h1 λer=>bT ns er λh2=>z5 h2 λer=>bT ns er λh3 er=>?_
 rw[yq,yq]
 exact AutoIntOps.mod_1 (WY h3) (PQ.tok H er.symm (VR.cy (yq _)))
theorem yE: ov prog c A (binaryOp .Pow) (bh 5):=Kg (f:=Fh) λμ σ s q i q' j x u r0 H ns er=>by
 refine bT ns er λh1=>z5 h1 λer=>bT ns er λh2=>z5 h2 λer=>bT ns er λh3 er=>?_
 rw[yq,yq]
 induction j with
 |negSucc _=>exact w1 er.symm ns
 |ofNat n=>
  refine bT ns er λh4 er=>?_
  have hn:=w5 h4
  have hb:=xf h3
  have YO:Builtin.Int.intBits i<=64:=intBits_le_64 (by lia) (by lia)
  show wpAny _ _ (binaryOp .Pow (.int i x) (.int (n:Int) u)) _ _ _
  refine PyProof.Rows.pow_int (Int.ofNat_nonneg _) ?_ (PQ.tok H er.symm (VR.cy (yq _)))
  have:(Builtin.Int.intBits i:Int) * (n:Int)<=64 * 1000:=by
   have h1:Builtin.Int.intBits i * n<=64 * 1000:=Nat.mul_le_mul YO hn
   exact_mod_cast h1
  lia
noncomputable def qS: Nat->Option Operator
 |0=>some .Add
 |1=>some .Sub
 |2=>some .Mult
 |3=>some .FloorDiv
 |4=>some .Mod
 |5=>some .Pow
 |_=>none
theorem xW(hP:c.P.length<=1000000){op:Operator}(h:qS n=some op):ov prog c A (binaryOp op) (bh n):=by
 match n,h with
 |0,h=>obtain rfl:=w3 h;exact xV hP
 |1,h=>obtain rfl:=w3 h;exact yJ
 |2,h=>obtain rfl:=w3 h;exact yC
 |3,h=>obtain rfl:=w3 h;exact xZ
 |4,h=>obtain rfl:=w3 h;exact yB
 |5,h=>obtain rfl:=w3 h;exact yE
theorem xY(hP:c.P.length<=1000000):px prog c A:=λμ σ s y z v w H ry rz ns=>
 ry.on (M:=λy v=>WP prog c A (RV c) (inplaceOp .Add v w) (Bf y z σ) μ σ s) ns
  (λ_ _ _ _ ns=>rz.oI (M:=λz w=>WP prog c A (RV c) (inplaceOp .Add _ w) (Bf (.int _ _) z σ) μ σ s) ns (λ_ _ _ ns _=>X0 (λa b t u s Q E h=>P.iadd_int h) H ns) ns)
  (λ_ _ _ _ ns=>rz.oS (M:=λz w=>WP prog c A (RV c) (inplaceOp .Add _ w) (Bf (.str _ _) z σ) μ σ s) ns (λ_ _ _ ns _=>W' (λx y t u s Q E h hz=>SB.iadd h hz) hP H ns) ns)
  (λ_ _ _ ns=>w1 rfl ns) (λ_ ns=>w1 rfl ns) ns
theorem yD: v9 prog c A:=λμ σ s y v H ry ns=>
 ry.oI (M:=λy v=>WP prog c A (RV c) (unaryOp .USub v) (Kd y σ) μ σ s) ns (λq i t _=>WP.gn λr0 er ns=>by
  refine bT ns er λh1=>z5 h1 λer=>?_
  rw[yq]
  exact P.neg_int (PQ.tok H er.symm (VR.cy (yq _)))) ns
end
section
open PySem.SeqAt
theorem VM(i j:Int):fZ i j=(i==j):=by
 induction i with
 |ofNat m=>induction j with
  |ofNat n=>
   show Nat.beq m n=_
   induction h:Nat.beq m n with
   |true=>rw[Nat.eq_of_beq_eq_true h];simp
   |false=>
    have:=wm h
    symm;rw[beq_eq_false_iff_ne];intro z;exact this (by injection z)
  |negSucc n=>show false=_;symm;rw[beq_eq_false_iff_ne];intro z;cases z
 |negSucc m=>induction j with
  |ofNat n=>show false=_;symm;rw[beq_eq_false_iff_ne];intro z;cases z
  |negSucc n=>
   show Nat.beq m n=_
   induction h:Nat.beq m n with
   |true=>rw[Nat.eq_of_beq_eq_true h];simp
   |false=>
    have:=wm h
    symm;rw[beq_eq_false_iff_ne];intro z;exact this (by injection z)
theorem CK(s t:List Nat):(S s==S t)=cu s t:=by
 induction h:cu s t with
 |true=>rw[(yd s t).mp h];simp
 |false=>
  rw[beq_eq_false_iff_ne]
  exact λz=>zij h (OS z)
theorem Dk(f:AV->AV->Option Bool)(a:AV)(l m:List AV):sL f (a::l) m=zf m (some false) λb m'=>opt (f a b) none λr=>opt (sL f l m') none λr'=>some (ak r r' false):=rfl
theorem z2c{f:AV->AV->Option Bool}{l:List AV}:∀{m:List AV}{r:Bool},sL f l m=some r->∃g:Nat->Bool,(∀(j:Nat) a b,l[j]? = some a->m[j]? = some b->f a b=some (g j))/\r=((List.range (min l.length m.length)).all g&&l.length==m.length):=by
 induction l with
 |nil=>
  intro m r h
  induction m using lC with
  |nil=>exact aT (λ_=>true) (λj a b h=>NS h) (w3 h).symm
  |cons b m=>exact aT (λ_=>true) (λj a b h=>NS h) ((w3 h).symm.trans (by rw[List.length_nil,Nat.zero_min];rfl))
 |cons a l ih=>
  intro m r h
  induction m using lC with
  |nil=>exact aT (λ_=>true) (λj a b _ h=>NS h) ((w3 h).symm.trans (by rw[List.length_nil,Nat.min_zero];rfl))
  |cons b m=>
   refine fC (λz=>NS z.symm) h λr1 e1 h=>fC (λz=>NS z.symm) h λr2 e2 h=>?_
   refine au (ih e2) λg h1 h2=>?_
   refine aT (λj=>Nat.casesOn j r1 g) (λj x y hx hy=>?_) ?_
   ·induction j using nC with
    |zero=>rw[<-Option.some.inj hx,<-Option.some.inj hy];exact e1
    |succ j=>exact h1 j x y hx hy
   ·rw[<-Option.some.inj h,h2,List.length_cons,List.length_cons,Nat.succ_min_succ,List.range_succ_eq_map,List.all_cons,List.all_map,show(l.length+1==m.length+1)=(l.length==m.length) by rw[Bool.eq_iff_iff,beq_iff_eq,beq_iff_eq];lia]
    cases r1 <;> rfl
section
theorem aH.get{l:List AV}(r:aH c μ n h l vs)(j:Nat)(e:vs[j]? = some v):∃a,l[j]? = some a/\VR c μ n h a v:=by
 have:=r.at j
 induction q:l[j]? with
 |none=>rw[q] at this;rw[this] at e;exact NS e
 |some a=>
  rw[q] at this
  refine au this λw hw x=>?_
  rw[hw] at e;obtain rfl:=w3 e
  exact aT a rfl x
theorem IsTup.uniq{a:Addr}{ws:List Value}(x:IsTup h a vs.toArray)(y:IsTup h a ws.toArray):vs=ws:=by
 refine au x λo e1 q9=>?_;obtain⟨_,n,d1⟩:=q9
 refine au y λo' e2 q9=>?_;obtain⟨_,n',d2⟩:=q9
 rw[e1] at e2;obtain rfl:=w3 e2
 rw[d1] at d2
 cases d2
 simpa using ‹_›
theorem Dj(k:Nat)(a b:AV):Bv (k+1) a b=a.gJ none (b.gJ none (some true) (λ_ _=>some false) (λ_ _=>some false) λ_=>none)
  (λq i=>b.gJ none (some false) (λq' j=>ak (Nat.beq q q') (some (fZ i j)) none) (λ_ _=>none) λ_=>none)
  (λq s=>b.gJ none (some false) (λ_ _=>none) (λq' t=>ak (Nat.beq q 0) (ak (Nat.beq q' 0) (some (cu s t)) none) none) λ_=>none)
  (λl=>b.gJ none none (λ_ _=>none) (λ_ _=>none) λm=>sL (Bv k) l m):=rfl
theorem zg{b:Bool}{x:Option β}{y:β}(h:ak b x none=some y):b=true/\x=some y:=by
 induction b with
 |true=>exact⟨rfl,h⟩
 |false=>exact NS h
@[elab_as_elim]
theorem VR.gJ{M:AV->Value->Prop}{a:AV}{y:β}{fn:Option β}{fi:Nat->Int->Option β}{fs:Nat->List Nat->Option β}{ft:List AV->Option β}(r:VR c μ n h a v)(e:a.gJ Option.none fn fi fs ft=some y)(kn:fn=some y->M .none .none)(ki:∀q i t,fi q i=some y->M (.int q i) (.int (c.off q+i) t))(ks:∀q x t,fs q x=some y->M (.str q x) (.str (S (c.wrap q x)) t))(kt:∀l vs b,ft l=some y->IsTup h b vs.toArray->aH c μ n h l vs->M (.tup l) (.ref b)):M a v:=by
 revert e
 induction r using vC with
 |none=>exact kn
 |int q i t=>exact ki q i t
 |str q i t=>exact ks q i t
 |tup x y=>exact λe=>kt _ _ _ e x y
 |_=>exact λe=>NS e
@[elab_as_elim]
theorem VR.BD{M:AV->Value->Prop}{a:AV}{y:β}{i:Nat->Int->Option β}{t:Nat->List Nat->Option β}{u:List AV->Option β}{o:Nat->Option β}(r:VR c μ n h a v)(e:a.on Option.none i t u o=some y)(ki:∀q j x,i q j=some y->M (.int q j) (.int (c.off q+j) x))(kt:∀q z x,t q z=some y->M (.str q z) (.str (S (c.wrap q z)) x))(ku:∀l vs b,u l=some y->IsTup h b vs.toArray->aH c μ n h l vs->M (.tup l) (.ref b))(ko:∀j,o j=some y->j<n->M (.obj j) (.ref (μ j))):M a v:=by
 revert e
 induction r using vC with
 |int q j x=>exact ki q j x
 |str q z x=>exact kt q z x
 |tup x y=>exact λe=>ku _ _ _ e x y
 |obj x=>exact λe=>ko _ e x
 |_=>exact λe=>NS e
@[elab_as_elim]
theorem VR.onO{M:AV->Value->Prop}{a:AV}{y:β}{f:Nat->Option β}(r:VR c μ n h a v)(e:a.on Option.none (λ_ _=>Option.none) (λ_ _=>Option.none) (λ_=>Option.none) f=some y)(k:∀o,o<n->f o=some y->M (.obj o) (.ref (μ o))):M a v:=by
 revert e
 induction r using vC with
 |obj x=>exact k _ x
 |_=>exact λe=>NS e
inductive BE:Value->Value->Bool->Prop
 |nn:BE .none .none true
 |ni (i t):BE .none (.int i t) false
 |ns (x t):BE .none (.str x t) false
 |iN (i t):BE (.int i t) .none false
 |ii (i t j u):BE (.int i t) (.int j u) (i==j)
 |sN (x t):BE (.str x t) .none false
 |ss (x t y u):BE (.str x t) (.str y u) (x==y)
noncomputable def Bu(v w:Value):Option Bool:=match v,w with
 |.none,.none=>some true
 |.none,.int ..=>some false
 |.none,.str ..=>some false
 |.int ..,.none=>some false
 |.int i _,.int j _=>some (i==j)
 |.str ..,.none=>some false
 |.str x _,.str y _=>some (x==y)
 |_,_=>none
theorem BE.Bu{w:Value}{r:Bool}(x:BE v w r):Bu v w=some r:=by induction x <;> rfl
theorem BE.self{w:Value}{r:Bool}(x:BE v w r)(e:v=w):r=true:=by
 induction x with
 |nn=>rfl
 |ii=>exact beq_iff_eq.mpr (Value.int.inj e).1
 |ss=>exact beq_iff_eq.mpr (Value.str.inj e).1
 |_=>contradiction
def VE(h:Heap):Nat->Value->Value->Bool->Prop
 |0,_,_,_=>False
 |k+1,v,w,r=>BE v w r\/∃a b,∃vs ws:List Value,∃f:Nat->Bool,v = .ref a/\w = .ref b/\IsTup h a vs.toArray/\IsTup h b ws.toArray/\(∀(j:Nat) x y,vs[j]? = some x->ws[j]? = some y->VE h k x y (f j))/\r=((List.range (min vs.length ws.length)).all f&&vs.length==ws.length)
theorem vr{k:Nat}{f g:Nat->Bool}(h:∀j,j<k->f j=g j):(List.range k).all f=(List.range k).all g:=by
 rw[Bool.eq_iff_iff,List.all_eq_true,List.all_eq_true]
 exact⟨λz j hj=>(h j (List.mem_range.mp hj))▸z j hj,λz j hj=>(h j (List.mem_range.mp hj))▸z j hj⟩
theorem VE.det{k:Nat}:∀{k':Nat}{v w:Value}{r r':Bool},VE h k v w r->VE h k' v w r'->r=r':=by
 induction k with
 |zero=>exact λx=>x.elim
 |succ k ih=>
  intro k' v w r r' x y
  induction k' using nC with
  |zero=>exact y.elim
  |succ k'=>
   rcases x with x | ⟨a,b,vs,ws,f,rfl,rfl,h1,h2,h3,h4⟩
   ·rcases y with y | ⟨a,b,vs,ws,f,rfl,rfl,_⟩
    ·exact w3 (x.Bu.symm.trans y.Bu)
    ·exact NS x.Bu
   ·rcases y with y | ⟨a',b',mv,ws',f',e1,e2,g1,g2,g3,g4⟩
    ·exact NS y.Bu
    ·obtain rfl:=Value.ref.inj e1
     obtain rfl:=Value.ref.inj e2
     obtain rfl:=IsTup.uniq h1 g1
     obtain rfl:=IsTup.uniq h2 g2
     rw[h4,g4,vr λj hj=>ih (h3 j _ _ (List.getElem?_eq_getElem (Nat.lt_of_lt_of_le hj (Nat.min_le_left _ _))) (List.getElem?_eq_getElem (Nat.lt_of_lt_of_le hj (Nat.min_le_right _ _))))
      (g3 j _ _ (List.getElem?_eq_getElem (w7 hj (Nat.min_le_left _ _))) (List.getElem?_eq_getElem (w7 hj (Nat.min_le_right _ _))))]
theorem VE.self{k:Nat}:∀{v:Value}{r:Bool},VE h k v v r->r=true:=by
 induction k with
 |zero=>exact λx=>x.elim
 |succ k ih=>
  intro v r x
  rcases x with x | ⟨a,b,vs,ws,f,rfl,e,h1,h2,h3,rfl⟩
  ·exact x.self rfl
  ·obtain rfl:=Value.ref.inj e
   obtain rfl:=IsTup.uniq h1 h2
   rw[Bool.and_eq_true,List.all_eq_true]
   refine⟨λj hj=>?_,beq_self_eq_true _⟩
   have hj:=w7 (List.mem_range.mp hj) (Nat.min_le_left _ _)
   exact ih (h3 j _ _ (List.getElem?_eq_getElem hj) (List.getElem?_eq_getElem hj))
theorem XO{f:AV->AV->Option Bool}{l m:List AV}{ws:List Value}{r:Bool}(rs:aH c μ n h l vs)(eZ:aH c μ n h m ws)(e:sL f l m=some r):
  ∃g:Nat->Bool,(∀(j:Nat) x y,vs[j]? = some x->ws[j]? = some y->∃a b,VR c μ n h a x/\VR c μ n h b y/\f a b=some (g j))/\r=((List.range (min vs.length ws.length)).all g&&vs.length==ws.length):=by
 refine au (z2c e) λg h1 h2=>?_
 refine aT g (λj x y hx hy=>?_) (by rw[h2,rs.len,eZ.len])
 refine au (rs.get j hx) λa e1 x1=>?_
 refine au (eZ.get j hy) λb e2 x2=>?_
 exact Bq a b x1 x2 (h1 j a b e1 e2)
theorem HU{k:Nat}:∀{a b:AV}{v w:Value}{r:Bool},VR c μ n h a v->VR c μ n h b w->Bv k a b=some r->VE h k v w r:=by
 induction k with
 |zero=>exact λ_ _ h=>NS h
 |succ k ih=>
  intro a b v w r ra rb e
  refine ra.gJ e (λe=>rb.gJ e (λe=>.inl (w3 e▸.nn)) (λ_ _ _ e=>.inl (w3 e▸.ni _ _)) (λ_ _ _ e=>.inl (w3 e▸.ns _ _)) λ_ _ _ e=>NS e)
   (λq i t e=>rb.gJ e (λe=>.inl (w3 e▸.iN _ _)) (λq' j u e=>?_) (λ_ _ _ e=>NS e) λ_ _ _ e=>NS e)
   (λq x t e=>rb.gJ e (λe=>.inl (w3 e▸.sN _ _)) (λ_ _ _ e=>NS e) (λq' y u e=>?_) λ_ _ _ e=>NS e)
   λl vs b e h1 rs=>rb.gJ e (λe=>NS e) (λ_ _ _ e=>NS e) (λ_ _ _ e=>NS e) λm ws b' e h2 eZ=>?_
  ·refine bT (λz=>NS z.symm) e λh1 e=>z5 h1 ?_
   have:r=(c.off q'+i==c.off q'+j):=by rw[<-Option.some.inj e,VM,Bool.eq_iff_iff,beq_iff_eq,beq_iff_eq];lia
   rw[this]
   exact .inl (.ii _ _ _ _)
  ·refine bT (λz=>NS z.symm) e λh1 e=>z5 h1 (bT (λz=>NS z.symm) e λh2 e=>z5 h2 ?_)
   rw[<-Option.some.inj e,<-CK]
   exact .inl (.ss _ _ _ _)
  ·refine au (XO rs eZ e) λg g1 g2=>?_
   exact .inr ⟨_,_,vs,ws,g,rfl,rfl,h1,h2,λj x y hx hy=>have⟨_,_,x1,x2,e⟩:=g1 j x y hx hy;ih x1 x2 e,g2⟩
theorem VT{k k':Nat}{a a' b b':AV}{w:Value}{r r':Bool}(ra:VR c μ n h a v)(ra':VR c μ n h a' v)(rb:VR c μ n h b w)(rb':VR c μ n h b' w)(e:Bv k a b=some r)(e':Bv k' a' b'=some r'):r=r':=(HU ra rb e).det (HU ra' rb' e')
end
end
section
open PySem.SeqAt
section
theorem XI{w:Value}{r:Bool}(h:RcAt A s v w r)(Lp:v=w->r=true)(hf:∀x t,v≠.float x t):EqAt A s v w r:=λprog w' E Q hq=>by
 unfold eqBool
 refine wi ?_
 refine wpAny_ite_split (λwH=>?_) (λ_=>?_)
 ·have:=Lp (eq_of_beq wH)
  subst this
  exact wg (wpAny_rule (wh hq))
 ·induction v using Value.casesOn with
  |float x t=>exact w1 rfl (hf x t)
  |_=>exact wg (h prog w' E _ (wpAny_truthy_bool hq))
theorem Q3{k:Nat}:∀{A:Around}{v w:Value}{r:Bool},VE s.heap k v w r->A.units+k<cLine->RcAt A s v w r/\RcNeAt A s v w (!r)/\EqAt A s v w r:=by
 induction k with
 |zero=>exact λx=>x.elim
 |succ k ih=>
  intro A v w r x hu
  rcases id x with y | ⟨a,b,vs,ws,f,e1,e2,h1,h2,h3,h4⟩
  ·suffices hs:RcAt A s v w r/\RcNeAt A s v w (!r) from⟨hs.1,hs.2,XI hs.1 y.self (by induction y <;> exact λ_ _=>nofun)⟩
   induction y with
   |nn=>exact⟨.none_none,.none_none⟩
   |ni=>exact⟨.none_int _ _,.none_int _ _⟩
   |ns=>exact⟨.none_str _ _,.none_str _ _⟩
   |iN=>exact⟨.int_none _ _,.int_none _ _⟩
   |ii=>exact⟨.int_int _ _ _ _,.int_int _ _ _ _⟩
   |sN=>exact⟨.str_none _ _,.str_none _ _⟩
   |ss=>exact⟨.str_str _ _ _ _,.str_str _ _ _ _⟩
  ·have Lp:v=w->r=true:=λz=>VE.self (h:=s.heap) (k:=k+1) (v:=v) (by rw[<-z] at x;exact x)
   subst e1 e2
   have he:∀j (h1:j<vs.toArray.size) (h2:j<ws.toArray.size),EqAt A.in1 s vs.toArray[j] ws.toArray[j] (f j):=λj h1 h2=>(ih (h3 j _ _ (List.getElem?_eq_getElem h1) (List.getElem?_eq_getElem h2)) (by show A.units+1+k<cLine;lia)).2.2
   rw[h4]
   have hs:RcAt A s (.ref a) (.ref b) _/\RcNeAt A s (.ref a) (.ref b) _:=⟨.tuples h1 h2 (gN hu) he,.tuples h1 h2 (gN hu) he⟩
   exact dp hs.1 hs.2 (XI hs.1 (λz=>h4.symm.trans (Lp z)) λ_ _=>nofun)
end
end
section
open PySem.SeqAt
theorem zdv(init:β)(f:Nat->β->Sem (ForInStep β)):(forIn [0:0] init f:Sem β)=pure init:=by
 simp
theorem We: isSubtype (.type "dict") (.type "dict")=pure true:=by rw[isSubtype_type];kernel_rfl
theorem Vi{E:Value->Shared->Prop}{Q:Bool->Shared->Prop}{id:String}(a b:Addr)(es:List DictEntry)(k k':Nat)(ha:s.heap.get? a=some (dictOf es k))(hb:s.heap.get? b=some (dictOf [] k'))(sa:(a==sysModules)=false)(sb:(b==sysModules)=false)(h:Q es.isEmpty s):wpAny M A (Builtin.Dict.samePairs id a b) Q E s:=by
 obtain⟨hp,g,d,tk,os⟩:=s
 unfold Builtin.Dict.samePairs Builtin.Dict.showsAll
 rw[sa,sb]
 induction es using lC with
 |nil=>
  refine wg (wh ?_)
  refine wg (wh ?_)
  refine wg ?_
  unfold dictEntries
  refine wg (wf ha ?_)
  refine wh ?_
  refine wg ?_
  refine wg (wf hb ?_)
  refine wh ?_
  show wpAny _ _ (if ((0:Nat) != 0)=true then _ else _) _ _ _
  rw[if_neg (by decide)]
  refine wg ?_
  unfold dictEpoch
  refine wg (wf ha ?_)
  refine wh ?_
  show wpAny _ _ (forIn [0:0] _ _ >>= _) _ _ _
  rw[zdv]
  exact wg (wh (wh h))
 |cons e es=>
  wp_walk using wf ha,wf hb
  exact h
theorem zbu(a b:Addr)(es:List DictEntry)(k k':Nat)(sa:(a==sysModules)=false)(sb:(b==sysModules)=false):Meets (Builtin.«dict.__eq__» ⟨[.ref a,.ref b],[]⟩)
  (λA R s=>s.heap.get? a=some (dictOf es k)/\s.heap.get? b=some (dictOf [] k')/\R (.ok (.ret (.bool (es.isEmpty)))) s):=by
 intro prog w A R s h
 obtain⟨hp,g,d,tk,os⟩:=s;refine c6 h λha hb h=>?_
 unfold Builtin.«dict.__eq__»
 wp_walk using wf ha,wf hb
 rw[show(dictOf [] k').cls=Value.type "dict" from rfl,We]
 refine wh ?_
 rw[if_neg (by decide)]
 refine wg (m:=Builtin.Dict.addrOf (.ref a)) (wh ?_)
 refine wg (m:=Builtin.Dict.addrOf (.ref b)) (wh ?_)
 refine wg (Vi a b es k k' ha hb sa sb ?_)
 refine wh ?_
 cases es <;> exact h
theorem zbl(a b:Addr)(es:List DictEntry)(k k':Nat)(sa:(a==sysModules)=false)(sb:(b==sysModules)=false):Meets (Builtin.«dict.__ne__» ⟨[.ref a,.ref b],[]⟩)
  (λA R s=>s.heap.get? a=some (dictOf es k)/\s.heap.get? b=some (dictOf [] k')/\R (.ok (.ret (.bool (!es.isEmpty)))) s):=by
 intro prog w A R s h
 obtain⟨hp,g,d,tk,os⟩:=s;refine c6 h λha hb h=>?_
 unfold Builtin.«dict.__ne__»
 wp_walk using wf ha,wf hb
 rw[show(dictOf [] k').cls=Value.type "dict" from rfl,We]
 refine wh ?_
 rw[if_neg (by decide)]
 refine wg (m:=Builtin.Dict.addrOf (.ref a)) (wh ?_)
 refine wg (m:=Builtin.Dict.addrOf (.ref b)) (wh ?_)
 refine wg (Vi a b es k k' ha hb sa sb ?_)
 refine wh ?_
 cases es <;> exact h
abbrev Ye: Rel Bool Value:=λ_ _ _ b v=>v = .bool b
section
theorem xP{o:Option Bool}(h:tq σ o≠.stuck):∃r,o=some r/\tq σ o = .ok r σ:=by
 induction o with
 |none=>exact w1 rfl h
 |some r=>exact aT r rfl rfl
theorem z3k{o:Option Bool}(h:uU σ o≠.stuck):∃r,o=some r/\uU σ o = .ok (!r) σ:=by
 induction o with
 |none=>exact w1 rfl h
 |some r=>exact aT r rfl rfl
theorem PQ.cmp{rr:Res Bool}{r:Bool}(H:HR c μ σ s.heap)(er:rr = .ok r σ):PQ c Ye rr μ σ s (.bool r) s:=PQ.fin H (.refl _ _ _) (.refl _) er rfl
theorem HR.noSys(bq:∃o,c.base.get? sysModules=some o)(H:HR c μ σ s.heap){o:Nat}(ho:o < σ.n):(μ o==sysModules)=false:=by
 induction q:μ o==sysModules with
 |false=>rfl
 |true=>
  refine oE bq λos hs=>?_
  have:=H.new o ho
  rw[eq_of_beq q,hs] at this;exact SN this
theorem vZ(bq:∃o,c.base.get? sysModules=some o)(hu:A.units+160<cLine)(H:HR c μ σ s.heap){o p:Nat}{r:Bool}(ho:o < σ.n)(hp:p < σ.n)(e:L7 o p σ = some r):RcAt A s (.ref (μ o)) (.ref (μ p)) r/\RcNeAt A s (.ref (μ o)) (.ref (μ p)) (!r):=by
 unfold L7 at e
 induction eo:σ.get o with
 |list l=>
  rw[eo] at e
  induction ep:σ.get p with
  |list m=>
   rw[ep] at e
   refine bw (H.listOf ho eo) λvs k bJ rs=>?_
   refine bw (H.listOf hp ep) λws k' qD eZ=>?_
   have z1:=rs.len
   have z2:=eZ.len
   have il:s.heap.IsList (μ o) vs.toArray:=⟨_,bJ,rfl,_,rfl⟩
   have im:s.heap.IsList (μ p) ws.toArray:=⟨_,qD,rfl,_,rfl⟩
   refine jE (show ak (Nat.beq (len l) (len m)) (sL iS l m) (some false)=some r from e) (λhl e=>?_) λhl e=>?_
   ·have Ls:=za hl
    rw[zb,zb,<-z1,<-z2] at Ls
    refine au (XO rs eZ e) λg g1 g2=>?_
    have hz:vs.toArray.size=ws.toArray.size:=Ls
    have he:∀j (h1:j<vs.toArray.size) (h2:j<ws.toArray.size),EqAt A.in1 s vs.toArray[j] ws.toArray[j] (g j):=λj h1 h2=>by
     refine dC (g1 j _ _ (List.getElem?_eq_getElem h1) (List.getElem?_eq_getElem h2)) λa b x1 x2 er=>?_
     exact(Q3 (A:=A.in1) (HU x1 x2 er) (by show A.units+1+150<cLine;exact eL hu rfl)).2.2
    have e':r=(List.range vs.toArray.size).all g:=by rw[g2,<-Ls,Nat.min_self,beq_self_eq_true,Bool.and_true,List.size_toArray]
    rw[e']
    exact⟨.lists il im hz (gN hu) he,.lists il im hz (gN hu) he⟩
   ·obtain rfl:=w3 e
    have:=wm hl
    rw[zb,zb,<-z1,<-z2] at this
    have hz:(vs.toArray.size != ws.toArray.size)=true:=bne_iff_ne.mpr this
    exact⟨.lists_lengths il im hz (gN hu),.lists_lengths il im hz (gN hu)⟩
  |_=>rw[ep] at e;exact NS e
 |dict u k es=>
  rw[eo] at e
  refine jE (show ak u none _=some r from e) (λ_ e=>NS e) λhu e=>?_
  induction ep:σ.get p with
  |dict u' k' cQ=>
   rw[ep] at e
   refine jE (show ak u' none _=some r from e) (λ_ e=>NS e) λZw e=>?_
   induction cQ using lC with
   |cons _ _=>exact NS e
   |nil=>
    replace e:some (zf es true λ_ _=>false)=some r:=e
    refine H.jA ho eo λpre ents k1 bJ r1 r2 r3=>H.jA hp ep λpre' ng k2 qD q1 q2 q3=>?_
    rw[(r3 hu).1] at bJ
    rw[(q3 Zw).1] at qD
    cases q1
    have hr:r=([]++ents).isEmpty:=by
     rw[<-Option.some.inj e]
     cases r1 <;> rfl
    rw[hr]
    exact⟨λprog w E Q h=>richCompare_meets_room (op:=.Eq) ⟨_,bJ,rfl⟩ ⟨_,qD,rfl⟩ F.slot_dict_eq F.entry_dict_eq (F.args_dict_eq_2 _ _) (zbu _ _ _ _ _ (H.noSys bq ho) (H.noSys bq hp)) ⟨bJ,qD,(λx=>nomatch x),h⟩ (gN ‹_›),
     λprog w E Q h=>richCompare_meets_room (op:=.NotEq) ⟨_,bJ,rfl⟩ ⟨_,qD,rfl⟩ F.slot_dict_ne F.entry_dict_ne (F.args_dict_ne_2 _ _) (zbl _ _ _ _ _ (H.noSys bq ho) (H.noSys bq hp)) ⟨bJ,qD,(λx=>nomatch x),h⟩ (gN ‹_›)⟩
  |_=>rw[ep] at e;exact NS e
 |_=>rw[eo] at e;exact NS e
theorem Xo(bq:∃o,c.base.get? sysModules=some o)(hu:A.units+160<cLine)(H:HR c μ σ s.heap){a b:AV}{w:Value}{r:Bool}(ra:VR c μ σ.n s.heap a v)(rb:VR c μ σ.n s.heap b w)(e:Dl a b σ = some r):
  RcAt A s v w r/\RcNeAt A s v w (!r):=by
 have plain:iS a b=some r->RcAt A s v w r/\RcNeAt A s v w (!r):=λe=>have x:=Q3 (A:=A) (HU ra rb e) (uV hu rfl);⟨x.1,x.2.1⟩
 revert plain e
 induction ra using vC with
 |obj ho=>exact λe _=>rb.onO e λp hp e=>vZ bq hu H ho hp e
 |_=>exact λe p=>p e
section
variable{t:Value->Value->Sem Value}{g:AV->AV->AH->Option Bool}
theorem HS(h:∀{μ σ s y z v w r},HR c μ σ s.heap->VR c μ σ.n s.heap y v->VR c μ σ.n s.heap z w->g y z σ = some r->∀(Q:Value->Shared->Prop) E,(∀k,Q (.bool r) { s with toks:=k })->wpAny (model prog c.w) A (t v w) Q E s):gO prog c A t λy z σ=>tq σ (g y z σ):=λμ σ s y z v w H ry rz ns=>by
 refine au (xP ns) λr e1 e2=>?_
 exact h H ry rz e1 _ _ λk=>PQ.fin (aw:={ s with toks:=k }) H (.refl _ _ _) ⟨rfl,rfl,rfl⟩ e2 rfl
theorem HP(h:∀{μ σ s y z v w r},HR c μ σ s.heap->VR c μ σ.n s.heap y v->VR c μ σ.n s.heap z w->g y z σ = some r->∀(Q:Value->Shared->Prop) E,(∀k,Q (.bool (!r)) { s with toks:=k })->wpAny (model prog c.w) A (t v w) Q E s):gO prog c A t λy z σ=>uU σ (g y z σ):=λμ σ s y z v w H ry rz ns=>by
 refine au (z3k ns) λr e1 e2=>?_
 exact h H ry rz e1 _ _ λk=>PQ.fin (aw:={ s with toks:=k }) H (.refl _ _ _) ⟨rfl,rfl,rfl⟩ e2 rfl
end
theorem EV(bq:∃o,c.base.get? sysModules=some o)(hu:A.units+160<cLine)(U:List (List Nat)):gO prog c A (compareOp .Eq) (a_ U 0):=HS (g:=Dl) λH ry rz e Q E h=>(Xo bq hu H ry rz e).1 _ _ _ _ (h _)
theorem Fc(bq:∃o,c.base.get? sysModules=some o)(hu:A.units+160<cLine)(U:List (List Nat)):gO prog c A (compareOp .NotEq) (a_ U 1):=HP (g:=Dl) λH ry rz e Q E h=>(Xo bq hu H ry rz e).2 _ _ _ _ (h _)
end
end
section
open PySem.SeqAt PySem.StrLaws
noncomputable def j6(s w:Str)(hi limit:Nat):List Nat->Nat->Nat->List Nat
 |[],_,_=>[]
 |i::r,free,cnt=>if ((cnt<limit/\free<=i)/\i+w.length<=hi)/\Builtin.Str.subAt s w i=true then i::j6 s w hi limit r (i+w.length) (cnt+1) else j6 s w hi limit r free cnt
theorem X9(s w:Str)(lo hi limit:Nat):Builtin.Str.occurrences s w lo hi limit=j6 s w hi limit (List.range' lo (hi+1 - lo)) lo 0:=by
 rw[occ_eq]
 have key:∀(l:List Nat) (found:Array Nat) (free:Nat),((forIn l (found,free) (occBody s w hi limit):Id (Array Nat×Nat)).run.fst.toList)=found.toList++j6 s w hi limit l free found.size:=by
  intro l
  induction l with
  |nil=>intro found free;simp[j6]
  |cons i r ih=>
   intro found free
   rw[List.forIn_cons]
   unfold j6
   by_cases h:((found.size<limit/\free<=i)/\i+w.length<=hi)/\Builtin.Str.subAt s w i=true
   ·rw[if_pos h]
    rw[show occBody s w hi limit i (found,free)=pure (ForInStep.yield (found.push i,i+w.length)) from if_pos h]
    have:=ih (found.push i) (i+w.length)
    show(forIn r (found.push i,i+w.length) (occBody s w hi limit):Id (Array Nat×Nat)).run.fst.toList=_
    rw[this];simp
   ·rw[if_neg h]
    rw[show occBody s w hi limit i (found,free)=pure (ForInStep.yield (found,free)) from if_neg h]
    exact ih found free
 simpa using key (List.range' lo (hi+1 - lo)) #[] lo
theorem Wc(s w:Str)(hi limit:Nat):∀(l:List Nat) (free cnt:Nat),limit<=cnt->j6 s w hi limit l free cnt=[]
 |[],_,_,_=>rfl
 |i::r,free,cnt,h=>by
  unfold j6
  rw[if_neg (by omega)]
  exact Wc s w hi limit r free cnt h
theorem zjg(m:List Nat):y4 [] m=true:=rfl
theorem VK(a:Nat)(w m:List Nat):y4 (a::w) m=zf m false λb m=>ak (Nat.beq a b) (y4 w m) false:=rfl
theorem Hi(w m:List Nat):y4 w m=true↔m.take w.length=w:=by
 induction w generalizing m with
 |nil=>simp[zjg]
 |cons a w ih=>
  rw[VK]
  induction m using lC with
  |nil=>show false=true↔_;simp
  |cons b m=>
   show ak (Nat.beq a b) (y4 w m) false=true↔_
   induction h:Nat.beq a b with
   |true=>
    have:=w4 h
    subst this
    show y4 w m=true↔_
    rw[ih];simp
   |false=>
    have:=wm h
    show false=true↔_
    simp
    intro z;exact w1 z.symm this
theorem Ca(s w:List Nat)(i:Nat)(h:i<=s.length):(Builtin.Str.subAt (S s) (S w) i=true↔y4 w (s.drop i)=true):=by
 rw[Hi]
 unfold Builtin.Str.subAt
 have:((S s).cps.extract i (i+(S w).length)==(S w).cps)=(((S s).cps.extract i (i+(S w).length)).toList==(S w).cps.toList):=by
  rw[Bool.eq_iff_iff];simp only[beq_iff_eq]
  exact Array.toList_inj.symm
 rw[this,beq_iff_eq]
 have e2:((S s).cps.extract i (i+(S w).length)).toList=(s.drop i).take w.length:=by
  rw[zr]
  simp[S,List.extract_eq_drop_take]
 rw[e2]
theorem Js{w m:List Nat}(h:y4 w m=true):w.length<=m.length:=by
 have:=congrArg List.length ((Hi w m).mp h)
 simp at this;exact uX this.symm (Nat.min_le_right _ _)
theorem Hh(w:List Nat)(i:Nat):zo w [] i=zf w (some i) λ_ _=>none:=rfl
theorem kb(w:List Nat)(a:Nat)(l:List Nat)(i:Nat):zo w (a::l) i=ak (y4 w (a::l)) (some i) (zo w l (i+1)):=rfl
theorem zho(s w:List Nat)(hw:w≠[]):∀(n k:Nat),s.length - k=n->k<=s.length->j6 (S s) (S w) s.length 1 (List.range' k (s.length+1 - k)) k 0=(match zo w (s.drop k) k with | some i=>[i] | none=>[]):=by
 intro n
 induction n with
 |zero=>
  intro k hk hle
  have:k=s.length:=by lia
  subst this
  rw[show s.length+1 - s.length=1 from(Nat.add_sub_cancel_left _ _)]
  have hd:s.drop s.length=[]:=by simp
  rw[hd,Hh]
  show j6 (S s) (S w) s.length 1 [s.length] s.length 0=_
  unfold j6
  rw[if_neg (by
   rintro ⟨⟨_,h⟩,_⟩
   rw[zr] at h
   have:w.length=0:=by lia
   exact hw (List.eq_nil_of_length_eq_zero this))]
  induction w using lC with
  |nil=>exact w1 rfl hw
  |cons _ _=>rfl
 |succ n ih=>
  intro k hk hle
  rw[show s.length+1 - k=(s.length+1 - (k+1))+1 by lia,List.range'_succ]
  have iZ:k<s.length:=by lia
  rw[List.drop_eq_getElem_cons iZ,kb]
  rw[<-List.drop_eq_getElem_cons iZ]
  unfold j6
  induction hp:y4 w (s.drop k) with
  |true=>
   have hl:=Js hp
   simp at hl
   rw[if_pos ⟨⟨⟨(Nat.le_refl _),Nat.le_refl _⟩,by rw[zr];exact Nat.add_le_of_le_sub' hle hl⟩,(Ca s w k hle).mpr hp⟩]
   rw[Wc _ _ _ _ _ _ _ (Nat.le_refl _)]
   rfl
  |false=>
   rw[if_neg (by rintro ⟨_,h⟩;rw[(Ca s w k hle).mp h] at hp;exact TF hp)]
   have:=ih (k+1) (Nat.le_antisymm (uW (Nat.eq_sub_of_add_eq hk.symm) (wa _)) (uX (Nat.eq_sub_of_add_eq hk.symm) (wa _))) iZ
   show _=(match zo w (s.drop (k+1)) (k+1) with | some i=>[i] | none=>[])
   rw[<-this]
   have free:∀(l:List Nat),(∀i∈l,k+1<=i)->∀cnt,j6 (S s) (S w) s.length 1 l k cnt=j6 (S s) (S w) s.length 1 l (k+1) cnt:=by
    intro l
    induction l with
    |nil=>intro _ _;rfl
    |cons i r cU=>
     intro hl cnt
     have hi:=hl i (.head _)
     unfold j6
     by_cases q:((cnt<1/\k<=i)/\i+(S w).length<=s.length)/\Builtin.Str.subAt (S s) (S w) i=true
     ·rw[if_pos q,if_pos ⟨⟨⟨q.1.1.1,hi⟩,q.1.2⟩,q.2⟩]
     ·rw[if_neg q,if_neg (λz=>q ⟨⟨⟨z.1.1.1,(iI hi)⟩,z.1.2⟩,z.2⟩)]
      exact cU (λi h=>hl i (.tail _ h)) cnt
   exact free _ (λi hi=>by have:=List.mem_range'.mp hi;lia) 0
theorem Jx(s w:List Nat)(hw:w≠[]){k:Nat}(hk:k<=s.length):Builtin.Str.occurrences (S s) (S w) k (S s).length 1=(match zo w (s.drop k) k with | some i=>[i] | none=>[]):=by
 rw[X9,zr]
 exact zho s w hw _ k rfl hk
end
section
open PySem.SeqAt
theorem JU(a b:Int):ltI a b=decide (a<b):=by
 induction a with
 |ofNat m=>induction b with
  |ofNat n=>
   show Nat.blt m n=_
   rw[Bool.eq_iff_iff,Nat.blt_eq];simp
  |negSucc n=>show false=_;symm;rw[decide_eq_false_iff_not,Int.negSucc_eq];have:=Int.natCast_nonneg m;show ¬(m:Int)<_;exact Int.not_lt_of_ge (Int.ofNat_nonneg _)
 |negSucc m=>induction b with
  |ofNat n=>show true=_;symm;rw[decide_eq_true_eq,Int.negSucc_eq];show _<(n:Int);lia
  |negSucc n=>
   show Nat.blt n m=_
   rw[Bool.eq_iff_iff,Nat.blt_eq,decide_eq_true_eq,Int.negSucc_eq,Int.negSucc_eq];lia
theorem xB(s t:List Nat):ti s t=decide (s<t):=by
 induction s generalizing t with
 |nil=>induction t using lC with
  |nil=>exact(decide_eq_false (List.not_lt_nil _)).symm
  |cons b t=>exact(decide_eq_true (List.nil_lt_cons _ _)).symm
 |cons a s ih=>induction t using lC with
  |nil=>exact(decide_eq_false (List.not_lt_nil _)).symm
  |cons b t=>
   show ak (Nat.blt a b) true (ak (Nat.beq a b) (ti s t) false)=_
   rw[Bool.eq_iff_iff,decide_eq_true_eq,List.cons_lt_cons_iff]
   induction h:Nat.blt a b with
   |true=>
    have:a<b:=by simpa using h
    show true=true↔_
    simp[this]
   |false=>
    have h1:¬a<b:=by intro z;rw[show Nat.blt a b=true by simpa using z] at h;exact TF h
    induction h2:Nat.beq a b with
    |true=>
     have:=w4 h2
     subst this
     show ti s t=true↔_
     rw[ih];simp
    |false=>
     have:=wm h2
     show false=true↔_
     simp[h1,this]
section
theorem WH(c:Cx){q q':Nat}(h:q<q')(hq:q'<=2):c.off q<=c.off q':=by
 have a:=Int.natCast_nonneg c.P.length
 have b:=Int.natCast_nonneg c.R.length
 match q',hq with
 |0,_=>exact w1 h (Nat.not_lt_zero _)
 |1,_=>obtain rfl:q=0:=Nat.lt_one_iff.mp h;exact a
 |2,_=>
  rcases Nat.lt_succ_iff_lt_or_eq.mp h with h | rfl
  ·obtain rfl:q=0:=Nat.lt_one_iff.mp h
   exact Int.add_nonneg a b
  ·exact Int.le_add_of_nonneg_right b
theorem Vw{q q':Nat}{i j:Int}{r:Bool}(h:ltQ q i q' j=some r):r=decide (c.off q+i<c.off q'+j):=by
 refine jE h (λh1=>z5 h1 λh=>?_) λh1 h=>bT (λz=>NS z.symm) h λg1 h=>bT (λz=>NS z.symm) h λg2 h=>?_
 ·replace g1:=w5 g1
  replace g2:=w5 g2
  have kP:=wm h1
  refine jE h (λh2 h=>bT (λz=>NS z.symm) h λh3 h=>?_) λh2 h=>?_
  ·rw[<-Option.some.inj h]
   have hm:=WH c (w5 h2) g2
   rw[JU] at h3
   have:=wl h3
   exact(decide_eq_true (by lia)).symm
  ·have hm:=WH c (show q'<q from Nat.lt_of_le_of_ne (Nat.le_of_not_lt λz=>TF ((Nat.ble_eq_true_of_le z).symm.trans h2)) (Ne.symm kP)) g1
   refine jE h (λh3 h=>?_) λh3 h=>bT (λz=>NS z.symm) h λh4 h=>?_
   ·rw[<-Option.some.inj h]
    rw[JU] at h3
    have:=wl h3
    exact(decide_eq_false (by lia)).symm
   ·rw[<-Option.some.inj h]
    rw[VM,beq_iff_eq] at h4
    exact(decide_eq_false (by lia)).symm
 ·rw[<-Option.some.inj h,JU,decide_eq_decide];lia
theorem ud(x:List Nat):(S x).cps.toList=x:=rfl
theorem Kk{y z:AV}{w:Value}{r:Bool}{P:Value->Value->Prop}(ry:VR c μ n h y v)(rz:VR c μ n h z w)(e:qH y z=some r)(ii:∀i t j u,r=decide (i<j)->P (.int i t) (.int j u))(ss:∀x t y u,r=decide (x<y)->P (.str (S x) t) (.str (S y) u)):P v w:=
 ry.BD (M:=λ_ v=>P v w) e (λq i t e=>rz.BD (M:=λ_ w=>P _ w) e (λq' j u e=>ii _ _ _ _ (Vw e)) (λ_ _ _ e=>NS e) (λ_ _ _ e=>NS e) λ_ e=>NS e)
  (λq x t e=>rz.BD (M:=λ_ w=>P _ w) e (λ_ _ _ e=>NS e) (λq' y u e=>bT (λz=>NS z.symm) e λh1=>z5 h1 λe=>bT (λz=>NS z.symm) e λh2=>z5 h2 λe=>ss x t y u ((w3 e).symm.trans (xB x y))) (λ_ _ _ e=>NS e) λ_ e=>NS e)
  (λ_ _ _ e=>NS e) λ_ e=>NS e
theorem Fb(U:List (List Nat)):gO prog c A (compareOp .Lt) (a_ U 2):=HS (g:=λy z _=>qH y z) λH ry rz e Q E h=>
 Kk (P:=λv w=>wpAny _ _ (compareOp .Lt v w) Q E _) ry rz e (λ_ _ _ _ e=>P.lt_int (e▸h _)) λ_ _ _ _ e=>P.lt_str (by rw[ud,ud,<-e];exact h _)
theorem EW(U:List (List Nat)):gO prog c A (compareOp .GtE) (a_ U 5):=HP (g:=λy z _=>qH y z) λH ry rz e Q E h=>
 Kk (P:=λv w=>wpAny _ _ (compareOp .GtE v w) Q E _) ry rz e (λi _ j _ e=>P.ge_int (by rw[show decide (i>=j) = !decide (i<j) by rw[<-decide_not,decide_eq_decide];lia,<-e];exact h _)) λ_ _ _ _ e=>P.ge_str (by rw[ud,ud,<-e];exact h _)
theorem EX(U:List (List Nat)):gO prog c A (compareOp .Gt) (a_ U 4):=HS (g:=λy z _=>qH z y) λH ry rz e Q E h=>
 Kk (P:=λw v=>wpAny _ _ (compareOp .Gt v w) Q E _) rz ry e (λi _ j _ e=>P.gt_int (e▸h _)) λ_ _ _ _ e=>P.gt_str (by rw[ud,ud,<-e];exact h _)
theorem E_(U:List (List Nat)):gO prog c A (compareOp .LtE) (a_ U 3):=HP (g:=λy z _=>qH z y) λH ry rz e Q E h=>
 Kk (P:=λw v=>wpAny _ _ (compareOp .LtE v w) Q E _) rz ry e (λi _ j _ e=>P.le_int (by rw[show decide (j<=i) = !decide (i<j) by rw[<-decide_not,decide_eq_decide];lia,<-e];exact h _)) λ_ _ _ _ e=>P.le_str (by rw[ud,ud,<-e];exact h _)
theorem XF{y z:AV}{w:Value}{r:Bool}(ry:VR c μ n h y v)(rz:VR c μ n h z w)(e:E7 y z=some r):plainIs v w=true/\(v==w)=r:=by
 revert e
 induction rz using vC with
 |none=>induction ry using vC with
  |con _ _=>exact λe=>NS e
  |bi _=>exact λe=>NS e
  |_=>exact λe=>⟨rfl,w3 e⟩
 |_=>exact λe=>NS e
theorem EZ(U:List (List Nat)):gO prog c A (compareOp .Is) (a_ U 8):=HS (g:=λy z _=>E7 y z) λH ry rz e Q E h=>have x:=XF ry rz e;wpAny_is_plain x.1 (x.2.symm▸h _)
theorem zjq(U:List (List Nat)):gO prog c A (compareOp .IsNot) (a_ U 9):=HP (g:=λy z _=>E7 y z) λH ry rz e Q E h=>have x:=XF ry rz e;wpAny_isNot_plain x.1 (x.2.symm▸h _)
end
end
section
open PySem.SeqAt
theorem BB(x a:AV)(l:List AV):B0 x (a::l)=opt (iS a x) none λr=>opt (B0 x l) none λr'=>some (ak r true r'):=rfl
theorem zb2{x:AV}{l:List AV}:∀{r:Bool},B0 x l=some r->(∀a∈l,∃ra,iS a x=some ra)/\(r=true↔∃a∈l,iS a x=some true):=by
 induction l with
 |nil=>exact λh=>⟨λ_ h=>(nomatch h),λz=>TF (z.symm.trans (w3 h).symm),λ⟨_,z,_⟩=>(nomatch z)⟩
 |cons a l ih=>
  intro r h
  refine fC (λz=>NS z.symm) h λr1 e1 h=>fC (λz=>NS z.symm) h λr2 e2 h=>?_
  refine oA (ih e2) λh1 h2=>?_
  refine⟨λb hb=>(w8.mp hb).elim (λz=>⟨r1,z▸e1⟩) (h1 b),?_⟩
  rw[<-Option.some.inj h]
  induction r1 with
  |true=>exact⟨λ_=>⟨a,.head _,e1⟩,λ_=>rfl⟩
  |false=>
   refine h2.trans ⟨λ⟨b,hb,eb⟩=>⟨b,.tail _ hb,eb⟩,λ⟨b,hb,eb⟩=>?_⟩
   rcases w8.mp hb with rfl | hb
   ·exact FT (w3 (e1.symm.trans eb))
   ·exact aT b hb eb
section
open Classical in
theorem Xx {x:AV}{xv:Value}{l:List AV}{vs:List Value}{r:Bool} (hu:A.units+160<cLine) (rs:aH c μ σ.n s.heap l vs) (rx:VR c μ σ.n s.heap x xv) (h:B0 x l=some r) :
  ∃e:Value->Bool,(∀y,y∈vs.toArray->EqAt A.in1 s y xv (e y))/\vs.toArray.any e=r:=by
 refine oA (zb2 h) λh1 h2=>?_
 have mem:∀y,y∈vs->∃a∈l,VR c μ σ.n s.heap a y:=λy hy=>by
  obtain⟨j,hj,e⟩:=List.mem_iff_getElem.mp hy
  refine au (rs.get j (v:=y) (by rw[List.getElem?_eq_getElem hj,e])) λa ea ra=>?_
  exact aT a (List.mem_of_getElem? ea) ra
 have Mc:∀a∈l,∃y∈vs,VR c μ σ.n s.heap a y:=λa ha=>by
  obtain⟨j,hj,e⟩:=List.mem_iff_getElem.mp ha
  have:=rs.at j
  rw[List.getElem?_eq_getElem hj,e] at this
  refine au this λv hv r=>?_
  exact aT v (List.mem_of_getElem? hv) r
 refine aT (λy=>decide (∃a,VR c μ σ.n s.heap a y/\iS a x=some true)) (λy hy=>?_) ?_
 ·refine au (mem y (by simpa using hy)) λa ha ra=>?_
  refine oE (h1 a ha) λr1 e1=>?_
  have hr:decide (∃a,VR c μ σ.n s.heap a y/\iS a x=some true)=r1:=by
   induction r1 with
   |true=>exact decide_eq_true ⟨a,ra,e1⟩
   |false=>
    refine decide_eq_false ?_
    rintro ⟨b,rb,eb⟩
    exact FT (VT ra rb rx rx e1 eb)
  show EqAt A.in1 s y xv (decide (∃a,VR c μ σ.n s.heap a y/\iS a x=some true))
  rw[hr]
  exact(Q3 (A:=A.in1) (HU ra rx e1) (by show A.units+1+150<cLine;exact eL hu rfl)).2.2
 ·rw[Bool.eq_iff_iff,h2,List.any_toArray,List.any_eq_true]
  constructor
  ·rintro ⟨y,hy,he⟩
   refine au (wl he) λa ra ea=>?_
   refine au (mem y hy) λb hb rb=>?_
   refine oE (h1 b hb) λr1 e1=>?_
   exact aT b hb ((VT ra rb rx rx ea e1)▸e1)
  ·rintro ⟨a,ha,ea⟩
   refine au (Mc a ha) λy hy ry=>?_
   exact aT y hy (decide_eq_true ⟨a,ry,ea⟩)
theorem zoq(x y:List Nat):Txt.contains (S y) (S x)=opt (zo x y 0) false λ_=>true:=by
 unfold Txt.contains
 induction x using lC with
 |nil=>
  rw[show zo [] y 0=some 0 by cases y <;> rfl]
  exact(PySem.StrLaws.found_iff _ _).mpr ⟨0,w9 _,(Ca y [] 0 (w9 _)).mpr rfl⟩
 |cons a x=>
  rw[Jx y (a::x) (λh=>nomatch h) (Nat.zero_le _),List.drop_zero]
  cases zo (a::x) y 0 <;> rfl
theorem wW{q q':Nat}{x y:List Nat}{r:Bool}(h:RL q x q' y=some r):Txt.contains (S (c.wrap q' y)) (S (c.wrap q x))=r:=
 bT (λz=>NS z.symm) h λh1=>z5 h1 λh=>bT (λz=>NS z.symm) h λh2=>z5 h2 λh=>(zoq x y).trans (w3 h)
theorem QH{key:List Nat}{t:Tok}:Value.isStrOf (S key) (.str (S key) t)=true:=by simp[Value.isStrOf]
theorem rU{key:List Nat}{t:Tok}:(strKind prog c.w).is (S key) (.str (S key) t)=true:=QH (t:=t)
theorem Ki{a key:List Nat}{t:Tok}(h:a≠key):Value.isStrOf (S key) (.str (S a) t)=false:=by
 induction hh:Value.isStrOf (S key) (.str (S a) t) with
 |false=>rfl
 |true=>
  refine oE (Value.isStrOf_shape hh) λt' ht=>?_
  exact w1 (OS (Value.str.inj ht).1) h
theorem XU{a:List Nat}{l:List (List Nat)}(h:a∈l):yw l a=true:=by
 induction l with
 |nil=>exact nomatch h
 |cons b l ih=>
  show ak (cu b a) true (yw l a)=true
  induction q:cu b a with
  |true=>rfl
  |false=>
   rcases w8.mp h with rfl | h
   ·exact TF (((yd a a).mpr rfl).symm.trans q)
   ·exact ih h
theorem zpc{es:List (List Nat×AV)}{ents:List DictEntry}{key:List Nat}(r:fz c μ n h es ents):match getD es key with
  |none=>(ents.find? λen=>Value.isStrOf (S key) en.key).map (·.val)=none
  |some y=>∃v,(ents.find? λen=>Value.isStrOf (S key) en.key).map (·.val)=some v/\VR c μ n h y v:=by
 induction r with
 |nil=>rfl
 |@cons a t x v l cQ rv rest ih=>
  rw[Wi,List.find?_cons]
  by_cases q:a=key
  ·subst q
   rw[if_pos rfl,QH]
   exact aT v rfl rv
  ·rw[if_neg q,Ki q]
   exact ih
theorem HR.dictFind{U:List (List Nat)}(hU:c.U=U)(H:HR c μ σ s.heap){o k:Nat}(ho:o < σ.n){u:Bool}{es:List (List Nat×AV)}(e:σ.get o = .dict u k es){key:List Nat}(hk:ak u (yw U key) false=false):
  ∃f,s.heap.MapOf (strKind prog c.w) (μ o) f/\(match getD es key with | none=>f (S key)=none | some y=>∃v,f (S key)=some v/\VR c μ σ.n s.heap y v):=by
 refine H.jA ho e λpre ents k' bJ r1 r2 r3=>?_
 have Lq:∀en∈pre++ents,∃kk,(strKind prog c.w).is kk en.key=true/\en.hash=(strKind prog c.w).hash kk:=λen iW=>by
  rcases List.mem_append.mp iW with h | h
  ·refine dC (r2.2 en h) λa t _ e1 e2=>?_
   exact aT (S a) (by rw[e1];exact rU) e2
  ·refine dR (Pr (prog:=prog) r1) λ_ _ _ h3=>?_
   exact h3 en h
 refine aT (λkk=>findBy (strKind prog c.w).is (pre++ents).toArray kk) ⟨_,_,_,bJ,⟨rfl,rfl,rfl⟩,rfl,λen iW=>Lq en (List.mem_toArray.mp iW),λ_=>rfl⟩ ?_
 have nG:pre.find? (λen=>Value.isStrOf (S key) en.key)=none:=by
  rw[List.find?_eq_none]
  intro en iW
  refine dC (r2.2 en iW) λa t ha e1 _=>?_
  rw[e1,Ki]
  ·exact Bool.false_ne_true
  ·rintro rfl
   induction u with
   |false=>rw[(r3 rfl).1] at iW;exact nomatch iW
   |true=>exact TF ((XU (hU▸ha)).symm.trans hk)
 have Z7:findBy (strKind prog c.w).is (pre++ents).toArray (S key)=(ents.find? λen=>Value.isStrOf (S key) en.key).map (·.val):=by
  unfold findBy
  rw[<-Array.find?_toList]
  show((pre++ents).find? λen=>Value.isStrOf (S key) en.key).map (·.val)=_
  rw[List.find?_append,nG,Option.none_or]
 have:=zpc (key:=key) r1
 rw[<-Z7] at this
 exact this
def CH(c:Cx)(A:Around)(prog:Program)(s:Shared)(r:Bool)(v w:Value):Prop:=
  (∀(Q:Value->Shared->Prop) E,(∀k,Q (.bool r) { s with toks:=k })->wpAny (model prog c.w) A (compareOp .In v w) Q E s)/\(∀(Q:Value->Shared->Prop) E,(∀k,Q (.bool (!r)) { s with toks:=k })->wpAny (model prog c.w) A (compareOp .NotIn v w) Q E s)
theorem wV{U:List (List Nat)}(hU:c.U=U)(bq:∃o,c.base.get? sysModules=some o)(H:HR c μ σ s.heap){o k:Nat}(ho:o < σ.n){u:Bool}{es:List (List Nat×AV)}(eo:σ.get o = .dict u k es){q:Nat}{key:List Nat}{t:Tok}{r:Bool}(e:inD U u es q key=some r):CH c A prog s r (.str (S (c.wrap q key)) t) (.ref (μ o)):=
 bT (λz=>NS z.symm) e λh1=>z5 h1 λe=>jE e (λ_ e=>NS e) λhk e=>by
  refine au (H.dictFind (prog:=prog) hU ho eo hk) λf hm hf=>?_
  have hr:(f (S key)).isSome=r:=by
   rw[<-Option.some.inj e]
   induction q:getD es key with
   |none=>rw[q] at hf;rw[hf];rfl
   |some y=>rw[q] at hf;refine au hf λv hv _=>?_;rw[hv];rfl
  have Bz:=H.noSys bq ho
  exact⟨λQ E h=>wpAny_in_of (rU (key:=key)) Bz hm (hr.symm▸h _),λQ E h=>wpAny_notIn_of (rU (key:=key)) Bz hm (hr.symm▸h _)⟩
theorem t8{U:List (List Nat)}(hU:c.U=U)(bq:∃o,c.base.get? sysModules=some o)(hu:A.units+160<cLine)(H:HR c μ σ s.heap){x z:AV}{w:Value}{r:Bool}(rx:VR c μ σ.n s.heap x v)(rz:VR c μ σ.n s.heap z w)(e:E4 U x z σ = some r):CH c A prog s r v w:=by
 refine rz.BD (M:=λ_ w=>CH c A prog s r v w) e (λ_ _ _ e=>NS e) (λq' y t e=>rx.BD (M:=λ_ v=>CH c A prog s r v _) e (λ_ _ _ e=>NS e) (λq x u e=>?_) (λ_ _ _ e=>NS e) λ_ e=>NS e) (λl vs b e ht rs=>?_) λo e ho=>?_
 ·have hc:=wW (c:=c) e
  exact⟨λQ E h=>SB.contains (hc.symm▸h _),λQ E h=>SB.notContains (hc.symm▸h _)⟩
 ·refine au (Xx hu rs rx e) λf h1 h2=>?_
  exact⟨λQ E h=>in_tupleAt f ht h1 (h2.symm▸h _),λQ E h=>notIn_tupleAt f ht h1 (h2.symm▸h _)⟩
 ·unfold RK at e
  induction eo:σ.get o with
  |list l=>
   rw[eo] at e
   refine bw (H.listOf ho eo) λvs k bJ rs=>?_
   refine au (Xx hu rs rx (show B0 x l=some r from e)) λf h1 h2=>?_
   exact⟨λQ E h=>in_listAt f ⟨_,bJ,rfl,_,rfl⟩ h1 (h2.symm▸h _),λQ E h=>notIn_listAt f ⟨_,bJ,rfl,_,rfl⟩ h1 (h2.symm▸h _)⟩
  |dict u k es=>
   rw[eo] at e
   exact rx.BD (M:=λ_ v=>CH c A prog s r v _) e (λ_ _ _ e=>NS e) (λ_ _ _ e=>wV hU bq H ho eo e) (λ_ _ _ e=>NS e) λ_ e=>NS e
  |_=>rw[eo] at e;exact NS e
theorem EY{U:List (List Nat)}(hU:c.U=U)(bq:∃o,c.base.get? sysModules=some o)(hu:A.units+160<cLine):gO prog c A (compareOp .In) (a_ U 6):=HS (g:=E4 U) λH ry rz e=>(t8 hU bq hu H ry rz e).1
theorem zk4{U:List (List Nat)}(hU:c.U=U)(bq:∃o,c.base.get? sysModules=some o)(hu:A.units+160<cLine):gO prog c A (compareOp .NotIn) (a_ U 7):=HP (g:=E4 U) λH ry rz e=>(t8 hU bq hu H ry rz e).2
noncomputable def iP: Nat->Option CmpOp
 |0=>some .Eq
 |1=>some .NotEq
 |2=>some .Lt
 |3=>some .LtE
 |4=>some .Gt
 |5=>some .GtE
 |6=>some .In
 |7=>some .NotIn
 |8=>some .Is
 |9=>some .IsNot
 |_=>none
theorem zmn{U:List (List Nat)}(hU:c.U=U)(bq:∃o,c.base.get? sysModules=some o)(hu:A.units+160<cLine){op:CmpOp}(h:iP n=some op):gO prog c A (compareOp op) (a_ U n):=by
 match n,h with
 |0,h=>obtain rfl:=w3 h;exact EV bq hu U
 |1,h=>obtain rfl:=w3 h;exact Fc bq hu U
 |2,h=>obtain rfl:=w3 h;exact Fb U
 |3,h=>obtain rfl:=w3 h;exact E_ U
 |4,h=>obtain rfl:=w3 h;exact EX U
 |5,h=>obtain rfl:=w3 h;exact EW U
 |6,h=>obtain rfl:=w3 h;exact EY hU bq hu
 |7,h=>obtain rfl:=w3 h;exact zk4 hU bq hu
 |8,h=>obtain rfl:=w3 h;exact EZ U
 |9,h=>obtain rfl:=w3 h;exact zjq U
end
end
section
open PySem.SeqAt
theorem Pw{i:Int}{k:Nat}(h:Cp i n=some k):yy i=true/\seqIndex? i n=some k:=by
 unfold Cp at h
 refine oA (zg h) λh1 h2=>?_
 refine⟨h1,?_⟩
 unfold seqIndex?
 induction i with
 |ofNat j=>
  refine oA (zg (show ak (Nat.blt j n) (some j) none=some k from h2)) λh3 h4=>?_
  have hj:j<n:=by simpa using h3
  cases h4
  have h5:¬(Int.ofNat k<0):=by show ¬((k:Int)<0);exact Int.not_lt_of_ge (Int.ofNat_nonneg _)
  simp only[h5,if_false]
  have h6:(decide (0<=Int.ofNat k)&&decide (Int.ofNat k<(n:Int)))=true:=by
   simp;exact hj
  rw[if_pos h6];rfl
 |negSucc j=>
  refine oA (zg (show ak (Nat.blt j n) (some (n - (j+1))) none=some k from h2)) λh3 h4=>?_
  have hj:j<n:=by simpa using h3
  obtain rfl:=w3 h4
  have h5:Int.negSucc j<0:=Int.negSucc_lt_zero j
  simp only[h5,if_true]
  have e:Int.negSucc j+(n:Int)=((n - (j+1):Nat):Int):=by rw[Int.negSucc_eq];omega
  rw[e]
  have h6:(decide (0<=((n - (j+1):Nat):Int))&&decide (((n - (j+1):Nat):Int)<(n:Int)))=true:=by
   simp;omega
  rw[if_pos h6];simp
theorem yt{o:Option α}{z:β}{f:α->β}(h:opt o z f≠z):∃a,o=some a/\opt o z f=f a:=by
 induction o with
 |none=>exact w1 rfl h
 |some a=>exact aT a rfl rfl
section
theorem Ht{w:Value}{T id:String}{Q:Value->Shared->Prop}{E:Value->Shared->Prop}(hT:s.TypeIs v T)(hl:typeLookup (.type T) "__getitem__" = pure (some (.builtin id)))(h:wpAny (model prog c.w) A (getItem v w) Q E s):
  wpAny (model prog c.w) A (do let ip<-getitemInPython v;if ip then runValue (.builtin "lifetime.subscript" ⟨[v,w],[]⟩) else operate [v,w] (getItem v w)) Q E s:=
 wg (P6 hT hl (by rw[if_neg Bool.false_ne_true];exact wpAny_operateT h))
theorem zhb{i:Int}(h:yy i=true):(decide (i < -(2 ^ 63:Int))||decide (i>=2 ^ 63))=false:=by
 have:=xf h
 rw[decide_eq_false (by lia),decide_eq_false (by lia)];rfl
theorem V'{l:List AV}{i:Int}(h:ja l i σ≠.stuck):∃k y,Cp i l.length=some k/\l[k]? = some y/\ja l i σ = .ok y σ:=by
 unfold ja at h ⊢
 refine au (yt h) λk e1 e2=>?_
 rw[e2] at h ⊢
 refine au (yt h) λy e3 e4=>?_
 rw[zb] at e1
 rw[jm] at e3
 exact Bq k y e1 e3 e4
theorem E2{q q':Nat}{x:List Nat}{i:Int}{t u:Tok}{r0:Res AV}(H:HR c μ σ s.heap)(h1:Nat.beq q 0=true)(ns:r0≠.stuck)(er:pl q' (opt (Cp i (len x)) .stuck λk=>opt (dF x k) .stuck (sgn σ))=r0):wpAny (model prog c.w) A (getItem (.str (S (c.wrap q x)) t) (.int (c.off q'+i) u)) (PQ c (RV c) r0 μ σ s) (PE c r0 μ σ s) s:=by
 refine z5 h1 (bT ns er λh2=>z5 h2 λer=>fC ns er λk e3 er=>fC ns er λch e5 er=>?_)
 rw[zb] at e3
 rw[jm] at e5
 refine oA (Pw e3) λh3 h4=>?_
 rw[yq]
 refine P.getItem_str (c:=ch) (zhb h3) ?_ (PQ.tok H er.symm (VR.lz (q:=0) (x:=[ch]) rfl))
 rw[show(S (c.wrap 0 x)).length=x.length from zr x,h4]
 exact(List.getElem?_toArray).trans e5
theorem E3{q q':Nat}{x:List Nat}{i:Int}{t u:Tok}{r0:Res AV}(hP:c.P.length<=1000000)(H:HR c μ σ s.heap)(h1:Nat.beq q 0=false)(ns:r0≠.stuck)(er:ak (Nat.beq q' 1) (j4 i (λk=>ak (yy i) (opt (dF x k) .stuck (sgn σ)) .stuck) λ_=>.stuck) .stuck=r0):
  wpAny (model prog c.w) A (getItem (.str (S (c.wrap q x)) t) (.int (c.off q'+i) u)) (PQ c (RV c) r0 μ σ s) (PE c r0 μ σ s) s:=by
 refine bT ns er λh2=>z5 h2 λer=>?_
 induction i with
 |negSucc j=>exact w1 er.symm ns
 |ofNat k=>
  refine bT ns er λh3 er=>fC ns er λch e5 er=>?_
  rw[jm] at e5
  have hb:=xf h3
  have hk:k<x.length:=(List.getElem?_eq_some_iff.mp e5).1
  have ei:c.off 1+Int.ofNat k=((c.P.length+k:Nat):Int):=rfl
  rw[ei]
  obtain⟨r,hw⟩:∃r,c.wrap q x=c.P++(x++r):=by
   match q,wm h1 with
   |1,_=>exact⟨[],by rw[List.append_nil];rfl⟩
   |j+2,_=>exact⟨c.R,List.append_assoc _ _ _⟩
  rw[hw]
  have hlen:c.P.length+k<(S (c.P++(x++r))).length:=by rw[zr,List.length_append,List.length_append];lia
  refine P.getItem_str (c:=ch) ?_ ?_ (PQ.tok H er.symm (VR.lz (q:=0) (x:=[ch]) rfl))
  ·have:Int.ofNat k=(k:Int):=rfl
   rw[decide_eq_false (Int.not_lt_of_ge (Int.ofNat_nonneg _)),decide_eq_false (by lia)];rfl
  ·have:seqIndex? ((c.P.length+k:Nat):Int) (S (c.P++(x++r))).length=some (c.P.length+k):=by
    unfold seqIndex?
    rw[if_neg (show ¬(((c.P.length+k:Nat):Int)<0) from(Int.not_lt_of_ge (Int.ofNat_nonneg _)))]
    exact(if_pos (by rw[Bool.and_eq_true,decide_eq_true_eq,decide_eq_true_eq];lia)).trans (congrArg some (Int.toNat_natCast _))
   rw[this]
   refine(List.getElem?_toArray).trans ?_
   rw[List.getElem?_append_right (Nat.le_add_right _ _),Nat.add_sub_cancel_left,List.getElem?_append_left hk]
   exact e5
theorem zou{q' o:Nat}{i:Int}{u:Tok}{r0:Res AV}(H:HR c μ σ s.heap)(ho:o < σ.n)(ns:r0≠.stuck)(er:pl q' (zh σ o λl=>ja l i σ)=r0):
  wpAny (model prog c.w) A (do let ip<-getitemInPython (.ref (μ o));if ip then runValue (.builtin "lifetime.subscript" ⟨[.ref (μ o),.int (c.off q'+i) u],[]⟩) else operate [.ref (μ o),.int (c.off q'+i) u] (getItem (.ref (μ o)) (.int (c.off q'+i) u))) (PQ c (RV c) r0 μ σ s) (PE c r0 μ σ s) s:=by
 refine bT ns er λh2=>z5 h2 λer=>M6 ns er λl el er=>?_
 refine dC (V' (σ:=σ) λz=>ns (er.symm.trans z)) λk y e4 e5 e6=>?_
 replace er:=er.symm.trans e6
 refine oA (Pw e4) λh3 h4=>?_
 rw[yq]
 have hb:=xf h3
 refine bw (H.listOf ho el) λvs n bJ rs=>?_
 have qC:s.heap.IsList (μ o) vs.toArray:=⟨_,bJ,rfl,_,rfl⟩
 have:=rs.at k
 rw[e5] at this
 refine au this λv hv rv=>?_
 refine Ht qC.typeIs slot_list_getitem.lookup ?_
 have Zj:k<l.length:=(List.getElem?_eq_some_iff.mp e5).1
 have hz:=rs.len
 have fin:=PQ.fin (R:=RV c) H (.refl _ _ _) (.refl _) er rv
 unfold seqIndex? at h4
 by_cases hi:0<=i
 ·rw[if_neg (show ¬i<0 from(Int.not_lt_of_ge hi))] at h4
  dsimp only at h4
  split at h4
  ·exact wpAny_getItem_list qC hi (by lia) (x:=v) (by rw[Option.some.inj h4];exact(List.getElem?_toArray).trans hv) fin
  ·exact NS h4
 ·rw[if_pos (show i<0 from(Int.lt_of_not_ge hi))] at h4
  dsimp only at h4
  split at h4
  ·rename_i hc
   rw[Bool.and_eq_true,decide_eq_true_eq] at hc
   have Zi:=w3 h4
   exact wpAny_getItem_list_neg qC (Int.lt_of_not_ge hi) (by have:=hc.1;rw[List.size_toArray,hz];lia) (by lia) (x:=v) (by rw[List.size_toArray,hz,Zi];exact(List.getElem?_toArray).trans hv) fin
  ·exact NS h4
theorem zp2{U:List (List Nat)}(hU:c.U=U){q o:Nat}{key:List Nat}{t:Tok}{r0:Res AV}(H:HR c μ σ s.heap)(ho:o < σ.n)(ns:r0≠.stuck)(er:pl q (xd σ o λu es=>E1 U u es key σ)=r0):
  wpAny (model prog c.w) A (do let ip<-getitemInPython (.ref (μ o));if ip then runValue (.builtin "lifetime.subscript" ⟨[.ref (μ o),.str (S (c.wrap q key)) t],[]⟩) else operate [.ref (μ o),.str (S (c.wrap q key)) t] (getItem (.ref (μ o)) (.str (S (c.wrap q key)) t))) (PQ c (RV c) r0 μ σ s) (PE c r0 μ σ s) s:=by
 refine bT ns er λh2=>z5 h2 λer=>Ys ns er λu kk es el er=>jE er (λ_ z=>w1 z.symm ns) λhk er=>fC ns er λy e4 er=>?_
 refine au (H.dictFind (prog:=prog) hU ho el hk) λf hm hf=>?_
 rw[e4] at hf
 refine au hf λv hv rv=>?_
 exact Ht hm.typeIs slot_dict_getitem.lookup (wpAny_getItem_of (rU (key:=key)) hm hv (PQ.tok H er.symm rv))
theorem yA{U:List (List Nat)}(hU:c.U=U)(hP:c.P.length<=1000000):v8 prog c A U:=λμ σ s y z v w H ry rz ns=>
 ry.on (M:=λy v=>WP prog c A (RV c) (do let ip<-getitemInPython v;if ip then runValue (.builtin "lifetime.subscript" ⟨[v,w],[]⟩) else operate [v,w] (getItem v w)) (Kc U y z σ) μ σ s) ns (λ_ _ _ ns=>w1 rfl ns)
  (λq x t ns=>rz.oI ns λq' i u ns=>WP.gn λr0 er ns=>Ht (typeIs_str s _ t) F.slot_str_getitem.lookup (jE er (λh1 er=>E2 H h1 ns er) λh1 er=>E3 hP H h1 ns er))
  (λl vs a ns ht rs=>rz.oI ns λq' i u ns=>WP.gn λr0 er ns=>Ht ht.typeIs slot_tuple_getitem.lookup (bT ns er λh2=>z5 h2 λer=>by
   refine dC (V' (σ:=σ) λz=>ns (er.symm.trans z)) λk y e3 e4 e5=>?_
   refine oA (Pw e3) λh3 h4=>?_
   rw[yq]
   have hb:=xf h3
   have:=rs.at k
   rw[e4] at this
   refine au this λv hv rv=>?_
   refine getItem_tuple ht (by lia) (by lia) (j:=k) (x:=v) ?_ ((List.getElem?_toArray).trans hv) (PQ.fin H (.refl _ _ _) (.refl _) (er.symm.trans e5) rv)
   rw[List.size_toArray,rs.len];exact h4))
  (λo ns ho=>rz.on ns (λq' i u _=>WP.gn λr0 er ns=>zou H ho ns er) (λq key t _=>WP.gn λr0 er ns=>zp2 hU H ho ns er) (λ_ _ _ ns=>w1 rfl ns) λ_ ns=>w1 rfl ns) ns
end
end
section
open PySem.SeqAt PySem.StrLaws
theorem Kz(l:List Nat):(S l).cps.toList=l:=by simp[S]
theorem PU(i:Int)(n:Nat):j2 i n<=n:=by
 unfold j2
 split
 ·exact Nat.min_le_right _ _
 ·exact Nat.sub_le _ _
theorem CA(i:Int)(n:Nat):max (0:Int) (min (if i<0 then i+(n:Int) else i) (n:Int))=(j2 i n:Nat):=by
 induction i with
 |ofNat k=>
  rw[if_neg (show ¬(Int.ofNat k<0) from Int.not_lt.mpr (Int.natCast_nonneg k))]
  show max (0:Int) (min (k:Int) n)=((min k n:Nat):Int)
  omega
 |negSucc k=>
  rw[if_pos (Int.negSucc_lt_zero k),Int.negSucc_eq]
  show _=((n - (k+1):Nat):Int)
  omega
theorem zek(i j:Int)(n:Nat):Builtin.Str.strSliceIndices (some i) (some j) 1 n=Builtin.Str.strSliceIndices (some ((j2 i n:Nat):Int)) (some ((j2 j n:Nat):Int)) 1 n:=by
 have e:∀i:Int,j2 ((j2 i n:Nat):Int) n=j2 i n:=λi=>Nat.min_eq_left (PU i n)
 unfold Builtin.Str.strSliceIndices
 simp only[show(1:Int) > 0 by decide,if_true]
 rw[CA i,CA j,CA (j2 i n:Nat),CA (j2 j n:Nat),e,e]
theorem W7(s:List Nat)(a b:Nat)(ha:a<=s.length)(hb:b<=s.length):Txt.slice (S s) (some (a:Int)) (some (b:Int))=S (cut s a b):=by
 by_cases wH:a<=b
 ·rw[zr3];exact sliceText_nat (S s) wH (by rw[zr];exact hb)
 ·have hc:cut s a b=[]:=by rw[zr3,Nat.sub_eq_zero_of_le (Nat.le_of_not_le wH)];exact List.take_zero
  have he:Builtin.Str.strSliceIndices (some (a:Int)) (some (b:Int)) 1 (S s).length=[]:=by
   unfold Builtin.Str.strSliceIndices
   simp only[show(1:Int) > 0 by decide,if_true]
   rw[zr,CA,CA,show j2 (a:Int) s.length=a from Nat.min_eq_left ha,show j2 (b:Int) s.length=b from Nat.min_eq_left hb]
   unfold sliceRange
   simp only[show(1:Int) > 0 by decide,if_true]
   rw[if_neg (show ¬((a:Int)<b) by lia)]
   rfl
  have h0:((0:Nat)==(S s).length)=false:=by rw[zr,beq_eq_false_iff_ne];lia
  unfold Txt.slice
  rw[he,hc,List.length_nil,h0]
  rfl
theorem P5(s:List Nat)(i j:Int):Txt.slice (S s) (some i) (some j)=S (cut s (j2 i s.length) (j2 j s.length)):=by
 rw[<-W7 s _ _ (PU i s.length) (PU j s.length)]
 unfold Txt.slice
 rw[zr,zek]
theorem zkf(s:List Nat)(j:Int):Txt.slice (S s) none (some j)=S (cut s 0 (j2 j s.length)):=by
 have:Txt.slice (S s) none (some j)=Txt.slice (S s) (some 0) (some j):=by unfold Txt.slice;rw[sliceIdx_none_lo]
 rw[this,P5]
 have:j2 0 s.length=0:=by show Nat.min 0 s.length=0;exact Nat.zero_min _
 rw[this]
theorem zl4(s:List Nat)(i:Int):Txt.slice (S s) (some i) none=S (cut s (j2 i s.length) s.length):=by
 have:Txt.slice (S s) (some i) none=Txt.slice (S s) (some i) (some (s.length:Int)):=by unfold Txt.slice;rw[sliceIdx_none_hi,zr]
 rw[this,P5]
 have:j2 (s.length:Int) s.length=s.length:=Nat.min_self _
 rw[this]
section
theorem JD{x:Str}{t:Tok}{a:Addr}{l u:Option (Int×Tok)}{r:List Nat}{rr:Res AV}(H:HR c μ σ s.heap)(hs:s.heap.get? a=some { cls:=.type "slice",data:=.fields #[partValue l,partValue u,.none] })(h:Txt.slice x (l.map (·.1)) (u.map (·.1))=S r)(er:rr=Cm r σ)(ns:rr≠.stuck):
  wpAny (model prog c.w) A (getItem (.str x t) (.ref a)) (PQ c (RV c) rr μ σ s) (PE c rr μ σ s) s:=by
 unfold Cm at er
 refine oA (z8 (λz=>ns (er.trans z))) λh1 e1=>?_
 have hl:=w5 h1
 rw[zb] at hl
 refine wpAny_getItem_str_slice (l:=l) (u:=u) (st:=none) ⟨_,hs,rfl,rfl⟩ rfl (post_val_or_str ⟨?_,λt' k=>?_⟩)
 ·show(Txt.slice x (l.map (·.1)) (u.map (·.1))).length<=_
  rw[h,zr,sizeLine_eq];exact fy hl rfl
 ·show PQ c (RV c) rr μ σ s (.str (Txt.slice x (l.map (·.1)) (u.map (·.1))) t') _
  rw[h]
  exact PQ.tok H (er.trans e1) (VR.lz rfl)
theorem zpb{q:Nat}{x:List Nat}{i j:Nat}(h:Nat.beq q 0=false)(h3:i<=x.length)(h4:j<=x.length):Txt.slice (S (c.wrap q x)) (some (c.off 1+Int.ofNat i)) (some (c.off 1+Int.ofNat j))=S (cut x i j):=by
 obtain⟨r,hw⟩:∃r,c.wrap q x=c.P++(x++r):=by
  match q,wm h with
  |1,_=>exact⟨[],by rw[List.append_nil];rfl⟩
  |j+2,_=>exact⟨c.R,List.append_assoc _ _ _⟩
 have ei:∀k:Nat,c.off 1+Int.ofNat k=((c.P.length+k:Nat):Int):=λk=>rfl
 have hl:(c.P++(x++r)).length=c.P.length+(x.length+r.length):=by rw[List.length_append,List.length_append]
 rw[ei,ei,hw,W7 _ _ _ (by lia) (by lia)]
 rw[zr3,zr3,List.drop_append,List.drop_of_length_le (Nat.le_add_right _ _),List.nil_append,Nat.add_sub_cancel_left,Nat.add_sub_add_left,List.drop_append_of_le_length h3,List.take_append_of_le_length (by rw[List.length_drop];exact Nat.sub_le_sub_right h4 _)]
theorem yH: vf prog c A:=by
 intro μ σ s y v yl vl yu vu a H ry rl ru hs ns
 generalize er:rS y yl yu σ = r0 at ns ⊢
 refine ry.eS ns er λq x t er=>⟨⟨"str",_,typeIs_str s _ t,F.slot_str_getitem.lookup⟩,?_⟩
 revert hs
 refine jE er (λh1 er=>z5 h1 (rl.eE ns er (λer=>ru.eE ns er (λe=>w1 e.symm ns) λj u er hs=>?_) λi u' er=>ru.eE ns er (λer hs=>?_) λj u er hs=>?_)) λh er=>rl.eN ns er λq' i u' er=>ru.eN ns er λSi j u er=>bT ns er λh0 er=>n4 h0 λh1 h2 h3 h4=>z5 h1 (z5 h2 λhs=>?_)
 ·exact JD (l:=none) (u:=some (j,u)) H hs (zkf x j) er.symm ns
 ·exact JD (l:=some (i,u')) (u:=none) H hs (zl4 x i) er.symm ns
 ·exact JD (l:=some (i,u')) (u:=some (j,u)) H hs (P5 x i j) er.symm ns
 ·exact JD (l:=some (_,u')) (u:=some (_,u)) H hs (zpb h (w5 h3) (w5 h4)) er.symm ns
theorem zbi(l:List Value):slicePick l.toArray none none (some (-1))=l.reverse.toArray:=by
 unfold slicePick sliceBounds sliceRange
 have hn:¬((-1:Int) > 0):=by decide
 simp only[hn,if_false,List.size_toArray,Option.getD_some]
 congr 1
 have hc:(if (l.length:Int) - 1 > -1 then (((l.length:Int) - 1 - -1 - -1 - 1) / - -1) else 0).toNat=l.length:=by
  split
  ·have:(- -1:Int)=1:=rfl
   rw[this,Int.ediv_one];lia
  ·lia
 rw[hc]
 have key:∀n,n<=l.length->(List.range n).filterMap (λ(x:Nat)=>l.toArray[((l.length:Int) - 1 + -1 * (x:Int)).toNat]?)=l.reverse.take n:=by
  intro n
  induction n with
  |zero=>intro _;simp
  |succ n ih=>
   intro h
   rw[List.range_succ,List.filterMap_append,ih (iI h)]
   have hi:((l.length:Int) - 1 + -1 * (n:Int)).toNat=l.length - 1 - n:=by lia
   have iZ:l.length - 1 - n<l.length:=by lia
   simp only[List.filterMap_cons,List.filterMap_nil,List.getElem?_toArray,hi,List.getElem?_eq_getElem iZ]
   rw[List.take_succ]
   congr 1
   rw[List.getElem?_reverse h,List.getElem?_eq_getElem iZ]
   rfl
 have:=key l.length (wa _)
 rw[List.filterMap_map]
 rw[List.take_of_length_le (by simp)] at this
 exact this
theorem yF: vd prog c A:=by
 intro μ σ s y v vs a H ry ht hs ns
 generalize er:js y σ = r0 at ns ⊢
 refine ry.eO ns er λo er ho=>M6 ns er λl el er=>bT ns er λh4 er=>?_
 have hl:=w5 h4
 rw[zb] at hl
 refine bw (H.listOf ho el) λws n bJ rs=>?_
 have Zy:=rs.len
 have qC:s.heap.IsList (μ o) ws.toArray:=⟨_,bJ,rfl,_,rfl⟩
 refine⟨⟨"list",_,qC.typeIs,slot_list_getitem.lookup⟩,?_⟩
 refine oE ht ?_;clear ht;rintro t rfl
 refine wpAny_getItem_list_slice qC (lo:=none) (hi:=none) (st:=some (-1)) ⟨_,hs,rfl,rfl⟩ .none .none (.int _ _) (by simp) ?_ (by rw[List.size_toArray,sizeLine_eq];exact jO Zy hl rfl)
 rw[zbi]
 have:=H.alloc (o:={ cls:=.type "list",data:=.seq ws.reverse.toArray }) (a:=.list l.reverse) rfl (.list ((rs.rev).mono (Nat.le_succ _) (λi hi=>y8 hi) λa o e _=>wc _ e))
 have X:VR c (yg μ σ.n s.heap.objs.size) (σ.n+1) (s.heap.push { cls:=.type "list",data:=.seq ws.reverse.toArray }) (.obj σ.n) (.ref (yg μ σ.n s.heap.objs.size σ.n)):=.obj (wb _)
 rw[zz] at X
 exact PQ.fin (aw:={ s with heap:=s.heap.push _ }) this.1 this.2 ⟨rfl,rfl,rfl⟩ er.symm X
end
end
section
open PySem.SeqAt PySem.StrLaws
section
theorem PH{q:Nat}(h:ka q n σ≠.stuck):n<=1000000/\ka q n σ = .ok (.int q (.ofNat n)) σ:=by
 unfold ka at h ⊢
 refine oA (z8 h) λh1 e1=>?_
 exact⟨w5 h1,e1⟩
theorem zp8{q:Nat}(hq:q<=2)(hP:c.P.length<=1000000)(hR:c.R.length<=1000000){x:List Nat}(hl:x.length<=1000000):((S (c.wrap q x)).length:Int)=c.off q+(x.length:Int)/\(c.wrap q x).length<=3000000:=by
 rw[zr]
 match q,hq with
 |0,_=>exact⟨by show(x.length:Int)=0+_;exact Eq.symm (Int.zero_add _),by show x.length<=_;exact fy hl rfl⟩
 |1,_=>exact⟨by show((c.P++x).length:Int)=(c.P.length:Int)+_;simp,by show(c.P++x).length<=_;simp;exact pH hP hl rfl⟩
 |2,_=>exact⟨by show((c.P++x++c.R).length:Int)=(c.P.length:Int)+(c.R.length:Int)+_;simp;lia,by show(c.P++x++c.R).length<=_;simp;exact pH hP (Nat.add_le_add hl hR) rfl⟩
theorem vE(hP:c.P.length<=1000000)(hR:c.R.length<=1000000){a:AV}(H:HR c μ σ s.heap)(r:VR c μ σ.n s.heap a v):WP prog c A (RV c) (call (.builtin "len") [v]) (vx a σ) μ σ s:=λns=>by
 refine r.on (M:=λa v=>WP prog c A (RV c) (call (.builtin "len") [v]) (vx a σ) μ σ s) ns (λ_ _ _ z=>w1 rfl z) (λq x t ns=>WP.gen λr0 er _=>?_) (λl vs b ns ht rs=>WP.gen λr0 er _=>?_) (λo ns ho=>WP.gen λr0 er _=>?_) ns
 ·refine oB ns λhq e0 ns=>?_
  refine oA (PH ns) λhl e=>?_
  rw[zb] at hl
  refine oA (zp8 (w5 hq) hP hR hl) λh1 h2=>?_
  exact P.len_str (by rw[zr];lia) (PQ.tok H (er.symm.trans (e0.trans e)) (VR.cy (by rw[zb];exact h1.symm)))
 ·refine oA (PH ns) λhl e=>?_
  rw[zb] at hl
  have hz:=rs.len
  refine len_tuple ht (by rw[List.size_toArray];lia) (PQ.tok H (er.symm.trans e) (VR.cy ?_))
  rw[List.size_toArray,hz,zb]
  exact Int.zero_add _
 ·refine HO ns λl el e3 ns=>?_
  refine oA (PH ns) λhl e=>?_
  rw[zb] at hl
  refine bw (H.listOf ho el) λws n bJ rs=>?_
  have hz:=rs.len
  refine Calls.call_len_list (items:=ws.toArray) ⟨_,bJ,rfl,_,rfl⟩ (by rw[List.size_toArray];lia) (PQ.tok H (er.symm.trans (e3.trans e)) (VR.cy ?_))
  rw[List.size_toArray,hz,zb]
  exact Int.zero_add _
theorem vG{a:AV}(H:HR c μ σ s.heap)(r:VR c μ σ.n s.heap a v):WP prog c A (RV c) (call (.builtin "ord") [v]) (CY a σ) μ σ s:=by
 refine WP.gen λr0 er ns=>?_
 revert er
 refine r.oS ns λq x t ns er=>?_
 refine oB ns λh2 e2 ns=>?_
 obtain rfl:=za h2
 match x with
 |[]=>exact w1 rfl ns
 |_::_::_=>exact w1 rfl ns
 |[ch]=>exact P.ord_of_char (PQ.tok H (er.symm.trans e2) (VR.cy (Int.zero_add _)))
theorem vB{a:AV}(H:HR c μ σ s.heap)(r:VR c μ σ.n s.heap a v):WP prog c A (RV c) (call (.builtin "chr") [v]) (CX a σ) μ σ s:=by
 refine WP.gen λr0 er ns=>?_
 revert er
 refine r.oN ns λq ch t ns er=>?_
 refine oA (z8 ns) λh1 e1=>?_
 refine n2 h1 λh1 h2=>?_
 obtain rfl:=za h1
 have hl:=w5 h2
 have ei:c.off 0+Int.ofNat ch=(ch:Int):=Int.zero_add _
 rw[ei]
 exact P.chr_of_int (by rw[decide_eq_false (Int.not_lt_of_ge (Int.ofNat_nonneg _)),decide_eq_false (by lia)];rfl) (PQ.tok H (er.symm.trans e1) (VR.lz (q:=0) (x:=[ch]) rfl))
theorem zji{a:AV}(H:HR c μ σ s.heap)(r:VR c μ σ.n s.heap a v):WP prog c A (RV c) (call (.type "tuple") [v]) (Q9 a σ) μ σ s:=λns=>by
 refine r.on (M:=λa v=>WP prog c A (RV c) (call (.type "tuple") [v]) (Q9 a σ) μ σ s) ns (λ_ _ _ z=>w1 rfl z) (λ_ _ _ z=>w1 rfl z) (λl vs b _ ht rs _=>?_) (λo ns ho=>WP.gen λr0 er _=>?_) ns
 ·exact call_tuple_same (A:=A) (show s.heap.IsTuple b vs.toArray from ht) (PQ.fin H (.refl _ _ _) (.refl _) rfl (.tup ht rs))
 ·refine HO ns λl el e3 ns=>?_
  refine oA (z8 ns) λh1 e1=>?_
  have hl:=w5 h1
  rw[zb] at hl
  refine bw (H.listOf ho el) λws n bJ rs=>?_
  have hz:=rs.len
  refine call_tuple_list ⟨_,bJ,rfl,_,rfl⟩ (λh' hk=>?_) (by rw[List.size_toArray,sizeLine_eq];exact jO hz hl rfl)
  have G:=H.dJ hk
  have G2:=G.1.push { cls:=.type "tuple",data:=.seq ws.toArray }
  exact PQ.fin (aw:={ s with heap:=h'.push { cls:=.type "tuple",data:=.seq ws.toArray } }) G2.1 (G.2.trans G2.2) ⟨rfl,rfl,rfl⟩ (er.symm.trans (e3.trans e1)) (.tup ⟨_,we _ rfl,rfl,_,rfl⟩ ((rs.ext H G.2).ext G.1 G2.2))
theorem zln{a:AV}(H:HR c μ σ s.heap)(r:VR c μ σ.n s.heap a v):WP prog c A (RV c) (call (.type "list") [v]) (sE a σ) μ σ s:=by
 refine WP.gen λr0 er ns=>?_
 revert er
 refine r.oO ns λo ns ho er=>?_
 refine HO ns λl el e3 ns=>?_
 refine oA (z8 ns) λh1 e1=>?_
 have hl:=w5 h1
 rw[zb] at hl
 refine bw (H.listOf ho el) λws n bJ rs=>?_
 have hz:=rs.len
 refine call_list_seq (μ o) (T:="list") (n:=n) (.inl rfl) bJ rfl rfl (λh' c' hk hg=>?_) (by rw[List.size_toArray,sizeLine_eq];exact jO hz hl rfl)
 have G:=H.dJ hk
 have hn:s.heap.get? s.heap.objs.size=none:=Heap.get?_none_of_le (wa _)
 have kP:∀i,i < σ.n->μ i≠s.heap.objs.size:=λi hi z=>wn (H.lt hi) z
 have tk:y1 s.heap h':=λa o e _=>hk a o e
 have AD:=G.1.adopt (b:=s.heap.objs.size) (a:=.list l) hg kP H.cP (.list (rs.mono (Nat.le_succ _) (λi hi=>y8 hi) tk))
 refine PQ.fin (aw:={ s with heap:=h' }) AD ?_ ⟨rfl,rfl,rfl⟩ (er.symm.trans (e3.trans e1)) ?_
 ·refine⟨Nat.le_succ _,λi hi=>y8 hi,λi a b=>?_,G.2.kp,G.2.own⟩
  obtain rfl:i = σ.n:=Nat.le_antisymm (Nat.le_of_lt_succ b) a
  rw[zz];exact hn
 ·have:VR c (yg μ σ.n s.heap.objs.size) (σ.n+1) h' (.obj σ.n) (.ref (yg μ σ.n s.heap.objs.size σ.n)):=.obj (wb _)
  rw[zz] at this
  exact this
theorem vD{a:AV}(H:HR c μ σ s.heap)(r:VR c μ σ.n s.heap a v):WP prog c A (RV c) (call (.type "int") [v]) (vt a σ) μ σ s:=by
 intro ns
 induction r using vC with
 |bool b=>
  refine call_int_bool (PQ.tok H rfl (VR.cy ?_))
  cases b <;> rfl
 |_=>exact w1 rfl ns
theorem vF(hh:A.handled=none)(H:HR c μ σ s.heap)(r:aH c μ σ.n s.heap args vs):WP prog c A (RV c) (call (.builtin "max") vs) (B8 args σ) μ σ s:=by
 refine WP.gen λr0 er ns=>?_
 refine eQ (HQ ns) ?_;rintro a b rfl
 revert er
 refine r.k2 λ_ _ r r'=>r.oI ns λq i t ns=>r'.oI ns λq' j u ns er=>?_
 refine au (yt ns) λb el e1=>?_
 replace er:=er.symm.trans e1
 have le:=Vw (c:=c) el
 refine max_two_ints hh λh' tk hk=>?_
 have G:=H.dJ hk
 induction b with
 |true=>
  rw[if_pos (show c.off q'+j > c.off q+i from of_decide_eq_true le.symm)]
  exact PQ.fin (aw:={ s with heap:=h',toks:=tk }) G.1 G.2 ⟨rfl,rfl,rfl⟩ er (.int q' j u)
 |false=>
  rw[if_neg (show ¬(c.off q'+j > c.off q+i) from of_decide_eq_false le.symm)]
  exact PQ.fin (aw:={ s with heap:=h',toks:=tk }) G.1 G.2 ⟨rfl,rfl,rfl⟩ er (.int q i t)
theorem EU{mx:Bool}(hP:c.P.length<=1000000)(hR:c.R.length<=1000000)(DO:mx=true->A.handled=none):Ku prog c A mx:=by
 intro k μ σ s args vs H r
 have one:∀{B:Value}{f:AV->AH->Res AV},(∀a v,VR c μ σ.n s.heap a v->WP prog c A (RV c) (call B [v]) (f a σ) μ σ s)->WP prog c A (RV c) (call B vs) (mE args λa=>f a σ) μ σ s:=by
  intro B f hf ns
  refine oE (HT ns) ?_;rintro a rfl
  exact r.k1 λv r=>hf _ _ r ns
 match k with
 |0=>exact one λa v r=>vE hP hR H r
 |1=>exact one λa v r=>vG H r
 |2=>exact one λa v r=>vB H r
 |3=>
  intro ns
  replace ns:ak mx (B8 args σ) .stuck≠.stuck:=ns
  show wpAny _ _ _ (PQ c (RV c) (ak mx (B8 args σ) .stuck) μ σ s) (PE c (ak mx (B8 args σ) .stuck) μ σ s) s
  refine oA (z8 ns) λh1 e1=>?_
  rw[e1] at ns ⊢
  exact vF (DO h1) H r ns
 |4=>exact λns=>w1 rfl ns
 |5=>exact one λa v r=>zji H r
 |6=>exact one λa v r=>zln H r
 |7=>exact λns=>w1 rfl ns
 |8=>exact one λa v r=>vD H r
 |k+9=>exact λns=>w1 rfl ns
end
end
section
open PySem.SeqAt PySem.StrLaws
theorem zhq: nm JA=("append":Str):=by decide +kernel
theorem xK: nm K4=("pop":Str):=by decide +kernel
theorem zje: nm JC=("extend":Str):=by decide +kernel
theorem xJ: nm Kb=("get":Str):=by decide +kernel
theorem zdc{l:List Value}{x:Value}(h:l.getLast? = some x):l.toArray[l.toArray.size - 1]? = some x:=by
 rw[List.getLast?_eq_getElem?] at h
 simpa using h
section
variable{G:Gl}
theorem zeg(f:Array Value->Array Value)(vs:Array Value)(n:Nat):∃k,Obj.mapSeq f { cls:=.type "list",data:=.seq vs n } = { cls:=.type "list",data:=.seq (f vs) k }:=⟨_,rfl⟩
theorem HR.e_(H:HR c μ σ s.heap){o:Nat}(ho:o < σ.n){vs:Array Value}(e:s.heap.get? (μ o)=some { cls:=.type "list",data:=.seq vs n }){f:Array Value->Array Value}{l:List AV}{ws:List Value}(hf:f vs=ws.toArray)(r:aH c μ σ.n s.heap l ws):
  HR c μ (σ.put o (.list l)) (s.heap.update (μ o) (Obj.mapSeq f))/\Ext μ σ.n s.heap μ (σ.put o (.list l)).n (s.heap.update (μ o) (Obj.mapSeq f)):=by
 refine oE (zeg f vs n) λk ek=>?_
 refine H.update (a':=.list l) ho e (by rw[ek];rfl) ?_
 rw[ek,hf]
 exact .list (r.mono (wa _) (λ_ _=>rfl) (H.bU ho))
theorem aH.dropLast{l:List AV}(r:aH c μ n h l vs):aH c μ n h l.dropLast vs.dropLast:=by
 induction l generalizing vs with
 |nil=>exact r.k0 (Q:=λvs=>aH c μ n h [] vs.dropLast) .nil
 |cons a l ih=>
  refine r.kC λv ws x y=>?_
  induction l using lC with
  |nil=>exact y.k0 (Q:=λws=>aH c μ n h [] (v::ws).dropLast) .nil
  |cons b l=>exact y.kC (Q:=λws=>aH c μ n h (a::(b::l).dropLast) (v::ws).dropLast) λw ws x' y'=>.cons x (ih (.cons x' y'))
theorem aH.last{l:List AV}(r:aH c μ n h l vs){x:AV}(e:l.getLast? = some x):∃v,vs.getLast? = some v/\VR c μ n h x v:=by
 have:=r.at (l.length - 1)
 rw[List.getLast?_eq_getElem?] at e
 rw[e] at this
 refine au this λv hv rv=>?_
 exact aT v (by rw[List.getLast?_eq_getElem?,r.len];exact hv) rv
section
variable{o:Nat}{l:List AV}{ws:List Value}(H:HR c μ σ s.heap)(ho:o < σ.n)(el:σ.get o = .list l)(r:aH c μ σ.n s.heap args ws)
include H ho el r
theorem zos: WP prog c A (RV c) (call (.builtin "list.append") (.ref (μ o)::ws)) (Qp o l args σ) μ σ s:=by
 refine WP.gen λr0 er ns=>?_
 refine oE (HT ns) ?_;rintro x rfl
 refine r.k1 λw rx=>?_
 refine oA (z8 ns) λh1 e1=>?_
 have hl:=w5 h1
 rw[zb] at hl
 refine bw (H.listOf ho el) λvs n bJ rs=>?_
 have hz:=rs.len
 refine call_meets F.slot_list_append ⟨_,bJ,rfl⟩ F.entry_list_append (F.args_list_append_2 _ _) (list_append _ _ n _ (by rw[List.size_toArray,sizeLine_eq];exact jO hz hl rfl)) ⟨bJ,?_⟩
 have U:=H.e_ ho bJ (f:=λxs=>xs.push w) (ws:=vs++[w]) (by simp) (rs.app (.cons rx .nil))
 exact PQ.fin (aw:={ s with heap:=s.heap.update (μ o) _ }) U.1 U.2 ⟨rfl,rfl,rfl⟩ (er.symm.trans (e1.trans (by rw[j9]))) .none
theorem Ed: WP prog c A (RV c) (call (.builtin "list.pop") (.ref (μ o)::ws)) (w_ o l args σ) μ σ s:=by
 refine WP.gen λr0 er ns=>?_
 induction args using lC with
 |cons _ _=>exact w1 rfl ns
 |nil=>
  refine r.k0 ?_
  refine Fd ns λx ex e6 ns=>?_
  refine oA (z8 ns) λh1 e7=>?_
  rw[lst_eq] at ex
  have hl:=w5 h1
  rw[zb] at hl
  refine bw (H.listOf ho el) λvs n bJ rs=>?_
  have hz:=rs.len
  refine au (rs.last ex) λv hv rv=>?_
  refine call_meets F.slot_list_pop ⟨_,bJ,rfl⟩ F.entry_list_pop (F.args_list_pop_1 _) (MeetsSeq.list_pop_last _ _ n v (zdc hv) (by rw[List.size_toArray,sizeLine_eq];exact jO hz hl rfl)) ⟨bJ,?_⟩
  have U:=H.e_ ho bJ (f:=λxs=>xs.eraseIdxIfInBounds (vs.toArray.size - 1)) (ws:=vs.dropLast) (by simp[List.eraseIdx_length_sub_one]) rs.dropLast
  exact PQ.fin (aw:={ s with heap:=s.heap.update (μ o) _ }) U.1 U.2 ⟨rfl,rfl,rfl⟩ (er.symm.trans (e6.trans (e7.trans (by rw[ini_eq])))) (rv.ext H U.2)
theorem zot: WP prog c A (RV c) (call (.builtin "list.extend") (.ref (μ o)::ws)) (Qq o l args σ) μ σ s:=by
 refine WP.gen λr0 er ns=>?_
 refine oE (HT ns) ?_;rintro a rfl
 revert er
 refine r.k1 λ_ r=>r.oO ns λp ns hp er=>?_
 refine au (yj ns) λl' Yx e5=>?_
 rw[e5] at ns
 refine oA (z8 ns) λh1 e6=>?_
 refine n2 h1 λ_ h2=>?_
 have hl:=w5 h2
 rw[zb,zb] at hl
 refine bw (H.listOf ho el) λvs n bJ rs=>?_
 refine bw (H.listOf hp Yx) λmv n' Lz eZ=>?_
 have hz:=rs.len
 have RH:=eZ.len
 have DM:¬(!vs.toArray.isEmpty&&Builtin.List.listTooLong (vs.toArray.size+mv.toArray.size))=true:=by
  have:Builtin.List.listTooLong (vs.toArray.size+mv.toArray.size)=false:=by
   unfold Builtin.List.listTooLong
   rw[List.size_toArray,List.size_toArray,sizeLine_eq]
   exact decide_eq_false (Nat.not_lt_of_le (pG hz RH hl rfl))
  rw[this,Bool.and_false]
  exact Bool.false_ne_true
 refine call_meets F.slot_list_extend ⟨_,bJ,rfl⟩ F.entry_list_extend (F.args_list_extend_2 _ _) (AutoSeq1.list_extend_list_list_0 _ _ n _ _ n' DM (by rw[List.size_toArray,sizeLine_eq];exact jO hz (iI hl) rfl) (by rw[List.size_toArray,List.size_toArray,sizeLine_eq];exact pG hz RH hl rfl)) ⟨bJ,Lz,?_⟩
 have U:=H.e_ ho bJ (f:=λx=>x++mv.toArray) (ws:=vs++mv) (by simp) (rs.app eZ)
 exact PQ.fin (aw:={ s with heap:=s.heap.update (μ o) _ }) U.1 U.2 ⟨rfl,rfl,rfl⟩ (er.symm.trans (e5.trans (e6.trans (by rw[j9])))) .none
end
theorem zla: mM prog c A:=by
 intro m hm
 unfold uG at hm
 simp only[Bool.or_eq_true] at hm
 have plain:∀{s:Shared}{a:Addr}{vs:Array Value}{k:Nat},s.heap.get? a=some { cls:=.type "list",data:=.seq vs k }->∀b,Value.ref a = .ref b->∃o,s.heap.get? b=some o/\o.dict=none:=λh b e=>by cases e;exact aT _ h rfl
 rcases hm with hm | hm | hm
 ·obtain rfl:=za hm
  refine aT ("list.append") (λs a vs k pl Q E hl h=>?_) (λμ σ s o args ws H ho r ns=>?_)
  ·rw[zhq]
   exact getMethod_builtin ⟨_,hl,rfl⟩ F.plainAttrs_list F.slot_list_append F.type_list_append (plain hl) h
  ·refine au (yj ns) λl el e3=>?_
   have e4:rN JA o l args σ = Qp o l args σ:=xm rfl
   rw[e3,e4] at ns ⊢
   exact zos H ho el r ns
 ·obtain rfl:=za hm
  refine aT ("list.pop") (λs a vs k pl Q E hl h=>?_) (λμ σ s o args ws H ho r ns=>?_)
  ·rw[xK]
   exact getMethod_builtin ⟨_,hl,rfl⟩ F.plainAttrs_list F.slot_list_pop F.type_list_pop (plain hl) h
  ·refine au (yj ns) λl el e3=>?_
   have e4:rN K4 o l args σ = w_ o l args σ:=rfl
   rw[e3,e4] at ns ⊢
   exact Ed H ho el r ns
 ·obtain rfl:=za hm
  refine aT ("list.extend") (λs a vs k pl Q E hl h=>?_) (λμ σ s o args ws H ho r ns=>?_)
  ·rw[zje]
   exact getMethod_builtin ⟨_,hl,rfl⟩ F.plainAttrs_list F.slot_list_extend F.type_list_extend (plain hl) h
  ·refine au (yj ns) λl el e3=>?_
   have e4:rN JC o l args σ = Qq o l args σ:=rfl
   rw[e3,e4] at ns ⊢
   exact zot H ho el r ns
theorem Xt{U:List (List Nat)}(hU:c.U=U)(bq:∃o,c.base.get? sysModules=some o){o k:Nat}{u:Bool}{es:List (List Nat×AV)}(ho:o < σ.n)(el:σ.get o = .dict u k es){a d:AV}{w:Value}(H:HR c μ σ s.heap)(ra:VR c μ σ.n s.heap a v)(rd:VR c μ σ.n s.heap d w){t:List Value}(ht:t=[w]\/(t=[]/\w = .none)):WP prog c A (RV c) (call (.builtin "dict.get") (.ref (μ o)::v::t)) (m_ U u es a d σ) μ σ s:=by
 refine WP.gen λr0 er ns=>?_
 revert er
 refine ra.oS ns λq key t' ns er=>?_
 refine oB ns λh1 e1 ns=>?_
 obtain rfl:=za h1
 replace er:=er.symm.trans e1
 induction hk:ak u (yw U key) false with
 |true=>rw[hk] at ns;exact w1 rfl ns
 |false=>
  rw[hk] at er
  refine au (H.dictFind (prog:=prog) hU ho el hk) λf hm hf=>?_
  have fin:VR c μ σ.n s.heap (opt (getD es key) d λx=>x) ((f (S key)).getD w):=by
   induction eg:getD es key with
   |none=>rw[eg] at hf;rw[hf];exact rd
   |some y=>rw[eg] at hf;refine au hf λv hv rv=>?_;rw[hv];exact rv
  rcases ht with rfl | ⟨rfl,rfl⟩
  ·exact call_meetsIn F.slot_dict_get hm.typeIs F.entry_dict_get (F.args_dict_get_3 _ _ _) (meets_dict_get_default (strKind prog c.w) (μ o) (rU (key:=key)) (H.noSys bq ho) _) ⟨f,hm,PQ.tok H er fin⟩
  ·exact call_meetsIn F.slot_dict_get hm.typeIs F.entry_dict_get (F.args_dict_get_2 _ _) (meets_dict_get (strKind prog c.w) (μ o) (rU (key:=key)) (H.noSys bq ho)) ⟨f,hm,PQ.tok H er fin⟩
theorem zmo{U:List (List Nat)}(hU:c.U=U)(bq:∃o,c.base.get? sysModules=some o):mK prog c A U:=by
 intro m hm
 obtain rfl:=za hm
 refine aT ("dict.get") (λs a es k pl Q E hl h=>?_) (λμ σ s o args ws H ho r ns=>?_)
 ·rw[xJ]
  exact getMethod_builtin ⟨_,hl,rfl⟩ F.plainAttrs_dict F.slot_dict_get F.type_dict_get (λb e=>by cases e;exact aT _ hl rfl) h
 ·refine dY (W9 ns) λu k es el e3=>?_
  have e4:Cf U Kb u es args σ = zf args .stuck λa t=>zf t (m_ U u es a .none σ) λd t=>zf t (m_ U u es a d σ) λ_ _=>.stuck:=xm rfl
  rw[e3,e4] at ns ⊢
  match args with
  |[]=>exact w1 rfl ns
  |[a]=>exact r.k1 λv ra=>Xt hU bq ho el H ra .none (.inr ⟨rfl,rfl⟩) ns
  |[a,d]=>exact r.k2 λv w ra rd=>Xt hU bq ho el H ra rd (.inl rfl) ns
  |_::_::_::_=>exact w1 rfl ns
end
end
section
open PySem.SeqAt PySem.StrLaws
section
variable{G:Gl}
theorem VQ{d:Addr}{es:Array DictEntry}{ep:Nat}{k:Str}{key:Value}{Q:Unit->Shared->Prop}{E:Value->Shared->Prop}(kK:(strKind prog c.w).is k key=true)(ho:s.heap.get? d=some o)(hd:o.data = .dict es ep)(hk:∀en∈es,∃kk,(strKind prog c.w).is kk en.key=true/\en.hash=(strKind prog c.w).hash kk)(hz:es.size<=sizeLine)(h:match es.findIdx? (λe=>(strKind prog c.w).is k e.key) with
   |some i=>Q () { s with heap:=s.heap.update d (Obj.mapDict (·.modify i λe=>{ e with val:=v })),toks:=s.toks+1 }
   |none=>Q () { s with heap:=s.heap.update d (Obj.mapDictKeys (·.push ⟨(strKind prog c.w).hash k,key,v⟩)),toks:=s.toks+1 }):
  wpAny (model prog c.w) A (dictSet d key v) Q E s:=by
 unfold dictSet
 try with_reducible refine wi ?_
 refine wg ((strKind prog c.w).pyHash kK ?_)
 unfold dictSetHashed
 try with_reducible refine wi ?_
 refine wg (wpAny_dictFind_of (s:={ s with toks:=s.toks+1 }) kK ho hd hk ?_)
 induction hi:es.findIdx? λe=>(strKind prog c.w).is k e.key with
 |some i=>
  rw[hi] at h
  exact wg (wpAny_rule (wg (wpAny_updateDict (s:={ s with toks:=s.toks+1 }) ho hd (wpAny_point h))))
 |none=>
  rw[hi] at h
  exact wg (wpAny_rule (wpAny_updateDictKeys (hz:=hz) (s:={ s with toks:=s.toks+1 }) ho hd h))
theorem zgc{d:Addr}{es:Array DictEntry}{ep:Nat}{k:Str}{key:Value}{Q:Unit->Shared->Prop}{E:Value->Shared->Prop}(kK:(strKind prog c.w).is k key=true)(ho:s.heap.get? d=some o)(hc:o.cls = .type "dict")(hd:o.data = .dict es ep)(hk:∀en∈es,∃kk,(strKind prog c.w).is kk en.key=true/\en.hash=(strKind prog c.w).hash kk)(hz:es.size<=sizeLine)(h:match es.findIdx? (λe=>(strKind prog c.w).is k e.key) with
   |some i=>Q () { s with heap:=s.heap.update d (Obj.mapDict (·.modify i λe=>{ e with val:=v })),toks:=s.toks+1 }
   |none=>Q () { s with heap:=s.heap.update d (Obj.mapDictKeys (·.push ⟨(strKind prog c.w).hash k,key,v⟩)),toks:=s.toks+1 }):
  wpAny (model prog c.w) A (setItem (.ref d) key v) Q E s:=by
 have hT:s.TypeIs (.ref d) "dict":=⟨_,ho,hc⟩
 unfold setItem
 try with_reducible refine wi ?_
 refine wg (wpAny_sequenceKey hT (by decide) ?_)
 refine wg (wpAny_callSpecial?_slot (name:=Str.ofString "__setitem__") hT slot_dict_setitem
  (wpAny_call_entry slot_dict_setitem hT entry_dict_setitem ?_ (args_dict_setitem _ _ _)))
 show wpAny _ _ (Builtin.Dict.notOrdered "__setitem__" ⟨[.ref d,key,v],[]⟩ >>= _) _ _ s
 refine wg (wpAny_notOrdered_dict hT ?_)
 show wpAny _ _ (dictSet d key v >>= _) _ _ s
 refine wg (VQ kK ho hd hk hz ?_)
 split
 ·rename_i i hi;rw[hi] at h;exact wh ⟨.none,rfl,wh h⟩
 ·rename_i hi;rw[hi] at h;exact wh ⟨.none,rfl,wh h⟩
theorem zap(a b:List Nat)(t:Tok):Value.isStrOf (S a) (.str (S b) t)=cu b a:=by
 induction q:cu b a with
 |true=>rw[(yd _ _).mp q];exact QH
 |false=>exact Ki λz=>TF (((yd _ _).mpr z).symm.trans q)
theorem Pa(p:List Nat×AV)(l:List (List Nat×AV))(x:List Nat):getD (p::l) x=ak (cu p.1 x) (some p.2) (getD l x):=rfl
theorem Pf(p:List Nat×AV)(l:List (List Nat×AV))(x:List Nat)(v:AV):uA (p::l) x v=ak (cu p.1 x) ((p.1,v)::l) (p::uA l x v):=rfl
theorem fz.len{es:List (List Nat×AV)}{ents:List DictEntry}(r:fz c μ n h es ents):ents.length=es.length:=by
 induction r with
 |nil=>rfl
 |cons _ _ ih=>simp only[List.length_cons];rw[ih]
theorem fz.put{es:List (List Nat×AV)}{ents:List DictEntry}(r:fz c μ n h es ents)(key:List Nat)(t:Tok){y:AV}(ry:VR c μ n h y v):
  match ents.findIdx? (λe=>Value.isStrOf (S key) e.key) with
  |some j=>(∃z,getD es key=some z)/\fz c μ n h (uA es key y) (ents.modify j λe=>{ e with val:=v })
  |none=>getD es key=none/\fz c μ n h (uA es key y) (ents++[⟨PyData.keyHash c.w.params (S key),.str (S key) t,v⟩]):=by
 induction r with
 |nil=>exact⟨rfl,.cons ry .nil⟩
 |@cons a t' x w l es rx rs ih=>
  rw[List.findIdx?_cons]
  dsimp only
  rw[zap]
  induction q:cu a key with
  |true=>
   rw[if_pos rfl]
   refine⟨⟨x,by rw[Pa];dsimp only;rw[q];rfl⟩,?_⟩
   rw[Pf];dsimp only;rw[q]
   exact .cons ry rs
  |false=>
   rw[if_neg Bool.false_ne_true]
   induction e:es.findIdx? (λe=>Value.isStrOf (S key) e.key) with
   |none=>
    rw[e] at ih
    refine⟨by rw[Pa];dsimp only;rw[q];exact ih.1,?_⟩
    rw[Pf];dsimp only;rw[q]
    exact .cons rx ih.2
   |some j=>
    rw[e] at ih
    refine⟨by rw[Pa];dsimp only;rw[q];exact ih.1,?_⟩
    rw[Pf];dsimp only;rw[q]
    exact .cons rx ih.2
theorem zgk(l m:List α)(j:Nat)(f:α->α):(l++m).modify (j+l.length) f=l++m.modify j f:=by
 induction l with
 |nil=>rfl
 |cons a l ih=>show(a::(l++m)).modify (j+(l.length+1)) f=_;rw[<-Nat.add_assoc,List.modify_succ_cons,ih];rfl
theorem Mo{o:Nat}{f:Bool->Nat->List (List Nat×AV)->Res β}{r:Res β}{P:Prop}(ns:r≠.stuck)(e:(σ.get o).xR .stuck f=r)(k:∀u d es,σ.get o = .dict u d es->f u d es=r->P):P:=by
 induction q:σ.get o with
 |dict u d es=>rw[q] at e;exact k u d es q e
 |_=>rw[q] at e;exact w1 e.symm ns
theorem Wl(hU:c.U=G.U){o:Nat}{key:List Nat}{t:Tok}{z:AV}{w:Value}{m:Sem Unit}(ho:o < σ.n)(H:HR c μ σ s.heap)(rz:VR c μ σ.n s.heap z w)(hm:∀{ob:Obj}{es:Array DictEntry}{ep:Nat}{Q:Unit->Shared->Prop}{E:Value->Shared->Prop},s.heap.get? (μ o)=some ob->ob.cls = .type "dict"->ob.data = .dict es ep->
   (∀en∈es,∃kk,(strKind prog c.w).is kk en.key=true/\en.hash=(strKind prog c.w).hash kk)->es.size<=sizeLine->
   (match es.findIdx? (λe=>(strKind prog c.w).is (S key) e.key) with
    |some i=>Q () { s with heap:=s.heap.update (μ o) (Obj.mapDict (·.modify i λe=>{ e with val:=w })),toks:=s.toks+1 }
    |none=>Q () { s with heap:=s.heap.update (μ o) (Obj.mapDictKeys (·.push ⟨(strKind prog c.w).hash (S key),.str (S key) t,w⟩)),toks:=s.toks+1 })->
   wpAny (model prog c.w) A m Q E s):WP prog c A RU m (rE G o 0 key z σ) μ σ s:=by
 refine WP.gn λr0 er ns=>Mo ns er λu e es el er=>jE er (λ_ z=>w1 z.symm ns) λhk er=>bT ns er λh2 er=>?_
 have hl:=w5 h2
 rw[zb] at hl
 refine H.jA ho el λpre ents k' bJ r1 r2 r3=>?_
 refine dR (Pr (prog:=prog) r1) λgw _ Zj Zb=>?_
 have Lq:∀en∈(pre++ents).toArray,∃kk,(strKind prog c.w).is kk en.key=true/\en.hash=(strKind prog c.w).hash kk:=λen iW=>by
  rw[List.mem_toArray] at iW
  rcases List.mem_append.mp iW with h | h
  ·refine dC (r2.2 en h) λa t _ e1 e2=>?_
   exact aT (S a) (by rw[e1];exact rU) e2
  ·exact Zb en h
 have Iq:ents.length=es.length:=r1.len
 have nG:pre.findIdx? (λe=>Value.isStrOf (S key) e.key)=none:=by
  rw[List.findIdx?_eq_none_iff]
  intro en iW
  refine dC (r2.2 en iW) λa t ha e1 _=>?_
  rw[e1,Ki]
  rintro rfl
  induction u with
  |false=>rw[(r3 rfl).1] at iW;exact nomatch iW
  |true=>exact TF ((XU (hU▸ha)).symm.trans hk)
 have Z8:(pre++ents).toArray.findIdx? (λe=>(strKind prog c.w).is (S key) e.key)=(ents.findIdx? λe=>Value.isStrOf (S key) e.key).map (·+ pre.length):=by
  rw[List.findIdx?_toArray]
  show(pre++ents).findIdx? (λe=>Value.isStrOf (S key) e.key)=_
  rw[List.findIdx?_append,nG,Option.none_or]
 refine hm bJ rfl rfl Lq (by rw[List.size_toArray,List.length_append,sizeLine_eq];have:=r2.1;lia) ?_
 have P:=r1.put key t rz
 rw[Z8]
 have up:∀{f:Obj->Obj}{ng:List DictEntry}{k2 e2:Nat},f (dictOf (pre++ents) k')=dictOf (pre++ng) k2->fz c μ σ.n s.heap (uA es key z) ng->(u=false->pre=[]/\k2=e2)->.ok () (σ.put o (.dict u e2 (uA es key z)))=r0->PQ c RU r0 μ σ s () { s with heap:=s.heap.update (μ o) f,toks:=s.toks+1 }:=λ{f}{_}{_}{e2} eo P r3 er=>by
  have U:=H.update (f:=f) (a':=.dict u e2 (uA es key z)) ho bJ (by rw[eo];rfl) (by rw[eo];exact .dict (P.mono (wa _) (λ_ _=>rfl) (H.bU ho)) r2 r3)
  exact PQ.fin (aw:={ s with heap:=s.heap.update (μ o) _,toks:=s.toks+1 }) U.1 U.2 ⟨rfl,rfl,rfl⟩ er.symm trivial
 induction ej:ents.findIdx? λe=>Value.isStrOf (S key) e.key with
 |some j=>
  rw[ej] at P
  refine oA P ?_;clear P;rintro ⟨z0,eg⟩ P
  rw[eg] at er
  exact up (by simp[Obj.mapDict,dictOf,zgk]) P r3 er
 |none=>
  rw[ej] at P
  refine oA P λeg P=>?_
  rw[eg] at er
  exact up (k2:=k'+1) (by simp[Obj.mapDictKeys,dictOf];rfl) P (λz=>⟨(r3 z).1,congrArg Nat.succ (r3 z).2⟩) er
theorem z9v{l:Addr}{items:Array Value}{e k:Nat}{ki:Int}{t:Tok}{Q:Unit->Shared->Prop}{E:Value->Shared->Prop}(ho:s.heap.get? l=some { cls:=.type "list",data:=.seq items e })(Zh:ki=(k:Int))(h0:0<=ki)(fit:ki<2 ^ 63)(hn:k<items.size)(hQ:Q () { s with heap:=s.heap.update l (Obj.mapSeq (·.setIfInBounds k v)) }):wpAny (model prog c.w) A (setItem (.ref l) (.int ki t) v) Q E s:=by
 have hl:s.heap.IsList l items:=⟨_,ho,rfl,_,rfl⟩
 unfold setItem
 try with_reducible refine wi ?_
 first | refine wg (wh ?_) | skip
 refine wg (wpAny_sequenceKey hl.typeIs (by decide) ?_)
 refine wg (wpAny_callSpecial?_slot (name:=Str.ofString "__setitem__") hl.typeIs slot_list_setitem (wpAny_call_entry slot_list_setitem hl.typeIs entry_list_setitem ?_ (args_list_setitem _ _ _)))
 show wpAny _ _ (Builtin.List.listSubscript? (.int ki t) >>= _) _ _ s
 refine wg (wpAny_listSubscript_int (fitsIndex_of h0 fit) ?_)
 clear fit
 subst Zh
 have hx:items[k]? = some items[k]:=Array.getElem?_eq_getElem hn
 show wpAny _ _ ((seqItemAt l k >>= λr=>pure (r.map (k,·))) >>= _) _ _ s
 refine wg (wg (wpAny_seqItemAt ho rfl (wh ?_)))
 rw[hx]
 show wpAny _ _ (setSeqItemAt l k v >>= _) _ _ s
 refine wg (wpAny_setSeqItemAt ho rfl ?_)
 first
  |exact wg (wh (wh ⟨.none,rfl,wh hQ⟩))
  |exact wh ⟨.none,rfl,wh hQ⟩
theorem zmk(l:List α)(x:α):∀n,Ab l x n=l.set n x:=by
 induction l with
 |nil=>intro n;rfl
 |cons a l ih=>intro n;induction n using nC with
  |zero=>rfl
  |succ n=>show a::Ab l x n=_;rw[ih];rfl
theorem aH.set{l:List AV}(r:aH c μ n h l vs){x:AV}(rx:VR c μ n h x v):∀k,aH c μ n h (l.set k x) (vs.set k v):=by
 induction l generalizing vs with
 |nil=>exact λk=>r.k0 .nil
 |cons a l ih=>
  refine λk=>r.kC λv vs ra rr=>?_
  induction k using nC with
  |zero=>exact .cons rx rr
  |succ k=>exact .cons ra (ih rr k)
theorem zle{o q:Nat}{i:Int}{t:Tok}{z:AV}{w:Value}(ho:o < σ.n)(H:HR c μ σ s.heap)(rz:VR c μ σ.n s.heap z w):WP prog c A RU (setItem (.ref (μ o)) (.int (c.off q+i) t) w) (GD o q i z σ) μ σ s:=by
 refine WP.gn λr0 er ns=>bT ns er λh1=>z5 h1 λer=>?_
 induction i with
 |negSucc _=>exact w1 er.symm ns
 |ofNat k=>
  refine M6 ns er λl el er=>bT ns er λh4 er=>bT ns er λh5 er=>?_
  rw[zmk] at er
  have hk:k<1000:=w5 h5
  have hl:k<l.length:=by have:=w5 h4;rw[zb] at this;exact this
  refine bw (H.listOf ho el) λvs n bJ rs=>?_
  have hz:=rs.len
  rw[yq]
  have U:=H.e_ ho bJ (f:=λx=>x.setIfInBounds k w) (ws:=vs.set k w) (by simp) (rs.set rz k)
  exact z9v bJ (k:=k) rfl (Int.natCast_nonneg k) (show(k:Int)<2 ^ 63 by lia) (by rw[List.size_toArray];exact uW hz hl) (PQ.fin (aw:={ s with heap:=s.heap.update (μ o) _ }) U.1 U.2 ⟨rfl,rfl,rfl⟩ er.symm trivial)
theorem yG(hU:c.U=G.U):ve prog c A G:=λμ σ s y i z v j w H ry ri rz ns=>
 ry.oO (M:=λy v=>WP prog c A RU (setItem v j w) (JF G y i z σ) μ σ s) ns (λo ns ho=>ri.on ns (λq i t _=>zle ho H rz)
  (λq key t ns=>oB (show pl q _≠.stuck from ns) λh1 _ _=>z5 h1 (Wl hU ho H rz λa b d e f g=>zgc (rU (key:=key)) a b d e f g)) (λ_ _ _ z=>w1 rfl z) λ_ z=>w1 rfl z) ns
theorem zmi(hU:c.U=G.U){o:Nat}{key:List Nat}{t:Tok}{z:AV}{w:Value}(ho:o < σ.n)(H:HR c μ σ s.heap)(rz:VR c μ σ.n s.heap z w):
  WP prog c A RU (dictSet (μ o) (.str (S key) t) w) (rE G o 0 key z σ) μ σ s:=
 Wl hU ho H rz λa b d e f g=>VQ (rU (key:=key)) a d e f g
end
end
section
open PySem.SeqAt PySem.StrLaws
theorem zbt: nm OR=("startswith":Str):=by decide +kernel
theorem zlx: nm JY=("find":Str):=by decide +kernel
theorem zn2: nm JT=("join":Str):=by decide +kernel
theorem VP: nm xx=("replace":Str):=by decide +kernel
theorem zkw: nm JK=("index":Str):=by decide +kernel
theorem Ke(p x:List Nat)(k:Nat):(p++x).drop (p.length+k)=x.drop k:=by
 rw[List.drop_append,List.drop_of_length_le (Nat.le_add_right _ _),List.nil_append,show p.length+k - p.length=k from(Nat.add_sub_cancel_left _ _)]
theorem Vr(n k:Nat):fromIndex n ((k:Nat):Int)=k:=by
 unfold fromIndex
 rw[if_neg (Int.not_lt_of_ge (Int.ofNat_nonneg _))]
 exact HY (wa _) (wa _)
theorem Hs{w:List Nat}(h:k_ w=true):w≠[]:=by rintro rfl;exact FT h
theorem VC{w:List Nat}:∀{s:List Nat}{i j:Nat},w≠[]->zo w s i=some j->i<=j/\j<i+s.length/\y4 w (s.drop (j - i))=true
 |[],i,j,hw,h=>by
  rw[Hh] at h
  induction w using lC with
  |nil=>exact w1 rfl hw
  |cons _ _=>exact NS h
 |a::s,i,j,hw,h=>by
  rw[kb] at h
  induction hp:y4 w (a::s) with
  |true=>rw[hp] at h;obtain rfl:=w3 h;exact dp (wa _) (by simp) (by rw[Nat.sub_self];exact hp)
  |false=>
   rw[hp] at h
   refine c6 (VC hw (show zo w s (i+1)=some j from h)) λh1 h2 h3=>?_
   refine dp (iI h1) (by simp;exact Nat.lt_of_lt_of_eq h2 (Nat.add_right_comm _ _ _)) ?_
   rw[show j - i=(j - (i+1))+1 by lia]
   exact h3
theorem W2{w m r:List Nat}(h:y4 w m=true):y4 w (m++r)=true:=by
 have hl:=Js h
 rw[Hi] at h ⊢
 rw[List.take_append_of_le_length hl,h]
theorem zbo{w m r:List Nat}(hl:w.length<=m.length):y4 w (m++r)=y4 w m:=by
 induction h:y4 w m with
 |true=>exact W2 h
 |false=>
  induction h':y4 w (m++r) with
  |false=>rfl
  |true=>
   rw[Hi,List.take_append_of_le_length hl] at h'
   rw[(Hi _ _).mpr h'] at h;exact TF h
theorem W0{w r:List Nat}(hw:w≠[]):∀{s:List Nat}{i j:Nat},zo w s i=some j->zo w (s++r) i=some j
 |[],i,j,h=>by
  rw[Hh] at h
  induction w using lC with
  |nil=>exact w1 rfl hw
  |cons _ _=>exact NS h
 |a::s,i,j,h=>by
  rw[kb] at h
  show zo w (a::(s++r)) i=some j
  rw[kb]
  induction hp:y4 w (a::s) with
  |true=>
   rw[hp] at h
   have:y4 w (a::(s++r))=true:=W2 (m:=a::s) (r:=r) hp
   rw[this];exact h
  |false=>
   rw[hp] at h
   have hb:=VC hw (show zo w s (i+1)=some j from h)
   have hle:w.length<=(a::s).length:=by
    have:=Js hb.2.2
    simp at this ⊢;lia
   have:y4 w (a::(s++r))=false:=by
    have:=zbo (r:=r) hle
    rw[hp] at this;exact this
   rw[this]
   exact W0 hw h
theorem OU(w:List Nat):∀(s:List Nat) (i k:Nat),zo w s (i+k)=(zo w s i).map (·+ k)
 |[],i,k=>by rw[Hh,Hh];cases w <;> rfl
 |a::s,i,k=>by
  rw[kb,kb]
  induction y4 w (a::s) with
  |true=>rfl
  |false=>
   show zo w s (i+k+1)=(zo w s (i+1)).map (·+ k)
   rw[show i+k+1=(i+1)+k from(Nat.add_right_comm _ _ _)]
   exact OU w s (i+1) k
section
variable{G:Gl}
theorem zjd{x w:List Nat}{k:Nat}(hk:k<=x.length):(decide (k+(S w).length<=(S x).length)&&Builtin.Str.subAt (S x) (S w) k)=y4 w (x.drop k):=by
 rw[zr,zr]
 induction h:y4 w (x.drop k) with
 |true=>
  have hl:=Js h
  simp at hl
  rw[(Ca x w k hk).mpr h,decide_eq_true (Nat.add_le_of_le_sub' hk hl)];rfl
 |false=>
  induction h':Builtin.Str.subAt (S x) (S w) k with
  |false=>rw[Bool.and_false]
  |true=>rw[(Ca x w k hk).mp h'] at h;exact TF h
theorem Wf{r:List Nat}{b:Bool}:∀{w y:List Nat},jq w y=some b->y4 w (y++r)=b
 |[],y,eb=>by
  have:jq [] y=some true:=by unfold jq;rfl
  rw[this] at eb;obtain rfl:=w3 eb;rfl
 |_::_,[],eb=>by exact NS eb
 |a::w,b'::y,eb=>by
  have e7:jq (a::w) (b'::y)=(match Nat.beq a b' with | true=>jq w y | false=>some false):=by rw[jq] <;> cases Nat.beq a b' <;> rfl
  rw[e7] at eb
  show y4 (a::w) (b'::(y++r))=b
  rw[VK]
  show ak (Nat.beq a b') (y4 w (y++r)) false=b
  induction wH:Nat.beq a b' with
  |true=>rw[wH] at eb;exact Wf eb
  |false=>rw[wH] at eb;obtain rfl:=w3 eb;rfl
theorem zj7{q:Nat}{x:List Nat}{t:Tok}(H:HR c μ σ s.heap)(r:aH c μ σ.n s.heap args vs):WP prog c A (RV c) (call (.builtin "str.startswith") (.str (S (c.wrap q x)) t::vs)) (Vk q x args σ) μ σ s:=by
 refine WP.gen λr0 er ns=>?_
 refine eQ (HQ ns) ?_;rintro a b rfl
 revert er
 refine r.k2 λ_ _ r r'=>r.oS ns λq1 w u ns=>r'.oN ns λq2 k v ns er=>?_
 refine oB ns λh1 e1 n1=>?_
 replace er:=e1.symm.trans er
 refine n3 h1 λh1 h2 h3=>?_
 obtain rfl:=za h1
 have hw:=Hs h2
 have hk:=w5 h3
 rw[zb] at hk
 have go:∀{i:Int}{b:Bool}{y:List Nat}{j:Nat},i=(j:Int)->j<=y.length->y4 w (y.drop j)=b->r0 = .ok (.bool b) σ->wpAny (model prog c.w) A (call (.builtin "str.startswith") [.str (S y) t,.str (S w) u,.int i v]) (PQ c (RV c) r0 μ σ s) (PE c r0 μ σ s) s:=by
  intro i b y j hi hj hb e
  refine call_gives F.slot_str_startswith (typeIs_str s _ t) F.entry_str_startswith (F.args_str_startswith_3 _ _ _) (gives_str_startswith_from (S y) (S w) i t u v) ?_
  rw[hi,Vr,zjd hj,hb]
  exact PQ.fin H (.refl _ _ _) (.refl _) e (.bool _)
 rcases xu (Nat.beq q 0&&Nat.beq q2 0||Nat.beq q 1&&Nat.beq q2 1) (Res.ok (AV.bool (y4 w (drp x k))) σ) (ak (Nat.beq q 2&&Nat.beq q2 1) (opt (jq w (drp x k)) .stuck λb=>.ok (.bool b) σ) .stuck) with⟨h4,e4⟩ | ⟨h4,e4⟩
 ·replace er:=er.symm.trans e4
  rw[Bool.or_eq_true] at h4
  rcases h4 with h5 | h5 <;> refine n2 h5 λh5 h6=>?_
  ·obtain rfl:=za h5
   obtain rfl:=za h6
   exact go (j:=k) (by rw[y7,Int.zero_add];rfl) hk (congrArg (y4 w) (zr2 _ _).symm) er
  ·obtain rfl:=za h5
   obtain rfl:=za h6
   refine go (y:=c.P++x) (j:=c.P.length+k) rfl (by simp;exact hk) ?_ er
   rw[Ke,zr2]
 ·rw[e4] at n1
  replace er:=e4.symm.trans er
  refine oB n1 λh5 e5 n1=>?_
  replace er:=e5.symm.trans er
  refine n2 h5 λh5 h6=>?_
  obtain rfl:=za h5
  obtain rfl:=za h6
  refine au (yt n1) λb eb e6=>?_
  have:c.wrap 2 x=c.P++(x++c.R):=by show c.P++x++c.R=_;rw[List.append_assoc]
  rw[this]
  refine go (j:=c.P.length+k) rfl (by simp;exact Nat.le_trans hk (Nat.le_add_right _ _)) ?_ (er.symm.trans e6)
  rw[Ke,List.drop_append_of_le_length hk]
  rw[zr2] at eb
  exact Wf eb
theorem PJ{y w:List Nat}{j:Nat}{t u v:Tok}{i:Int}(hw:w≠[])(hi:i=(j:Int))(hj:j<=y.length){Q:Value->Shared->Prop}{E:Value->Shared->Prop}(h:Q (.int (match zo w (y.drop j) j with | some i=>(i:Int) | none=>-1) s.toks) { s with toks:=s.toks+1 }):wpAny (model prog c.w) A (call (.builtin "str.find") [.str (S y) t,.str (S w) u,.int i v]) Q E s:=by
 refine call_gives F.slot_str_find (typeIs_str s _ t) F.entry_str_find (F.args_str_find_3 _ _ _) (gives_str_find_from (S y) (S w) i t u v) ?_
 rw[hi,Vr,Jx y w hw hj]
 induction e:zo w (y.drop j) j with
 |none=>rw[e] at h;exact h
 |some i=>rw[e] at h;exact h
theorem zmh{q:Nat}{x:List Nat}{t:Tok}(H:HR c μ σ s.heap)(r:aH c μ σ.n s.heap args vs):WP prog c A (RV c) (call (.builtin "str.find") (.str (S (c.wrap q x)) t::vs)) (P2 q x args σ) μ σ s:=by
 refine WP.gen λr0 er ns=>?_
 match args with
 |[]=>exact w1 rfl ns
 |_::_::_::_=>exact w1 rfl ns
 |[a]=>
  revert er
  refine r.k1 λ_ r=>r.oS ns λq1 w u ns er=>?_
  refine oA (z8 ns) λh1 e1=>?_
  replace er:=e1.symm.trans er
  refine n3 h1 λh1 h2 h3=>?_
  obtain rfl:=za h1
  obtain rfl:=za h2
  have hw:=Hs h3
  refine call_gives F.slot_str_find (typeIs_str s _ t) F.entry_str_find (F.args_str_find_2 _ _) (gives_str_find (S x) (S w) t u) ?_
  rw[Jx x w hw (Nat.zero_le _),List.drop_zero]
  induction e:zo w x 0 with
  |none=>rw[e] at er;exact PQ.tok H er.symm (VR.cy (by rw[y7];rfl))
  |some i=>rw[e] at er;exact PQ.tok H er.symm (VR.cy (Int.zero_add _))
 |[a,b]=>
  revert er
  refine r.k2 λ_ _ r r'=>r.oS ns λq1 w u ns=>r'.oN ns λq2 k v ns er=>?_
  refine oB ns λh1 e1 n1=>?_
  replace er:=e1.symm.trans er
  refine n3 h1 λh1 h2 h3=>?_
  obtain rfl:=za h1
  have hw:=Hs h2
  have hk:=w5 h3
  rw[zb] at hk
  rcases xu (Nat.beq q 0&&Nat.beq q2 0||Nat.beq q 1&&Nat.beq q2 1) (opt (zo w (drp x k) k) (Res.ok (AV.int 0 (.negSucc 0)) σ) λi=>.ok (.int q (.ofNat i)) σ) (ak (Nat.beq q 2&&Nat.beq q2 1) (opt (zo w (drp x k) k) .stuck λi=>.ok (.int 1 (.ofNat i)) σ) .stuck) with⟨h4,e4⟩ | ⟨h4,e4⟩
  ·replace er:=e4.symm.trans er
   rw[Bool.or_eq_true] at h4
   rcases h4 with h5 | h5 <;> refine n2 h5 λh5 h6=>?_
   ·obtain rfl:=za h5
    obtain rfl:=za h6
    refine PJ (j:=k) hw (by rw[y7,Int.zero_add];rfl) hk ?_
    rw[zr2] at er
    induction e:zo w (x.drop k) k with
    |none=>rw[e] at er;exact PQ.tok H er.symm (VR.cy (by rw[y7];rfl))
    |some i=>rw[e] at er;exact PQ.tok H er.symm (VR.cy (Int.zero_add _))
   ·obtain rfl:=za h5
    obtain rfl:=za h6
    refine PJ (y:=c.P++x) (j:=c.P.length+k) hw rfl (by simp;exact hk) ?_
    rw[Ke,Nat.add_comm,OU]
    rw[zr2] at er
    induction e:zo w (x.drop k) k with
    |none=>rw[e] at er;exact PQ.tok H er.symm (VR.cy (by rw[y7];rfl))
    |some i=>rw[e] at er;exact PQ.tok H er.symm (VR.cy (Int.add_comm _ _))
  ·rw[e4] at n1
   replace er:=e4.symm.trans er
   refine oB n1 λh5 e5 n1=>?_
   replace er:=e5.symm.trans er
   refine n2 h5 λh5 h6=>?_
   obtain rfl:=za h5
   obtain rfl:=za h6
   refine au (yt n1) λb eb e6=>?_
   rw[zr2] at eb
   have:c.wrap 2 x=c.P++(x++c.R):=by show c.P++x++c.R=_;rw[List.append_assoc]
   rw[this]
   refine PJ (j:=c.P.length+k) hw rfl (by simp;exact Nat.le_trans hk (Nat.le_add_right _ _)) ?_
   rw[Ke,List.drop_append_of_le_length hk,Nat.add_comm,OU,W0 hw eb]
   exact PQ.tok H (er.symm.trans e6) (VR.cy (Int.add_comm _ _))
theorem zkq{q:Nat}{x:List Nat}{t:Tok}(H:HR c μ σ s.heap)(r:aH c μ σ.n s.heap args vs):WP prog c A (RV c) (call (.builtin "str.index") (.str (S (c.wrap q x)) t::vs)) (P1 q x args σ) μ σ s:=by
 refine WP.gen λr0 er ns=>?_
 refine oE (HT ns) ?_;rintro a rfl
 revert er
 refine r.k1 λ_ r=>r.oS ns λq1 w u ns er=>?_
 refine oB ns λh1 e1 n1=>?_
 refine n3 h1 λh1 h2 h3=>?_
 obtain rfl:=za h1
 obtain rfl:=za h2
 have hw:=Hs h3
 refine au (yt n1) λi ei e2=>?_
 have ho:Builtin.Str.occurrences (S x) (S w) 0 (S x).length 1=i::[]:=by rw[Jx x w hw (Nat.zero_le _),List.drop_zero,ei]
 exact call_gives F.slot_str_index (typeIs_str s _ t) F.entry_str_index (F.args_str_index_2 _ _) (gives_str_index (S x) (S w) t u i [] ho) (PQ.tok H (er.symm.trans (e1.trans e2)) (VR.cy (Int.zero_add _)))
theorem zkt{x w:List Nat}(hw:w≠[])(e:zo w x 0=none)(n:Nat):Builtin.Str.occurrences (S x) (S w) 0 (S x).length n=[]:=by
 have key:∀(l:List Nat) (free cnt:Nat),(∀i∈l,i<=x.length->y4 w (x.drop i)=false)->j6 (S x) (S w) x.length n l free cnt=[]:=by
  intro l
  induction l with
  |nil=>intros;rfl
  |cons i r ih=>
   intro free cnt h
   unfold j6
   rw[if_neg (by
    rintro ⟨⟨_,h2⟩,h3⟩
    rw[zr] at h2
    have hle:i<=x.length:=iI h2
    have:=h i (.head _) hle
    rw[(Ca x w i hle).mp h3] at this;exact TF this)]
   exact ih _ _ λi hi=>h i (.tail _ hi)
 rw[X9,zr]
 refine key _ _ _ λi _ hi=>?_
 have all:∀(y:List Nat) (k:Nat),zo w y k=none->∀i,i<=y.length->y4 w (y.drop i)=false:=by
  intro y
  induction y with
  |nil=>
   intro k h i hi
   simp
   induction w using lC with
   |nil=>exact w1 rfl hw
   |cons _ _=>rfl
  |cons a y ih=>
   intro k h i hi
   rw[kb] at h
   induction hp:y4 w (a::y) with
   |true=>rw[hp] at h;exact SN h
   |false=>
    rw[hp] at h
    induction i using nC with
    |zero=>exact hp
    |succ i=>exact ih _ h i (by simp at hi;exact hi)
 exact all x 0 e i hi
theorem znc{q:Nat}{x:List Nat}{t:Tok}(H:HR c μ σ s.heap)(r:aH c μ σ.n s.heap args vs):WP prog c A (RV c) (call (.builtin "str.replace") (.str (S (c.wrap q x)) t::vs)) (Pm q x args σ) μ σ s:=by
 refine WP.gen λr0 er ns=>?_
 refine eQ (HQ ns) ?_;rintro a b rfl
 revert er
 refine r.k2 λ_ _ r r'=>r.oS ns λq1 w u ns=>r'.oS ns λq2 z v ns er=>?_
 refine oB ns λh1 e1 n1=>?_
 replace er:=e1.symm.trans er
 refine n4 h1 λh1 h2 h3 h4=>?_
 obtain rfl:=za h1
 obtain rfl:=za h2
 obtain rfl:=za h3
 have hw:=Hs h4
 induction e:zo w x 0 with
 |some _=>rw[e] at n1;exact w1 rfl n1
 |none=>
  rw[e] at er
  have ho:=zkt hw e ((S x).length+1)
  have hc:((Builtin.Str.occurrences (S x) (S w) 0 (S x).length ((S x).length+1)).isEmpty||((S w).length==0&&(S z).length==0))=true:=by rw[ho];rfl
  refine call_gives F.slot_str_replace (typeIs_str s _ t) F.entry_str_replace (F.args_str_replace_3 _ _ _) (gives_str_replace (S x) (S w) (S z) t u v (λz=>TF (hc.symm.trans z))) ?_
  rw[if_pos hc]
  exact PQ.fin H (.refl _ _ _) (.refl _) er.symm (.str 0 x t)
end
end
section
open PySem.SeqAt PySem.StrLaws
noncomputable def oa(sep:List Nat):List (List Nat)->List Nat
 |[]=>[]
 |a::l=>sep++a++oa sep l
theorem VG(sep a:List Nat)(l:List (List Nat)):x9 sep (a::l)=a++oa sep l:=by
 induction l generalizing a with
 |nil=>show a=a++[];rw[List.append_nil]
 |cons b l ih=>
  have:x9 sep (a::b::l)=app a (app sep (x9 sep (b::l))):=rfl
  rw[this,j9,j9,ih]
  show a++(sep++(b++oa sep l))=a++(sep++b++oa sep l)
  rw[List.append_assoc]
theorem zkj(sep:List Nat)(ws:List (List Nat)):Builtin.Str.glued (S sep) (ws.map S)=S (x9 sep ws):=by
 have key:∀(l:List (List Nat)) (acc:List Nat),(l.map S).foldl (λacc p=>acc++(S sep).cps++p.cps) acc.toArray=(acc++oa sep l).toArray:=by
  intro l
  induction l with
  |nil=>intro acc;show acc.toArray=(acc++[]).toArray;rw[List.append_nil]
  |cons a l ih=>
   intro acc
   show(l.map S).foldl _ (acc.toArray++(S sep).cps++(S a).cps)=_
   have:acc.toArray++(S sep).cps++(S a).cps=(acc++sep++a).toArray:=by simp[S]
   rw[this,ih]
   show _=(acc++(sep++a++oa sep l)).toArray
   simp
 unfold Builtin.Str.glued
 induction ws using lC with
 |nil=>rfl
 |cons a l=>
  rw[VG]
  show Str.mk ((l.map S).foldl _ (S a).cps)=_
  have:=key l a
  show Str.mk ((l.map S).foldl _ a.toArray)=_
  rw[this]
theorem zhu(sep:List Nat)(l:List (List Nat))(n:Nat):(l.map S).foldl (λ(n:Nat) (s:Str)=>n+s.length+(S sep).length) n=n+(oa sep l).length:=by
 induction l generalizing n with
 |nil=>rfl
 |cons a l ih=>
  show(l.map S).foldl _ (n+(S a).length+(S sep).length)=_
  rw[ih,zr,zr]
  show _=n+(sep++a++oa sep l).length
  simp;lia
theorem Mq{o:Option α}{f:α->Option β}{y:β}(h:opt o none f=some y):∃a,o=some a/\f a=some y:=by
 induction o with
 |none=>exact NS h
 |some a=>exact aT a rfl h
section
variable{G:Gl}
theorem zfo{l:List AV}:∀{vs:List Value}{ws:List (List Nat)},aH c μ n h l vs->km l=some ws->∃ps:List (Str×Tok),strValues ps=vs/\ps.map (·.1)=ws.map S:=by
 induction l with
 |nil=>exact λr e=>r.k0 ⟨[],rfl,by rw[<-Option.some.inj e];rfl⟩
 |cons a l ih=>
  intro vs ws r e
  refine r.kC λv vs ra rs=>?_
  revert e
  induction ra using vC with
  |str q x t=>
   intro e
   refine oA (zg e) λh1 e=>?_
   obtain rfl:=za h1
   refine au (Mq e) λr er e=>?_
   refine au (ih rs er) λps h1 h2=>?_
   exact aT ((S x,t)::ps) (by rw[<-h1];rfl) (by rw[<-Option.some.inj e,List.map_cons,h2];rfl)
  |_=>exact λe=>NS e
theorem zmp{sep:List Nat}{t:Tok}{a:Addr}{ps:List (Str×Tok)}{ws:List (List Nat)}(bJ:s.heap.get? a=some { cls:=.type "list",data:=.seq (strValues ps).toArray n })(gI:ps.map (·.1)=ws.map S)(hl:(x9 sep ws).length<=1000000){Q:Value->Shared->Prop}{E:Value->Shared->Prop}(h:∀t' k,Q (.str (S (x9 sep ws)) t') { s with toks:=k }):wpAny (model prog c.w) A (call (.builtin "str.join") [.str (S sep) t,.ref a]) Q E s:=by
 refine wpAny_call (codeAny_call_builtin F.slot_str_join.plain F.entry_str_join (F.slot_str_join.check _ _ _ _ _ _ _ _ (typeIs_str _ _ _) (F.args_str_join_2 _ _) ?_))
 refine oE (join_tree (S sep) t a) λother e=>?_
 rw[e]
 refine wg (wpAny_typeOf (T:="list") ⟨_,bJ,rfl⟩ ?_)
 show wpAny _ _ (do
   match<-seqItems? (.ref a) with
   |some xs=>joinTail (S sep) xs.toList
   |none=>unsupported "internal:str.join") _ _ s
 refine wg (wpAny_seqItems bJ rfl ?_)
 have key:Gives (joinTail (S sep) (strValues ps)) (match ps with | [p]=>.val (.str p.1 p.2) | _=>.str (Builtin.Str.glued (S sep) (ps.map (·.1)))):=by
  match ps,gI with
  |[],gI=>exact gives_joinTail (S sep) [] (by rfl)
  |[p],_=>exact .rule (.of_eq rfl)
  |p::p2::r,gI=>
   refine gives_joinTail (S sep) (p::p2::r) ?_
   rw[gI,List.foldl_toArray]
   have:=zhu sep ws 0
   rw[this]
   induction ws using lC with
   |nil=>simp at gI
   |cons w ws=>induction ws using lC with
    |nil=>simp at gI
    |cons w2 ws=>
     rw[VG] at hl
     have:(oa sep (w::w2::ws)).length<=2000000:=by
      show(sep++w++(sep++w2++oa sep ws)).length<=_
      have:(w++(sep++w2++oa sep ws)).length<=1000000:=hl
      simp at this ⊢;lia
     unfold Builtin.Str.tooLong
     rw[sizeLine_eq]
     exact decide_eq_false (QR (uX (Nat.zero_add _) this) rfl)
 refine key prog c.w A (λr s'=>match r with | .ok (.ret v)=>Q v s' | .ok _=>False | .error e=>E e s') s ?_
 show Made.post _ _ _
 match ps,gI,h with
 |[],gI,h=>
  have:ws=[]:=by induction ws using lC with
   |nil=>rfl
   |cons _ _=>simp at gI
  subst this
  exact⟨w9 _,h _ _⟩
 |[p],gI,h=>
  obtain⟨w,rfl⟩:∃w,ws=[w]:=by
   match ws,gI with
   |[w],_=>exact⟨w,rfl⟩
   |[],gI=>simp at gI
   |_::_::_,gI=>simp at gI
  have:p.1=S w:=by simpa using gI
  show Q (.str p.1 p.2) s
  rw[this]
  exact h p.2 s.toks
 |p::p2::r,gI,h=>
  show _<=_/\_
  rw[gI,zkj]
  exact⟨by rw[zr,sizeLine_eq];exact fy hl rfl,h _ _⟩
theorem zlz{q:Nat}{x:List Nat}{t:Tok}(H:HR c μ σ s.heap)(r:aH c μ σ.n s.heap args vs):WP prog c A (RV c) (call (.builtin "str.join") (.str (S (c.wrap q x)) t::vs)) (Po q x args σ) μ σ s:=by
 refine WP.gen λr0 er ns=>?_
 refine oE (HT ns) ?_;rintro a rfl
 revert er
 refine r.k1 λ_ r=>r.oO ns λo ns ho er=>?_
 refine HO ns λl el e3 ns=>?_
 refine Fd ns λws es e4 ns=>?_
 refine oA (z8 ns) λh1 e5=>?_
 refine n2 h1 λh1 h2=>?_
 obtain rfl:=za h1
 have hl:=w5 h2
 rw[zb] at hl
 refine bw (H.listOf ho el) λvs n bJ rs=>?_
 refine au (zfo rs es) λps DU DV=>?_
 rw[<-DU] at bJ
 exact zmp (sep:=x) bJ DV hl λt' k=>PQ.tok H (er.symm.trans (e3.trans (e4.trans e5))) (.str 0 _ t')
theorem b0{a b:Nat}(h:decide (a≠b)=true):Nat.beq a b=false:=by
 induction q:Nat.beq a b with
 |false=>rfl
 |true=>exact w1 (w4 q) (wl h)
theorem zn1(q:Nat)(x:List Nat)(args:List AV)(σ:AH):jf JY q x args σ = P2 q x args σ:=by
 unfold jf
 rw[zl (b0 (by decide)),xm (Nat.beq_refl _)]
theorem zme(q:Nat)(x:List Nat)(args:List AV)(σ:AH):jf JT q x args σ = Po q x args σ:=by
 unfold jf
 rw[zl (b0 (by decide)),zl (b0 (by decide)),xm (Nat.beq_refl _)]
theorem zly(q:Nat)(x:List Nat)(args:List AV)(σ:AH):jf xx q x args σ = Pm q x args σ:=by
 unfold jf
 rw[zl (b0 (by decide)),zl (b0 (by decide)),zl (b0 (by decide)),xm (Nat.beq_refl _)]
theorem zk2(q:Nat)(x:List Nat)(args:List AV)(σ:AH):jf JK q x args σ = P1 q x args σ:=by
 unfold jf
 rw[zl (b0 (by decide)),zl (b0 (by decide)),zl (b0 (by decide)),zl (b0 (by decide)),xm (Nat.beq_refl _)]
theorem yI: vg prog c A:=by
 intro m hm
 unfold Be at hm
 simp only[Bool.or_eq_true] at hm
 rcases hm with hm | hm | hm | hm | hm <;> obtain rfl:=za hm
 ·exact aT ("str.startswith") (λs x t pl Q E h=>by rw[zbt];exact GM.startswith h) (λμ σ s q x t args vs H r=>zj7 H r)
 ·exact aT ("str.find") (λs x t pl Q E h=>by rw[zlx];exact GM.find h) (λμ σ s q x t args vs H r=>by rw[zn1];exact zmh H r)
 ·exact aT ("str.join") (λs x t pl Q E h=>by rw[zn2];with_reducible exact GM.of (.str x t) (typeIs_str _ _ _) F.slot_str_join F.type_str_join GM.noRef h) (λμ σ s q x t args vs H r=>by rw[zme];exact zlz H r)
 ·exact aT ("str.replace") (λs x t pl Q E h=>by rw[VP];with_reducible exact GM.of (.str x t) (typeIs_str _ _ _) F.slot_str_replace F.type_str_replace GM.noRef h) (λμ σ s q x t args vs H r=>by rw[zly];exact znc H r)
 ·exact aT ("str.index") (λs x t pl Q E h=>by rw[zkw];with_reducible exact GM.of (.str x t) (typeIs_str _ _ _) F.slot_str_index F.type_str_index GM.noRef h) (λμ σ s q x t args vs H r=>by rw[zk2];exact zkq H r)
end
end
section
open PySem.SeqAt PySem.StrLaws
noncomputable def Kj(v:Value):Bool:=match v with | .ref _=>true | _=>false
theorem zom(h:Kj v=true):∃a,v = .ref a:=by
 induction v using Value.casesOn with
 |ref a=>exact⟨a,rfl⟩
 |_=>exact FT h
def pb(l:List Value):Bool:=List.rec (motive:=λ_=>Bool) false (λv r ih=>ak (Kj v) ih ((v::r)==[.type "Exception",.type "BaseException",.type "object"])) l
theorem zpn{c:Addr}{r:List Value}(e:pb (.ref c::r)=true):pb r=true:=e
theorem XK{P:List Value->Prop}(h0:P [.type "Exception",.type "BaseException",.type "object"])(h1:∀c r,pb r=true->P r->P (.ref c::r)):∀{l:List Value},pb l=true->P l:=λ{l} e=>by
 induction l with
 |nil=>exact FT e
 |cons v r ih=>
  induction q:Kj v with
  |true=>refine oE (zom q) ?_;rintro c rfl;exact h1 c r e (ih e)
  |false=>
   have e:ak (Kj v) (pb r) ((v::r)==[.type "Exception",.type "BaseException",.type "object"])=true:=e
   rw[q] at e
   exact(eq_of_beq (show((v::r)==[.type "Exception",.type "BaseException",.type "object"])=true from e))▸h0
theorem z9b(self:Value){l:List Value}(h:pb l=true):refuseLoop self "__setattr__" l=pure ():=
 XK (P:=λl=>refuseLoop self "__setattr__" l=pure ()) (PySem.F.store_Exception.passes self) (λc r _ e=>by rw[refuseLoop_ref];exact e) h
theorem Pn{l:List Value}(h:pb l=true):l.contains (.type "object")=true/\l.contains (.type "BaseException")=true/\l.contains (.type "Exception")=true/\l.contains (.type "AttributeError")=false/\l.contains (.type "NameError")=false:=
 XK (P:=λl=>l.contains (.type "object")=true/\l.contains (.type "BaseException")=true/\l.contains (.type "Exception")=true/\l.contains (.type "AttributeError")=false/\l.contains (.type "NameError")=false) (by decide) (λc r _ e=>e) h
def gu(K:Frag)(C:Addr):Bool:=(clsIn K C).any λcd=>pb cd.mro
structure eF (K:Frag) (C:Addr):Prop where
 ga:findIn K (.ref C) "__getattribute__" = some (some (.builtin "BaseException.__getattribute__"))
 gn:findIn K (.ref C) "__getattr__" = some none
 sa:findIn K (.ref C) "__setattr__" = some (some (.builtin "object.__setattr__"))
 hd:hasDictIn K C=true
 over:gu K C=true
def Qr(K:Frag)(C:Addr):Bool:=findIn K (.ref C) "__getattribute__"==some (some (.builtin "BaseException.__getattribute__"))&&(findIn K (.ref C) "__getattr__"==some none
 &&(findIn K (.ref C) "__setattr__"==some (some (.builtin "object.__setattr__"))&&(hasDictIn K C&&gu K C)))
theorem WI{C:Addr}(h:Qr K C=true):eF K C:=by
 unfold Qr at h
 simp only[Bool.and_eq_true,beq_iff_eq] at h
 exact⟨h.1,h.2.1,h.2.2.1,h.2.2.2.1,h.2.2.2.2⟩
theorem OT{C:Addr}(h:gu K C=true):∃cd,clsIn K C=some cd/\pb cd.mro=true/\cd.mro.isEmpty=false:=by
 refine au (any_some h) λcd hc ho=>?_
 refine mH cd hc ho ?_
 induction q:cd.mro using lC with
 |nil=>rw[q] at ho;exact FT ho
 |cons _ _=>rfl
theorem HR.congr(H:HR c μ σ h)(en:ai.n = σ.n)(e:∀i,i < σ.n->ai.get i = σ.get i):HR c μ ai h:=by
 refine⟨H.keep,λl hl=>?_,λi j hi hj=>H.inj i j (en▸hi) (en▸hj),λi hi=>H.new i (en▸hi)⟩
 rw[en] at hl
 rw[e l hl,en]
 exact H.obj l hl
section
variable{C x:Addr}{ox:Obj}{od:Option Obj}
theorem Xc(X:K.In s.heap)(I:InstAt s.heap x ox C od)(ek:eF K C){b:String}(hb:∀l,pb l=true->l.contains (.type b)=true):Looks M s.heap (isInstance (.ref x) (.type b)) true:=by
 refine dR (OT ek.over) λcd hc ho ne=>?_
 exact I.type.andThen (looks_mroIn X (by unfold mroIn;rw[hc,Option.bind_some,if_neg (by rw[ne];decide),hb _ ho]))
theorem zh9{name:Str}{expr:Bool}{Q:Value->Shared->Prop}{E:Value->Shared->Prop}(X:K.In s.heap)(I:InstAt s.heap x ox C od)(ek:eF K C)(hf:findObj K C od name=some (.value v))(hh:handedIn v=true)(h:Q v { s with toks:=s.toks+1 }):wpAny (model prog c.w) A (getAttr (.ref x) name expr) Q E s:=by
 have S0:=Xc (M:=model prog c.w) (b:="BaseException") X I ek λl hl=>(Pn hl).2.1
 obtain⟨hp,g,d,t,os⟩:=s
 have L0:=I.type (M:=model prog c.w)
 have L1:=looks_findIn (M:=model prog c.w) X ek.ga
 have L2:=looks_find (M:=model prog c.w) X I hf
 have LH:=looks_hook (M:=model prog c.w) (mc:=.ref C) (r:=none) X (by rw[if_pos (show onTheHeap (.ref C)=true from rfl)];exact ek.gn)
 unfold getAttr getAttrBy
 refine wg (wpAny_mkText (wi (wg (L0.at (wg (L1.at ?_))))))
 dsimp only
 rw[show(onTheHeap (.ref C)&&Value.builtin "BaseException.__getattribute__"==Value.builtin "object.__getattribute__")=false from by rw[show(Value.builtin "BaseException.__getattribute__"==Value.builtin "object.__getattribute__")=false from by decide +kernel,Bool.and_false],if_neg (by decide)]
 unfold getAttrByItsOwn
 refine wg (LH.at (wg (wpAny_attempt (wi ?_))))
 unfold callGetattribute
 rw[show(expr&&onTheHeap (Value.builtin "BaseException.__getattribute__"))=false from Bool.and_false _,if_neg (by decide)]
 unfold boundAndCalled
 rw[PySem.F.attr_Exception.ga.bind]
 refine wg (wh ?_)
 show wpAny _ _ (call (.builtin "BaseException.__getattribute__") [.ref x,.str name t]) _ _ _
 refine wpAny_call ?_
 refine codeAny_call_builtin PySem.F.attr_Exception.ga.plain PySem.F.entry_bexc_ga ?_
 refine @check_slot (model prog c.w) _ _ ⟨hp,g,d,t+1,os⟩ "BaseException.__getattribute__" "BaseException" "__getattribute__" (.ref x) [.str name t] [] _ (by decide +kernel) (by decide +kernel) S0 (PySem.F.args_bexc_ga _ _) ?_
 refine wg (wh (wg (wh (wg (L0.at (wg (L2.at ?_)))))))
 refine wh ?_
 show wpAny _ _ (handedOut v) _ _ _
 rw[handedOut_of hh];exact wh h
theorem Wg{R:Result->Shared->Prop}{name:Str}{tk:Tok}(X:K.In s.heap)(I:InstAt s.heap x ox C od)(ek:eF K C)(ht:takerIn K C name=some none)(h:∀b,wpAny (model prog c.w) A.in1 (Builtin.ObjectAttr.storeInOwnDict (.ref x) (.ref C) (.str name tk) name v b)
   (λfin s'=>match fin with | .done f=>R (.ok f) s' | .again c'=>c'.quiet=true/\codeAny (model prog c.w) A c' R s') (λe s'=>R (.error e) s') s):
  codeAny (model prog c.w) A (.call (.builtin "object.__setattr__") ⟨[.ref x,.str name tk,v],[]⟩) R s:=by
 have SF:=PySem.F.store_object
 refine dR (OT ek.over) λcd hc ho ne=>?_
 have sub:=Xc (M:=model prog c.w) (b:="object") X I ek λl hl=>(Pn hl).1
 refine codeAny_call_builtin SF.slot.plain SF.entry (@check_slot (model prog c.w) _ _ s "object.__setattr__" "object" "__setattr__" (.ref x) [.str name tk,v] [] _ SF.kind SF.split sub (SF.args (.ref x) (.str name tk) v) ?_)
 refine au (Option.bind_eq_some_iff.mp ht) λattr ha hr=>?_
 have hm:Looks (model prog c.w) s.heap (mroOf (.ref C)) cd.mro:=(looks_clsIn X hc).andThen .now
 have L3:Looks (model prog c.w) s.heap (Builtin.ObjectAttr.storeTaker? attr) none:=by
  induction attr with
  |none=>cases hr;exact .now
  |some a=>
   refine au (Option.map_eq_some_iff.mp hr) λb hb hr=>?_
   refine(looks_takesIn X hb).andThen ?_
   cases b
   ·exact .now
   ·exact SN hr
 rw[osa_eq,refuse_eq]
 refine wg (wg (I.type.here (wg (hm.here ?_))))
 rw[z9b _ ho]
 refine wh (wg (I.type.here (wg ((looks_findIn X ha).here (wg (L3.here ?_))))))
 exact h _
theorem zku(n:Str)(kh:Int)(k v:Value):∀l:List DictEntry,(putL n kh k v l).length<=l.length+1:=by
 intro l
 induction l with
 |nil=>exact wa _
 |cons p l ih=>
  unfold putL
  split
  ·exact Nat.le_succ _
  ·exact Nat.succ_le_succ ih
theorem Xr{Q:PySem.Fin->Shared->Prop}{E:Value->Shared->Prop}{tk:Tok}(H:HR c μ σ s.heap){d a:Nat}(hd:d < σ.n){y:AV}(hy:VR c μ σ.n s.heap y v){es:List (Nat×AV)}(e:σ.get d = .ns es)(le:es.length<=900)(h:∀h',HR c μ (σ.put d (.ns (zd es a y))) h'->Ext μ σ.n s.heap μ (σ.put d (.ns (zd es a y))).n h'->Q (.done (.ret .none)) { s with heap:=h',toks:=s.toks+1 }):
  wpAny (model prog c.w) A (Builtin.ObjectAttr.storeInDict (μ d) (.str (nm a) tk) (nm a) v) Q E s:=by
 refine H.M5 hd e λents k ho r=>?_
 refine wg (wh (wg ?_))
 unfold nsSet
 refine wg (wg (wpAny_askSetting (wh (wg (wpAny_mkText (wg (wpAny_loadPart ho ?_)))))))
 dsimp only
 have cc:(!ents.toArray.any (·.key.isStr (nm a))&&ents.toArray.any (·.refKey))=false:=by
  rw[List.any_toArray,List.any_toArray,r.noRef,Bool.and_false]
 rw[aRefKeyMayBeTheName_at,cc]
 refine wpAny_updatePart ho ?_
 have U:=H.update (o:=dictOf ents k) (f:=Obj.putName (nm a) (PyData.keyHash c.w.params (nm a)) (.str (nm a) s.toks) v) (a':=.ns (zd es a y)) hd ho (by rw[putName_dict];rfl) (by
  rw[putName_dict]
  exact .ns ((r.mono (wa _) (λ_ _=>rfl) (H.bU hd)).put a (hy.mono (wa _) (λ_ _=>rfl) (H.bU hd)) _))
 refine wg (wpAny_lookBehind (o:=Obj.putName (nm a) (PyData.keyHash c.w.params (nm a)) (.str (nm a) s.toks) v (dictOf ents k)) (Heap.get?_update_self _ ho (by rw[putName_dict];rfl)) ?_ ?_)
 ·rw[putName_dict]
  refine pastItsLine_dict ?_
  have:=zku (nm a) (PyData.keyHash c.w.params (nm a)) (.str (nm a) s.toks) v ents
  rw[r.length] at this
  rw[List.size_toArray,sizeLine_eq];exact fy (Nat.le_trans this (Nat.lt_succ_of_le le)) rfl
 ·exact wh (h _ U.1 U.2)
theorem znd{R:Result->Shared->Prop}{tk:Tok}(X:K.In c.base)(ek:eF K C){a l d k:Nat}(nk:bf K C (nm a))(H:HR c μ σ s.heap)(hl:l < σ.n)(el:σ.get l = .exc C d k){es:List (Nat×AV)}(e:σ.get d = .ns es)(le:es.length<=900){y:AV}(hy:VR c μ σ.n s.heap y v)(h:∀h',HR c μ (σ.put d (.ns (zd es a y))) h'->Ext μ σ.n s.heap μ (σ.put d (.ns (zd es a y))).n h'->R (.ok (.ret .none)) { s with heap:=h',toks:=s.toks+1 }):
  codeAny (model prog c.w) A (.call (.builtin "object.__setattr__") ⟨[.ref (μ l),.str (nm a) tk,v],[]⟩) R s:=by
 refine H.iw hl el λo _ ho dw hd hc cH ik dk _ _=>?_
 refine au (H.obj d hd) λod DT rd=>?_
 have X':=X.keeps H.keep
 have I:InstAt s.heap (μ l) o C (some od):=⟨ho,hc,by unfold notCls;rw[ik],by rw[cH];exact DT⟩
 refine Wg X' I ek nk.take λb=>?_
 refine au (any_some ek.hd) λcd DA fL=>?_
 obtain⟨oc,odi,oda,nM⟩:=o
 dsimp only at hc cH ik
 subst hc cH ik
 refine wg (wh (wg (wg (wpAny_loadPart ho (wg ((looks_clsIn X' DA).here ?_))))))
 rw[fL]
 refine wh (a:=some (μ d)) ?_
 exact Xr H hd hy e le (a:=a) h
theorem zm8(X:K.In c.base)(ek:eF K C){a l d k:Nat}(nk:bf K C (nm a))(H:HR c μ σ s.heap)(hl:l < σ.n)(el:σ.get l = .exc C d k){es:List (Nat×AV)}(e:σ.get d = .ns es)(le:es.length<=900){y:AV}(hy:VR c μ σ.n s.heap y v){Q:Unit->Shared->Prop}{E:Value->Shared->Prop}(h:∀h' t,HR c μ (σ.put d (.ns (zd es a y))) h'->Ext μ σ.n s.heap μ (σ.put d (.ns (zd es a y))).n h'->Q () { s with heap:=h',toks:=t }):
  wpAny (model prog c.w) A (setAttr (.ref (μ l)) (nm a) v) Q E s:=by
 refine H.iw hl el λo _ ho dw hd hc cH ik dk _ _=>?_
 refine au (H.obj d hd) λod DT rd=>?_
 have I:InstAt s.heap (μ l) o C (some od):=⟨ho,hc,by unfold notCls;rw[ik],by rw[cH];exact DT⟩
 exact set_plain (X.keeps H.keep) I ek.sa (znd (s:={ s with toks:=s.toks+1 }) X ek nk H hl el e le hy λh' H' X'=>h h' _ H' X')
theorem zki{R:Result->Shared->Prop}{tk:Tok}(X:K.In c.base)(ek:eF K C){a l:Nat}(nk:bf K C (nm a))(H:HR c μ σ s.heap)(hl:l < σ.n)(el:σ.get l = .br C){y:AV}(hy:VR c μ σ.n s.heap y v)(h:∀h' aj,HR c aj ((σ.push (.ns [(a,y)])).put l (.exc C σ.n 0)) h'->Ext μ σ.n s.heap aj (σ.n+1) h'->R (.ok (.ret .none)) { s with heap:=h',toks:=s.toks+1 }):
  codeAny (model prog c.w) A (.call (.builtin "object.__setattr__") ⟨[.ref (μ l),.str (nm a) tk,v],[]⟩) R s:=by
 refine H.jB hl el λx0 ho dw=>?_
 have X':=X.keeps H.keep
 have I:InstAt s.heap (μ l) { cls:=.ref C,data:=.fields #[x0,.none,.none,.none,.bool false,.none] } C none:=⟨ho,rfl,rfl,trivial⟩
 refine Wg X' I ek nk.take λb=>?_
 refine au (any_some ek.hd) λcd DA fL=>?_
 refine wg (wh (wg (wg (wpAny_loadPart ho (wg ((looks_clsIn X' DA).here ?_))))))
 rw[fL]
 show wpAny _ _ (alloc emptyDict >>= _) _ _ _
 refine wg (wpAny_alloc ?_)
 have G1:=H.alloc (o:=emptyDict) (a:=.ns []) rfl (.ns (ents:=[]) (k:=0) .nil)
 have Lr:yg μ σ.n s.heap.objs.size l = μ l:=y8 hl
 have Ly:(s.heap.push emptyDict).get? (yg μ σ.n s.heap.objs.size l)=some { cls:=.ref C,data:=.fields #[x0,.none,.none,.none,.bool false,.none] }:=by rw[Lr];exact wc _ ho
 have G2:=G1.1.update (l:=l) (f:=λo=>{ o with dict:=some s.heap.objs.size }) (a':=.exc C σ.n 0) (Nat.lt_succ_of_lt hl) Ly rfl
  (.exc (vs:=#[x0,.none,.none,.none,.bool false,.none]) dw (wb _) rfl (by rw[zz]) rfl rfl (λ_=>rfl) (λ_=>rfl))
 refine wg (wpAny_update (by rw[Lr] at Ly;exact Ly) ?_)
 refine wh ?_
 rw[Lr] at G2
 have en:((σ.push (.ns [])).put l (.exc C σ.n 0)).get σ.n = .ns []:=by
  rw[AH.aJ _ _ (Nat.ne_of_gt hl)];exact AH.bY σ _
 have:=Xr (prog:=prog) (A:=A.in1) (s:={ s with heap:=(s.heap.push emptyDict).update (μ l) λo=>{ o with dict:=some s.heap.objs.size } }) (tk:=tk) (Q:=λfin s'=>match fin with | .done f=>R (.ok f) s' | .again c'=>c'.quiet=true/\codeAny (model prog c.w) A c' R s') (E:=λe s'=>R (.error e) s')
  (μ:=yg μ σ.n s.heap.objs.size) (d:=σ.n) (a:=a) (y:=y) (v:=v) G2.1 (wb _) ((hy.ext H G1.2).ext G1.1 G2.2) en (w9 _) λh' H' X2=>?_
 ·rw[zz] at this
  exact this
 ·refine h h' (yg μ σ.n s.heap.objs.size) (H'.congr ?_ λi hi=>?_) ((G1.2.trans G2.2).trans X2)
  ·rfl
  ·by_cases q:i = σ.n
   ·subst q
    rw[AH.bp,AH.aJ _ _ (Nat.ne_of_gt hl),AH.bY];rfl
   ·rw[AH.aJ _ _ q]
    by_cases q2:i=l
    ·subst q2;rw[AH.bp,AH.bp]
    ·rw[AH.aJ _ _ q2,AH.aJ _ _ q2,AH.bc _ _ q,AH.bc _ _ q]
theorem zk0(X:K.In c.base)(ek:eF K C){a l:Nat}(nk:bf K C (nm a))(H:HR c μ σ s.heap)(hl:l < σ.n)(el:σ.get l = .br C){y:AV}(hy:VR c μ σ.n s.heap y v){Q:Unit->Shared->Prop}{E:Value->Shared->Prop}(h:∀h' t aj,HR c aj ((σ.push (.ns [(a,y)])).put l (.exc C σ.n 0)) h'->Ext μ σ.n s.heap aj (σ.n+1) h'->Q () { s with heap:=h',toks:=t }):
  wpAny (model prog c.w) A (setAttr (.ref (μ l)) (nm a) v) Q E s:=by
 refine H.jB hl el λx0 ho dw=>?_
 have I:InstAt s.heap (μ l) { cls:=.ref C,data:=.fields #[x0,.none,.none,.none,.bool false,.none] } C none:=⟨ho,rfl,rfl,trivial⟩
 exact set_plain (X.keeps H.keep) I ek.sa (zki (s:={ s with toks:=s.toks+1 }) X ek nk H hl el hy λh' aj H' X'=>h h' _ aj H' X')
theorem zhe{ns:Nat->Prop}(X:K.In c.base)(N:∀C,c.bA C->eF K C)(fm:∀C,c.bA C->∀x,ns x->bf K C (nm x)):dH prog c A ns:=by
 intro μ σ s l a ha H hl aA
 generalize er:pU σ l (λd=>i6 σ d λes=>jx es a σ)=r0 at aA ⊢
 unfold pU at er
 induction el:σ.get l with
 |exc C d k=>
  rw[el] at er
  replace er:i6 σ d (λes=>jx es a σ)=r0:=er
  unfold i6 at er
  induction e:σ.get d with
  |ns es=>
   rw[e] at er
   refine H.iw hl el λo _ ho dw hd hc cH ik dk _ _=>H.M5 hd e λents kk DT r=>fC aA (show jx es a σ = r0 from er) λy q er=>?_
   have g:=r.get a
   rw[q] at g
   refine au g λv gv hv=>?_
   have I:InstAt s.heap (μ l) o C (some (dictOf ents kk)):=⟨ho,hc,by unfold notCls;rw[ik],by rw[cH];exact DT⟩
   refine au (fm C dw a ha).find λattr hf hn=>?_
   exact zh9 (X.keeps H.keep) I (N C dw) (Vu (N C dw).hd hf hn ((lookIn_dict _ _ _).trans gv)) hv.handed (PQ.tok H er.symm hv)
  |_=>rw[e] at er;exact w1 er.symm aA
 |_=>rw[el] at er;exact w1 er.symm aA
end
end
section
open PySem.SeqAt PySem.StrLaws
section
variable{E:Value->Shared->Prop}{g:Array GenState}{d:Drawn}{t:Nat}{os:OsState}
variable{nn q:Str}{C N:Addr}{bs bm:List Value}{du:Bool}{sn:List Str}{sub:List Value}{ab:Bool}{col:Option Bool}{dd:Option Addr}{k0 k1 k2 k3 k5:Option Value}
theorem zmr(DB:(Value.ref C::bm).contains (.type "Exception")=true){rest:List Value}{Q:Unit->Shared->Prop}(hC:h.get? C=some (excClassObj nn q C N bs bm du sn sub ab col dd k0 k1 k2 k3 k5 "Exception.__new__"))(hq:Q () ⟨h,g,d,t,os⟩):wpAny M A (checkBuiltinCall "Exception.__new__" ⟨.ref C::rest,[]⟩) Q E ⟨h,g,d,t,os⟩:=by
 have F:=PySem.F.excBase_Exception
 have RE:=F.noStar
 simp only[checkBuiltinCall,F.newKind,F.newSplit,F.newRow]
 repeat (first | refine wpAny_loadPart_at hC ?_ | (refine wpAny_isSubtype_exc hC ?_;rw[DB]) | refine wpAny_staticBase_exc hC ?_ | refine wpAny_madeBy_exc hC ?_ | simp only[bne_self_eq_false,Bool.false_eq_true,if_false] | wp_step)
 exact hq
theorem zkk(sR:(Value.ref C::bm).contains (.type "Exception")=true){e:Addr}{oe:Obj}{rest:List Value}{Q:Unit->Shared->Prop}(hC:h.get? C=some (excClassObj nn q C N bs bm du sn sub ab col dd k0 k1 k2 k3 k5 "Exception.__new__"))(he:h.get? e=some oe)(nB:oe.cls = .ref C)(hq:Q () ⟨h,g,d,t,os⟩):
  wpAny M A (checkBuiltinCall "Exception.__init__" ⟨.ref e::rest,[]⟩) Q E ⟨h,g,d,t,os⟩:=by
 have F:=PySem.F.excBase_Exception
 have LA:=F.noStar
 simp only[checkBuiltinCall,F.initKind,F.initSplit,F.initRow]
 repeat (first | (with_reducible refine wpAny_loadPart_at he ?_;rw[nB]) | with_reducible refine wpAny_loadPart_at hC ?_ | (with_reducible refine wpAny_isSubtype_exc hC ?_;rw[sR]) | wp_step)
 refine wpAny_onRaise ?_
 rw[show ∀(a b:String) (n:Nat),Bind.check ⟨.positional,"*","Exception",.self,[⟨"args",.varPos,false⟩]⟩ a b n (List.map (λx=>x.fst) ({ pos:=Value.ref e::rest }:Args).kw)=pure () from
  λa b n=>check_star_args _ _ _ _ _ _]
 exact wh hq
end
structure cW (K:Frag) (C:Addr):Prop where
 k:eF K C
 obj:∃nn q N bs bm du sn sub ab col dd k0 k1 k2 k3 k5,K.lookup C=some (excClassObj nn q C N bs bm du sn sub ab col dd k0 k1 k2 k3 k5 "Exception.__new__")
theorem cW.has{C:Addr}{nn q:Str}{N:Addr}{bs bm:List Value}{du:Bool}{sn:List Str}{sub:List Value}{ab:Bool}{col:Option Bool}{dd:Option Addr}{k0 k1 k2 k3 k5:Option Value}(k:eF K C)(e:K.lookup C=some (excClassObj nn q C N bs bm du sn sub ab col dd k0 k1 k2 k3 k5 "Exception.__new__")):(Value.ref C::bm).contains (.type "Exception")=true/\(Value.ref C::bm).contains (.type "AttributeError")=false/\(Value.ref C::bm).contains (.type "NameError")=false:=by
 refine dR (OT k.over) λcd hc ho _=>?_
 unfold clsIn at hc
 rw[e] at hc
 obtain rfl:=w3 hc
 refine jQ (Pn ho) λ_ _ a b c=>?_
 exact dp a b c
section
variable{w:World}{R:Result->Shared->Prop}{g:Array GenState}{d:Drawn}{t:Nat}{os:OsState}
variable{nn q:Str}{C N:Addr}{bs bm:List Value}{du:Bool}{sn:List Str}{sub:List Value}{ab:Bool}{col:Option Bool}{dd:Option Addr}{k0 k1 k2 k3 k5:Option Value}
theorem zm9(sR:(Value.ref C::bm).contains (.type "Exception")=true)(Dx:(Value.ref C::bm).contains (.type "AttributeError")=false)(Dy:(Value.ref C::bm).contains (.type "NameError")=false){rest:List Value}(hC:h.get? C=some (excClassObj nn q C N bs bm du sn sub ab col dd k0 k1 k2 k3 k5 "Exception.__new__"))(hq:R (.ok (.ret (.ref (h.objs.size+1)))) ⟨(h.push { cls:=.type "tuple",data:=.seq rest.toArray }).push
   { cls:=.ref C,data:=.fields #[.ref h.objs.size,.none,.none,.none,.bool false,.none] },g,d,t,os⟩)(i_:rest.length<=sizeLine):
  codeAny (model prog w) A (.builtin "Exception.__new__" ⟨.ref C::rest,[]⟩) R ⟨h,g,d,t,os⟩:=by
 have Fn:=PySem.F.excBase_Exception
 have Rr:=Fn.ends
 refine PySem.codeAny_builtinAt Fn.entry ?_
 unfold Builtin.«BaseException.__new__»
 refine PySem.wpAt_bind ?_
 show PySem.wpAt _ _ _ (stack >>= _) _ _ _
 refine PySem.wpAt_bind (PySem.wpAt_stack λp below=>PySem.wpAt_of_wpAny ?_)
 wp_walk
 refine PySem.wpAt_of_wpAny ?_
 rw[Fn.owner]
 repeat (first | with_reducible refine wpAny_madeHere_exc Fn.canon hC ?_ | with_reducible refine wpAny_loadPart_at hC ?_ | (with_reducible refine wpAny_isSubtype_exc hC ?_;first | rw[sR] at ⊢| rw[Dx] at ⊢| rw[Dy] at ⊢) | wp_step)
 show R _ _
 rw[Heap.size_push]
 exact hq
end
section
variable{w:World}{E:Value->Shared->Prop}{g:Array GenState}{d:Drawn}{t:Nat}{os:OsState}
variable{nn q:Str}{C N:Addr}{bs bm:List Value}{du:Bool}{sn:List Str}{sub:List Value}{ab:Bool}{col:Option Bool}{dd:Option Addr}{k0 k1 k2 k3 k5:Option Value}
theorem zhn(sR:(Value.ref C::bm).contains (.type "Exception")=true)(Dx:(Value.ref C::bm).contains (.type "AttributeError")=false)(Dy:(Value.ref C::bm).contains (.type "NameError")=false){rest:List Value}{fI:Addr}{Q:PySem.Fin->Shared->Prop}(X:K.In h)(hC:h.get? C=some (excClassObj nn q C N bs bm du sn sub ab col dd k0 k1 k2 k3 k5 "Exception.__new__"))(hi:findIn K (.ref C) "__init__" = some (some (.ref fI)))(hf:typeIn K (.ref fI)=some (.type "function"))(hq:∀h' e,Heap.MadeExcOf h h' e (.ref C) rest->
   wpAny (model prog w) A (call (.ref fI) (.ref e::rest)) (λr s'=>r = .none/\Q (.done (.ret (.ref e))) s') E ⟨h',g,d,t,os⟩)(i_:rest.length<=sizeLine):
  wpAny (model prog w) A (Builtin.«type.__call__» ⟨.ref C::rest,[]⟩) Q E ⟨h,g,d,t,os⟩:=by
 have F:=PySem.F.excBase_Exception
 repeat (first | with_reducible refine wpAny_loadPart_at hC ?_ | with_reducible refine wpAny_madeBy_exc hC ?_ | wp_step)
 refine codeAny_call_builtin_code (Code.quiet_builtin _ F.quiet) (zmr sR hC ?_)
 refine zm9 sR Dx Dy hC ?_ i_
 show wpAny _ _ _ _ _ _
 have kk:∀b o,h.get? b=some o->((h.push { cls:=.type "tuple",data:=.seq rest.toArray }).push { cls:=.ref C,data:=.fields #[.ref h.objs.size,.none,.none,.none,.bool false,.none] }).get? b=some o:=
  λb o e=>wc _ (wc _ e)
 have Dt:=kk _ _ hC
 have CM:=X.keeps kk
 have DK:((h.push { cls:=.type "tuple",data:=.seq rest.toArray }).push
   { cls:=.ref C,data:=.fields #[.ref h.objs.size,.none,.none,.none,.bool false,.none] }).get? (h.objs.size+1)=some
   { cls:=.ref C,data:=.fields #[.ref h.objs.size,.none,.none,.none,.bool false,.none] }:=by heap_get
 have Z0:(Value.ref C::bm).contains (.ref C)=true:=by simp
 unfold isInstance
 repeat (first | with_reducible refine wpAny_loadPart_at DK ?_ | (with_reducible refine wpAny_isSubtype_exc Dt ?_;rw[Z0]) | wp_step)
 show wpAny _ _ (typeLookup (.ref C) _) _ _ _
 refine(looks_findIn (M:=model prog w) CM hi).at ?_
 refine wi (wg ((bind_fn (M:=model prog w) CM (.ref (h.objs.size+1)) hf).at ?_))
 refine wg (wj (hq _ (h.objs.size+1) ⟨kk,Heap.get?_none_of_le (Nat.le_succ _),h.objs.size,DK,Heap.get?_none_of_le (wa _),?_⟩) (λr s' hr=>?_) λ_ _ x=>x)
 ·exact wc _ (Heap.get?_push_at rfl rfl)
 ·refine oA hr ?_;clear hr;rintro rfl hQ
  wp_walk
  exact hQ
theorem zl7(sR:(Value.ref C::bm).contains (.type "Exception")=true)(Dx:(Value.ref C::bm).contains (.type "AttributeError")=false)(Dy:(Value.ref C::bm).contains (.type "NameError")=false){rest:List Value}{fI:Addr}{Q:Value->Shared->Prop}(X:K.In h)(hC:h.get? C=some (excClassObj nn q C N bs bm du sn sub ab col dd k0 k1 k2 k3 k5 "Exception.__new__"))(hi:findIn K (.ref C) "__init__" = some (some (.ref fI)))(hf:typeIn K (.ref fI)=some (.type "function"))(hq:∀h' e,Heap.MadeExcOf h h' e (.ref C) rest->
   wpAny (model prog w) (A.under (.builtin "type.__call__" ⟨.ref C::rest,[]⟩)) (call (.ref fI) (.ref e::rest)) (λr s'=>r = .none/\Q (.ref e) s') E ⟨h',g,d,t,os⟩)(i_:rest.length<=sizeLine):
  wpAny (model prog w) A (call (.ref C) rest) Q E ⟨h,g,d,t,os⟩:=by
 have f1:=tc_lookup
 have f2:=tc_bind (.ref C)
 have hT:(⟨h,g,d,t,os⟩:Shared).TypeIs (.ref C) "type":=⟨_,hC,rfl⟩
 refine wpAny_call (codeAny_of_tree ?_)
 show wpAny _ _ (callAny (.ref C) _) _ _ _
 repeat (first | with_reducible assumption | with_reducible refine wpAny_loadPart_at hC ?_ | wp_step)
 refine⟨rfl,?_⟩
 refine codeAny_call_builtin_at (Code.quiet_builtin _ (by decide +kernel)) entry_typeCall (wpAny_check_type_call_sub hC (zhn sR Dx Dy X hC hi hf (λh' e hm=>?_) i_))
 exact hq h' e hm
end
end
section
open PySem.SeqAt PySem.StrLaws
abbrev zk: Nat:=1718379891
abbrev uD: Nat:=6872339552563453791
noncomputable def BF(o:ao)(e:β)(x0:Addr->β)(x:Nat->β):β:=ao.rec (motive:=λ_=>β) (λ_=>e) (λ_ _ _=>e) (λ_=>e) (λ_ d _=>x d) e x0 o
noncomputable def C7(l:List AV)(σ:AH):Res AV:=j' l λa _=>sh a λl=>BF (σ.get l) .stuck (λC=>.ok .none (σ.put l (.br C))) λ_=>.stuck
noncomputable def xp(a:Nat)(y z:AV)(σ:AH):Res Unit:=sh y λl=>BF (σ.get l) .stuck (λC=>.ok () ((σ.push (.ns [(a,z)])).put l (.exc C σ.n 0))) λd=>i6 σ d λes=>ak (Nat.ble (len es) 900) (.ok () (σ.put d (.ns (zd es a z)))) .stuck
theorem ES{o:ao}{e r:β}{x0:Addr->β}{x:Nat->β}{P:Prop}(ns:r≠e)(h:BF o e x0 x=r)(k0:∀C,o = .br C->x0 C=r->P)(k:∀C d j,o = .exc C d j->x d=r->P):P:=by
 cases o with
 |exc C d j=>exact k C d j rfl h
 |br C=>exact k0 C rfl h
 |_=>exact w1 h.symm ns
theorem nsE{d:Nat}{f:List (Nat×AV)->Res β}{r:Res β}{P:Prop}(ns:r≠.stuck)(e:i6 σ d f=r)(k:∀es,σ.get d = .ns es->f es=r->P):P:=by
 unfold i6 at e
 induction q:σ.get d with
 |ns es=>rw[q] at e;exact k es q e
 |_=>rw[q] at e;exact w1 e.symm ns
section
theorem zj8{a:Nat}(X:K.In c.base)(N:∀C,c.bA C->eF K C)(fm:∀C,c.bA C->bf K C (nm a)){y z:AV}{w:Value}(H:HR c μ σ s.heap)(ry:VR c μ σ.n s.heap y v)(rz:VR c μ σ.n s.heap z w):
  WP prog c A RU (setAttr v (nm a) w) (xp a y z σ) μ σ s:=by
 refine WP.gn λr0 er ns=>ry.eO ns er λl er hl=>ES ns er (λC el er=>H.jB hl el λ_ _ dw=>?_) λC d j el er=>nsE ns er λes e er=>bT ns er λh1 er=>H.iw hl el λ_ _ _ dw _ _ _ _ _ _ _=>?_
 ·exact zk0 X (N C dw) (fm C dw) H hl el rz λh' t aj H' X'=>⟨(),_,aj,er.symm,H',X',trivial,⟨rfl,rfl,rfl⟩⟩
 ·have hle:=w5 h1
  rw[zb] at hle
  exact zm8 X (N C dw) (fm C dw) H hl el e hle rz λh' t H' X'=>⟨(),_,μ,er.symm,H',X',trivial,⟨rfl,rfl,rfl⟩⟩
theorem Am{f:AV->AV->AH->Res Unit}{o e:Expr}{a:Nat}{D E:RD}{p:Pos}(hf:∀μ σ s y z v w,HR c μ σ s.heap->VR c μ σ.n s.heap y v->VR c μ σ.n s.heap z w->WP prog c A RU (setAttr v (nm a) w) (f y z σ) μ σ s)(ho:SE prog c A env L o D)(he:SE prog c A env L e E)(hs:swapsWith e (some (.Attribute o (nm a) p)) pos.line env=pure false):
  SS prog c A env L (.Assign [.Attribute o (nm a) p] e pos) (λρ σ=>((E ρ).v σ).bO ρ λv σ=>((D ρ).v σ).bO ρ λw σ=>(f w v σ).bO ρ λ_ σ=>.ok .next ρ σ):=λa9 ae aa μ σ s ρ S aA=>by
 refine oE S.fr λm F=>?_
 refine plainObj_wpAny_Assign_Attribute (WP.cM S (he.v μ σ s ρ m S.hr F) rfl aA λb ag ah v ar S2 X2 r er=>?_) hs
 refine oE S2.fr λm2 F2=>?_
 refine WP.cM S2 (ho.v ah ag ar ρ m2 S2.hr F2) er aA λb' ay aB v' aL S3 X3 r' b_=>?_
 exact WP.cM S3 (hf _ _ _ _ _ _ _ S3.hr r' (r.ext S2.hr X3)) b_ aA λ_ bE c8 _ bQ S4 X4 _ wt=>⟨.next,ρ,bE,c8,wt,S4,rfl⟩
theorem Xg{x:Expr}{a:Nat}{fv:Value}{f:List AV->AH->Res AV}{apos:Pos}{xs:List Expr}{E:RD}(X:K.In c.base)(hg:GN prog c env L x v)(hM:∀(A:Around) μ (σ:AH) s m ρ (pl:Sem Bool),HR c μ σ s.heap->cm c A μ σ.n s.heap L m ρ->∀(Q:Value×List Value->Shared->Prop) E,Q (fv,[]) { s with toks:=s.toks+1 }->wpAny (model prog c.w) A (getMethod v (nm a) pl) Q E s)(hk:(∃f,fv = .ref f/\keepIn K (.ref f)=true)\/∃id,fv = .builtin id)(hf:∀μ σ s l vs,HR c μ σ s.heap->cX c A μ σ.n s.heap->aH c μ σ.n s.heap l vs->WP prog c A (RV c) (call fv vs) (f l σ) μ σ s)(ha:SA prog c A env L xs E)(hs:Cd x=true)(hn:xs.length<29)(hl:(apos.endLine==pos.line)=true):
  SE prog c A env L (.Call (.Attribute x (nm a) apos) xs [] pos) (λρ=>lit λσ=>((E ρ).l σ).bind λl σ=>f l σ):=by
 refine SE.l7 (d:=λρ σ=>((E ρ).l σ).bind λl σ=>f l σ) (λμ σ s ρ m H F R hR aA=>?_) λ_=>rfl
 rw[arm_eval_Call,JI hs]
 refine wg (hg A μ σ s m ρ H F _ _ ?_)
 refine wg (wk ?_)
 have nF:methodCallForm (xs.length+([]:List Keyword).length) (backTo pos (starEach xs env)) (backToKw pos (keywordEach [] env))=true:=by
  unfold methodCallForm
  have h1:(backTo pos (starEach xs env)).all (λx=>!x.1)=true:=by
   have:=ha.noStar pos
   rw[List.all_eq_not_any_not];simpa using this
  rw[h1]
  show(true&&true&&decide (xs.length+0+0<30))=true
  simp;exact fy hn rfl
 have fN:methodCallPos true x env apos pos=pure pos:=by unfold methodCallPos;simp[hl]
 unfold methodCall
 rw[nF]
 refine wg (wi (hM A μ σ s m ρ _ H F _ _ ?_))
 refine wg (wpAny_of_eq fN ?_)
 have H1:HR c μ σ ({ s with toks:=s.toks+1 }:Shared).heap:=H
 have e1:b9 s { s with toks:=s.toks+1 }:=⟨rfl,rfl,rfl⟩
 show wpAny _ _ (callWith pos fv [] (backTo pos (starEach xs env)) []) _ _ _
 rcases hk with⟨f',rfl,Zf⟩ | ⟨id,rfl⟩
 ·refine callWith_of (P:=λh=>K.In h) (by rw[ha.noStar pos];rfl) (λh q=>keeps_K Zf h q) (xh ha ?_)
  refine WP.into (aw:={ s with toks:=s.toks+1 }) (.refl _ _ _) e1 (ha.sl.l pos μ σ { s with toks:=s.toks+1 } ρ m H1 F) hR aA λl ay aB vs aL H3 X3 X' r' e' b_=>?_
  exact⟨X.keeps H3.keep,WP.last X' e' b_ aA (hf aB ay aL l vs H3 (F.on H X').fG r')⟩
 ·refine callWith_builtin (ha.noStar pos) (xh ha ?_)
  exact WP.into (aw:={ s with toks:=s.toks+1 }) (.refl _ _ _) e1 (ha.sl.l pos μ σ { s with toks:=s.toks+1 } ρ m H1 F) hR aA λl ay aB vs aL H3 X3 X' r' e' b_=>WP.last X' e' b_ aA (hf aB ay aL l vs H3 (F.on H X').fG r')
theorem zg2(X:K.In c.base)(N:∀C,c.bA C->cW K C){l:List AV}(H:HR c μ σ s.heap)(r:aH c μ σ.n s.heap l vs):WP prog c A (RV c) (call (.builtin "Exception.__init__") vs) (C7 l σ) μ σ s:=by
 refine WP.gen λr0 er ns=>?_
 refine eQ (HQ ns) ?_;rintro a m rfl
 replace ns:r0≠.stuck:=er▸ns
 revert er
 refine r.k2 λ_ w ra rm er=>ra.eO ns er λl0 er hl=>ES ns er (λC el er=>H.jB hl el λx0 ho dw=>?_) λ_ _ _ _ z=>w1 z.symm ns
 have F:=PySem.F.excBase_Exception
 refine eC (N C dw).obj λnn q N' bs q9=>?_;refine eC q9 λbm du sn sub q9=>?_;refine eC q9 λab col dd k0 q9=>?_;refine eC q9 λk1 k2 k3 k5 hK=>?_
 have hb:=(cW.has (N C dw).k hK).1
 have hC:=(X.keeps H.keep) _ _ hK
 have G1:=H.push { cls:=.type "tuple",data:=.seq [w].toArray }
 have G2:=G1.1.update (l:=l0) (a':=.br C) (f:=Obj.mapFields (·.setIfInBounds 0 (Value.ref s.heap.objs.size))) hl (wc _ ho) rfl (by
  show aG c μ σ.n _ (.br C) (Obj.mapFields (·.setIfInBounds 0 (Value.ref s.heap.objs.size)) { cls:=.ref C,data:=.fields #[x0,.none,.none,.none,.bool false,.none] })
  exact .br dw)
 obtain⟨hp,g,d,t,os⟩:=s
 refine wpAny_call (codeAny_call_builtin F.init.plain F.initEntry (zkk hb hC ho rfl ?_))
 unfold Builtin.«BaseException.__init__»
 dsimp only
 rw[if_neg (by simp)]
 unfold newTuple Builtin.BaseException.bexcPut
 have sY:=wc (h:=hp) { cls:=.type "tuple",data:=.seq [w].toArray } ho
 refine wg (wpAny_newObj_type (wg (wg (wpAny_field sY rfl rfl (wg (wpAny_setField sY rfl (Nat.zero_lt_succ _) ?_))))) (by show 1<=sizeLine;decide))
 have fin:PQ c (RV c) r0 μ σ ⟨hp,g,d,t,os⟩ .none ⟨(hp.push { cls:=.type "tuple",data:=.seq [w].toArray }).update (μ l0) (Obj.mapFields (·.setIfInBounds 0 (Value.ref hp.objs.size))),g,d,t,os⟩:=
  PQ.fin (aw:=⟨_,g,d,t,os⟩) G2.1 (G1.2.trans G2.2) ⟨rfl,rfl,rfl⟩ er.symm .none
 induction x0 using Value.casesOn with
 |ref t0=>exact wpAny_letGo (wh fin)
 |_=>exact wh (wh fin)
end
end
section
open PySem.SeqAt PySem.StrLaws
abbrev wC: Fn:=⟨[zk,z6],[],.nil⟩
abbrev kH: Fn:=⟨[zk,z6,zq],[.int 0 0],.nil⟩
noncomputable def rT(a:Nat)(ρ:az)(σ:AH):XR:=((rZ a ρ).v σ).bO ρ λv σ=>((rZ zk ρ).v σ).bO ρ λw σ=>(xp a w v σ).bO ρ λ_ σ=>.ok .next ρ σ
noncomputable def two: RD:=jv (rZ zk) (jv (rZ z6) jw)
noncomputable def xM: XD:=lI (Co λρ=>lit λσ=>((two ρ).l σ).bind λl σ=>C7 l σ) (lI (rT z6) ji)
noncomputable def xX: XD:=lI (Co λρ=>lit λσ=>((two ρ).l σ).bind λl σ=>dB xM wC l σ) (lI (rT zq) ji)
def D0(p0 p1 p2 p3 p4 p5 p6 p7 p8 p9:Pos):List Stmt:=
 [.Expr (.Call (.Attribute (.Name ("Exception":Str) p0) (nm uD) p1) [.Name (nm zk) p2,.Name (nm z6) p3] [] p4) p5,.Assign [.Attribute (.Name (nm zk) p6) (nm z6) p7] (.Name (nm z6) p8) p9]
def D1(x:Str)(p0 p1 p2 p3 p4 p5 p6 p7 p8 p9:Pos):List Stmt:=
 [.Expr (.Call (.Attribute (.Name x p0) (nm uD) p1) [.Name (nm zk) p2,.Name (nm z6) p3] [] p4) p5,.Assign [.Attribute (.Name (nm zk) p6) (nm zq) p7] (.Name (nm zq) p8) p9]
theorem zk8: bootBuiltins ("Exception":Str)=some (.type "Exception"):=by kernel_rfl
theorem zgh: ("Exception":Str)≠"__name__":=by decide +kernel
theorem zi1: (("Exception":Str)==("__debug__":Str))=false:=by decide +kernel
section
variable{p:Program}
theorem pS{qual:Str}{L a:Addr}{c5:Value}(hk:scope.kind = .function):bz (envX qual scope L a c5 (cellsFrom (L+1) scope.names [])) (lG scope L):=⟨hk,rfl,rfl,rfl,rfl⟩
theorem t9{qual:Str}{L a:Addr}{c5:Value}{cl:List (Str×Addr)}(hk:scope.kind = .function):interactive (envX qual scope L a c5 cl)=false:=by
 unfold interactive
 show(scope.kind==.module&&_)=false
 rw[hk];rfl
def d8(x:Nat):Bool:=!(nm x==("__debug__":Str))
theorem Ka{qual:Str}{L a:Addr}{c5:Value}{x:Nat}(hk:scope.kind = .function)(hx:scope.names.lookup (nm x)=some .local)(hn:nm x∉bD scope)(hd:d8 x=true):
  SE prog c A (envX qual scope L a c5 (cellsFrom (L+1) scope.names [])) (lG scope L) (.Name (nm x) pos) (rZ x):=
 tV (pS hk) hx (OQ (by show nm x∉(cellsFrom _ scope.names []).map (·.1);rw[kz];exact hn)) (by unfold d8 at hd;induction q:nm x==("__debug__":Str) with | false=>rfl | true=>rw[q] at hd;exact FT hd)
structure CL (scope:Scope) (ps:List Nat) (g:Str):Prop where
 kind:scope.kind = .function
 loc:∀x∈ps,scope.names.lookup (nm x)=some .local/\nm x∉bD scope/\d8 x=true
 Bw:scope.names.lookup g=some .globalImplicit
theorem uf{qual:Str}{L a:Addr}{c5:Value}{p2 p3:Pos}{ps:List Nat}{g:Str}(S:CL scope ps g)(h1:zk∈ps)(h2:z6∈ps):
  SA prog c A (envX qual scope L a c5 (cellsFrom (L+1) scope.names [])) (lG scope L) [.Name (nm zk) p2,.Name (nm z6) p3] two:=
 Hn (Ka S.kind (S.loc _ h1).1 (S.loc _ h1).2.1 (S.loc _ h1).2.2) (Hn (Ka S.kind (S.loc _ h2).1 (S.loc _ h2).2.1 (S.loc _ h2).2.2) JV rfl) rfl
theorem tZ{qual:Str}{L a:Addr}{c5:Value}{x:Nat}{p6 p7 p8 p9:Pos}{ps:List Nat}{g:Str}(X:K.In c.base)(N:∀C,c.bA C->cW K C)(fm:∀C,c.bA C->bf K C (nm x))(S:CL scope ps g)(h1:zk∈ps)(h2:x∈ps):
  SS prog c A (envX qual scope L a c5 (cellsFrom (L+1) scope.names [])) (lG scope L) (.Assign [.Attribute (.Name (nm zk) p6) (nm x) p7] (.Name (nm x) p8) p9) (rT x):=
 Am (λμ σ s y z v w H r1 r2=>zj8 X (λC h=>(N C h).k) fm H r1 r2) (Ka S.kind (S.loc _ h1).1 (S.loc _ h1).2.1 (S.loc _ h1).2.2) (Ka S.kind (S.loc _ h2).1 (S.loc _ h2).2.1 (S.loc _ h2).2.2) rfl
theorem call_M{fM:Addr}{q:Str}{c5:Value}{p0 p1 p2 p3 p4 p5 p6 p7 p8 p9:Pos}(X:K.In c.base)(eG:c.base.NoLimit)(dK:∃o,c.base.get? (c.base.objs.size - 1)=some o)(T:TopRead p loose mg mb c.base)(F:FnAt c K fM wC q (D0 p0 p1 p2 p3 p4 p5 p6 p7 p8 p9) scope c5)(S:CL scope [zk,z6] "Exception")(eE:nsIn K mainGlobals "Exception" = some none)(hl:(p1.endLine==p4.line)=true)(eX:findCls K (.type "Exception") (.type "type") (nm uD)=some (.val (.builtin "Exception.__init__")))(N:∀C,c.bA C->cW K C)(fm:∀C,c.bA C->bf K C (nm z6))(hA:A.depth<recursionLimit):
  ∀μ σ s l vs,HR c μ σ s.heap->cX c A μ σ.n s.heap->aH c μ σ.n s.heap l vs->WP prog c A (RV c) (call (.ref fM) vs) (dB xM wC l σ) μ σ s:=by
 intro μ σ s l vs H sk r ns
 refine wpAny_call (wo (PC X eG dK hA F (λL=>?_) H sk r ns) λx s' q=>by rcases x with e | (v | _ | _ | _) <;> exact q)
 have EO:=pS (scope:=scope) (qual:=q) (L:=L) (a:=fM) (c5:=c5) S.kind
 refine HB (Qk (Xg (fv:=.builtin "Exception.__init__") (v:=.type "Exception") X (λA μ σ s m ρ H F Q E q=>?_) (λA μ σ s m ρ pl H F Q E q=>?_) (.inr ⟨_,rfl⟩) (λμ σ s l vs H _ r=>zg2 X N H r) (uf S (.head _) (.tail _ (.head _))) rfl (by show 2<29;decide) hl) (t9 S.kind) rfl) (HB (tZ X N fm S (.head _) (.tail _ (.head _))) Qw)
 ·exact Name_function_global EO.kind S.Bw (loadGlobal_builtin (env:=envX _ scope L fM c5 (cellsFrom (L+1) scope.names [])) (T.g.keeps H.keep) (mg_none_of X T.g eE) (T.b.keeps H.keep) ((T.builtins _ zgh).trans zk8) q) zi1
 ·with_reducible refine method_type (T:="Exception") (F.fr H) X ?_ ?_ eX ?_ q
  ·kernel_rfl
  ·decide +kernel
  ·decide
theorem vM{aM fM fX:Addr}{x q:Str}{c5 mc:Value}{p0 p1 p2 p3 p4 p5 p6 p7 p8 p9:Pos}(X:K.In c.base)(eG:c.base.NoLimit)(dK:∃o,c.base.get? (c.base.objs.size - 1)=some o)(T:TopRead p loose mg mb c.base)(F:FnAt c K fX kH q (D1 x p0 p1 p2 p3 p4 p5 p6 p7 p8 p9) scope c5)(S:CL scope [zk,z6,zq] x)(eM:nsIn K mainGlobals x=some (some (.ref aM)))(hx:(x==("__debug__":Str))=false)(hl:(p1.endLine==p4.line)=true)(hg:specialIn K (.ref aM) "__getattribute__" = some (some (.builtin "type.__getattribute__")))(hr:readsIn K aM mc=true)(e:findCls K (.ref aM) mc (nm uD)=some (.val (.ref fM)))(Zc:keepIn K (.ref fM)=true)(N:∀C,c.bA C->cW K C)(fm:∀C,c.bA C->bf K C (nm zq))(hA:A.depth<recursionLimit)(hM:∀(A':Around),A'.depth<recursionLimit->∀μ σ s l vs,HR c μ σ s.heap->cX c A' μ σ.n s.heap->aH c μ σ.n s.heap l vs->WP prog c A' (RV c) (call (.ref fM) vs) (dB xM wC l σ) μ σ s)(Lf:∀e,(A.deeper e).depth<recursionLimit):
  ∀μ σ s l vs,HR c μ σ s.heap->cX c A μ σ.n s.heap->aH c μ σ.n s.heap l vs->WP prog c A (RV c) (call (.ref fX) vs) (dB xX kH l σ) μ σ s:=by
 intro μ σ s l vs H sk r ns
 refine wpAny_call (wo (PC X eG dK hA F (λL=>?_) H sk r ns) λx s' q=>by rcases x with e | (v | _ | _ | _) <;> exact q)
 have EO:=pS (scope:=scope) (qual:=q) (L:=L) (a:=fX) (c5:=c5) S.kind
 refine HB (Qk (Xg (fv:=.ref fM) (v:=.ref aM) X (λA μ σ s m ρ H F Q E q=>?_) (λA μ σ s m ρ pl H F Q E q=>?_) (.inl ⟨_,rfl,Zc⟩) (hM _ (Lf _)) (uf S (.head _) (.tail _ (.head _))) rfl (by show 2<29;decide) hl) (t9 S.kind) rfl) (HB (tZ X N fm S (.head _) (.tail _ (.tail _ (.head _)))) Qw)
 ·exact Name_function_global EO.kind S.Bw (loadGlobal_global (env:=envX _ scope L fX c5 (cellsFrom (L+1) scope.names [])) (T.g.keeps H.keep) (mg_of X T.g eM) q) hx
 ·exact method_cls (X.keeps H.keep) hg (cls_value (X.keeps H.keep) hr e rfl q)
theorem zlm{l C:Nat}{m:AV}(el:σ.get l = .br C)(hl:l < σ.n):∃ai,dB xM wC [.obj l,m] σ = .ok .none ai/\ai.n = σ.n+1/\ai.get l = .exc C σ.n 0/\ai.get σ.n = .ns [(z6,m)]/\∀i,i < σ.n->i≠l->ai.get i = σ.get i:=by
 have e1:C7 [.obj l,m] σ = .ok .none (σ.put l (.br C)):=by show BF (σ.get l) _ _ _=_;rw[el];rfl
 have e2:(σ.put l (.br C)).get l = .br C:=AH.bp σ _ _
 have e3:xp z6 (.obj l) m (σ.put l (.br C)) = .ok () (((σ.put l (.br C)).push (.ns [(z6,m)])).put l (.exc C σ.n 0)):=by show BF ((σ.put l (.br C)).get l) _ _ _=_;rw[e2];rfl
 refine⟨((σ.put l (.br C)).push (.ns [(z6,m)])).put l (.exc C σ.n 0),?_,rfl,AH.bp _ _ _,?_,λi hi kP=>?_⟩
 ·have:dB xM wC [.obj l,m] σ = jM ((Co (λρ=>lit λσ=>((two ρ).l σ).bind λl σ=>C7 l σ) [(zk,.obj l),(z6,m)] σ).seq (lI (rT z6) ji)):=rfl
  rw[this]
  have e4:Co (λρ=>lit λσ=>((two ρ).l σ).bind λl σ=>C7 l σ) [(zk,.obj l),(z6,m)] σ = (C7 [.obj l,m] σ).bO [(zk,.obj l),(z6,m)] λ_ σ=>.ok .next [(zk,.obj l),(z6,m)] σ:=rfl
  rw[e4,e1]
  have e5:lI (rT z6) ji [(zk,.obj l),(z6,m)] (σ.put l (.br C))=((xp z6 (.obj l) m (σ.put l (.br C))).bO [(zk,.obj l),(z6,m)] λ_ σ=>.ok .next [(zk,.obj l),(z6,m)] σ).seq ji:=rfl
  show jM (lI (rT z6) ji [(zk,.obj l),(z6,m)] (σ.put l (.br C)))=_
  rw[e5,e3];rfl
 ·rw[AH.aJ _ _ (Nat.ne_of_gt hl)];exact AH.bY (σ.put l (.br C)) _
 ·rw[AH.aJ _ _ kP,AH.bc _ _ (by show i≠σ.n;exact Nat.ne_of_lt hi),AH.aJ _ _ kP]
theorem zma{l C:Nat}{m y:AV}(el:σ.get l = .br C)(hl:l < σ.n):∃ai,dB xX kH [.obj l,m,y] σ = .ok .none ai/\ai.n = σ.n+1/\ai.get l = .exc C σ.n 0/\ai.get σ.n = .ns [(z6,m),(zq,y)]/\∀i,i < σ.n->i≠l->ai.get i = σ.get i:=by
 refine au (zlm (m:=m) el hl) λaE e1 q9=>?_;refine jS q9 λe2 e3 e4 e5=>?_
 have e6:xp zq (.obj l) y aE = .ok () (aE.put σ.n (.ns [(z6,m),(zq,y)])):=by
  show BF (aE.get l) _ _ _=_
  rw[e3]
  show i6 aE σ.n _=_
  unfold i6
  rw[e4];rfl
 refine⟨aE.put σ.n (.ns [(z6,m),(zq,y)]),?_,e2,?_,AH.bp _ _ _,λi hi kP=>?_⟩
 ·have:dB xX kH [.obj l,m,y] σ = jM (((dB xM wC [.obj l,m] σ).bO [(zk,.obj l),(z6,m),(zq,y)] λ_ σ=>.ok .next [(zk,.obj l),(z6,m),(zq,y)] σ).seq (lI (rT zq) ji)):=rfl
  rw[this,e1]
  have e7:lI (rT zq) ji [(zk,.obj l),(z6,m),(zq,y)] aE=((xp zq (.obj l) y aE).bO [(zk,.obj l),(z6,m),(zq,y)] λ_ σ=>.ok .next [(zk,.obj l),(z6,m),(zq,y)] σ).seq ji:=rfl
  show jM (lI (rT zq) ji [(zk,.obj l),(z6,m),(zq,y)] aE)=_
  rw[e7,e6];rfl
 ·rw[AH.aJ _ _ (Nat.ne_of_lt hl)];exact e3
 ·rw[AH.aJ _ _ (Nat.ne_of_lt hi)];exact e5 i hi kP
theorem x_{G:Gl}(X:K.In c.base)(pZ:∀a k,G.cl.get a=some k->k.exc=true->c.bA a/\cW K a/\∃fX,findIn K (.ref a) "__init__" = some (some (.ref fX))/\typeIn K (.ref fX)=some (.type "function")/\
   ∀rest,∀μ σ s l vs,HR c μ σ s.heap->cX c A μ σ.n s.heap->aH c μ σ.n s.heap l vs->WP prog c (A.under (.builtin "type.__call__" ⟨.ref a::rest,[]⟩)) (RV c) (call (.ref fX) vs) (dB xX kH l σ) μ σ s):pz prog c A G:=by
 intro a k μ σ s args vs ek ex H sk r ns
 refine cps λ_ κ=>?_;refine eQ (HQ ns) ?_;rintro m y rfl
 refine c6 (pZ a k ek ex) λdw cl q9=>?_;refine dR q9 λfX hi hf Dz=>?_
 refine eC cl.obj λnn q N' bs q9=>?_;refine eC q9 λbm du sn sub q9=>?_;refine eC q9 λab col dd k0 q9=>?_;refine eC q9 λk1 k2 k3 k5 hK=>?_
 refine c6 (cW.has cl.k hK) λny nz pY=>?_
 have X':=X.keeps H.keep
 have hlen:=r.len
 obtain⟨hp,g,d,t,os⟩:=s
 refine κ ?_;clear κ;refine zl7 ny nz pY X' (X' _ _ hK) hi hf (λh' e hm=>?_) (by rw[hlen,sizeLine_eq];show 2<=_;exact dQ rfl)
 have G1:=H.dJ hm.keeps
 refine cps λ_ κ=>?_;refine dR hm.there λt0 he _ _=>?_
 have kP:∀i,i < σ.n->μ i≠e:=λi hi z=>by
  refine au (H.obj i hi) λo ho _=>?_
  rw[z,hm.new] at ho;exact NS ho
 have Zn:c.base.get? e=none:=by
  induction q:c.base.get? e with
  |none=>rfl
  |some o=>have:=H.keep _ _ q;rw[hm.new] at this;exact NS this
 have AD:=G1.1.adopt (b:=e) (a:=.br a) he kP Zn (.br dw)
 have XX:Ext μ σ.n hp (yg μ σ.n e) (σ.n+1) h':=⟨Nat.le_succ _,λi hi=>y8 hi,λi a b=>by
  obtain rfl:i = σ.n:=HY a b
  rw[zz];exact hm.new,G1.2.kp,G1.2.own⟩
 have hv:VR c (yg μ σ.n e) (σ.n+1) h' (.obj σ.n) (.ref e):=by
  have:VR c (yg μ σ.n e) (σ.n+1) h' (.obj σ.n) (.ref (yg μ σ.n e σ.n)):=.obj (wb _)
  rw[zz] at this
  exact this
 refine au (zma (l:=σ.n) (C:=a) (m:=m) (y:=y) (σ:=σ.push (.br a)) (AH.bY σ _) (wb _)) λai e1 q9=>?_;refine jS q9 λe2 e3 e4 e5=>?_
 have:=Dz vs (yg μ σ.n e) (σ.push (.br a)) ⟨h',g,d,t,os⟩ [.obj σ.n,m,y] (.ref e::vs) AD (sk.ext XX) (.cons hv (r.ext H XX)) (by rw[e1];intro z;contradiction)
 refine κ ?_;clear κ;refine wj this (λv s' q=>?_) λv s' q=>?_
 ·refine cps λ_ κ=>?_;refine lN q λb bC bV q1 q2 q3 q4 q5=>?_
  rw[e1] at q1
  cases q1
  cases q4
  refine κ ?_;clear κ;refine⟨rfl,.obj σ.n,(σ.push (.exc a (Nat.succ σ.n) 0)).push (.ns [(z6,m),(zq,y)]),bV,rfl,q2.congr ?_ ?_,?_,?_,?_⟩
  ·rw[e2];rfl
  ·intro i hi
   rw[e2] at hi
   have hi:i < σ.n+1+1:=hi
   by_cases h1:i = σ.n+1
   ·subst h1
    exact(AH.bY (σ.push (.exc a (Nat.succ σ.n) 0)) _).trans e4.symm
   ·rw[AH.bc (σ.push (.exc a (Nat.succ σ.n) 0)) _ (show i≠σ.n+1 from h1)]
    by_cases h2:i = σ.n
    ·subst h2
     exact(AH.bY σ _).trans e3.symm
    ·rw[AH.bc σ _ h2,e5 i (show i < σ.n+1 from(Nat.lt_of_le_of_ne (Nat.le_of_lt_succ hi) h1)) h2,AH.bc σ _ h2]
  ·have:=XX.trans q3
   rw[e2] at this
   exact this
  ·show VR c bV (σ.n+1+1) s'.heap (.obj σ.n) (.ref e)
   have h3:=q3.eq σ.n (wb _)
   rw[zz] at h3
   have:VR c bV (σ.n+1+1) s'.heap (.obj σ.n) (.ref (bV σ.n)):=.obj (Nat.le_add_right _ _)
   rw[h3] at this
   exact this
  ·exact b9.trans ⟨rfl,rfl,rfl⟩ q5
 ·refine cps λ_ κ=>?_;refine dY q λl bC bV q1 _=>?_
  rw[e1] at q1;contradiction
end
end
section
variable{G:Gl}
noncomputable def HK: List (Value×Value)->List Value
 |[]=>[]
 |p::l=>p.1::p.2::HK l
abbrev Yg(c:Cx):Rel (List AV) (List (Value×Value)):=λμ n h l ps=>aH c μ n h l (HK ps)
abbrev Yf(c:Cx)(kv:Value):Rel (List AV) (List (Value×Value)):=λμ n h l ps=>∃vv N6,ps=(kv,vv)::N6/\aH c μ n h l (vv::HK N6)
noncomputable def s_: List (Option Expr)->List Expr->Option (List Expr)
 |[],[]=>some []
 |some k::ks,v::vs=>(s_ ks vs).map λl=>k::v::l
 |_,_=>none
noncomputable def oH(env:Env)(pos:Pos):List Expr->List (Sem Value×Sem Value)
 |k::v::l=>(eval k env,do let x<-eval v env;standAt pos;pure x)::oH env pos l
 |_=>[]
def qP(env:Env)(pos:Pos)(kv:Value):List Expr->Sem (List (Value×Value))
 |[]=>pure []
 |v::l=>do
  let vv<-holding [kv] (do let x<-eval v env;standAt pos;pure x)
  return (kv,vv)::(<-holding [kv,vv] (evalPairs (oH env pos l)))
structure CJ (prog:Program) (c:Cx) (A:Around) (env:Env) (L:Fm) (xs:List Expr) (D:RD):Prop where
 ev:xs.length % 2=0->∀pos μ σ s ρ m,HR c μ σ s.heap->cm c A μ σ.n s.heap L m ρ->WP prog c A (Yg c) (evalPairs (oH env pos xs)) ((D ρ).l σ) μ σ s
 od:xs.length % 2=1->∀kv pos μ σ s ρ m,HR c μ σ s.heap->cm c A μ σ.n s.heap L m ρ->WP prog c A (Yf c kv) (qP env pos kv xs) ((D ρ).l σ) μ σ s
theorem Ad: CJ prog c A env L [] jw:=
 ⟨λ_ pos μ σ s ρ m H F aA=>evalPairs_nil ⟨_,_,_,rfl,H,.refl _ _ _,.nil,.refl _⟩,λh=>by cases h⟩
theorem zm6{x:Expr}{xs:List Expr}{D E:RD}(hx:SE prog c A env L x D)(hs:CJ prog c A env L xs E):CJ prog c A env L (x::xs) (jv D E) where
 ev h pos μ σ s ρ m H F aA:=by
  have h':xs.length % 2=1:=by rw[List.length_cons] at h;lia
  induction xs using lC with
  |nil=>cases h'
  |cons v l=>
   show wpAny _ _ (evalPairs ((eval x env,do let y<-eval v env;standAt pos;pure y)::oH env pos l)) _ _ s
   have e0:evalPairs ((eval x env,do let y<-eval v env;standAt pos;pure y)::oH env pos l)=(do let kv<-eval x env;qP env pos kv (v::l)):=by
    rw[evalPairs];rfl
   rw[e0]
   refine wg (WP.into (.refl _ _ _) (.refl _) (hx.v μ σ s ρ m H F) rfl aA λb ag ah kv ar H2 X2 X r e er=>?_)
   have e1:(do let y<-(pure ():Sem Unit);qP env pos kv (v::l))=qP env pos kv (v::l):=rfl
   refine WP.into X e (hs.od h' kv pos ah ag ar ρ m H2 (F.on H X)) er aA λb' ay aB ps aL H3 X3 X' r' e' b_=>?_
   refine bw r' ?_;clear r';rintro vv N6 rfl r'
   exact PQ.fin H3 X' e' b_ (.cons (r.ext H2 X3) r')
 od h kv pos μ σ s ρ m H F aA:=by
  have h':xs.length % 2=0:=by rw[List.length_cons] at h;lia
  show wpAny _ _ (do
   let vv<-holding [kv] (do let y<-eval x env;standAt pos;pure y)
   return (kv,vv)::(<-holding [kv,vv] (evalPairs (oH env pos xs)))) _ _ s
  refine wg (wi (wg (WP.into (.refl _ _ _) (.refl _) (hx.v μ σ s ρ m H F) rfl aA λb ag ah vv ar H2 X2 X r e er=>?_)))
  refine wg (wk (wh ?_))
  refine wg (wi (WP.into X e (hs.ev h' pos ah ag ar ρ m H2 (F.on H X)) er aA λb' ay aB ps aL H3 X3 X' r' e' b_=>?_))
  exact wh (PQ.fin H3 X' e' b_ ⟨vv,ps,rfl,.cons (r.ext H2 X3) r'⟩)
inductive PR (c:Cx) (μ:Nat->Addr) (n:Nat) (h:Heap):List (List Nat×AV)->List (Value×Value)->Prop
 |nil:PR c μ n h [] []
 |cons {key:List Nat}{t:Tok}{z:AV}{w:Value}{l:List (List Nat×AV)}{ps:List (Value×Value)}:VR c μ n h z w->PR c μ n h l ps->PR c μ n h ((key,z)::l) ((.str (S key) t,w)::ps)
theorem PR.ext{l:List (List Nat×AV)}{ps:List (Value×Value)}(y:PR c μ σ.n h l ps)(H:HR c μ σ h)(x:Ext μ σ.n h aj n' h'):PR c aj n' h' l ps:=by
 induction y with
 |nil=>exact .nil
 |cons r _ ih=>exact .cons (r.ext H x) ih
theorem zhy: ∀{ps:List (Value×Value)}{l:List AV}{qs:List (List Nat×AV)},aH c μ n h l (HK ps)->je l=some qs->PR c μ n h qs ps:=by
 intro ps
 induction ps with
 |nil=>
  intro l qs r e
  cases r
  obtain rfl:=w3 e
  exact .nil
 |cons p ps ih=>
  intro l qs r e
  obtain⟨kv,vv⟩:=p
  change aH c μ n h l (kv::vv::HK ps) at r
  cases r with
  |@cons a _ l1 _ ra r1=>
  cases r1 with
  |@cons b _ l2 _ rb rr=>
  induction ra using vC with
  |str q k t=>
   change(match Nat.beq q 0,je l2 with | true,some r=>some ((k,b)::r) | _,_=>none)=some qs at e
   induction hq:Nat.beq q 0 with
   |false=>rw[hq] at e;exact NS e
   |true=>
    induction hp:je l2 with
    |none=>rw[hq,hp] at e;exact NS e
    |some qs'=>
     rw[hq,hp] at e
     obtain rfl:=w3 e
     obtain rfl:=za hq
     exact .cons rb (ih rr hp)
  |_=>exact NS e
theorem zi9(hU:c.U=G.U){o:Nat}:∀{ps:List (Value×Value)}{qs:List (List Nat×AV)}{μ:Nat->Addr}{σ:AH}{s:Shared},o < σ.n->HR c μ σ s.heap->PR c μ σ.n s.heap qs ps->
  WP prog c A (λ_ _ _ (_:Unit) (_:PUnit)=>True) (forIn ps PUnit.unit λ(x:Value×Value) (_:PUnit)=>(do dictSet (μ o) x.1 x.2;pure (ForInStep.yield PUnit.unit):Sem (ForInStep PUnit))) (Hx G o qs σ) μ σ s:=by
 intro ps
 induction ps with
 |nil=>
  intro qs μ σ s ho H r
  cases r
  intro ns
  rw[List.forIn_nil]
  exact wh (PQ.fin H (.refl _ _ _) (.refl _) rfl trivial)
 |cons p ps ih=>
  intro qs μ σ s ho H r ns
  cases r with
  |@cons key t z w l _ rz rr=>
  rw[List.forIn_cons]
  refine wg (wg (WP.into (f:=λ_ σ=>Hx G o l σ) (.refl _ _ _) (.refl _) (zmi hU ho H rz) rfl ns λb ag ah v ar H2 X2 X _ e er=>wh ?_))
  have:=ih (μ:=ah) (σ:=ag) (s:=ar) (w7 ho X.le) H2 (rr.ext H X)
  rw[X.eq o ho] at this
  exact WP.last X e er ns this
theorem A2{keys:List (Option Expr)}{vals:List Expr}{xs:List Expr}{D:RD}(hU:c.U=G.U)(hx:s_ keys vals=some xs)(h0:xs≠[])(hl:xs.length<=30)(h:CJ prog c A env L xs D):SE prog c A env L (.Dict keys vals pos) (qI G D):=by
 have shape:∀{keys:List (Option Expr)}{vals xs:List Expr},s_ keys vals=some xs->xs.length % 2=0/\(oH env pos xs).length=xs.length / 2/\
   (evalEachOpt keys env).zip ((evalEach vals env).map λv=>do let x<-v;standAt pos;pure x)=(oH env pos xs).map λp=>(some p.1,p.2):=by
  intro keys
  induction keys with
  |nil=>intro vals xs e;induction vals using lC with
   |nil=>obtain rfl:=w3 e;exact dp rfl rfl rfl
   |cons _ _=>exact NS e
  |cons k ks ih=>
   intro vals xs e
   induction k with
   |none=>cases vals <;> exact NS e
   |some k=>induction vals using lC with
    |nil=>exact NS e
    |cons v vs=>
     change(s_ ks vs).map (λl=>k::v::l)=some xs at e
     induction e1:s_ ks vs with
     |none=>rw[e1] at e;exact NS e
     |some l=>
      rw[e1] at e
      obtain rfl:=w3 e
      refine c6 (ih e1) λi1 i2 i3=>?_
      refine dp (by simp only[List.length_cons];lia) ?_ ?_
      ·show(oH env pos l).length+1=_
       simp only[List.length_cons];lia
      ·show(some (eval k env),(do let x<-eval v env;standAt pos;pure x))::(evalEachOpt ks env).zip ((evalEach vs env).map λv=>do let x<-v;standAt pos;pure x)=_
       rw[i3];rfl
 refine c6 (shape hx) λp1 p2 p3=>?_
 refine SE.l7 (d:=λρ σ=>((D ρ).l (σ.push (.dict false 0 []))).bind λl ai=>opt (je l) .stuck λps=>Ct G σ.n ps ai) (λμ σ s ρ m H F R hR aA=>?_) λ_=>rfl
 have kP:oH env pos xs≠[]:=by
  intro z
  have:=congrArg List.length z
  rw[p2] at this
  induction xs using lC with
  |nil=>exact h0 rfl
  |cons a l=>induction l using lC with
   |nil=>cases p1
   |cons b l=>simp at this;lia
 rw[arm_eval_Dict,p3,dictDisplay_pairs _ kP (by lia)]
 refine wg (wk (wg ?_))
 unfold subDict
 refine wg (wpAny_alloc ?_)
 refine wg (wi ?_)
 rw[if_pos (by lia)]
 have G1:=H.alloc (o:=emptyDict) (a:=.dict false 0 []) rfl (.dict (pre:=[]) (ents:=[]) (k:=0) .nil ⟨⟨w9 _,w9 _⟩,λ_ h=>nomatch h⟩ λ_=>⟨rfl,rfl⟩)
 have sm:b9 s { s with heap:=s.heap.push emptyDict }:=⟨rfl,rfl,rfl⟩
 refine wg (WP.into (aw:={ s with heap:=s.heap.push emptyDict }) (f:=λl ai=>opt (je l) .stuck λps=>Ct G σ.n ps ai) G1.2 sm (h.ev p1 pos _ _ _ ρ m G1.1 (F.on H G1.2)) hR aA λl ag ah ps ar H2 X2 X r e er=>?_)
 refine au (yt (show opt (je l) Res.stuck (λps=>Ct G σ.n ps ag)≠.stuck from λz=>aA (er.trans z))) λqs e1 e2=>?_
 rw[e2] at er
 have ho:σ.n < ag.n:=w7 (wb _) X2.le
 have hm:ah σ.n=s.heap.objs.size:=by
  rw[X2.eq σ.n (Nat.lt_succ_self _),zz]
 refine wi ?_
 have st:=zi9 (prog:=prog) (A:=A) hU ho H2 (zhy r e1)
 rw[hm] at st
 refine wg (WP.into (f:=λ_ ai=>(Res.ok (AV.obj σ.n) ai:Res AV)) X e st (er.trans (show Ct G σ.n qs ag=(Hx G σ.n qs ag).bind λ_ ai=>Res.ok (AV.obj σ.n) ai from rfl)) aA λb ay aB v aL H3 X3 X' _ e' b_=>?_)
 refine wh (wh (wh ?_))
 refine PQ.fin H3 X' e' b_ ?_
 have:=VR.obj (c:=c) (μ:=aB) (n:=ay.n) (h:=aL.heap) (i:=σ.n) (w7 ho X3.le)
 rw[X3.eq σ.n ho,hm] at this
 exact this
end
set_option genCtorIdx false in
inductive XL where
 |one (x:Expr)
 |many (xs:List Expr)
structure En where
 sc:Scope
 cells:List Str
 fn:Bool
structure Ck where
 K:Frag
 ns:List Nat
 pK:List (Nat×Nat)
def Cu: List (Str×NameKind)->List Nat->Option NameKind
 |[],_=>none
 |p::l,x=>ak (cu x p.1.cps.toList) (some p.2) (Cu l x)
def lF: List Str->List Nat->Bool
 |[],_=>false
 |a::l,x=>ak (cu x a.cps.toList) true (lF l x)
def dig(x:Nat):List Nat:=uQ x x
def eu(x:Nat)(s:Str):Bool:=cu (dig x) s.cps.toList
def kindB(n:En)(x:Nat)(f:NameKind->Bool):Bool:=match Cu n.sc.names (dig x) with
 |some k=>f k
 |none=>false
def kZ(n:En)(x:Nat):Bool:=lF n.cells (dig x)
noncomputable def jd: NameKind->Bool | .local=>true | _=>false
noncomputable def j5: NameKind->Bool | .cell=>true | _=>false
noncomputable def Hz: NameKind->Bool | .free=>true | _=>false
noncomputable def Qj: NameKind->Bool | .globalImplicit=>true | _=>false
def Qz(x:Nat):Bool:=!(nm x==("__classdict__":Str))
def M8(n:En)(x:Nat):Bool:=d8 x&&(Qz x&&kindB n x λk=>ak (jd k) (!kZ n x) (ak (j5 k||Hz k) (kZ n x) false))
def Bd(n:En)(x:Nat):Bool:=kindB n x λk=>ak (jd k) (!kZ n x) (ak (j5 k) (kZ n x&&n.fn) false)
def B4(f:α->β->Bool)(l:List α):List β->Bool:=List.rec (motive:=λ_=>List β->Bool) (λm=>zf m true λ_ _=>false) (λa _ ih m=>zf m false λb m=>f a b&&ih m) l
structure VH where
 none:Bool:=false
 bool:Bool->Bool:=λ_=>false
 int:Int->Bool:=λ_=>false
 str:Str->Bool:=λ_=>false
 ref:Addr->Bool:=λ_=>false
noncomputable def ug(w:Value)(H:VH):Bool:=match w with
 |.none=>H.none
 |.bool b=>H.bool b
 |.int i _=>H.int i
 |.str s _=>H.str s
 |.ref a=>H.ref a
 |_=>false
noncomputable def GC(d:Data)(f:List Value->Bool):Bool:=match d with
 |.seq arr _=>f arr.toList
 |_=>false
def QN(K:Frag)(T:Addr)(f:Obj->List Value->Bool):Bool:=opt (K.lookup T) false λo=>GC o.data (f o)
def gB(K:Frag)(f:Nat):AV->Value->Bool:=Nat.rec (motive:=λ_=>AV->Value->Bool) (λ_ _=>false) (λ_ ih v w=>AV.rec (motive_1:=λ_=>Bool) (motive_2:=λ_=>PUnit) (ug w { none:=true }) (λa=>ug w { bool:=λb=>a==b })
  (λq i=>ug w { int:=λj=>Nat.beq q 0&&fZ i j }) (λq s=>ug w { str:=λt=>Nat.beq q 0&&cu s t.cps.toList }) (λl _=>ug w { ref:=λT=>QN K T λo m=>o.cls==.type "tuple"&&B4 ih l m }) (λ_=>false) (λ_ _=>false)
  (λu=>QP u false λa=>ug w { ref:=λb=>Nat.beq a b }) (λ_=>false) false ⟨⟩ (λ_ _ _ _=>⟨⟩) v) f
noncomputable def Yo(pK:List (Nat×Nat))(x:Nat)(v:AV):Bool:=match v with
 |.bi k=>pK.any λp=>Nat.beq p.1 x&&Nat.beq p.2 k
 |_=>false
def K5(W:Ck)(n:En)(x:Nat)(v:AV)(id:Str):Bool:=d8 x&&(kindB n x Qj&&(match nsIn W.K mainGlobals id with
 |some (some w)=>gB W.K 8 v w
 |some none=>Yo W.pK x v
 |none=>false))
structure EH where
 cst:Const->Bool:=λ_=>false
 name:Str->Pos->Bool:=λ_ _=>false
 attr:Expr->Str->Pos->Bool:=λ_ _ _=>false
 sub:Expr->Expr->Bool:=λ_ _=>false
 fx:Option Expr->Option Expr->Option Expr->Bool:=λ_ _ _=>false
 bin:Expr->Operator->Expr->Bool:=λ_ _ _=>false
 un:UnaryOp->Expr->Bool:=λ_ _=>false
 cmp:Expr->List CmpOp->List Expr->Bool:=λ_ _ _=>false
 gQ:BoolOp->List Expr->Bool:=λ_ _=>false
 ite:Expr->Expr->Expr->Bool:=λ_ _ _=>false
 tup:List Expr->Bool:=λ_=>false
 lst:List Expr->Bool:=λ_=>false
 iQ:List (Option Expr)->List Expr->Bool:=λ_ _=>false
 call:Expr->List Expr->List Keyword->Pos->Bool:=λ_ _ _ _=>false
 comp:Expr->List Comprehension->Scope->Bool:=λ_ _ _=>false
noncomputable def gq(x:Expr)(H:EH):Bool:=match x with
 |.Constant c _ _=>H.cst c
 |.Name s p=>H.name s p
 |.Attribute y s p=>H.attr y s p
 |.Subscript y z _=>H.sub y z
 |.Slice a b c _=>H.fx a b c
 |.BinOp a o b _=>H.bin a o b
 |.UnaryOp o a _=>H.un o a
 |.Compare a o b _=>H.cmp a o b
 |.BoolOp o l _=>H.gQ o l
 |.IfExp a b c _=>H.ite a b c
 |.Tuple l _ _=>H.tup l
 |.List l _=>H.lst l
 |.Dict k v _=>H.iQ k v
 |.Call g l w p=>H.call g l w p
 |.ListComp e g s _=>H.comp e g s
 |_=>false
def l1(l:List α)(f:α->Bool):Bool:=zf l false λa t=>zf t (f a) λ_ _=>false
def l2(l:List α)(f:α->α->Bool):Bool:=zf l false λa t=>l1 t (f a)
def zu(xl:XL)(f:Expr->Bool):Bool:=XL.rec (motive:=λ_=>Bool) f (λ_=>false) xl
def PI(xl:XL):Bool:=XL.rec (motive:=λ_=>Bool) (λ_=>false) (λl=>l.isEmpty) xl
def Jt(xl:XL)(f:Expr->List Expr->Bool):Bool:=XL.rec (motive:=λ_=>Bool) (λ_=>false) (λl=>zf l false f) xl
def uC(x:Expr)(f:Const->Bool):Bool:=gq x { cst:=f }
def Qa(x:Expr)(f:Str->Pos->Bool):Bool:=gq x { name:=f }
def ju(x:Expr)(f:Str->Bool):Bool:=gq x { name:=λs _=>f s }
def uR(x:Expr)(f:Expr->Str->Pos->Bool):Bool:=gq x { attr:=f }
def lE(x:Expr)(f:Expr->Expr->Bool):Bool:=gq x { sub:=f }
def J_(x:Expr)(f:Option Expr->Option Expr->Option Expr->Bool):Bool:=gq x { fx:=f }
def AO(x:Expr)(f:Expr->Operator->Expr->Bool):Bool:=gq x { bin:=f }
def C8(x:Expr)(f:UnaryOp->Expr->Bool):Bool:=gq x { un:=f }
def Qu(x:Expr)(f:Expr->CmpOp->Expr->Bool):Bool:=gq x { cmp:=λa os bs=>l1 os λo=>l1 bs λb=>f a o b }
def QE(x:Expr)(f:Expr->CmpOp->Expr->CmpOp->Expr->Bool):Bool:=gq x { cmp:=λa os bs=>l2 os λo o'=>l2 bs λb d=>f a o b o' d }
def J'(x:Expr)(f:BoolOp->List Expr->Bool):Bool:=gq x { gQ:=f }
def ON(x:Expr)(f:Expr->Expr->Expr->Bool):Bool:=gq x { ite:=f }
def Cr(x:Expr)(f:List Expr->Bool):Bool:=gq x { tup:=f }
def AR(x:Expr)(f:List Expr->Bool):Bool:=gq x { lst:=f }
def Q4(x:Expr):Bool:=gq x { iQ:=λk v=>k.isEmpty&&v.isEmpty }
def uq(x:Expr)(f:List Expr->Bool):Bool:=gq x { iQ:=λk v=>opt (s_ k v) false f }
def Cy(x:Expr)(f:Expr->List Expr->Pos->Bool):Bool:=gq x { call:=λg l w p=>w.isEmpty&&f g l p }
def K1(x:Expr)(f:Expr->Expr->Expr->List Expr->Scope->Bool):Bool:=gq x { comp:=λe g s=>l1 g λg=>fZ g.is_async 0&&f e g.target g.iter g.ifs s }
def isName(x:Expr):Bool:=ju x λ_=>true
noncomputable def O_(x:Expr):Bool:=match x with | .Starred _ _=>false | _=>true
noncomputable def Hw(x:Expr):Bool:=match x with | .Set _ _ _=>false | _=>true
noncomputable def Jn(x:Expr):Bool:=match x with | .ListComp _ _ _ _ | .SetComp _ _ _ _ | .DictComp _ _ _ _ _=>false | _=>true
noncomputable def nK(e:ME):Nat:=match e with | .no=>1 | .nil=>2 | .cT=>3 | _=>0
def qG(e:ME):Bool:=Nat.beq (nK e) 1
def WD(e:ME):Bool:=Nat.beq (nK e) 2
def Ju(e:ME):Bool:=Nat.beq (nK e) 3
def Mp(o:Nat)(p:Operator):Bool:=match qS o with | some q=>decide (q=p) | none=>false
def mZ(o:Nat)(p:CmpOp):Bool:=match iP o with | some q=>decide (q=p) | none=>false
noncomputable def bB(l:List Nat)(x:Nat):Bool:=l.any λy=>Nat.beq y x
noncomputable def Hv: List Nat->Bool
 |[]=>true
 |x::l=>!bB l x&&Hv l
def Ce(n:En):List Nat->List Expr->Bool
 |[],[]=>true
 |x::xs,e::es=>(ju e λs=>eu x s&&Bd n x)&&Ce n xs es
 |_,_=>false
noncomputable def Gh(sc outer:Scope):Scope:={ sc with names:=sc.names.map λp=>if (p.2==.free&&outer.kind==.function&&outer.names.lookup p.1==some .cell) then (p.1,.cell) else (p.1,p.2) }
noncomputable def HE(names:List (Str×NameKind)):List Str:=names.foldl (λcs p=>if (p.2==.free)=true then p.1::cs else cs) []
def B6(n:En)(sc:Scope):En:=⟨Gh sc n.sc,HE sc.names,false⟩
def JX: List Str->Bool
 |[]=>true
 |a::l=>!lF l a.cps.toList&&JX l
def QD(n:En)(sc:Scope)(fv:List Nat):Bool:=decide (sc.kind = .function)&&(sc.names.all (λp=>!j5 p.2)&&(JX (sc.names.map (·.1))
 &&(sc.names.all (λp=>ak (Hz p.2) (lF n.cells p.1.cps.toList) true)&&fv.all λx=>lF (HE sc.names) (dig x))))
def bg(W:Ck)(q:Bool):ME->En->XL->Bool
 |.cN,n,xl=>zu xl λx=>uC x λc=>match c with | .none=>true | _=>false
 |.cT,n,xl=>zu xl λx=>uC x λc=>match c with | .bool b=>b | _=>false
 |.cF,n,xl=>zu xl λx=>uC x λc=>match c with | .bool b=>!b | _=>false
 |.cI i,n,xl=>zu xl λx=>uC x λc=>match c with | .int j=>fZ i j | _=>false
 |.cS s,n,xl=>zu xl λx=>uC x λc=>match c with | .str t=>cu s t.cps.toList | _=>false
 |.loc x,n,xl=>zu xl λy=>ju y λs=>eu x s&&M8 n x
 |.glob x v,n,xl=>zu xl λy=>ju y λs=>eu x s&&K5 W n x v s
 |.attr e a,n,xl=>zu xl λx=>uR x λy s _=>eu a s&&(bB W.ns a&&(Cd y&&bg W q e n (.one y)))
 |.idx e i,n,xl=>zu xl λx=>lE x λy z=>Pq z&&(bg W q e n (.one y)&&bg W q i n (.one z))
 |.no,_,_=>false
 |.fx e lo hi,n,xl=>zu xl λx=>lE x λy z=>J_ z λa b c=>(match c with | none=>true | _=>false)&&(bg W q e n (.one y)
   &&((match a with | none=>qG lo | some a=>bg W q lo n (.one a))&&(match b with | none=>qG hi | some b=>bg W q hi n (.one b))))
 |.rev e,n,xl=>zu xl λx=>lE x λy z=>J_ z λa b c=>(match a,b,c with | none,none,some st=>C8 st λo d=>decide (o = .USub)&&(uC d λc=>match c with | .int j=>fZ 1 j | _=>false) | _,_,_=>false)&&bg W q e n (.one y)
 |.bin o a b,n,xl=>zu xl λx=>AO x λy p z=>Mp o p&&(bg W q a n (.one y)&&bg W q b n (.one z))
 |.neg a,n,xl=>zu xl λx=>C8 x λo y=>decide (o = .USub)&&bg W q a n (.one y)
 |.not a,n,xl=>zu xl λx=>C8 x λo y=>decide (o = .Not)&&bg W q a n (.one y)
 |.cmp a o b,n,xl=>zu xl λx=>Qu x λy p z=>mZ o p&&(!behindInMarks p z&&(bg W q a n (.one y)&&bg W q b n (.one z)))
 |.ig a o b o' d,n,xl=>zu xl λx=>QE x λy p z p' w=>mZ o p&&(mZ o' p'&&(!behindInMarks p' w&&(bg W q a n (.one y)&&(bg W q b n (.one z)&&bg W q d n (.one w)))))
 |.and es,n,xl=>zu xl λx=>J' x λo l=>(match o with | .And=>true | .Or=>false)&&(!l.isEmpty&&bg W q es n (.many l))
 |.or es,n,xl=>zu xl λx=>J' x λo l=>(match o with | .And=>false | .Or=>true)&&(!l.isEmpty&&bg W q es n (.many l))
 |.ite t a b,n,xl=>zu xl λx=>ON x λy z w=>bg W q t n (.one y)&&(bg W q a n (.one z)&&bg W q b n (.one w))
 |.tup es,n,xl=>zu xl λx=>Cr x λl=>Nat.ble l.length 1000&&bg W q es n (.many l)
 |.lst es,n,xl=>zu xl λx=>AR x λl=>Nat.ble l.length 1000&&bg W q es n (.many l)
 |.iQ es,n,xl=>zu xl λx=>ak (Q4 x) (WD es) (uq x λl=>!l.isEmpty&&(Nat.ble l.length 30&&bg W q es n (.many l)))
 |.call f es,n,xl=>zu xl λx=>Cy x λg l _=>isName g&&(bg W q f n (.one g)&&bg W q es n (.many l))
 |.af o m es,n,xl=>zu xl λx=>Cy x λg l p=>uR g λy s ap=>eu m s&&(Cd y&&(Nat.blt l.length 29&&((ap.endLine==p.line)&&(bg W q o n (.one y)&&bg W q es n (.many l)))))
 |.comp elt x fv it cond,n,xl=>zu xl λy=>K1 y λe t ie ifs sc=>!q&&(QD n sc fv&&(!bB fv x&&((ju t λs=>eu x s&&Bd (B6 n sc) x)&&(Hw ie&&(bg W q it n (.one ie)&&(bg W q elt (B6 n sc) (.one e)
   &&(match ifs with | []=>Ju cond | [i]=>bg W q cond (B6 n sc) (.one i) | _=>false)))))))
 |.fY elt xs fv it cond,n,xl=>zu xl λy=>K1 y λe t ie ifs sc=>!q&&(QD n sc fv&&(xs.all (λx=>!bB fv x)&&((Cr t λl=>Ce (B6 n sc) xs l)&&(Hw ie&&(bg W q it n (.one ie)&&(bg W q elt (B6 n sc) (.one e)
   &&(match ifs with | []=>Ju cond | [i]=>bg W q cond (B6 n sc) (.one i) | _=>false)))))))
 |.nil,n,xl=>PI xl
 |.cons a b,n,xl=>Jt xl λx l=>O_ x&&(bg W q a n (.one x)&&bg W q b n (.many l))
theorem mU{a b:Bool}(h:(a&&b)=true):a=true/\b=true:=by rwa [Bool.and_eq_true] at h
theorem uK{l:List Nat}{s:Str}(h:cu l s.cps.toList=true):S l=s:=by
 have:=(yd _ _).mp h
 rw[this]
theorem zv{x:Nat}{s:Str}(h:eu x s=true):nm x=s:=uK h
theorem Pu(l:List (Str×NameKind))(x:Nat):Cu l (dig x)=l.lookup (nm x):=by
 induction l with
 |nil=>rfl
 |cons p l ih=>
  obtain⟨a,k⟩:=p
  rw[List.lookup_cons]
  show ak (cu (dig x) a.cps.toList) (some k) (Cu l (dig x))=_
  induction h:cu (dig x) a.cps.toList with
  |true=>
   have:nm x=a:=uK h
   rw[this,show(a==a)=true from by simp];rfl
  |false=>
   have:(nm x==a)=false:=by
    induction q:nm x==a with
    |false=>rfl
    |true=>
     have e:=eq_of_beq q
     have:cu (dig x) a.cps.toList=true:=by
      rw[yd,<-e];simp[nm,S,dig]
     rw[this] at h;exact TF h
   rw[this];exact ih
theorem JN{l:List Str}{x:List Nat}(h:lF l x=true):S x∈l:=by
 induction l with
 |nil=>exact FT h
 |cons a l ih=>
  replace h:ak (cu x a.cps.toList) true (lF l x)=true:=h
  induction q:cu x a.cps.toList with
  |true=>rw[uK q];exact .head _
  |false=>rw[q] at h;exact .tail _ (ih h)
theorem JG{l:List Str}{x:List Nat}(h:lF l x=false):S x∉l:=by
 induction l with
 |nil=>exact λh=>nomatch h
 |cons a l ih=>
  replace h:ak (cu x a.cps.toList) true (lF l x)=false:=h
  induction q:cu x a.cps.toList with
  |true=>rw[q] at h;exact TF h
  |false=>
   rw[q] at h
   intro hm
   rcases w8.mp hm with e | hm
   ·have:cu x a.cps.toList=true:=by rw[yd,<-e]
    rw[this] at q;exact TF q
   ·exact ih h hm
theorem VW{l:List Nat}{x:Nat}(h:bB l x=true):x∈l:=by
 unfold bB at h
 refine au (List.any_eq_true.mp h) λy hy e=>?_
 rw[<-Nat.eq_of_beq_eq_true e];exact hy
theorem Jp{l:List Nat}{x:Nat}(h:bB l x=false):x∉l:=λhm=>by
 have:bB l x=true:=by unfold bB;exact List.any_eq_true.mpr ⟨x,hm,Nat.beq_refl x⟩
 rw[this] at h;exact TF h
theorem Jq{x:Nat}(h:d8 x=true):(nm x==("__debug__":Str))=false:=by
 unfold d8 at h
 induction q:nm x==("__debug__":Str) with
 |false=>rfl
 |true=>rw[q] at h;exact FT h
theorem zkr{x:Nat}(h:Qz x=true):(nm x==("__classdict__":Str))=false:=by
 unfold Qz at h
 induction q:nm x==("__classdict__":Str) with
 |false=>rfl
 |true=>rw[q] at h;exact FT h
theorem HI{i j:Int}(h:fZ i j=true):i=j:=by
 induction i with
 |ofNat m=>induction j with
  |ofNat n=>rw[Nat.eq_of_beq_eq_true (show Nat.beq m n=true from h)]
  |negSucc n=>exact w1 (show false=true from h) Bool.false_ne_true
 |negSucc m=>induction j with
  |ofNat n=>exact w1 (show false=true from h) Bool.false_ne_true
  |negSucc n=>rw[Nat.eq_of_beq_eq_true (show Nat.beq m n=true from h)]
theorem jk{l:List α}(h:l.isEmpty=true):l=[]:=by induction l using lC with | nil=>rfl | cons _ _=>exact FT h
theorem Bl{l:List α}{f:α->Bool}(h:l1 l f=true):∃a,l=[a]/\f a=true:=match l,h with
 |[a],h=>⟨a,rfl,h⟩
 |[],h=>FT h
 |_::_::_,h=>FT h
theorem Km{l:List α}{f:α->α->Bool}(h:l2 l f=true):∃a b,l=[a,b]/\f a b=true:=by
 induction l using lC with
 |nil=>exact FT h
 |cons a l=>refine au (Bl h) ?_;rintro b rfl h;exact uY a b rfl h
theorem zcv{xl:XL}(h:PI xl=true):xl = .many []:=by
 cases xl with
 |one x=>exact FT h
 |many l=>rw[jk h]
theorem Vv{xl:XL}{f:Expr->List Expr->Bool}(h:Jt xl f=true):∃x xs,xl = .many (x::xs)/\f x xs=true:=by
 cases xl with
 |one x=>exact FT h
 |many l=>induction l using lC with
  |nil=>exact FT h
  |cons x xs=>exact uY x xs rfl h
theorem gZ{P:Expr->Prop}{x:Expr}{H:EH}(h:gq x H=true)(cst:∀c k p,H.cst c=true->P (.Constant c k p))(name:∀s p,H.name s p=true->P (.Name s p))(attr:∀y s p,H.attr y s p=true->P (.Attribute y s p))(sub:∀y z p,H.sub y z=true->P (.Subscript y z p))(fx:∀a b c p,H.fx a b c=true->P (.Slice a b c p))(bin:∀a o b p,H.bin a o b=true->P (.BinOp a o b p))(un:∀o a p,H.un o a=true->P (.UnaryOp o a p))(cmp:∀a o b p,H.cmp a o b=true->P (.Compare a o b p))(gQ:∀o l p,H.gQ o l=true->P (.BoolOp o l p))(ite:∀a b c p,H.ite a b c=true->P (.IfExp a b c p))(tup:∀l k p,H.tup l=true->P (.Tuple l k p))(lst:∀l p,H.lst l=true->P (.List l p))(iQ:∀k v p,H.iQ k v=true->P (.Dict k v p))(call:∀g l w p,H.call g l w p=true->P (.Call g l w p))(comp:∀e g s p,H.comp e g s=true->P (.ListComp e g s p)):P x:=by
 revert h
 induction x using Expr.casesOn with
 |Constant c k p=>exact cst c k p
 |Name s p=>exact name s p
 |Attribute y s p=>exact attr y s p
 |Subscript y z p=>exact sub y z p
 |Slice a b c p=>exact fx a b c p
 |BinOp a o b p=>exact bin a o b p
 |UnaryOp o a p=>exact un o a p
 |Compare a o b p=>exact cmp a o b p
 |BoolOp o l p=>exact gQ o l p
 |IfExp a b c p=>exact ite a b c p
 |Tuple l k p=>exact tup l k p
 |List l p=>exact lst l p
 |Dict k v p=>exact iQ k v p
 |Call g l w p=>exact call g l w p
 |ListComp e g s p=>exact comp e g s p
 |_=>exact λh=>FT h
theorem xw{x:Expr}{f:Const->Bool}(h:uC x f=true):∃c k p,x = .Constant c k p/\f c=true:=gZ (P:=λx=>∃c k p,x = .Constant c k p/\f c=true) h (λc k p h=>⟨c,k,p,rfl,h⟩) (λ_ _ h=>FT h) (λ_ _ _ h=>FT h) (λ_ _ _ h=>FT h) (λ_ _ _ _ h=>FT h) (λ_ _ _ _ h=>FT h) (λ_ _ _ h=>FT h) (λ_ _ _ _ h=>FT h) (λ_ _ _ h=>FT h) (λ_ _ _ _ h=>FT h) (λ_ _ _ h=>FT h) (λ_ _ h=>FT h) (λ_ _ _ h=>FT h) (λ_ _ _ _ h=>FT h) (λ_ _ _ _ h=>FT h)
theorem Vj{x:Expr}{f:Str->Pos->Bool}(h:Qa x f=true):∃s p,x = .Name s p/\f s p=true:=gZ (P:=λx=>∃s p,x = .Name s p/\f s p=true) h (λ_ _ _ h=>FT h) (λs p h=>⟨s,p,rfl,h⟩) (λ_ _ _ h=>FT h) (λ_ _ _ h=>FT h) (λ_ _ _ _ h=>FT h) (λ_ _ _ _ h=>FT h) (λ_ _ _ h=>FT h) (λ_ _ _ _ h=>FT h) (λ_ _ _ h=>FT h) (λ_ _ _ _ h=>FT h) (λ_ _ _ h=>FT h) (λ_ _ h=>FT h) (λ_ _ _ h=>FT h) (λ_ _ _ _ h=>FT h) (λ_ _ _ _ h=>FT h)
theorem yh{x:Expr}{f:Str->Bool}(h:ju x f=true):∃s p,x = .Name s p/\f s=true:=Vj (f:=λs _=>f s) h
theorem z29{x:Expr}{f:Expr->Str->Pos->Bool}(h:uR x f=true):∃y s p,x = .Attribute y s p/\f y s p=true:=gZ (P:=λx=>∃y s p,x = .Attribute y s p/\f y s p=true) h (λ_ _ _ h=>FT h) (λ_ _ h=>FT h) (λy s p h=>⟨y,s,p,rfl,h⟩) (λ_ _ _ h=>FT h) (λ_ _ _ _ h=>FT h) (λ_ _ _ _ h=>FT h) (λ_ _ _ h=>FT h) (λ_ _ _ _ h=>FT h) (λ_ _ _ h=>FT h) (λ_ _ _ _ h=>FT h) (λ_ _ _ h=>FT h) (λ_ _ h=>FT h) (λ_ _ _ h=>FT h) (λ_ _ _ _ h=>FT h) (λ_ _ _ _ h=>FT h)
theorem z38{x:Expr}{f:Expr->Expr->Bool}(h:lE x f=true):∃y z p,x = .Subscript y z p/\f y z=true:=gZ (P:=λx=>∃y z p,x = .Subscript y z p/\f y z=true) h (λ_ _ _ h=>FT h) (λ_ _ h=>FT h) (λ_ _ _ h=>FT h) (λy z p h=>⟨y,z,p,rfl,h⟩) (λ_ _ _ _ h=>FT h) (λ_ _ _ _ h=>FT h) (λ_ _ _ h=>FT h) (λ_ _ _ _ h=>FT h) (λ_ _ _ h=>FT h) (λ_ _ _ _ h=>FT h) (λ_ _ _ h=>FT h) (λ_ _ h=>FT h) (λ_ _ _ h=>FT h) (λ_ _ _ _ h=>FT h) (λ_ _ _ _ h=>FT h)
theorem zb5{x:Expr}{f:Option Expr->Option Expr->Option Expr->Bool}(h:J_ x f=true):∃a b c p,x = .Slice a b c p/\f a b c=true:=gZ (P:=λx=>∃a b c p,x = .Slice a b c p/\f a b c=true) h (λ_ _ _ h=>FT h) (λ_ _ h=>FT h) (λ_ _ _ h=>FT h) (λ_ _ _ h=>FT h) (λa b c p h=>⟨a,b,c,p,rfl,h⟩) (λ_ _ _ _ h=>FT h) (λ_ _ _ h=>FT h) (λ_ _ _ _ h=>FT h) (λ_ _ _ h=>FT h) (λ_ _ _ _ h=>FT h) (λ_ _ _ h=>FT h) (λ_ _ h=>FT h) (λ_ _ _ h=>FT h) (λ_ _ _ _ h=>FT h) (λ_ _ _ _ h=>FT h)
theorem z7b{x:Expr}{f:Expr->Operator->Expr->Bool}(h:AO x f=true):∃a o b p,x = .BinOp a o b p/\f a o b=true:=gZ (P:=λx=>∃a o b p,x = .BinOp a o b p/\f a o b=true) h (λ_ _ _ h=>FT h) (λ_ _ h=>FT h) (λ_ _ _ h=>FT h) (λ_ _ _ h=>FT h) (λ_ _ _ _ h=>FT h) (λa o b p h=>⟨a,o,b,p,rfl,h⟩) (λ_ _ _ h=>FT h) (λ_ _ _ _ h=>FT h) (λ_ _ _ h=>FT h) (λ_ _ _ _ h=>FT h) (λ_ _ _ h=>FT h) (λ_ _ h=>FT h) (λ_ _ _ h=>FT h) (λ_ _ _ _ h=>FT h) (λ_ _ _ _ h=>FT h)
theorem AW{x:Expr}{f:UnaryOp->Expr->Bool}(h:C8 x f=true):∃o a p,x = .UnaryOp o a p/\f o a=true:=gZ (P:=λx=>∃o a p,x = .UnaryOp o a p/\f o a=true) h (λ_ _ _ h=>FT h) (λ_ _ h=>FT h) (λ_ _ _ h=>FT h) (λ_ _ _ h=>FT h) (λ_ _ _ _ h=>FT h) (λ_ _ _ _ h=>FT h) (λo a p h=>⟨o,a,p,rfl,h⟩) (λ_ _ _ _ h=>FT h) (λ_ _ _ h=>FT h) (λ_ _ _ _ h=>FT h) (λ_ _ _ h=>FT h) (λ_ _ h=>FT h) (λ_ _ _ h=>FT h) (λ_ _ _ _ h=>FT h) (λ_ _ _ _ h=>FT h)
theorem zdd{x:Expr}{f:Expr->CmpOp->Expr->Bool}(h:Qu x f=true):∃a o b p,x = .Compare a [o] [b] p/\f a o b=true:=gZ (P:=λx=>∃a o b p,x = .Compare a [o] [b] p/\f a o b=true) h (λ_ _ _ h=>FT h) (λ_ _ h=>FT h) (λ_ _ _ h=>FT h) (λ_ _ _ h=>FT h) (λ_ _ _ _ h=>FT h) (λ_ _ _ _ h=>FT h) (λ_ _ _ h=>FT h) (λa o b p h=>by refine au (Bl h) ?_;rintro o rfl h;refine au (Bl h) ?_;rintro b rfl h;exact⟨a,o,b,p,rfl,h⟩) (λ_ _ _ h=>FT h) (λ_ _ _ _ h=>FT h) (λ_ _ _ h=>FT h) (λ_ _ h=>FT h) (λ_ _ _ h=>FT h) (λ_ _ _ _ h=>FT h) (λ_ _ _ _ h=>FT h)
theorem zjx{x:Expr}{f:Expr->CmpOp->Expr->CmpOp->Expr->Bool}(h:QE x f=true):∃a o b o' d p,x = .Compare a [o,o'] [b,d] p/\f a o b o' d=true:=gZ (P:=λx=>∃a o b o' d p,x = .Compare a [o,o'] [b,d] p/\f a o b o' d=true) h (λ_ _ _ h=>FT h) (λ_ _ h=>FT h) (λ_ _ _ h=>FT h) (λ_ _ _ h=>FT h) (λ_ _ _ _ h=>FT h) (λ_ _ _ _ h=>FT h) (λ_ _ _ h=>FT h) (λa o b p h=>by refine bw (Km h) ?_;rintro o o' rfl h;refine bw (Km h) ?_;rintro b d rfl h;exact⟨a,o,b,o',d,p,rfl,h⟩) (λ_ _ _ h=>FT h) (λ_ _ _ _ h=>FT h) (λ_ _ _ h=>FT h) (λ_ _ h=>FT h) (λ_ _ _ h=>FT h) (λ_ _ _ _ h=>FT h) (λ_ _ _ _ h=>FT h)
theorem zao{x:Expr}{f:BoolOp->List Expr->Bool}(h:J' x f=true):∃o l p,x = .BoolOp o l p/\f o l=true:=gZ (P:=λx=>∃o l p,x = .BoolOp o l p/\f o l=true) h (λ_ _ _ h=>FT h) (λ_ _ h=>FT h) (λ_ _ _ h=>FT h) (λ_ _ _ h=>FT h) (λ_ _ _ _ h=>FT h) (λ_ _ _ _ h=>FT h) (λ_ _ _ h=>FT h) (λ_ _ _ _ h=>FT h) (λo l p h=>⟨o,l,p,rfl,h⟩) (λ_ _ _ _ h=>FT h) (λ_ _ _ h=>FT h) (λ_ _ h=>FT h) (λ_ _ _ h=>FT h) (λ_ _ _ _ h=>FT h) (λ_ _ _ _ h=>FT h)
theorem AQ{x:Expr}{f:Expr->Expr->Expr->Bool}(h:ON x f=true):∃a b d p,x = .IfExp a b d p/\f a b d=true:=gZ (P:=λx=>∃a b d p,x = .IfExp a b d p/\f a b d=true) h (λ_ _ _ h=>FT h) (λ_ _ h=>FT h) (λ_ _ _ h=>FT h) (λ_ _ _ h=>FT h) (λ_ _ _ _ h=>FT h) (λ_ _ _ _ h=>FT h) (λ_ _ _ h=>FT h) (λ_ _ _ _ h=>FT h) (λ_ _ _ h=>FT h) (λa b d p h=>⟨a,b,d,p,rfl,h⟩) (λ_ _ _ h=>FT h) (λ_ _ h=>FT h) (λ_ _ _ h=>FT h) (λ_ _ _ _ h=>FT h) (λ_ _ _ _ h=>FT h)
theorem Vp{x:Expr}{f:List Expr->Bool}(h:Cr x f=true):∃l k p,x = .Tuple l k p/\f l=true:=gZ (P:=λx=>∃l k p,x = .Tuple l k p/\f l=true) h (λ_ _ _ h=>FT h) (λ_ _ h=>FT h) (λ_ _ _ h=>FT h) (λ_ _ _ h=>FT h) (λ_ _ _ _ h=>FT h) (λ_ _ _ _ h=>FT h) (λ_ _ _ h=>FT h) (λ_ _ _ _ h=>FT h) (λ_ _ _ h=>FT h) (λ_ _ _ _ h=>FT h) (λl k p h=>⟨l,k,p,rfl,h⟩) (λ_ _ h=>FT h) (λ_ _ _ h=>FT h) (λ_ _ _ _ h=>FT h) (λ_ _ _ _ h=>FT h)
theorem zm0{x:Expr}{f:List Expr->Bool}(h:AR x f=true):∃l p,x = .List l p/\f l=true:=gZ (P:=λx=>∃l p,x = .List l p/\f l=true) h (λ_ _ _ h=>FT h) (λ_ _ h=>FT h) (λ_ _ _ h=>FT h) (λ_ _ _ h=>FT h) (λ_ _ _ _ h=>FT h) (λ_ _ _ _ h=>FT h) (λ_ _ _ h=>FT h) (λ_ _ _ _ h=>FT h) (λ_ _ _ h=>FT h) (λ_ _ _ _ h=>FT h) (λ_ _ _ h=>FT h) (λl p h=>⟨l,p,rfl,h⟩) (λ_ _ _ h=>FT h) (λ_ _ _ _ h=>FT h) (λ_ _ _ _ h=>FT h)
theorem zl0{x:Expr}{f:List Expr->Bool}(h:uq x f=true):∃ks vs p l,x = .Dict ks vs p/\s_ ks vs=some l/\f l=true:=gZ (P:=λx=>∃ks vs p l,x = .Dict ks vs p/\s_ ks vs=some l/\f l=true) h (λ_ _ _ h=>FT h) (λ_ _ h=>FT h) (λ_ _ _ h=>FT h) (λ_ _ _ h=>FT h) (λ_ _ _ _ h=>FT h) (λ_ _ _ _ h=>FT h) (λ_ _ _ h=>FT h) (λ_ _ _ _ h=>FT h) (λ_ _ _ h=>FT h) (λ_ _ _ _ h=>FT h) (λ_ _ _ h=>FT h) (λ_ _ h=>FT h) (λk v p h=>fC (λz=>TF z) h λl e h=>⟨k,v,p,l,rfl,e,h⟩) (λ_ _ _ _ h=>FT h) (λ_ _ _ _ h=>FT h)
theorem zjl{x:Expr}(h:Q4 x=true):∃p,x = .Dict [] [] p:=gZ (P:=λx=>∃p,x = .Dict [] [] p) h (λ_ _ _ h=>FT h) (λ_ _ h=>FT h) (λ_ _ _ h=>FT h) (λ_ _ _ h=>FT h) (λ_ _ _ _ h=>FT h) (λ_ _ _ _ h=>FT h) (λ_ _ _ h=>FT h) (λ_ _ _ _ h=>FT h) (λ_ _ _ h=>FT h) (λ_ _ _ _ h=>FT h) (λ_ _ _ h=>FT h) (λ_ _ h=>FT h) (λk v p h=>n2 h λh1 h2=>by rw[jk h1,jk h2];exact⟨p,rfl⟩) (λ_ _ _ _ h=>FT h) (λ_ _ _ _ h=>FT h)
theorem j8{x:Expr}{f:Expr->List Expr->Pos->Bool}(h:Cy x f=true):∃g l p,x = .Call g l [] p/\f g l p=true:=gZ (P:=λx=>∃g l p,x = .Call g l [] p/\f g l p=true) h (λ_ _ _ h=>FT h) (λ_ _ h=>FT h) (λ_ _ _ h=>FT h) (λ_ _ _ h=>FT h) (λ_ _ _ _ h=>FT h) (λ_ _ _ _ h=>FT h) (λ_ _ _ h=>FT h) (λ_ _ _ _ h=>FT h) (λ_ _ _ h=>FT h) (λ_ _ _ _ h=>FT h) (λ_ _ _ h=>FT h) (λ_ _ h=>FT h) (λ_ _ _ h=>FT h) (λg l w p h=>n2 h λh1 h2=>by rw[jk h1];exact CC g l p rfl h2) (λ_ _ _ _ h=>FT h)
theorem zdx{x:Expr}{f:Expr->Expr->Expr->List Expr->Scope->Bool}(h:K1 x f=true):∃e t it ifs sc p,x = .ListComp e [⟨t,it,ifs,0⟩] sc p/\f e t it ifs sc=true:=gZ (P:=λx=>∃e t it ifs sc p,x = .ListComp e [⟨t,it,ifs,0⟩] sc p/\f e t it ifs sc=true) h (λ_ _ _ h=>FT h) (λ_ _ h=>FT h) (λ_ _ _ h=>FT h) (λ_ _ _ h=>FT h) (λ_ _ _ _ h=>FT h) (λ_ _ _ _ h=>FT h) (λ_ _ _ h=>FT h) (λ_ _ _ _ h=>FT h) (λ_ _ _ h=>FT h) (λ_ _ _ _ h=>FT h) (λ_ _ _ h=>FT h) (λ_ _ h=>FT h) (λ_ _ _ h=>FT h) (λ_ _ _ _ h=>FT h) (λe g s p h=>by refine au (Bl h) ?_;rintro ⟨t,it,ifs,a⟩ rfl h;exact n2 h λh1 h2=>by rw[show a=0 from HI h1];exact⟨e,t,it,ifs,s,p,rfl,h2⟩)
@[elab_as_elim]
theorem Bh{P:Expr->Prop}{x:Expr}{f:Const->Bool}(h:uC x f=true)(kk:∀c k p,f c=true->P (.Constant c k p)):P x:=by
 refine dY (xw h) ?_;rintro c k p rfl h
 exact kk c k p h
@[elab_as_elim]
theorem XS{P:Expr->Prop}{x:Expr}{f:Str->Pos->Bool}(h:Qa x f=true)(kk:∀s p,f s p=true->P (.Name s p)):P x:=by
 refine bw (Vj h) ?_;rintro s p rfl h
 exact kk s p h
@[elab_as_elim]
theorem y5{P:Expr->Prop}{x:Expr}{f:Str->Bool}(h:ju x f=true)(kk:∀s p,f s=true->P (.Name s p)):P x:=by
 refine bw (yh h) ?_;rintro s p rfl h
 exact kk s p h
@[elab_as_elim]
theorem Bj{P:Expr->Prop}{x:Expr}{f:Expr->Str->Pos->Bool}(h:uR x f=true)(kk:∀y s p,f y s p=true->P (.Attribute y s p)):P x:=by
 refine dY (z29 h) ?_;rintro y s p rfl h
 exact kk y s p h
@[elab_as_elim]
theorem HV{P:Expr->Prop}{x:Expr}{f:Expr->Expr->Bool}(h:lE x f=true)(kk:∀y z p,f y z=true->P (.Subscript y z p)):P x:=by
 refine dY (z38 h) ?_;rintro y z p rfl h
 exact kk y z p h
@[elab_as_elim]
theorem XY{P:Expr->Prop}{x:Expr}{f:Option Expr->Option Expr->Option Expr->Bool}(h:J_ x f=true)(kk:∀a b c p,f a b c=true->P (.Slice a b c p)):P x:=by
 refine lO (zb5 h) ?_;rintro a b c p rfl h
 exact kk a b c p h
@[elab_as_elim]
theorem uk{P:Expr->Prop}{x:Expr}{f:Expr->Operator->Expr->Bool}(h:AO x f=true)(kk:∀a o b p,f a o b=true->P (.BinOp a o b p)):P x:=by
 refine lO (z7b h) ?_;rintro a o b p rfl h
 exact kk a o b p h
@[elab_as_elim]
theorem AU{P:Expr->Prop}{x:Expr}{f:UnaryOp->Expr->Bool}(h:C8 x f=true)(kk:∀o a p,f o a=true->P (.UnaryOp o a p)):P x:=by
 refine dY (AW h) ?_;rintro o a p rfl h
 exact kk o a p h
@[elab_as_elim]
theorem Y4{P:Expr->Prop}{x:Expr}{f:Expr->CmpOp->Expr->Bool}(h:Qu x f=true)(kk:∀a o b p,f a o b=true->P (.Compare a [o] [b] p)):P x:=by
 refine lO (zdd h) ?_;rintro a o b p rfl h
 exact kk a o b p h
@[elab_as_elim]
theorem AP{P:Expr->Prop}{x:Expr}{f:Expr->CmpOp->Expr->CmpOp->Expr->Bool}(h:QE x f=true)(kk:∀a o b o' d p,f a o b o' d=true->P (.Compare a [o,o'] [b,d] p)):P x:=by
 refine eQ (zjx h) λa o q9=>?_;refine lO q9 ?_;clear q9;rintro b o' d p rfl h
 exact kk a o b o' d p h
@[elab_as_elim]
theorem Y0{P:Expr->Prop}{x:Expr}{f:BoolOp->List Expr->Bool}(h:J' x f=true)(kk:∀o l p,f o l=true->P (.BoolOp o l p)):P x:=by
 refine dY (zao h) ?_;rintro o l p rfl h
 exact kk o l p h
@[elab_as_elim]
theorem Ha{P:Expr->Prop}{x:Expr}{f:Expr->Expr->Expr->Bool}(h:ON x f=true)(kk:∀a b d p,f a b d=true->P (.IfExp a b d p)):P x:=by
 refine lO (AQ h) ?_;rintro a b d p rfl h
 exact kk a b d p h
@[elab_as_elim]
theorem QJ{P:Expr->Prop}{x:Expr}{f:List Expr->Bool}(h:Cr x f=true)(kk:∀l k p,f l=true->P (.Tuple l k p)):P x:=by
 refine dY (Vp h) ?_;rintro l k p rfl h
 exact kk l k p h
@[elab_as_elim]
theorem Hc{P:Expr->Prop}{x:Expr}{f:List Expr->Bool}(h:AR x f=true)(kk:∀l p,f l=true->P (.List l p)):P x:=by
 refine bw (zm0 h) ?_;rintro l p rfl h
 exact kk l p h
@[elab_as_elim]
theorem uT{P:Expr->Prop}{x:Expr}{f:Expr->List Expr->Pos->Bool}(h:Cy x f=true)(kk:∀g l p,f g l p=true->P (.Call g l [] p)):P x:=by
 refine dY (j8 h) ?_;rintro g l p rfl h
 exact kk g l p h
@[elab_as_elim]
theorem Y3{P:Expr->Prop}{x:Expr}{f:Expr->Expr->Expr->List Expr->Scope->Bool}(h:K1 x f=true)(kk:∀e t it ifs sc p,f e t it ifs sc=true->P (.ListComp e [⟨t,it,ifs,0⟩] sc p)):P x:=by
 refine eQ (zdx h) λe t q9=>?_;refine lO q9 ?_;clear q9;rintro it ifs sc p rfl h
 exact kk e t it ifs sc p h
theorem P8{x:Expr}(h:O_ x=true)(xs:List Expr)(env:Env):starEach (x::xs) env=(false,eval x env)::starEach xs env:=by
 induction x using Expr.casesOn with
 |Starred _ _=>exact FT h
 |_=>rfl
theorem Jr{x:Expr}(h:Hw x=true)(env:Env)(v:Value):foldedSetIterable x env v=pure v:=by
 induction x using Expr.casesOn with
 |Set _ _ _=>exact FT h
 |_=>rfl
def kQ(k:Nat)(e:ME):Prop:=match k with | 1=>e = .no | 2=>e = .nil | 3=>e = .cT | _=>True
theorem zpw(e:ME):kQ (nK e) e:=by
 induction e using ME.casesOn with
 |no=>rfl
 |nil=>rfl
 |cT=>rfl
 |_=>trivial
theorem QQ{e:ME}{k:Nat}(h:Nat.beq (nK e) k=true):kQ k e:=w4 h▸zpw e
theorem zmc{e:ME}(h:qG e=true):e = .no:=QQ (k:=1) h
theorem zi8{e:ME}(h:WD e=true):e = .nil:=QQ (k:=2) h
theorem zgq{e:ME}(h:Ju e=true):e = .cT:=QQ (k:=3) h
theorem xU{o:Nat}{p:Operator}(h:Mp o p=true):qS o=some p:=by
 unfold Mp at h;split at h
 ·rename_i q e;rw[e,of_decide_eq_true h]
 ·exact FT h
theorem PL{o:Nat}{p:CmpOp}(h:mZ o p=true):iP o=some p:=by
 unfold mZ at h;split at h
 ·rename_i q e;rw[e,of_decide_eq_true h]
 ·exact FT h
theorem Bk{P:Value->Prop}{w:Value}{H:VH}(h:ug w H=true)(none:H.none=true->P .none)(bool:∀b,H.bool b=true->P (.bool b))(int:∀i t,H.int i=true->P (.int i t))(str:∀s t,H.str s=true->P (.str s t))(ref:∀a,H.ref a=true->P (.ref a)):P w:=by
 revert h
 induction w using Value.casesOn with
 |none=>exact none
 |bool b=>exact bool b
 |int i t=>exact int i t
 |str s t=>exact str s t
 |ref a=>exact ref a
 |_=>exact λh=>FT h
theorem XN{T:Addr}{f:Obj->List Value->Bool}{P:Prop}(h:QN K T f=true)(k:∀o arr n,K.lookup T=some o->o.data = .seq arr n->f o arr.toList=true->P):P:=
 fC (λz=>TF z) h λo ho h=>by
  induction e:o.data using Data.casesOn with
  |seq arr n=>rw[e] at h;exact k o arr n ho e h
  |_=>rw[e] at h;exact FT h
section
theorem XP{f:AV->Value->Bool}(hf:∀{v w},f v w=true->VR c μ n h v w){l:List AV}:∀{m:List Value},B4 f l m=true->aH c μ n h l m:=by
 induction l with
 |nil=>intro m e;induction m using lC with
  |nil=>exact .nil
  |cons _ _=>exact FT e
 |cons a l ih=>intro m e;induction m using lC with
  |nil=>exact FT e
  |cons b m=>exact n2 e λh1 h2=>.cons (hf h1) (ih h2)
theorem sO(X:K.In h)(f:Nat):∀{v:AV}{w:Value},gB K f v w=true->VR c μ n h v w:=by
 induction f with
 |zero=>exact λe=>FT e
 |succ f ih=>
  intro v w
  induction v using AV.casesOn with
  |none=>exact λe=>Bk e (λ_=>.none) (λ_ h=>FT h) (λ_ _ h=>FT h) (λ_ _ h=>FT h) λ_ h=>FT h
  |bool a=>exact λe=>Bk e (λh=>FT h) (λb h=>eq_of_beq h▸.bool _) (λ_ _ h=>FT h) (λ_ _ h=>FT h) λ_ h=>FT h
  |int q i=>exact λe=>Bk e (λh=>FT h) (λ_ h=>FT h) (λj t h=>n2 h λh1 h2=>z5 h1 (HI h2▸VR.plain _ _)) (λ_ _ h=>FT h) λ_ h=>FT h
  |str q s=>exact λe=>Bk e (λh=>FT h) (λ_ h=>FT h) (λ_ _ h=>FT h) (λy t h=>n2 h λh1 h2=>z5 h1 (uK h2▸.str 0 s t)) λ_ h=>FT h
  |tup l=>exact λe=>Bk e (λh=>FT h) (λ_ h=>FT h) (λ_ _ h=>FT h) (λ_ _ h=>FT h) λT h=>XN h λo arr k ho hd h=>n2 h λh1 h2=>.tup ⟨o,X _ _ ho,eq_of_beq h1,k,hd⟩ (XP ih h2)
  |con u=>
   induction u using Value.casesOn with
   |ref a=>exact λe=>Bk e (λh=>FT h) (λ_ h=>FT h) (λ_ _ h=>FT h) (λ_ _ h=>FT h) λb h=>w4 h▸.con _ rfl
   |_=>exact λe=>FT e
  |_=>exact λe=>FT e
end
structure dE (env:Env) (L:Fm) (n:En):Prop where
 eo:bz env L
 sc:env.scope=n.sc
 cells:L.all.map (·.1)=n.cells
 own:n.fn=true->L.ro=[]
 lU:(L.all.map (·.2)).Nodup
theorem Pj{l:List (Str×Addr)}{x:Str}(h:x∈l.map (·.1)):∃a,l.lookup x=some a:=OP h
theorem zh8{l:List (Str×Addr)}{x:Str}(h:x∉l.map (·.1)):l.lookup x=none:=OQ h
section
variable{n:En}
theorem dE.kindB(E:dE env L n){x:Nat}{f:NameKind->Bool}(h:kindB n x f=true):∃k,env.kindOf (nm x)=some k/\f k=true:=by
 unfold Mine.kindB at h
 rw[Pu] at h
 split at h
 ·rename_i k e
  exact aT k (by show env.scope.names.lookup (nm x)=_;rw[E.sc];exact e) h
 ·exact FT h
theorem dE.kZ(E:dE env L n){x:Nat}(h:Mine.kZ n x=true):∃a,L.all.lookup (nm x)=some a:=Pj (by rw[E.cells];exact JN h)
theorem dE.qU(E:dE env L n){x:Nat}(h:Mine.kZ n x=false):L.all.lookup (nm x)=none:=zh8 (by rw[E.cells];exact JG h)
theorem He{k:NameKind}(h:jd k=true):k = .local:=by cases k <;> first | rfl | exact FT h
theorem Pd{k:NameKind}(h:j5 k=true):k = .cell:=by cases k <;> first | rfl | exact FT h
theorem zja{k:NameKind}(h:Hz k=true):k = .free:=by cases k <;> first | rfl | exact FT h
theorem V_{k:NameKind}(h:Qj k=true):k = .globalImplicit:=by cases k <;> first | rfl | exact FT h
theorem dE.rG(E:dE env L n){x:Nat}(h:Bd n x=true):mN env L x:=by
 refine au (E.kindB h) λk hk hf=>?_
 induction h1:jd k with
 |true=>
  rw[h1] at hf
  replace hf:(!Mine.kZ n x)=true:=hf
  obtain rfl:=He h1
  exact .inl ⟨hk,E.qU (by simpa using hf)⟩
 |false=>
  rw[h1] at hf
  replace hf:ak (j5 k) (Mine.kZ n x&&n.fn) false=true:=hf
  induction h2:j5 k with
  |false=>rw[h2] at hf;exact FT hf
  |true=>
   rw[h2] at hf
   refine n2 hf λh3 h4=>?_
   obtain rfl:=Pd h2
   refine oE (E.kZ h3) λa ha=>?_
   refine .inr ⟨hk,a,ha,?_⟩
   have:=y6 ha
   unfold Fm.all at this
   rw[E.own h4,List.nil_append] at this
   exact this
theorem dE.names(E:dE env L n):∀{xs:List Nat}{es:List Expr},Ce n xs es=true->cn env L xs es
 |[],[],_=>.nil
 |x::xs,e::es,h=>by
  refine n2 h λh1 h2=>?_
  refine y5 h1 λs p h3=>?_
  refine n2 h3 λh4 h5=>?_
  rw[<-zv h4]
  exact .cons (E.rG h5) (dE.names E h2)
 |[],_::_,h=>by exact FT h
 |_::_,[],h=>by exact FT h
theorem dE.GO(E:dE env L n):∀{xs:List Nat}{es:List Expr},Ce n xs es=true->∀x∈xs,mN env L x
 |[],_,_,_,h=>nomatch h
 |x::xs,[],h,_,_=>by exact FT h
 |x::xs,e::es,h,y,hy=>by
  refine n2 h λh1 h2=>?_
  refine y5 h1 λs p h3=>?_
  refine n2 h3 λh4 h5=>?_
  rcases w8.mp hy with rfl | hy
  ·exact E.rG h5
  ·exact dE.GO E h2 y hy
end
theorem Ws(names:List (Str×NameKind))(cells:List (Str×Addr)):∀acc,aF names cells acc=((names.filter (λp=>p.2==.free)).map λp=>(p.1,(cells.lookup p.1).getD 0)).reverse++acc:=by
 induction names with
 |nil=>intro acc;rfl
 |cons p l ih=>
  intro acc
  have e0:aF (p::l) cells acc=aF l cells (if (p.2==.free)=true then (p.1,(cells.lookup p.1).getD 0)::acc else acc):=rfl
  rw[e0,ih,List.filter_cons]
  by_cases q:(p.2==NameKind.free)=true
  ·rw[if_pos q,if_pos q,List.map_cons,List.reverse_cons,List.append_assoc];rfl
  ·rw[if_neg q,if_neg q]
theorem Wz(names:List (Str×NameKind)):HE names=((names.filter (λp=>p.2==.free)).map (·.1)).reverse:=by
 have key:∀(l:List (Str×NameKind)) (acc:List Str),l.foldl (λcs p=>if (p.2==NameKind.free)=true then p.1::cs else cs) acc=((l.filter (λp=>p.2==.free)).map (·.1)).reverse++acc:=by
  intro l
  induction l with
  |nil=>intro acc;rfl
  |cons p l ih=>
   intro acc
   rw[List.foldl_cons,ih,List.filter_cons]
   by_cases q:(p.2==NameKind.free)=true
   ·rw[if_pos q,if_pos q,List.map_cons,List.reverse_cons,List.append_assoc];rfl
   ·rw[if_neg q,if_neg q]
 have:=key names []
 rw[List.append_nil] at this
 exact this
theorem P9(names:List (Str×NameKind))(cells:List (Str×Addr)):(aF names cells []).map (·.1)=HE names:=by
 rw[Ws,Wz,List.append_nil,List.map_reverse,List.map_map]
 rfl
theorem Pe: ∀{l:List Str},JX l=true->l.Nodup
 |[],_=>List.nodup_nil
 |a::l,h=>by
  refine n2 h λh1 h2=>?_
  refine List.nodup_cons.mpr ⟨?_,Pe h2⟩
  have:=JG (l:=l) (x:=a.cps.toList) (by simpa using h1)
  have e:S a.cps.toList=a:=uK ((yd _ _).mpr rfl)
  rwa [e] at this
theorem zkb{l:List (Str×Addr)}(nd:(l.map (·.2)).Nodup){a b:Str}{x:Addr}(h1:(a,x)∈l)(h2:(b,x)∈l):a=b:=by
 induction l with
 |nil=>cases h1
 |cons p l ih=>
  rw[List.map_cons,List.nodup_cons] at nd
  rcases w8.mp h1 with e1 | h1
  ·rcases w8.mp h2 with e2 | h2
   ·rw[<-e1] at e2;exact(Prod.mk.inj e2).1.symm
   ·exact w1 (List.mem_map_of_mem (f:=(·.2)) h2) (by rw[<-e1] at nd;exact nd.1)
  ·rcases w8.mp h2 with e2 | h2
   ·exact w1 (List.mem_map_of_mem (f:=(·.2)) h1) (by rw[<-e2] at nd;exact nd.1)
   ·exact ih nd.2 h1 h2
theorem ziw{m l:List (Str×Addr)}(hk:(m.map (·.1)).Nodup)(hs:∀p∈m,p∈l)(nd:(l.map (·.2)).Nodup):(m.map (·.2)).Nodup:=by
 induction m with
 |nil=>exact List.nodup_nil
 |cons p m ih=>
  rw[List.map_cons,List.nodup_cons] at hk ⊢
  refine⟨λh=>?_,ih hk.2 λq hq=>hs q (.tail _ hq)⟩
  refine au (List.mem_map.mp h) λq hq e=>?_
  have:q.1=p.1:=zkb nd (x:=p.2) (by have:=hs q (.tail _ hq);rw[<-e];exact this) (hs p (.head _))
  exact hk.1 (this▸List.mem_map_of_mem (f:=(·.1)) hq)
theorem zeh{l:List (Str×NameKind)}{p:Str×NameKind}(nd:(l.map (·.1)).Nodup)(h:p∈l):l.lookup p.1=some p.2:=by
 induction l with
 |nil=>cases h
 |cons q l ih=>
  obtain⟨k,b⟩:=q
  rw[List.map_cons,List.nodup_cons] at nd
  rw[List.lookup_cons]
  rcases w8.mp h with rfl | h
  ·rw[show(k==k)=true from by simp]
  ·have:(p.1==k)=false:=by
    induction e:p.1==k with
    |false=>rfl
    |true=>exact w1 (eq_of_beq e▸List.mem_map_of_mem (f:=(·.1)) h) nd.1
   rw[this];exact ih nd.2 h
section
variable{n:En}
theorem WL{sc:Scope}{fv:List Nat}(E:dE env L n)(h:QD n sc fv=true):i9 env L sc fv/\sc.kind = .function/\∀C,dE (compEnvC sc (aF sc.names L.all []) C env) (gR (aF sc.names L.all []) C) (B6 n sc):=by
 refine n5 h λh1 h2 h3 h4 h5=>?_
 have hk:=wl h1
 have DQ:=Pe h3
 have sW:∀p∈sc.names,p.2 = .free->∃a,L.all.lookup p.1=some a:=λp hp hf=>by
  have:=w6.mp h4 p hp
  rw[hf] at this
  replace this:lF n.cells p.1.cps.toList=true:=this
  have e:S p.1.cps.toList=p.1:=uK ((yd _ _).mpr rfl)
  have:=JN this
  rw[e] at this
  exact Pj (by rw[E.cells];exact this)
 have pZ:∀p∈aF sc.names L.all [],L.all.lookup p.1=some p.2:=λp hp=>by
  rw[Ws,List.append_nil,List.mem_reverse] at hp
  refine au (List.mem_map.mp hp) ?_;rintro q hq rfl
  refine oA (List.mem_filter.mp hq) λZu Zv=>?_
  refine oE (sW q Zu (by simpa using Zv)) λa ha=>?_
  show L.all.lookup q.1=some ((L.all.lookup q.1).getD 0)
  rw[ha];rfl
 have gS:((aF sc.names L.all []).map (·.1)).Nodup:=by
  rw[P9,Wz]
  refine List.pairwise_reverse.mpr (List.Pairwise.imp (λh=>Ne.symm h) ?_)
  exact List.Sublist.nodup (List.Sublist.map _ List.filter_sublist) DQ
 have DD:((aF sc.names L.all []).map (·.2)).Nodup:=ziw gS (λp hp=>y6 (pZ p hp)) E.lU
 refine dp ⟨hk,λx hx z=>?_,λx hx hl=>by have:=zeh DQ hx;rwa [hl] at this,sW,pZ,DD,λx hx=>?_⟩ hk (λC=>⟨⟨hk,rfl,(List.append_nil _).symm,E.eo.Bw,E.eo.R6⟩,?_,?_,λz=>?_,?_⟩)
 ·have:=w6.mp h2 x hx
  rw[z] at this;exact FT this
 ·exact Pj (by rw[P9];exact JN (w6.mp h5 x hx))
 ·show relabel sc env=Gh sc n.sc
  rw[<-E.sc];rfl
 ·show(gR (aF sc.names L.all []) C).all.map (·.1)=HE sc.names
  have:(gR (aF sc.names L.all []) C).all=aF sc.names L.all []:=List.append_nil _
  rw[this,P9]
 ·exact FT z
 ·have:(gR (aF sc.names L.all []) C).all=aF sc.names L.all []:=List.append_nil _
  rw[this];exact DD
end
theorem VN{fv:List Nat}{z:Nat}{w:AV}(h:aC (aY fv ρ) z=some w):z∈fv:=(VY fv ρ h).1
theorem zes{xs:List Nat}:∀{l:List AV}{ρ:az}{z:Nat},z∉xs->aC (yi xs l ρ) z=aC ρ z:=by
 induction xs with
 |nil=>intro l ρ z _;rfl
 |cons x xs ih=>
  intro l ρ z hz
  induction l using lC with
  |nil=>rfl
  |cons v l=>
   show aC (yi xs l (zd ρ x v)) z=_
   rw[ih λh=>hz (.tail _ h),yv,if_neg (λe:z=x=>hz (by rw[e];exact .head _))]
theorem zn6{x:Nat}{fv:List Nat}(hx:x∉fv):∀(ρ:az) (y:AV) (bo:az),(λ(y:AV) ρ=>some (zd ρ x y)) y (aY fv ρ)=some bo->∀z w,aC (aY fv ρ) z=some w->aC bo z=some w:=by
 intro ρ y bo e z w h
 obtain rfl:=w3 e
 rw[yv,if_neg (λq:z=x=>hx (by rw[<-q];exact VN h))]
 exact h
theorem zll{xs:List Nat}{fv:List Nat}(hx:∀x∈xs,x∉fv):∀(ρ:az) (y:AV) (bo:az),uw xs y (aY fv ρ)=some bo->∀z w,aC (aY fv ρ) z=some w->aC bo z=some w:=by
 intro ρ y bo e z w h
 unfold uw at e
 induction y using AV.casesOn with
 |tup l=>
  change ak (Nat.beq (len xs) (len l)) (some (yi xs l (aY fv ρ))) none=some bo at e
  induction q:Nat.beq (len xs) (len l) with
  |false=>rw[q] at e;exact NS e
  |true=>
   rw[q] at e
   obtain rfl:=w3 e
   rw[zes λhz=>hx z hz (VN h)]
   exact h
 |_=>exact NS e
structure Wd (prog:Program) (c:Cx) (W:Ck) (p:Program) (loose:List Str) (mg mb:Str->Option Value):Prop where
 X:W.K.In c.base
 T:TopRead p loose mg mb c.base
 fm:fW c W.K (λx=>bB W.ns x=true)
 pK:∀x k,(x,k)∈W.pK->bootBuiltins (nm x)=some (iO k)/\nm x≠"__name__"
 sys:∃o,c.base.get? sysModules=some o
 Ig:∀C,c.bA C->d_ W.K C
structure At (prog:Program) (c:Cx) (A:Around) (W:Ck) (G:Gl) (C:Call) (q:Bool):Prop where
 hU:c.U=G.U
 hh:q=false->A.handled=none
 fu:G.fu<=100000/\0<G.fu
 bin:∀o op,qS o=some op->ov prog c A (binaryOp op) (bh o)
 cmp:∀o op,iP o=some op->gO prog c A (compareOp op) (a_ G.U o)
 neg:v9 prog c A
 aug:px prog c A
 set:ve prog c A G
 get:v8 prog c A G.U
 fx:vf prog c A
 rev:vd prog c A
 xa:dH prog c A (λx=>bB W.ns x=true)
 call:c9 prog c A C
 tab:fj c W.K G C
 exc:pz prog c A G
 bi:Ku prog c A G.mx
 str:vg prog c A
 lst:mM prog c A
 iQ:mK prog c A G.U
section
variable{W:Ck}{G:Gl}{C:Call}{q:Bool}{p:Program}
theorem OY{s:Str}:∀whole,isTrue (.Name s pos) env whole=(do let v<-whole;standAt (Expr.Name s pos).pos;holding [v] (truthy v)):=λ_=>rfl
theorem JP(w:Wd prog c W p loose mg mb){n:En}(E:dE env L n){x:Nat}{v:AV}(h:K5 W n x v (nm x)=true):∃wv,GN prog c env L (.Name (nm x) pos) wv/\∀μ m h,W.K.In h->VR c μ m h v wv:=by
 refine n3 h λh1 h2 h3=>?_
 refine au (E.kindB h2) λk hk hg=>?_
 obtain rfl:=V_ hg
 split at h3
 ·rename_i wv e
  exact aT wv (zlr E.eo w.X w.T e hk (Jq h1)) (λμ m h X=>sO X 8 h3)
 ·rename_i e
  induction v using AV.casesOn with
  |bi k=>
   replace h3:(W.pK.any λp=>Nat.beq p.1 x&&Nat.beq p.2 k)=true:=h3
   refine au (List.any_eq_true.mp h3) λpr hp h4=>?_
   refine n2 h4 λh5 h6=>?_
   have e1:=w4 h5
   have e2:=w4 h6
   have hm:(x,k)∈W.pK:=by rw[<-e1,<-e2];exact hp
   refine oA (w.pK x k hm) λb1 b2=>?_
   exact aT (iO k) (zkm E.eo w.X w.T e b1 b2 hk (Jq h1)) (λμ m h X=>.bi k)
  |_=>exact FT h3
 ·exact FT h3
theorem yr{b:Bool}(h:(!b)=true):b=false:=by cases b;rfl;exact FT h
theorem zx{xs:List Expr}{f:Expr->Bool}(h:zu (.many xs) f=true):False:=by exact FT h
theorem zi{x:Expr}{f:Expr->Bool}(h:zu (.one x) f=true):f x=true:=h
abbrev Ba(prog:Program)(c:Cx)(A:Around)(W:Ck)(G:Gl)(C:Call)(q:Bool)(e:ME):Prop:=∀n env L,dE env L n->∀x,bg W q e n (.one x)=true->SE prog c A env L x (ev G C e)
theorem WB{n:En}{cond:ME}{ifs:List Expr}(hc:∀x,bg W q cond n (.one x)=true->SE prog c A env L x (ev G C cond))(h:(match ifs with | []=>Ju cond | [i]=>bg W q cond n (.one i) | _=>false)=true):eh prog c A env L ifs (ev G C cond):=by
 match ifs with
 |[]=>rw[zgq h];exact .none
 |[i]=>exact .one (hc i h)
 |_::_::_=>exact FT h
theorem VS(w:Wd prog c W p loose mg mb)(a:At prog c A W G C q){elt it cond:ME}{x:Nat}{fv:List Nat}(s1:Ba prog c A W G C q elt)(s2:Ba prog c A W G C q it)(s3:Ba prog c A W G C q cond){n:En}(E:dE env L n){y:Expr}(h:bg W q (.comp elt x fv it cond) n (.one y)=true):∃e' t ie ifs sc pos,y = .ListComp e' [⟨t,ie,ifs,0⟩] sc pos/\cj prog c A env L G sc fv t e' ie ifs (λy ρ=>some (zd ρ x y)) (ev G C elt) (ev G C cond) (ev G C it):=by
 refine Y3 (zi h) λe' t ie ifs sc pos h=>?_
 refine n8 h λh1 h2 h3 h4 h5 h6 h7 h8=>?_
 refine y5 h4 λs tp h4=>?_
 refine n2 h4 λh9 wF=>?_
 obtain rfl:=zv h9
 refine c6 (WL E h2) λCO hk EI=>?_
 exact⟨_,_,_,_,_,_,rfl,a.hh (yr h1),w.sys,a.fu,E.eo,CO,λC'=>JO (EI C').eo ((EI C').rG wF),λC'=>s1 _ _ _ (EI C') _ h7,λC'=>WB (s3 _ _ _ (EI C')) h8,s2 _ _ _ E _ h6,λv=>Jr h5 env v,zn6 (Jp (yr h3))⟩
theorem VD(w:Wd prog c W p loose mg mb)(a:At prog c A W G C q){elt it cond:ME}{xs:List Nat}{fv:List Nat}(s1:Ba prog c A W G C q elt)(s2:Ba prog c A W G C q it)(s3:Ba prog c A W G C q cond){n:En}(E:dE env L n){y:Expr}(h:bg W q (.fY elt xs fv it cond) n (.one y)=true):∃e' t ie ifs sc pos,y = .ListComp e' [⟨t,ie,ifs,0⟩] sc pos/\cj prog c A env L G sc fv t e' ie ifs (uw xs) (ev G C elt) (ev G C cond) (ev G C it):=by
 refine Y3 (zi h) λe' t ie ifs sc pos h=>?_
 refine n8 h λh1 h2 h3 h4 h5 h6 h7 h8=>?_
 refine QJ h4 λl k tp h4=>?_
 refine c6 (WL E h2) λCO hk EI=>?_
 exact⟨_,_,_,_,_,_,rfl,a.hh (yr h1),w.sys,a.fu,E.eo,CO,λC'=>Qi (a.hh (yr h1)) (EI C').eo ((EI C').names h4),λC'=>s1 _ _ _ (EI C') _ h7,λC'=>WB (s3 _ _ _ (EI C')) h8,s2 _ _ _ E _ h6,λv=>Jr h5 env v,zll λx hx=>Jp (yr (w6.mp h3 x hx))⟩
def KA(prog:Program)(c:Cx)(A:Around)(W:Ck)(G:Gl)(C:Call)(q:Bool)(e:ME):Prop:=∀(n:En) (env:Env) (L:Fm),dE env L n->
  (∀x,bg W q e n (.one x)=true->SE prog c A env L x (ev G C e))/\(∀xs,bg W q e n (.many xs)=true->SA prog c A env L xs (ev G C e)/\Rows (ev G C e) xs.length/\CJ prog c A env L xs (ev G C e))
theorem Hd(w:Wd prog c W p loose mg mb)(a:At prog c A W G C q):∀(e:ME),KA prog c A W G C q e:=by
 intro e
 induction e with
 |cN=>
  intro n env L E
  refine⟨λx h=>?_,λxs h=>(zx h).elim⟩
  refine Bh (zi h) λcc k pos h=>?_
  cases cc <;> first | exact A7 | exact FT h
 |cT=>
  intro n env L E
  refine⟨λx h=>?_,λxs h=>(zx h).elim⟩
  refine Bh (zi h) λcc k pos h=>?_
  induction cc using Const.casesOn with
  |bool b=>induction b with
   |true=>exact Xu
   |false=>exact FT h
  |_=>exact FT h
 |cF=>
  intro n env L E
  refine⟨λx h=>?_,λxs h=>(zx h).elim⟩
  refine Bh (zi h) λcc k pos h=>?_
  induction cc using Const.casesOn with
  |bool b=>induction b with
   |false=>exact Xu
   |true=>exact FT h
  |_=>exact FT h
 |cI i=>
  intro n env L E
  refine⟨λx h=>?_,λxs h=>(zx h).elim⟩
  refine Bh (zi h) λcc k pos h=>?_
  induction cc using Const.casesOn with
  |int j=>rw[<-HI (show fZ i j=true from h)];exact tU
  |_=>exact FT h
 |cS s=>
  intro n env L E
  refine⟨λx h=>?_,λxs h=>(zx h).elim⟩
  refine Bh (zi h) λcc k pos h=>?_
  induction cc using Const.casesOn with
  |str t=>rw[<-uK (show cu s t.cps.toList=true from h)];exact Gz
  |_=>exact FT h
 |loc x=>
  intro n env L E
  refine⟨λy h=>?_,λxs h=>(zx h).elim⟩
  refine y5 (zi h) λs pos h=>?_
  refine n2 h λh1 h=>?_
  rw[<-zv h1]
  refine n3 h λh2 h3 h4=>?_
  refine au (E.kindB h4) λk hk hf=>?_
  induction hl:jd k with
  |true=>
   rw[hl] at hf
   obtain rfl:=He hl
   exact tV E.eo hk (E.qU (yr hf)) (Jq h2)
  |false=>
   rw[hl] at hf
   replace hf:ak (j5 k||Hz k) (kZ n x) false=true:=hf
   induction hc:(j5 k||Hz k) with
   |false=>rw[hc] at hf;exact FT hf
   |true=>
    rw[hc] at hf
    refine oE (E.kZ hf) λca wK=>?_
    refine Gp E.eo ?_ wK (Jq h2) (zkr h3)
    rw[Bool.or_eq_true] at hc
    rcases hc with hc | hc
    ·rw[Pd hc] at hk;exact .inl hk
    ·rw[zja hc] at hk;exact .inr hk
 |glob x v=>
  intro n env L E
  refine⟨λy h=>?_,λxs h=>(zx h).elim⟩
  refine y5 (zi h) λs pos h=>?_
  refine n2 h λh1 h2=>?_
  obtain rfl:=zv h1
  refine au (JP w E (pos:=pos) h2) λwv g hv=>?_
  exact A3 w.X g hv OY
 |attr e at' ih=>
  intro n env L E
  refine⟨λx h=>?_,λxs h=>(zx h).elim⟩
  refine Bj (zi h) λy s pos h=>?_
  refine n4 h λh1 h2 h3 h4=>?_
  rw[<-zv h1]
  exact(zZ w.fm a.xa ((ih n env L E).1 y h4) h2 h3 :)
 |idx e i cY cU=>
  intro n env L E
  refine⟨λx h=>?_,λxs h=>(zx h).elim⟩
  refine HV (zi h) λy z pos h=>?_
  refine n3 h λh1 h2 h3=>?_
  exact(Gr a.get ((cY n env L E).1 y h2) ((cU n env L E).1 z h3) h1 :)
 |no=>
  intro n env L E
  exact⟨λx h=>(by exact FT h),λxs h=>(by exact FT h)⟩
 |fx e lo hi cY cU qE=>
  intro n env L E
  refine⟨λx h=>?_,λxs h=>(zx h).elim⟩
  refine HV (zi h) λy z pos h=>?_
  refine XY h λa1 a2 a3 pos' h=>?_
  refine n4 h λh1 h2 h3 h4=>?_
  have part:∀{o:Option Expr}{m:ME} (RI:∀x,bg W q m n (.one x)=true->SE prog c A env L x (ev G C m)),(match o with | none=>qG m | some a=>bg W q m n (.one a))=true->SP prog c A env L o (ev G C m):=by
   intro o m RI ho
   induction o with
   |none=>rw[zmc ho];exact zms
   |some y=>exact zm4 (RI y ho)
  induction a3 with
  |some _=>exact FT h1
  |none=>exact(Gy a.fx ((cY n env L E).1 y h2) (part (cU n env L E).1 h3) (part (qE n env L E).1 h4) :)
 |rev e ih=>
  intro n env L E
  refine⟨λx h=>?_,λxs h=>(zx h).elim⟩
  refine HV (zi h) λy z pos h=>?_
  refine XY h λa1 a2 a3 pos' h=>?_
  refine n2 h λh1 h2=>?_
  induction a1 with
  |some _=>exact FT h1
  |none=>induction a2 with
   |some _=>exact FT h1
   |none=>induction a3 with
    |none=>exact FT h1
    |some st=>
     refine AU (show C8 st _=true from h1) λo d pos2 h1=>?_
     refine n2 h1 λh3 h4=>?_
     obtain rfl:=wl h3
     refine Bh h4 λcc k pos3 h4=>?_
     induction cc using Const.casesOn with
     |int j=>
      rw[<-HI (show fZ 1 j=true from h4)]
      exact(Gx a.rev ((ih n env L E).1 y h2) (tW a.neg tU) λρ σ=>rfl :)
     |_=>exact FT h4
 |bin o x y cY cU=>
  intro n env L E
  refine⟨λx h=>?_,λxs h=>(zx h).elim⟩
  refine uk (zi h) λy op z pos h=>?_
  refine n3 h λh1 h2 h3=>?_
  exact(Gn (a.bin _ _ (xU h1)) ((cY n env L E).1 y h2) ((cU n env L E).1 z h3) :)
 |neg e ih=>
  intro n env L E
  refine⟨λx h=>?_,λxs h=>(zx h).elim⟩
  refine AU (zi h) λo y pos h=>?_
  refine n2 h λh1 h2=>?_
  obtain rfl:=wl h1
  exact(tW a.neg ((ih n env L E).1 y h2) :)
 |not e ih=>
  intro n env L E
  refine⟨λx h=>?_,λxs h=>(zx h).elim⟩
  refine AU (zi h) λo y pos h=>?_
  refine n2 h λh1 h2=>?_
  obtain rfl:=wl h1
  exact(Gw ((ih n env L E).1 y h2) :)
 |cmp x o y cY cU=>
  intro n env L E
  refine⟨λx h=>?_,λxs h=>(zx h).elim⟩
  refine Y4 (zi h) λy op z pos h=>?_
  refine n4 h λh1 h2 h3 h4=>?_
  exact(Gq (a.cmp _ _ (PL h1)) ((cY n env L E).1 y h3) ((cU n env L E).1 z h4) (yr h2) :)
 |ig x o y o' z cY cU qE=>
  intro n env L E
  refine⟨λx h=>?_,λxs h=>(zx h).elim⟩
  refine AP (zi h) λy op z op' u pos h=>?_
  refine n6 h λh1 h2 h3 h4 h5 h6=>?_
  exact(z_ (a.cmp _ _ (PL h1)) (a.cmp _ _ (PL h2)) ((cY n env L E).1 y h4) ((cU n env L E).1 z h5) ((qE n env L E).1 u h6) (yr h3) :)
 |and es ih=>
  intro n env L E
  refine⟨λx h=>?_,λxs h=>(zx h).elim⟩
  refine Y0 (zi h) λo l pos h=>?_
  refine n3 h λh1 h2 h3=>?_
  cases o with
  |Or=>exact FT h1
  |And=>exact(Gk ((ih n env L E).2 l h3).1.sl (by rintro rfl;exact FT h2) :)
 |or es ih=>
  intro n env L E
  refine⟨λx h=>?_,λxs h=>(zx h).elim⟩
  refine Y0 (zi h) λo l pos h=>?_
  refine n3 h λh1 h2 h3=>?_
  cases o with
  |And=>exact FT h1
  |Or=>exact(OB ((ih n env L E).2 l h3).1.sl (by rintro rfl;exact FT h2) :)
 |ite t x y cY cU qE=>
  intro n env L E
  refine⟨λx h=>?_,λxs h=>(zx h).elim⟩
  refine Ha (zi h) λy z u pos h=>?_
  refine n3 h λh1 h2 h3=>?_
  exact(Gs ((cY n env L E).1 y h1) ((cU n env L E).1 z h2) ((qE n env L E).1 u h3) :)
 |tup es ih=>
  intro n env L E
  refine⟨λx h=>?_,λxs h=>(zx h).elim⟩
  refine QJ (zi h) λl k pos h=>?_
  refine n2 h λh1 h2=>?_
  refine oA ((ih n env L E).2 l h2) λs1 s2=>?_
  exact GA s1.sl s2.1 (w5 h1)
 |lst es ih=>
  intro n env L E
  refine⟨λx h=>?_,λxs h=>(zx h).elim⟩
  refine Hc (zi h) λl pos h=>?_
  refine n2 h λh1 h2=>?_
  refine oA ((ih n env L E).2 l h2) λs1 s2=>?_
  exact Gu s1.sl s2.1 (w5 h1)
 |iQ es ih=>
  intro n env L E
  refine⟨λx h=>?_,λxs h=>(zx h).elim⟩
  replace h:=zi h
  induction q0:Q4 x with
  |true=>
   rw[q0] at h
   refine oE (zjl q0) ?_;rintro pos rfl
   obtain rfl:=zi8 h
   exact A1
  |false=>
   rw[q0] at h
   refine fc (zl0 h) ?_;rintro ks vs pos l rfl e1 h
   refine n3 h λh1 h2 h3=>?_
   exact(A2 a.hU e1 (by rintro rfl;exact FT h1) (w5 h2) ((ih n env L E).2 l h3).2.2 :)
 |call f es cY cU=>
  intro n env L E
  refine⟨λx h=>?_,λxs h=>(zx h).elim⟩
  refine uT (zi h) λg l pos h=>?_
  refine n3 h λh1 h2 h3=>?_
  refine bw (yh h1) ?_;rintro s pos' rfl _
  exact(s_call w.X a.tab a.call a.exc a.bi ((cY n env L E).1 _ h2) ((cU n env L E).2 l h3).1 :)
 |af o m es cY cU=>
  intro n env L E
  refine⟨λx h=>?_,λxs h=>(zx h).elim⟩
  refine uT (zi h) λg l pos h=>?_
  refine Bj h λy s ap h=>?_
  refine n6 h λh1 h2 h3 h4 h5 h6=>?_
  rw[<-zv h1]
  exact(A6 w.X w.fm.cls a.tab a.call a.str a.lst a.iQ ((cY n env L E).1 y h5) ((cU n env L E).2 l h6).1 h2 (w5 h3) h4 :)
 |comp elt x fv it cond cY cU qE=>
  intro n env L E
  refine⟨λy h=>?_,λxs h=>(zx h).elim⟩
  refine eQ (VS w a (λn env L E=>(cY n env L E).1) (λn env L E=>(cU n env L E).1) (λn env L E=>(qE n env L E).1) E h) λe' t q9=>?_;refine lO q9 ?_;clear q9;rintro ie ifs sc pos rfl P
  exact Xj P
 |fY elt xs fv it cond cY cU qE=>
  intro n env L E
  refine⟨λy h=>?_,λxs h=>(zx h).elim⟩
  refine eQ (VD w a (λn env L E=>(cY n env L E).1) (λn env L E=>(cU n env L E).1) (λn env L E=>(qE n env L E).1) E h) λe' t q9=>?_;refine lO q9 ?_;clear q9;rintro ie ifs sc pos rfl P
  exact Xj P
 |nil=>
  intro n env L E
  refine⟨λx h=>(by exact FT h),λxs h=>?_⟩
  cases zcv (show PI (.many xs)=true from h)
  exact dp JV zky Ad
 |cons x y cY cU=>
  intro n env L E
  refine⟨λx h=>(by exact FT h),λxs h=>?_⟩
  refine bw (Vv (show Jt (.many xs) _=true from h)) λz zs e1 h=>?_
  cases e1
  refine n3 h λh1 h2 h3=>?_
  refine oA ((cU n env L E).2 zs h3) λs1 s2=>?_
  exact dp (Hn ((cY n env L E).1 z h2) s1 (P8 h1 zs env)) (zjb s2.1) (zm6 ((cY n env L E).1 z h2) s2.2)
end
noncomputable section
set_option genCtorIdx false in
inductive SX where
 |one (s:Stmt)
 |many (l:List Stmt)
noncomputable def j3(xl:SX)(f:Stmt->Bool):Bool:=match xl with | .one s=>f s | _=>false
noncomputable def rD(xl:SX):Bool:=match xl with | .many []=>true | _=>false
noncomputable def HM(xl:SX)(f:Stmt->List Stmt->Bool):Bool:=match xl with | .many (s::l)=>f s l | _=>false
structure SH where
 expr:Expr->Bool:=λ_=>false
 asg:List Expr->Expr->Pos->Bool:=λ_ _ _=>false
 aug:Expr->Operator->Expr->Bool:=λ_ _ _=>false
 ite:Expr->List Stmt->List Stmt->Bool:=λ_ _ _=>false
 ez:Expr->List Stmt->List Stmt->Bool:=λ_ _ _=>false
 nj:Expr->Expr->List Stmt->List Stmt->Bool:=λ_ _ _ _=>false
 ret:Option Expr->Bool:=λ_=>false
 raise:Option Expr->Option Expr->Bool:=λ_ _=>false
 o5:List Stmt->List ExceptHandler->List Stmt->List Stmt->Bool:=λ_ _ _ _=>false
 cont:Bool:=false
 pass:Bool:=false
noncomputable def mr(x:Stmt)(H:SH):Bool:=match x with
 |.Expr e _=>H.expr e
 |.Assign t v p=>H.asg t v p
 |.AugAssign t o v _=>H.aug t o v
 |.If t a b _=>H.ite t a b
 |.While t b e _=>H.ez t b e
 |.For t i b e _=>H.nj t i b e
 |.Return o _=>H.ret o
 |.Raise e c _=>H.raise e c
 |.Try b h e f _=>H.o5 b h e f
 |.Continue _=>H.cont
 |.Pass _=>H.pass
 |_=>false
def HN(s:Stmt)(f:Expr->Bool):Bool:=mr s { expr:=f }
def my(s:Stmt)(f:Expr->Expr->Pos->Bool):Bool:=mr s { asg:=λt v p=>l1 t λt=>f t v p }
def lA(s:Stmt)(f:Expr->Expr->Bool):Bool:=mr s { aug:=λt o v=>decide (o = .Add)&&f t v }
def Jk(s:Stmt)(f:Expr->List Stmt->List Stmt->Bool):Bool:=mr s { ite:=f }
def o4(s:Stmt)(f:Expr->List Stmt->Bool):Bool:=mr s { ez:=λt b e=>e.isEmpty&&f t b }
def rV(s:Stmt)(f:Expr->Expr->List Stmt->Bool):Bool:=mr s { nj:=λt i b e=>e.isEmpty&&f t i b }
def uN(s:Stmt)(f:Option Expr->Bool):Bool:=mr s { ret:=f }
def Cj(s:Stmt)(f:Expr->Bool):Bool:=mr s { raise:=λe c=>c.isNone&&opt e false f }
def rH(s:Stmt)(f:List Stmt->Expr->Str->Stmt->Bool):Bool:=mr s { o5:=λb h e g=>e.isEmpty&&(g.isEmpty&&l1 h λ| .ExceptHandler t x l _=>opt t false λt=>opt x false λx=>l1 l λst=>f b t x st) }
def Q6(s:Stmt):Bool:=mr s { cont:=true }
def Q1(s:Stmt):Bool:=mr s { pass:=true }
noncomputable def kG(sc:Scope):Env:=envX Str.empty sc 0 0 .none []
noncomputable def tC(m:Sem Bool):Bool:=match m with | .pure b=>b | _=>false
noncomputable def XJ: ME->Bool | .comp _ _ _ _ _=>true | .fY _ _ _ _ _=>true | _=>false
def Qm(t y:Expr)(n:En)(xs:List Nat):Option Bool:=match swappedStores [t] y (kG n.sc) with
 |.pure none=>some false
 |.pure (some l)=>ak (B4 eu xs l&&Hv xs) (some true) none
 |_=>none
noncomputable def Oy(v:AV)(f:Addr->Bool):Bool:=match v with | .con (.ref a)=>f a | _=>false
noncomputable def Dq(e:ME)(f:Nat->AV->Bool):Bool:=match e with | .glob x v=>f x v | _=>false
def d4(W:Ck)(q:Bool):MS->En->SX->Bool
 |.nil,_,xl=>rD xl
 |.seq a b,n,xl=>HM xl λs l=>d4 W q a n (.one s)&&d4 W q b n (.many l)
 |.expr e,n,xl=>j3 xl λs=>HN s λx=>Jn x&&bg W q e n (.one x)
 |.asg x e,n,xl=>j3 xl λs=>my s λt y p=>Qa t λid ip=>eu x id&&(Bd n x&&(bg W q e n (.one y)&&(Jn y||(XJ e&&tC (swapsWith y (some (.Name id ip)) p.line (kG n.sc))))))
 |.aQ o a e,n,xl=>j3 xl λs=>my s λt y _=>uR t λz id _=>eu a id&&(bB W.ns a&&(bg W q o n (.one z)&&bg W q e n (.one y)))
 |.d3 o i e,n,xl=>j3 xl λs=>my s λt y _=>lE t λz u=>bg W q o n (.one z)&&(bg W q i n (.one u)&&bg W q e n (.one y))
 |.cf xs e,n,xl=>j3 xl λs=>my s λt y _=>Cr t λes=>!q&&(Ce n xs es&&(bg W q e n (.one y)&&(Qm t y n xs).isSome))
 |.pJ x e,n,xl=>j3 xl λs=>lA s λt y=>ju t λid=>eu x id&&(Bd n x&&bg W q e n (.one y))
 |.mW o a e,n,xl=>j3 xl λs=>lA s λt y=>uR t λz id _=>eu a id&&(bB W.ns a&&(bg W q o n (.one z)&&bg W q e n (.one y)))
 |.ite t a b,n,xl=>j3 xl λs=>Jk s λx l m=>bg W q t n (.one x)&&(d4 W q a n (.many l)&&d4 W q b n (.many m))
 |.ez t b,n,xl=>j3 xl λs=>o4 s λx l=>bg W q t n (.one x)&&d4 W q b n (.many l)
 |.cx x it b,n,xl=>j3 xl λs=>rV s λt y l=>!q&&((ju t λid=>eu x id&&Bd n x)&&(Hw y&&(bg W q it n (.one y)&&d4 W q b n (.many l))))
 |.kJ xs it b,n,xl=>j3 xl λs=>rV s λt y l=>!q&&((Cr t λes=>Ce n xs es)&&(Hw y&&(bg W q it n (.one y)&&d4 W q b n (.many l))))
 |.forR x e b,n,xl=>j3 xl λs=>rV s λt y l=>!q&&((ju t λid=>eu x id&&Bd n x)&&((Cy y λg as _=>(ju g λid=>eu 435526984050 id&&K5 W n 435526984050 (.bi 4) id)
   &&(match as with | [z]=>O_ z&&bg W q e n (.one z) | _=>false))&&d4 W q b n (.many l)))
 |.ret e,n,xl=>j3 xl λs=>uN s λo=>match o with | some x=>bg W q e n (.one x) | none=>false
 |.zW,_,xl=>j3 xl λs=>uN s λo=>match o with | some _=>false | none=>true
 |.raise e,n,xl=>j3 xl λs=>Cj s λx=>!q&&bg W q e n (.one x)
 |.lB b cls x r e,n,xl=>j3 xl λs=>rH s λl te id st=>!q&&(eu x id&&((kindB n x jd&&!kZ n x)&&((ju te λtid=>Dq cls λy v=>eu y tid&&(K5 W n y v tid&&Oy v λ_=>true))
   &&(ak r (Cj st λz=>bg W true e n (.one z)) (uN st λo=>match o with | some z=>bg W true e n (.one z) | none=>false)&&d4 W q b n (.many l)))))
 |.cont,_,xl=>j3 xl Q6
 |.pass,_,xl=>j3 xl Q1
end
section
theorem Qo{l:List Stmt}(h:rD (.many l)=true):l=[]:=by induction l using lC with | nil=>rfl | cons _ _=>exact FT h
theorem Qd{l:List Stmt}{f:Stmt->List Stmt->Bool}(h:HM (.many l) f=true):∃s m,l=s::m/\f s m=true:=by
 induction l using lC with | nil=>exact FT h | cons s m=>exact uY s m rfl h
theorem ot{P:Stmt->Prop}{x:Stmt}{H:SH}(h:mr x H=true)(expr:∀e p,H.expr e=true->P (.Expr e p))(asg:∀t v p,H.asg t v p=true->P (.Assign t v p))(aug:∀t o v p,H.aug t o v=true->P (.AugAssign t o v p))(ite:∀t a b p,H.ite t a b=true->P (.If t a b p))(ez:∀t b e p,H.ez t b e=true->P (.While t b e p))(nj:∀t i b e p,H.nj t i b e=true->P (.For t i b e p))(ret:∀o p,H.ret o=true->P (.Return o p))(raise:∀e c p,H.raise e c=true->P (.Raise e c p))(o5:∀b h e f p,H.o5 b h e f=true->P (.Try b h e f p))(cont:∀p,H.cont=true->P (.Continue p))(pass:∀p,H.pass=true->P (.Pass p)):P x:=by
 revert h
 induction x using Stmt.casesOn with
 |Expr e p=>exact expr e p
 |Assign t v p=>exact asg t v p
 |AugAssign t o v p=>exact aug t o v p
 |If t a b p=>exact ite t a b p
 |While t b e p=>exact ez t b e p
 |For t i b e p=>exact nj t i b e p
 |Return o p=>exact ret o p
 |Raise e c p=>exact raise e c p
 |Try b h e f p=>exact o5 b h e f p
 |Continue p=>exact cont p
 |Pass p=>exact pass p
 |_=>exact λh=>FT h
theorem Pp{o:Option α}(h:o.isNone=true):o=none:=by induction o with | none=>rfl | some _=>exact FT h
theorem zjz{s:Stmt}{f:Expr->Bool}(h:HN s f=true):∃e p,s = .Expr e p/\f e=true:=ot (P:=λs=>∃e p,s = .Expr e p/\f e=true) h (λe p h=>⟨e,p,rfl,h⟩) (λ_ _ _ h=>FT h) (λ_ _ _ _ h=>FT h) (λ_ _ _ _ h=>FT h) (λ_ _ _ _ h=>FT h) (λ_ _ _ _ _ h=>FT h) (λ_ _ h=>FT h) (λ_ _ _ h=>FT h) (λ_ _ _ _ _ h=>FT h) (λ_ h=>FT h) (λ_ h=>FT h)
theorem z0u{s:Stmt}{f:Expr->Expr->Pos->Bool}(h:my s f=true):∃t v p,s = .Assign [t] v p/\f t v p=true:=ot (P:=λs=>∃t v p,s = .Assign [t] v p/\f t v p=true) h (λ_ _ h=>FT h) (λt v p h=>by refine au (Bl h) ?_;rintro t rfl h;exact CC t v p rfl h) (λ_ _ _ _ h=>FT h) (λ_ _ _ _ h=>FT h) (λ_ _ _ _ h=>FT h) (λ_ _ _ _ _ h=>FT h) (λ_ _ h=>FT h) (λ_ _ _ h=>FT h) (λ_ _ _ _ _ h=>FT h) (λ_ h=>FT h) (λ_ h=>FT h)
theorem zg1{s:Stmt}{f:Expr->Expr->Bool}(h:lA s f=true):∃t v p,s = .AugAssign t .Add v p/\f t v=true:=ot (P:=λs=>∃t v p,s = .AugAssign t .Add v p/\f t v=true) h (λ_ _ h=>FT h) (λ_ _ _ h=>FT h) (λt o v p h=>n2 h λh1 h2=>by rw[of_decide_eq_true h1];exact CC t v p rfl h2) (λ_ _ _ _ h=>FT h) (λ_ _ _ _ h=>FT h) (λ_ _ _ _ _ h=>FT h) (λ_ _ h=>FT h) (λ_ _ _ h=>FT h) (λ_ _ _ _ _ h=>FT h) (λ_ h=>FT h) (λ_ h=>FT h)
theorem Aj{s:Stmt}{f:Expr->List Stmt->List Stmt->Bool}(h:Jk s f=true):∃t a b p,s = .If t a b p/\f t a b=true:=ot (P:=λs=>∃t a b p,s = .If t a b p/\f t a b=true) h (λ_ _ h=>FT h) (λ_ _ _ h=>FT h) (λ_ _ _ _ h=>FT h) (λt a b p h=>⟨t,a,b,p,rfl,h⟩) (λ_ _ _ _ h=>FT h) (λ_ _ _ _ _ h=>FT h) (λ_ _ h=>FT h) (λ_ _ _ h=>FT h) (λ_ _ _ _ _ h=>FT h) (λ_ h=>FT h) (λ_ h=>FT h)
theorem zfu{s:Stmt}{f:Expr->List Stmt->Bool}(h:o4 s f=true):∃t b p,s = .While t b [] p/\f t b=true:=ot (P:=λs=>∃t b p,s = .While t b [] p/\f t b=true) h (λ_ _ h=>FT h) (λ_ _ _ h=>FT h) (λ_ _ _ _ h=>FT h) (λ_ _ _ _ h=>FT h) (λt b e p h=>n2 h λh1 h2=>by rw[jk h1];exact CC t b p rfl h2) (λ_ _ _ _ _ h=>FT h) (λ_ _ h=>FT h) (λ_ _ _ h=>FT h) (λ_ _ _ _ _ h=>FT h) (λ_ h=>FT h) (λ_ h=>FT h)
theorem z7j{s:Stmt}{f:Expr->Expr->List Stmt->Bool}(h:rV s f=true):∃t it b p,s = .For t it b [] p/\f t it b=true:=ot (P:=λs=>∃t it b p,s = .For t it b [] p/\f t it b=true) h (λ_ _ h=>FT h) (λ_ _ _ h=>FT h) (λ_ _ _ _ h=>FT h) (λ_ _ _ _ h=>FT h) (λ_ _ _ _ h=>FT h) (λt i b e p h=>n2 h λh1 h2=>by rw[jk h1];exact⟨t,i,b,p,rfl,h2⟩) (λ_ _ h=>FT h) (λ_ _ _ h=>FT h) (λ_ _ _ _ _ h=>FT h) (λ_ h=>FT h) (λ_ h=>FT h)
theorem zai{s:Stmt}{f:Option Expr->Bool}(h:uN s f=true):∃e p,s = .Return e p/\f e=true:=ot (P:=λs=>∃e p,s = .Return e p/\f e=true) h (λ_ _ h=>FT h) (λ_ _ _ h=>FT h) (λ_ _ _ _ h=>FT h) (λ_ _ _ _ h=>FT h) (λ_ _ _ _ h=>FT h) (λ_ _ _ _ _ h=>FT h) (λe p h=>⟨e,p,rfl,h⟩) (λ_ _ _ h=>FT h) (λ_ _ _ _ _ h=>FT h) (λ_ h=>FT h) (λ_ h=>FT h)
theorem zat{s:Stmt}{f:Expr->Bool}(h:Cj s f=true):∃e p,s = .Raise (some e) none p/\f e=true:=ot (P:=λs=>∃e p,s = .Raise (some e) none p/\f e=true) h (λ_ _ h=>FT h) (λ_ _ _ h=>FT h) (λ_ _ _ _ h=>FT h) (λ_ _ _ _ h=>FT h) (λ_ _ _ _ h=>FT h) (λ_ _ _ _ _ h=>FT h) (λ_ _ h=>FT h) (λe c p h=>n2 h λh1 h2=>fC (λz=>TF z) h2 λe he h=>by rw[Pp h1,he];exact uY e p rfl h) (λ_ _ _ _ _ h=>FT h) (λ_ h=>FT h) (λ_ h=>FT h)
theorem zlb{s:Stmt}{f:List Stmt->Expr->Str->Stmt->Bool}(h:rH s f=true):∃b te x st hp p,s = .Try b [.ExceptHandler (some te) (some x) [st] hp] [] [] p/\f b te x st=true:=ot (P:=λs=>∃b te x st hp p,s = .Try b [.ExceptHandler (some te) (some x) [st] hp] [] [] p/\f b te x st=true) h (λ_ _ h=>FT h) (λ_ _ _ h=>FT h) (λ_ _ _ _ h=>FT h) (λ_ _ _ _ h=>FT h) (λ_ _ _ _ h=>FT h) (λ_ _ _ _ _ h=>FT h) (λ_ _ h=>FT h) (λ_ _ _ h=>FT h) (λb hs e g p h=>n3 h λh1 h2 h3=>by
  refine au (Bl h3) ?_;rintro ⟨t,x,l,hp⟩ e1 h4
  refine fC (λz=>TF z) h4 λt ht h5=>fC (λz=>TF z) h5 λx hx h6=>?_
  refine au (Bl h6) λst e2 h7=>?_
  rw[e1,jk h1,jk h2,ht,hx,e2]
  exact⟨b,t,x,st,hp,p,rfl,h7⟩) (λ_ h=>FT h) (λ_ h=>FT h)
theorem zjn{s:Stmt}(h:Q6 s=true):∃p,s = .Continue p:=ot (P:=λs=>∃p,s = .Continue p) h (λ_ _ h=>FT h) (λ_ _ _ h=>FT h) (λ_ _ _ _ h=>FT h) (λ_ _ _ _ h=>FT h) (λ_ _ _ _ h=>FT h) (λ_ _ _ _ _ h=>FT h) (λ_ _ h=>FT h) (λ_ _ _ h=>FT h) (λ_ _ _ _ _ h=>FT h) (λp _=>⟨p,rfl⟩) (λ_ h=>FT h)
theorem zjh{s:Stmt}(h:Q1 s=true):∃p,s = .Pass p:=ot (P:=λs=>∃p,s = .Pass p) h (λ_ _ h=>FT h) (λ_ _ _ h=>FT h) (λ_ _ _ _ h=>FT h) (λ_ _ _ _ h=>FT h) (λ_ _ _ _ h=>FT h) (λ_ _ _ _ _ h=>FT h) (λ_ _ h=>FT h) (λ_ _ _ h=>FT h) (λ_ _ _ _ _ h=>FT h) (λ_ h=>FT h) (λp _=>⟨p,rfl⟩)
@[elab_as_elim]
theorem Y9{P:Stmt->Prop}{s:Stmt}{f:Expr->Bool}(h:HN s f=true)(kk:∀e p,f e=true->P (.Expr e p)):P s:=by
 refine bw (zjz h) ?_;rintro e p rfl h
 exact kk e p h
@[elab_as_elim]
theorem CB{P:Stmt->Prop}{s:Stmt}{f:Expr->Expr->Pos->Bool}(h:my s f=true)(kk:∀t v p,f t v p=true->P (.Assign [t] v p)):P s:=by
 refine dY (z0u h) ?_;rintro t v p rfl h
 exact kk t v p h
@[elab_as_elim]
theorem u7{P:Stmt->Prop}{s:Stmt}{f:Expr->Expr->Bool}(h:lA s f=true)(kk:∀t v p,f t v=true->P (.AugAssign t .Add v p)):P s:=by
 refine dY (zg1 h) ?_;rintro t v p rfl h
 exact kk t v p h
@[elab_as_elim]
theorem OI{P:Stmt->Prop}{s:Stmt}{f:Expr->List Stmt->List Stmt->Bool}(h:Jk s f=true)(kk:∀t a b p,f t a b=true->P (.If t a b p)):P s:=by
 refine lO (Aj h) ?_;rintro t a b p rfl h
 exact kk t a b p h
@[elab_as_elim]
theorem u9{P:Stmt->Prop}{s:Stmt}{f:Expr->List Stmt->Bool}(h:o4 s f=true)(kk:∀t b p,f t b=true->P (.While t b [] p)):P s:=by
 refine dY (zfu h) ?_;rintro t b p rfl h
 exact kk t b p h
@[elab_as_elim]
theorem Kn{P:Stmt->Prop}{s:Stmt}{f:Expr->Expr->List Stmt->Bool}(h:rV s f=true)(kk:∀t it b p,f t it b=true->P (.For t it b [] p)):P s:=by
 refine lO (z7j h) ?_;rintro t it b p rfl h
 exact kk t it b p h
@[elab_as_elim]
theorem QO{P:Stmt->Prop}{s:Stmt}{f:Option Expr->Bool}(h:uN s f=true)(kk:∀e p,f e=true->P (.Return e p)):P s:=by
 refine bw (zai h) ?_;rintro e p rfl h
 exact kk e p h
@[elab_as_elim]
theorem XQ{P:Stmt->Prop}{s:Stmt}{f:Expr->Bool}(h:Cj s f=true)(kk:∀e p,f e=true->P (.Raise (some e) none p)):P s:=by
 refine bw (zat h) ?_;rintro e p rfl h
 exact kk e p h
@[elab_as_elim]
theorem GV{P:Stmt->Prop}{s:Stmt}{f:List Stmt->Expr->Str->Stmt->Bool}(h:rH s f=true)(kk:∀b te x st hp p,f b te x st=true->P (.Try b [.ExceptHandler (some te) (some x) [st] hp] [] [] p)):P s:=by
 refine eQ (zlb h) λb te q9=>?_;refine lO q9 ?_;clear q9;rintro x st hp p rfl h
 exact kk b te x st hp p h
theorem zkz{m:Sem Bool}(h:tC m=true):m=pure true:=by
 induction m using Sem.casesOn with
 |pure b=>exact congrArg Sem.pure h
 |_=>exact FT h
theorem Ah{y:Expr}{t:Option Expr}{l:Nat}{sc:Scope}(h:env.scope=sc):swapsWith y t l env=swapsWith y t l (kG sc):=by
 subst h;rfl
theorem WX{ts:List Expr}{y:Expr}{sc:Scope}(h:env.scope=sc):swappedStores ts y env=swappedStores ts y (kG sc):=by
 subst h;rfl
theorem OO{y:Expr}(h:Jn y=true)(t:Option Expr)(l:Nat)(env:Env):swapsWith y t l env=pure false:=by
 induction y using Expr.casesOn with | _=>first | rfl | exact FT h
theorem zn8(y z:Expr)(s:Str)(p:Pos)(l:Nat)(env:Env):swapsWith y (some (.Attribute z s p)) l env=pure false:=by induction y using Expr.casesOn with | _=>rfl
theorem Ai(y z u:Expr)(p:Pos)(l:Nat)(env:Env):swapsWith y (some (.Subscript z u p)) l env=pure false:=by induction y using Expr.casesOn with | _=>rfl
theorem Xy(y:Expr)(es:List Expr)(k:Nat)(p:Pos)(l:Nat)(env:Env):swapsWithSole [.Tuple es k p] y l env=pure false:=by
 show swapsWith y (some (.Tuple es k p)) l env=pure false
 induction y using Expr.casesOn with | _=>rfl
theorem zid{t y:Expr}{n:En}{xs:List Nat}{b:Bool}(h:Qm t y n xs=some b):(b=false/\swappedStores [t] y (kG n.sc)=pure none)\/(b=true/\xs.Nodup/\swappedStores [t] y (kG n.sc)=pure (some (xs.map nm))):=by
 unfold Qm at h
 split at h
 ·rename_i e;obtain rfl:=w3 h;exact .inl ⟨rfl,e⟩
 ·rename_i l e
  refine oA (zg h) λh1 h2=>?_
  obtain rfl:=w3 h2
  refine n2 h1 λh3 h4=>?_
  refine .inr ⟨rfl,?_,?_⟩
  ·have key:∀{l:List Nat},Hv l=true->l.Nodup:=by
    intro l
    induction l with
    |nil=>exact λ_=>List.nodup_nil
    |cons a l ih=>
     intro h
     refine n2 h λh5 h6=>?_
     exact List.nodup_cons.mpr ⟨Jp (yr h5),ih h6⟩
   exact key h4
  ·rw[e]
   have key:∀{xs:List Nat}{l:List Str},B4 eu xs l=true->l=xs.map nm:=by
    intro xs
    induction xs with
    |nil=>intro l h;induction l using lC with
     |nil=>rfl
     |cons _ _=>exact FT h
    |cons x xs ih=>intro l h;induction l using lC with
     |nil=>exact FT h
     |cons s l=>
      refine n2 h λh5 h6=>?_
      rw[List.map_cons,zv h5,<-ih h6]
   rw[key h3];rfl
 ·exact NS h
end
section
variable{W:Ck}{G:Gl}{C CQ:Call}{q:Bool}{p:Program}{n:En}
theorem bA(w:Wd prog c W p loose mg mb)(a:At prog c A W G C q)(E:dE env L n){e:ME}{x:Expr}(h:bg W q e n (.one x)=true):SE prog c A env L x (ev G C e):=(Hd w a e n env L E).1 x h
theorem ly(w:Wd prog c W p loose mg mb)(a:At prog c A W G C q)(e:ME):Ba prog c A W G C q e:=λn env L E=>(Hd w a e n env L E).1
theorem Gm(w:Wd prog c W p loose mg mb)(a:At prog c A W G C q)(E:dE env L n){x:Nat}{e:ME}{s:Stmt}(h:d4 W q (.asg x e) n (.one s)=true):SS prog c A env L s (r_ x (ev G C e)):=by
 refine CB (show my s _=true from h) λt y pos h0=>?_
 clear h
 refine XS h0 λid ip h=>?_
 clear h0
 refine n4 h λh1 h2 h3 h4=>?_
 clear h
 obtain rfl:=zv h1
 have ir:=E.rG h2
 clear h1 h2
 rcases(Bool.or_eq_true _ _).mp h4 with h4 | h4
 ·exact(GW E.eo ir (bA w a E h3) (OO h4 _ _ _) :)
 ·refine n2 h4 λh5 h6=>?_
  clear h4
  have Iy:=(Ah E.sc).trans (zkz h6)
  clear h6
  induction e using ME.casesOn with
  |comp elt z fv it cond=>
   clear h5
   refine eQ (VS w a (ly w a elt) (ly w a it) (ly w a cond) E h3) λe' t q9=>?_;refine lO q9 ?_;clear q9;rintro ie ifs sc p2 rfl P
   exact(Xv P ir Iy :)
  |fY elt zs fv it cond=>
   clear h5
   refine eQ (VD w a (ly w a elt) (ly w a it) (ly w a cond) E h3) λe' t q9=>?_;refine lO q9 ?_;clear q9;rintro ie ifs sc p2 rfl P
   exact(Xv P ir Iy :)
  |_=>exact FT h5
theorem VZ(w:Wd prog c W p loose mg mb)(a:At prog c A W G C q)(aq:q=false->∀hv,At prog c (A.mark (some hv)) W G.quiet CQ true){fa:Addr}(hf:env.frame=some fa)(cJ:A.frames=some (env::outer))(hk:env.scope.kind = .function)(E:dE env L n):∀(m:MS),(∀s,d4 W q m n (.one s)=true->SS prog c A env L s (ex G C CQ m))/\(∀l,d4 W q m n (.many l)=true->ib prog c A env L l (ex G C CQ m)):=by
 have Z9:interactive env=false:=by unfold interactive;rw[hk];rfl
 intro m
 induction m with
 |nil=>
  refine⟨λs h=>(by exact FT h),λl h=>?_⟩
  rw[Qo (show rD (.many l)=true from h)]
  exact Qw
 |seq x y cY cU=>
  refine⟨λs h=>(by exact FT h),λl h=>?_⟩
  refine bw (Qd (show HM (.many l) _=true from h)) ?_;rintro s m rfl h
  refine n2 h λh1 h2=>?_
  exact(HB (cY.1 s h1) (cU.2 m h2) :)
 |expr e=>
  refine⟨λs h=>?_,λl h=>(by exact FT h)⟩
  refine Y9 (show HN s _=true from h) λx pos h=>?_
  refine n2 h λh1 h2=>?_
  exact Qk (bA w a E h2) Z9 (OO h1 _ _ _)
 |asg x e=>
  exact⟨λs h=>Gm w a E h,λl h=>(by exact FT h)⟩
 |aQ o at' e=>
  refine⟨λs h=>?_,λl h=>(by exact FT h)⟩
  refine CB (show my s _=true from h) λt y pos h=>?_
  refine Bj h λz id ip h=>?_
  refine n4 h λh1 h2 h3 h4=>?_
  rw[<-zv h1]
  exact Ak w.fm h2 (bA w a E h3) (bA w a E h4) (zn8 _ _ _ _ _ _)
 |d3 o i e=>
  refine⟨λs h=>?_,λl h=>(by exact FT h)⟩
  refine CB (show my s _=true from h) λt y pos h=>?_
  refine HV h λz u ip h=>?_
  refine n3 h λh1 h2 h3=>?_
  exact Al a.set (bA w a E h1) (bA w a E h2) (bA w a E h3) (Ai _ _ _ _ _ _)
 |cf xs e=>
  refine⟨λs h=>?_,λl h=>(by exact FT h)⟩
  refine CB (show my s _=true from h) λt y pos h=>?_
  refine dY (Vp h) ?_;rintro es k ip rfl h
  refine n4 h λh1 h2 h3 h4=>?_
  refine oE (wq.mp h4) λb hb=>?_
  rcases zid hb with⟨_,hs⟩ | ⟨_,nd,hs⟩
  ·exact An (a.hh (yr h1)) E.eo (E.names h2) (bA w a E h3) (Xy _ _ _ _ _ _) ((WX E.sc).trans hs)
  ·exact zlg (a.hh (yr h1)) E.eo (E.GO h2) nd (bA w a E h3) (Xy _ _ _ _ _ _) ((WX E.sc).trans hs)
 |pJ x e=>
  refine⟨λs h=>?_,λl h=>(by exact FT h)⟩
  refine u7 (show lA s _=true from h) λt y pos h=>?_
  refine y5 h λid ip h=>?_
  refine n3 h λh1 h2 h3=>?_
  rw[<-zv h1]
  exact Ap a.aug E.eo (E.rG h2) (bA w a E h3)
 |mW o at' e=>
  refine⟨λs h=>?_,λl h=>(by exact FT h)⟩
  refine u7 (show lA s _=true from h) λt y pos h=>?_
  refine Bj h λz id ip h=>?_
  refine n4 h λh1 h2 h3 h4=>?_
  rw[<-zv h1]
  exact Ao w.fm a.xa a.aug h2 (bA w a E h3) (bA w a E h4)
 |ite t x y cY cU=>
  refine⟨λs h=>?_,λl h=>(by exact FT h)⟩
  refine OI (show Jk s _=true from h) λz l m pos h=>?_
  refine n3 h λh1 h2 h3=>?_
  exact(OJ (bA w a E h1) (cY.2 l h2) (cU.2 m h3) :)
 |ez t b ih=>
  refine⟨λs h=>?_,λl h=>(by exact FT h)⟩
  refine u9 (show o4 s _=true from h) λz l pos h=>?_
  refine n2 h λh1 h2=>?_
  exact(GX hf cJ (bA w a E h1) (ih.2 l h2) :)
 |cx x it b ih=>
  refine⟨λs h=>?_,λl h=>(by exact FT h)⟩
  refine Kn (show rV s _=true from h) λt y l pos h=>?_
  refine n5 h λh1 h2 h3 h4 h5=>?_
  refine y5 h2 λid ip h2=>?_
  refine n2 h2 λh6 h7=>?_
  rw[<-zv h6]
  exact(ua (a.hh (yr h1)) hf cJ (JO E.eo (E.rG h7)) (bA w a E h4) (ih.2 l h5) (λv=>Jr h3 env v) :)
 |kJ xs it b ih=>
  refine⟨λs h=>?_,λl h=>(by exact FT h)⟩
  refine Kn (show rV s _=true from h) λt y l pos h=>?_
  refine n5 h λh1 h2 h3 h4 h5=>?_
  refine QJ h2 λes k ip h2=>?_
  exact(ua (a.hh (yr h1)) hf cJ (Qi (a.hh (yr h1)) E.eo (E.names h2)) (bA w a E h4) (ih.2 l h5) (λv=>Jr h3 env v) :)
 |forR x e b ih=>
  refine⟨λs h=>?_,λl h=>(by exact FT h)⟩
  refine Kn (show rV s _=true from h) λt y l pos h=>?_
  refine n4 h λh1 h2 h3 h4=>?_
  refine y5 h2 λid ip h2=>?_
  refine n2 h2 λh6 h7=>?_
  rw[<-zv h6]
  refine uT h3 λg as pos' h3=>?_
  refine n2 h3 λh8 h9=>?_
  refine y5 h8 λZD LO h8=>?_
  refine n2 h8 λwF Bx=>?_
  obtain rfl:=zv wF
  refine au (JP w E (pos:=LO) Bx) λwv gn hv=>?_
  match as,h9 with
  |[z],h9=>
   refine n2 h9 λwG Le=>?_
   exact(Ar (E:=jw) (f:=λy ρ=>some (zd ρ x y)) (a.hh (yr h1)) hf cJ (JO E.eo (E.rG h7)) (A3 w.X gn hv OY) (Hn (bA w a E Le) JV (P8 wG [] env)) (ih.2 l h4) :)
 |ret e=>
  refine⟨λs h=>?_,λl h=>(by exact FT h)⟩
  refine QO (show uN s _=true from h) λo pos h=>?_
  induction o with
  |none=>exact FT h
  |some x=>exact ub (bA w a E h)
 |zW=>
  refine⟨λs h=>?_,λl h=>(by exact FT h)⟩
  refine QO (show uN s _=true from h) λo pos h=>?_
  induction o with
  |none=>exact Au
  |some x=>exact FT h
 |raise e=>
  refine⟨λs h=>?_,λl h=>(by exact FT h)⟩
  refine XQ (show Cj s _=true from h) λx pos h=>?_
  refine n2 h λh1 h2=>?_
  exact zmt w.X w.Ig (a.hh (yr h1)) (bA w a E h2)
 |lB b cls x r e ih=>
  refine⟨λs h0=>?_,λl h=>(by exact FT h)⟩
  refine GV (show rH s _=true from h0) λl te id st hp pos h=>?_
  clear h0
  refine n6 h λh1 h2 h3 h4 h5 h6=>?_
  clear h
  have hq:q=false:=yr h1
  rw[<-zv h2]
  refine n2 h3 λh7 h8=>?_
  clear h1 h2 h3
  refine au (E.kindB h7) λk Rv hl=>?_
  obtain rfl:=He hl
  clear h7 hl
  refine y5 h4 λtid tp h=>?_
  clear h4
  induction cls using ME.casesOn with
  |glob y v=>
   refine n3 h λh9 Bx wG=>?_
   clear h
   obtain rfl:=zv h9
   refine au (JP w E (pos:=tp) Bx) λwv gn hv=>?_
   clear h9 Bx
   induction v using AV.casesOn with
   |con v0=>induction v0 using Value.casesOn with
    |ref C0=>
     have Zz:wv = .ref C0:=by
      have:=hv (λ_=>0) 0 c.base w.X
      cases this;rfl
     clear hv wG
     subst Zz
     induction r with
     |true=>
      refine XQ (show Cj st _=true from h5) λz p2 h5=>?_
      exact(uc (r:=true) (p:=p2) w.X w.Ig E.eo Rv (E.qU (yr h8)) hf cJ gn (λhv=>bA w (aq hq hv) E h5) (ih.2 l h6) :)
     |false=>
      refine QO (show uN st _=true from h5) λo p2 h5=>?_
      induction o with
      |none=>exact FT h5
      |some z=>exact(uc (r:=false) (p:=p2) w.X w.Ig E.eo Rv (E.qU (yr h8)) hf cJ gn (λhv=>bA w (aq hq hv) E h5) (ih.2 l h6) :)
    |_=>exact FT wG
   |_=>exact FT wG
  |_=>exact FT h
 |cont=>
  refine⟨λs h=>?_,λl h=>(by exact FT h)⟩
  refine oE (zjn (show Q6 s=true from h)) ?_;rintro pos rfl
  exact Aq
 |pass=>
  refine⟨λs h=>?_,λl h=>(by exact FT h)⟩
  refine oE (zjh (show Q1 s=true from h)) ?_;rintro pos rfl
  exact As
end
theorem OV: ∀(names:List (Str×NameKind)) (n:Nat) (acc:List (Str×Addr)),(∀p∈acc,p.2<n)->(acc.map (·.2)).Nodup->((cellsFrom n names acc).map (·.2)).Nodup
 |[],_,_,_,h=>h
 |(x,k)::r,n,acc,hl,h=>by
  unfold cellsFrom
  by_cases hk:(k==NameKind.cell)=true
  ·rw[if_pos hk]
   refine OV r (n+1) _ (λp hp=>?_) ?_
   ·rcases w8.mp hp with rfl | hp
    ·exact wb _
    ·exact Nat.lt_succ_of_lt (hl p hp)
   ·rw[List.map_cons,List.nodup_cons]
    refine⟨λhm=>?_,h⟩
    refine au (List.mem_map.mp hm) λp hp e=>?_
    exact w1 (hl p hp) (by rw[e];exact Nat.lt_irrefl _)
  ·rw[if_neg hk]
   exact OV r n acc hl h
def vW(scope:Scope):En:=⟨scope,bD scope,true⟩
theorem Dh{qual:Str}{L a:Addr}{c5:Value}(hk:scope.kind = .function):dE (envX qual scope L a c5 (cellsFrom (L+1) scope.names [])) (lG scope L) (vW scope):=
 ⟨pS hk,rfl,kz scope _,λ_=>rfl,OV _ _ _ (λ_ h=>nomatch h) List.nodup_nil⟩
def pB(c:Cx)(W:Ck)(q:Bool)(a:Addr)(f:Fn):Prop:=∃qual body scope c5,FnAt c W.K a f qual body scope c5/\d4 W q f.body (vW scope) (.many body)=true/\keepIn W.K (.ref a)=true
structure mL (prog:Program) (c:Cx) (W:Ck) (a:Addr):Prop where
 ok:c.bA a
 cl:cW W.K a
 ini:∃fX,findIn W.K (.ref a) "__init__" = some (some (.ref fX))/\typeIn W.K (.ref fX)=some (.type "function")/\∀(A:Around),A.depth+4<recursionLimit->
  ∀μ σ s l vs,HR c μ σ s.heap->cX c A μ σ.n s.heap->aH c μ σ.n s.heap l vs->WP prog c A (RV c) (call (.ref fX) vs) (dB xX kH l σ) μ σ s
structure mJ (c:Cx) (W:Ck) (a:Addr) (k:Cl):Prop where
 ok:c.ok a
 mak:makesIn W.K a=true
 i0:k.init=none->findIn W.K (.ref a) "__init__" = some (some (.builtin "object.__init__"))
 i1:∀f,k.init=some f->findIn W.K (.ref a) "__init__" = some (some (.ref f))/\typeIn W.K (.ref f)=some (.type "function")
 ms:∀m f,gV k.ms m=some f->findIn W.K (.ref a) (nm m)=some (some (.ref f))/\typeIn W.K (.ref f)=some (.type "function")/\keepIn W.K (.ref f)=true
structure Tb (prog:Program) (c:Cx) (W:Ck) (G:Gl):Prop where
 fu:G.fu<=100000/\0<G.fu
 mx:G.mx=true
 U:c.U=G.U
 P:c.P.length<=1000000
 R:c.R.length<=1000000
 lim:c.base.NoLimit
 top:∃o,c.base.get? (c.base.objs.size - 1)=some o
 fn:∀a f,G.fn.get a=some f->pB c W false a f
 fq:∀a f,G.fq.get a=some f->pB c W true a f
 runs:∀a r,G.runs.get a=some r->∃f,pB c W false a f/\∀C CQ args σ,r C CQ args σ = runF G C CQ f args σ
 Ra:∀a k,G.cl.get a=some k->keepIn W.K (.ref a)=true
 cls:∀a k,G.cl.get a=some k->k.exc=false->mJ c W a k
 exc:∀a k,G.cl.get a=some k->k.exc=true->mL prog c W a
 Dm:∀a k m f,G.cl.get a=some k->k.exc=true->gV k.ms m=some f->False
 fm:∀C,c.bA C->cW W.K C/\∀x,bB W.ns x=true->bf W.K C (nm x)
section
variable{W:Ck}{G:Gl}{C CQ:Call}{q:Bool}{p:Program}
theorem tab_of(tb:Tb prog c W G){G':Gl}(e:G'.cl=G.cl)(hk:∀a args σ,C a args σ≠.stuck->keepIn W.K (.ref a)=true):fj c W.K G' C:=by
 refine⟨hk,λa k h=>tb.Ra a k (e▸h),λa k h hx=>?_,λa k h hx hi=>?_,λa k f h hx hi=>?_,λa k m f h hm=>?_⟩
 ·have:=tb.cls a k (e▸h) hx
  exact⟨this.ok,this.mak⟩
 ·exact(tb.cls a k (e▸h) hx).i0 hi
 ·exact(tb.cls a k (e▸h) hx).i1 f hi
 ·induction hx:k.exc with
  |false=>exact(tb.cls a k (e▸h) hx).ms m f hm
  |true=>exact(tb.Dm a k m f (e▸h) hx hm).elim
theorem oq(A:Around)(a:Addr)(rest:List Value):(A.under (.builtin "type.__call__" ⟨.ref a::rest,[]⟩)).depth=A.depth+1/\(A.under (.builtin "type.__call__" ⟨.ref a::rest,[]⟩)).units=A.units+1/\(A.under (.builtin "type.__call__" ⟨.ref a::rest,[]⟩)).handled=A.handled:=⟨rfl,rfl,rfl⟩
theorem K2(w:Wd prog c W p loose mg mb)(tb:Tb prog c W G){G':Gl}(eU:G'.U=G.U)(ec:G'.cl=G.cl)(ef:G'.fu=G.fu)(hd:A.depth+6<recursionLimit)(hu:A.units+200<cLine)(hq:q=false->A.handled=none)(DO:G'.mx=true->A.handled=none)(hC:c9 prog c A C)(hk:∀a args σ,C a args σ≠.stuck->keepIn W.K (.ref a)=true):At prog c A W G' C q where
 hU:=by rw[eU];exact tb.U
 hh:=hq
 fu:=by rw[ef];exact tb.fu
 bin o op h:=xW tb.P h
 cmp o op h:=by rw[eU];exact zmn tb.U w.sys (uV hu rfl) h
 neg:=yD
 aug:=xY tb.P
 set:=yG (by rw[eU];exact tb.U)
 get:=by rw[eU];exact yA tb.U tb.P
 fx:=yH
 rev:=yF
 xa:=zhe w.X (λC h=>(tb.fm C h).1.k) λC h=>(tb.fm C h).2
 call:=hC
 tab:=tab_of tb ec hk
 exc:=x_ w.X λa k h hx=>by
  obtain⟨h1,h2,fX,h3,h4,h5⟩:=tb.exc a k (ec▸h) hx
  exact⟨h1,h2,fX,h3,h4,λrest=>h5 _ (by rw[(oq A a rest).1];exact Bp hd rfl)⟩
 bi:=EU tb.P tb.R DO
 str:=yI
 lst:=zla
 iQ:=by rw[eU];exact zmo tb.U w.sys
theorem PT(w:Wd prog c W p loose mg mb)(tb:Tb prog c W G){G':Gl}(eU:G'.U=G.U)(ec:G'.cl=G.cl)(ef:G'.fu=G.fu){a:Addr}{f:Fn}(F:pB c W q a f)(hd:A.depth+8<recursionLimit)(hu:A.units+210<cLine)(hq:q=false->A.handled=none)(DO:G'.mx=true->A.handled=none)(hC:∀e,c9 prog c (A.deeper e) C)(hk:∀a args σ,C a args σ≠.stuck->keepIn W.K (.ref a)=true)(YS:q=false->∀e hv,c9 prog c ((A.deeper e).mark (some hv)) CQ)(Zd:∀a args σ,CQ a args σ≠.stuck->keepIn W.K (.ref a)=true)(H:HR c μ σ s.heap)(sk:cX c A μ σ.n s.heap)(r:aH c μ σ.n s.heap args vs)(ns:runF G' C CQ f args σ≠.stuck):
  codeAny (model prog c.w) A (.call (.ref a) ⟨vs,[]⟩) (RR c (runF G' C CQ f args σ) μ σ s) s:=by
 refine fc F λqual body scope c5 F eH _=>?_
 refine au (id sk) λfs e1 _=>?_
 refine zlt w.X tb.lim tb.top (gN hd) F (λL=>?_) H sk r ns
 let env:=envX qual scope L a c5 (cellsFrom (L+1) scope.names [])
 have Ym:At prog c (A.deeper env) W G' C q:=K2 w tb eU ec ef (by show A.depth+1+6<_;exact Bp hd rfl) (by show A.units+3+200<_;exact eL hu rfl) hq DO (hC _) hk
 have at2:q=false->∀hv,At prog c ((A.deeper env).mark (some hv)) W G'.quiet CQ true:=λZt hv=>
  K2 w tb (G':=G'.quiet) eU ec ef (by show A.depth+1+6<_;exact Bp hd rfl) (by show A.units+3+200<_;exact eL hu rfl) (λz=>by exact TF z) (λz=>by exact FT z) (YS Zt _ hv) Zd
 exact(VZ w Ym at2 rfl (Around.frames_deeper e1) F.kind (Dh F.kind) f.body).2 body eH
theorem OX(tb:Tb prog c W G):∀(n:Nat) a args σ,y9 G n a args σ≠.stuck->keepIn W.K (.ref a)=true
 |0,a,args,σ,h=>w1 rfl h
 |n+1,a,args,σ,h=>by
  have e0:y9 G (n+1) a args σ = opt (G.fq.get a) .stuck λf=>runF G.quiet (y9 G n) oF f args σ:=rfl
  rw[e0] at h
  refine au (yt h) λf e1 _=>?_
  refine fc (tb.fq a f e1) λ_ _ _ _ _ _ hk=>?_
  exact hk
theorem XB: c9 prog c A oF:=⟨λμ σ s a args vs _ _ _ h=>w1 rfl h,λ_ _ μ σ s a args vs _ _ _ h=>w1 rfl h⟩
theorem xq(w:Wd prog c W p loose mg mb)(tb:Tb prog c W G):∀(n:Nat) (A:Around),A.depth+2 * n+8<recursionLimit->A.units+8 * n+210<cLine->HL prog c A (y9 G n)
 |0,A,_,_=>λμ σ s a args vs _ _ _ h=>w1 rfl h
 |n+1,A,hd,hu=>λμ σ s a args vs H sk r ns=>by
  have e0:y9 G (n+1) a args σ = opt (G.fq.get a) .stuck λf=>runF G.quiet (y9 G n) oF f args σ:=rfl
  rw[e0] at ns ⊢
  refine au (yt ns) λf e1 e2=>?_
  rw[e2] at ns ⊢
  exact PT (q:=true) w tb (G':=G.quiet) rfl rfl rfl (tb.fq a f e1) (CP hd rfl) (CP hu rfl) (λz=>by exact TF z) (λz=>by exact FT z)
   (λe=>⟨xq w tb n _ (by show A.depth+1+2 * n+8<_;lia) (by show A.units+3+8 * n+210<_;lia),λa rest=>xq w tb n _ (by rw[(oq _ a rest).1];show A.depth+1+1+2 * n+8<_;lia) (by rw[(oq _ a rest).2.1];show A.units+3+1+8 * n+210<_;lia)⟩)
   (OX tb n) (λz=>by exact TF z) (λa args σ z=>w1 rfl z) H sk r ns
structure cG (prog:Program) (c:Cx) (W:Ck) (O:Addr->List AV->AH->Option (Res AV)) (dm um:Nat):Prop where
 keep:∀a args σ r,O a args σ = some r->keepIn W.K (.ref a)=true
 call:∀(A:Around),A.depth+dm<recursionLimit->A.units+um<cLine->A.handled=none->∀μ σ s a args vs r,O a args σ = some r->HR c μ σ s.heap->cX c A μ σ.n s.heap->aH c μ σ.n s.heap args vs->r≠.stuck->
  codeAny (model prog c.w) A (.call (.ref a) ⟨vs,[]⟩) (RR c r μ σ s) s
theorem VL(tb:Tb prog c W G){O:Addr->List AV->AH->Option (Res AV)}{dm um:Nat}(hO:cG prog c W O dm um):∀(n:Nat) a args σ,zn G O n a args σ≠.stuck->keepIn W.K (.ref a)=true
 |0,a,args,σ,h=>w1 rfl h
 |n+1,a,args,σ,h=>by
  have e0:zn G O (n+1) a args σ = opt (O a args σ) (opt (G.runs.get a) .stuck λr=>r (zn G O n) (y9 G 3) args σ) λr=>r:=rfl
  rw[e0] at h
  induction eO:O a args σ with
  |some r=>exact hO.keep a args σ r eO
  |none=>
   rw[eO] at h
   refine au (yt (show opt (G.runs.get a) Res.stuck _≠.stuck from h)) λr e1 _=>?_
   refine au (tb.runs a r e1) λf F _=>?_
   refine fc F λ_ _ _ _ _ _ hk=>?_
   exact hk
theorem Cw(w:Wd prog c W p loose mg mb)(tb:Tb prog c W G){O:Addr->List AV->AH->Option (Res AV)}{dm um:Nat}(hO:cG prog c W O dm um):∀(n:Nat) (A:Around),A.depth+2 * n+(dm+20)<recursionLimit->A.units+8 * n+(um+300)<cLine->A.handled=none->HL prog c A (zn G O n)
 |0,A,_,_,_=>λμ σ s a args vs _ _ _ h=>w1 rfl h
 |n+1,A,hd,hu,hh=>λμ σ s a args vs H sk r ns=>by
  have e0:zn G O (n+1) a args σ = opt (O a args σ) (opt (G.runs.get a) .stuck λr=>r (zn G O n) (y9 G 3) args σ) λr=>r:=rfl
  rw[e0] at ns ⊢
  induction eO:O a args σ with
  |some r'=>
   rw[eO] at ns
   exact hO.call A (by lia) (by lia) hh μ σ s a args vs r' eO H sk r ns
  |none=>
   rw[eO] at ns
   replace ns:opt (G.runs.get a) Res.stuck (λr=>r (zn G O n) (y9 G 3) args σ)≠.stuck:=ns
   show codeAny _ _ _ (RR c (opt (G.runs.get a) Res.stuck λr=>r (zn G O n) (y9 G 3) args σ) μ σ s) s
   refine au (yt ns) λru e1 e2=>?_
   refine au (tb.runs a ru e1) λf F e3=>?_
   rw[e2,e3] at ns ⊢
   exact PT (q:=false) w tb rfl rfl rfl F (sq hd rfl) (sq hu rfl) (λ_=>hh) (λ_=>hh)
    (λe=>⟨Cw w tb hO n _ (by show A.depth+1+2 * n+(dm+20)<_;lia) (by show A.units+3+8 * n+(um+300)<_;lia) hh,λa rest=>Cw w tb hO n _ (by rw[(oq _ a rest).1];show A.depth+1+1+2 * n+(dm+20)<_;lia) (by rw[(oq _ a rest).2.1];show A.units+3+1+8 * n+(um+300)<_;lia) hh⟩)
    (VL tb hO n)
    (λ_ e hv=>⟨xq w tb 3 _ (by show A.depth+1+2 * 3+8<_;exact Kq hd rfl) (by show A.units+3+8 * 3+210<_;exact Kq hu rfl),λa rest=>xq w tb 3 _ (by rw[(oq _ a rest).1];show A.depth+1+1+2 * 3+8<_;exact fy (sq hd rfl) rfl) (by rw[(oq _ a rest).2.1];show A.units+3+1+8 * 3+210<_;exact fy (sq hu rfl) rfl)⟩)
    (OX tb 3) H sk r ns
end
noncomputable section
def WR(K:Frag)(a:Addr)(f:FuncData->List Stmt->Bool):Bool:=opt (K.lookup a) false λo=>match o.data with
 |.func fd=>(match fd.body with | .stmts b=>f fd b | _=>false)
 |_=>false
def CW(p:Arguments)(ps:List Nat):Bool:=p.posonlyargs.isEmpty&&(p.kwonlyargs.isEmpty&&(p.vararg.isNone&&(p.kwarg.isNone&&(B4 eu ps (p.args.map (·.arg))&&Hv ps))))
def KX(K:Frag)(v:Value)(ds:List AV):Bool:=ug v { none:=ds.isEmpty,ref:=λT=>QN K T λ_ m=>B4 (gB K 8) ds m }
def th(sc:Scope)(cs:List Str)(ps:List Nat):Bool:=ps.all λp=>opt (Cu sc.names (dig p)) false λk=>ak (jd k) (!lF cs (dig p)) (ak (j5 k) (lF cs (dig p)) false)
def Ij(K:Frag)(a:Addr)(ps:List Nat)(ds:List AV)(g:Str->List Stmt->Scope->Bool):Bool:=WR K a λfd b=>
 Nat.beq fd.globals mainGlobals&&(Nat.beq fd.builtins builtinsNs&&(fd.closure.isEmpty&&(CW fd.params ps&&(KX K fd.defaults ds&&(codeIn K fd.code fd.qualname&&(Nat.ble ds.length ps.length
 &&(th fd.scope (bD fd.scope) ps&&(JX (bD fd.scope)&&(!fd.scope.isCoroutine&&(!fd.scope.isGenerator&&(decide (fd.scope.kind = .function)&&(keepIn K (.ref a)&&g fd.qualname b fd.scope))))))))))))
end
theorem zil{ps:List Nat}(h:Hv ps=true):(ps.map nm).Nodup:=by
 induction ps with
 |nil=>exact List.nodup_nil
 |cons a l ih=>
  refine n2 h λh1 h2=>?_
  rw[List.map_cons,List.nodup_cons]
  refine⟨λhm=>?_,ih h2⟩
  refine au (List.mem_map.mp hm) λb hb e=>?_
  exact Jp (yr h1) (Cg e▸hb)
theorem zng{ps:List Nat}:∀{l:List Str},B4 eu ps l=true->l=ps.map nm:=by
 induction ps with
 |nil=>intro l h;induction l using lC with
  |nil=>rfl
  |cons _ _=>exact FT h
 |cons x xs ih=>intro l h;induction l using lC with
  |nil=>exact FT h
  |cons s l=>exact n2 h λh5 h6=>by rw[List.map_cons,zv h5,<-ih h6]
section
variable{W:Ck}{q:Bool}{p:Program}
theorem zod{a:Addr}{f:FuncData->List Stmt->Bool}{P:Prop}(h:WR K a f=true)(k:∀oc od nM fd b,K.lookup a=some ⟨oc,od,.func fd,nM⟩->fd.body = .stmts b->f fd b=true->P):P:=
 fC (λz=>TF z) h λo ho h=>by
  obtain⟨oc,od,d,nM⟩:=o
  induction d using Data.casesOn with
  |func fd=>
   replace h:(match fd.body with | .stmts b=>f fd b | _=>false)=true:=h
   induction e:fd.body using FuncBody.casesOn with
   |stmts b=>rw[e] at h;exact k oc od nM fd b ho e h
   |_=>rw[e] at h;exact FT h
  |_=>exact FT h
theorem wz{fd:FuncData}{b:List Stmt}(hb:fd.body = .stmts b)(h1:fd.globals=mainGlobals)(h2:fd.builtins=builtinsNs)(h3:fd.closure=[]):fd=fnX fd.name fd.qualname fd.params b fd.scope [] fd.defaults fd.kwdefaults fd.doc fd.pyModule fd.annotations fd.code fd.closureTuple:=by
 unfold fnX
 rw[<-hb,<-h1,<-h2,<-h3]
theorem zow{sc:Scope}{cs:List Str}{ps:List Nat}(h:th sc cs ps=true):∀p∈ps,(sc.names.lookup (nm p)=some .local/\nm p∉cs)\/(sc.names.lookup (nm p)=some .cell/\nm p∈cs):=λp hp=>
 fC (λz=>TF z) (w6.mp h p hp) λk ek h=>by
  rw[Pu] at ek
  exact jE h (λhl h=>.inl ⟨He hl▸ek,JG (yr h)⟩) λ_ h=>bT (λz=>TF z) h λhc h=>.inr ⟨Pd hc▸ek,JN h⟩
theorem Qc{a:Addr}{ps:List Nat}{ds:List AV}{g:Str->List Stmt->Scope->Bool}(h:Ij K a ps ds g=true)(bd:MS):
  ∃qual body scope c5,FnAt c K a ⟨ps,ds,bd⟩ qual body scope c5/\g qual body scope=true/\keepIn K (.ref a)=true:=
 zod h λoc od nM fd b ho hb h=>n8 h λh1 h2 h3 h4 h5 h6 h7 h=>n7 h λh8 h9 wF Bx wG Le YK=>n6 h4 λa1 a2 a3 a4 a5 a6=>
  ⟨fd.qualname,b,fd.scope,fd.code,⟨⟨oc,od,nM,fd.name,fd.params,fd.defaults,fd.kwdefaults,fd.doc,fd.pyModule,fd.annotations,fd.closureTuple,ho.trans (by rw[<-wz hb (za h1) (za h2) (jk h3)]),⟨jk a1,zng a5,jk a2,Pp a3,Pp a4,zil a6⟩,
   Bk (P:=λdV=>(∃T oT n arr,dV = .ref T/\K.lookup T=some oT/\oT.data = .seq arr n/\∀μ n h,K.In h->aH c μ n h ds arr.toList)\/(dV = .none/\ds=[])) h5 (λh=>.inr ⟨rfl,jk h⟩) (λ_ h=>FT h) (λ_ _ h=>FT h) (λ_ _ h=>FT h)
    λT h=>XN h λo arr n eo ed h=>.inl ⟨T,o,n,arr,rfl,eo,ed,λμ n h' X=>XP (sO X 8) h⟩⟩,
   h6,w5 h7,zow h8,Pe h9,yr wF,yr Bx,wl wG⟩,YK,Le⟩
noncomputable def zY(W:Ck)(q:Bool)(a:Addr)(f:Fn):Bool:=Ij W.K a f.ps f.ds λ_ b sc=>d4 W q f.body (vW sc) (.many b)
theorem Xk{a:Addr}{f:Fn}(h:zY W q a f=true):pB c W q a f:=by
 obtain⟨ps,ds,bd⟩:=f
 refine fc (Qc (c:=c) h bd) λqual body scope c5 h1 h2 h3=>?_
 exact lL qual body scope c5 h1 h2 h3
noncomputable def Tr.all{α:Type}(f:Nat->α->Bool):Tr α->Bool
 |.leaf=>true
 |.node k v l r=>f k v&&(Tr.all f l&&Tr.all f r)
theorem Tr.nv(x:Nat):(Tr.leaf:Tr α).get x=none:=rfl
theorem Tr.get_node(k:Nat)(v:α)(l r:Tr α)(x:Nat):(Tr.node k v l r).get x=match Nat.beq x k with | true=>some v | false=>(match Nat.blt x k with | true=>l.get x | false=>r.get x):=by
 show(Bool.rec (Bool.rec (r.get x) (l.get x) (Nat.blt x k)) (some v) (Nat.beq x k):Option α)=_
 induction Nat.beq x k with
 |true=>rfl
 |false=>cases Nat.blt x k <;> rfl
theorem Tr.cC{α:Type}{f:Nat->α->Bool}:∀{t:Tr α}{x:Nat}{v:α},t.all f=true->t.get x=some v->f x v=true
 |.leaf,x,v,_,h=>by rw[Tr.nv] at h;exact NS h
 |.node k w l r,x,v,ha,h=>by
  refine n3 ha λh1 h2 h3=>?_
  rw[Tr.get_node] at h
  induction e:Nat.beq x k with
  |true=>rw[e] at h;obtain rfl:=w3 h;rw[Nat.eq_of_beq_eq_true e];exact h1
  |false=>
   rw[e] at h
   induction e2:Nat.blt x k with
   |true=>rw[e2] at h;exact Tr.cC h2 h
   |false=>rw[e2] at h;exact Tr.cC h3 h
noncomputable def fnIn(K:Frag)(v:Value)(x:Str)(f:Addr):Bool:=findIn K v x==some (some (.ref f))&&(typeIn K (.ref f)==some (.type "function")&&keepIn K (.ref f))
noncomputable def Xb(W:Ck)(a:Addr)(k:Cl):Bool:=keepIn W.K (.ref a)&&(ak k.exc k.ms.isEmpty (makesIn W.K a&&(pP W.K a&&(W.ns.all (λx=>B5 W.K a (nm x))&&((match k.init with
 |none=>findIn W.K (.ref a) "__init__"==some (some (.builtin "object.__init__"))
 |some f=>fnIn W.K (.ref a) "__init__" f)&&k.ms.all λm=>fnIn W.K (.ref a) (nm m.1) m.2)))))
theorem zkn{l:List (Nat×Addr)}{m:Nat}{f:Addr}(h:gV l m=some f):(m,f)∈l:=by
 induction l with
 |nil=>exact NS h
 |cons p l ih=>
  change ak (Nat.beq p.1 m) (some p.2) (gV l m)=some f at h
  induction q:Nat.beq p.1 m with
  |true=>rw[q] at h;obtain rfl:=w3 h;rw[<-Nat.eq_of_beq_eq_true q];exact .head _
  |false=>rw[q] at h;exact .tail _ (ih h)
theorem PX{x:Str}{f:Addr}(h:fnIn K v x f=true):findIn K v x=some (some (.ref f))/\typeIn K (.ref f)=some (.type "function")/\keepIn K (.ref f)=true:=by
 refine n3 h λh1 h2 h3=>?_
 exact dp (by simpa using h1) (by simpa using h2) h3
theorem P7{a:Addr}{k:Cl}(eH:c.ok a)(hx:k.exc=false)(h:Xb W a k=true):mJ c W a k/\fg W.K a/\∀x,bB W.ns x=true->bf W.K a (nm x):=by
 refine n2 h λ_ h=>?_
 rw[hx] at h
 replace h:(makesIn W.K a&&(pP W.K a&&(W.ns.all (λx=>B5 W.K a (nm x))&&((match k.init with
  |none=>findIn W.K (.ref a) "__init__"==some (some (.builtin "object.__init__"))
  |some f=>fnIn W.K (.ref a) "__init__" f)&&k.ms.all λm=>fnIn W.K (.ref a) (nm m.1) m.2))))=true:=h
 refine n5 h λh1 h2 h3 h4 h5=>?_
 refine dp ⟨eH,h1,λe=>?_,λf e=>?_,λm f e=>?_⟩ (zmq h2) (λx hm=>JE (w6.mp h3 x (VW hm)))
 ·rw[e] at h4;simpa using h4
 ·rw[e] at h4
  refine c6 (PX h4) λa1 a2 _=>?_
  exact⟨a1,a2⟩
 ·exact PX (w6.mp h5 (m,f) (zkn e))
noncomputable def sH(K:Frag)(C:Addr)(f:Value->ClassData->List (Option Value)->Bool):Bool:=opt (K.lookup C) false λo=>match o.data with
 |.cls cd=>f o.cls cd o.slots.toList
 |_=>false
theorem zp4{C:Addr}{f:Value->ClassData->List (Option Value)->Bool}{P:Prop}(h:sH K C f=true)(k:∀oc od cd sl,K.lookup C=some ⟨oc,od,.cls cd,sl⟩->f oc cd sl.toList=true->P):P:=
 fC (λz=>TF z) h λo ho h=>by
  obtain⟨oc,od,d,nM⟩:=o
  induction d using Data.casesOn with
  |cls cd=>exact k oc od cd nM ho h
  |_=>exact FT h
noncomputable def VU(K:Frag)(C:Addr):Bool:=sH K C λt cd sl=>t==.type "type"&&(zf cd.mro false (λv _=>v==.ref C)&&(sl.length==6&&(sl[4]?==some (some (.builtin "Exception.__new__"))&&!cd.hasDel)))
theorem zpm{cd:ClassData}{C:Addr}{bm:List Value}(hm:cd.mro = .ref C::bm)(hd:cd.hasDel=false):cd = { name:=cd.name,bases:=cd.bases,mro:=.ref C::bm,ns:=cd.ns,qualname:=cd.qualname,hasDict:=cd.hasDict,slotNames:=cd.slotNames,subclasses:=cd.subclasses,abstract:=cd.abstract,collection:=cd.collection }:=by
 rw[<-hm]
 obtain⟨⟩:=cd
 dsimp only at hd
 rw[hd]
theorem six{sl:Array α}{x:α}(h:sl.toList.length=6)(h4:sl.toList[4]? = some x):∃k0 k1 k2 k3 k5,sl = #[k0,k1,k2,k3,x,k5]:=by
 obtain⟨l⟩:=sl
 match l,h,h4 with
 |[k0,k1,k2,k3,k4,k5],_,h4=>rw[Option.some.inj (show some k4=some x from h4)];exact⟨k0,k1,k2,k3,k5,rfl⟩
theorem VF{C:Addr}(h:VU K C=true):∃nn q N bs bm du sn sub ab col dd k0 k1 k2 k3 k5,K.lookup C=some (excClassObj nn q C N bs bm du sn sub ab col dd k0 k1 k2 k3 k5 "Exception.__new__"):=
 zp4 h λoc od cd sl ho h=>n5 h λh1 h2 h3 h4 h5=>by
  obtain⟨bm,hm⟩:∃bm,cd.mro = .ref C::bm:=by
   revert h2
   induction cd.mro using lC with
   |nil=>exact λh=>FT h
   |cons v bm=>exact λh=>⟨bm,by rw[eq_of_beq h]⟩
  refine eQ (six (eq_of_beq h3) (eq_of_beq h4)) λk0 k1 q9=>?_;refine EF q9 ?_;clear q9;rintro k2 k3 k5 rfl
  rw[eq_of_beq h1,zpm hm (yr h5)] at ho
  exact⟨_,_,_,_,_,_,_,_,_,_,_,_,_,_,_,_,ho⟩
noncomputable def Aa(sc:Scope)(ps:List Nat)(g:Str):Bool:=(ps.all λx=>opt (Cu sc.names (dig x)) false jd&&(!lF (bD sc) (dig x)&&d8 x))&&opt (sc.names.lookup g) false Qj
theorem WW{sc:Scope}{ps:List Nat}{g:Str}(hk:sc.kind = .function)(h:Aa sc ps g=true):CL sc ps g:=
 n2 h λh1 h2=>⟨hk,λx hx=>n3 (w6.mp h1 x hx) λh3 h4 h5=>fC (λz=>TF z) h3 λk e h=>⟨by rw[<-He h,<-e,Pu],JG (yr h4),h5⟩,fC (λz=>TF z) h2 λk e h=>V_ h▸e⟩
noncomputable def Q5(b:List Stmt)(m:Nat)(f:Str->Bool):Bool:=l2 b λs1 s2=>(HN s1 λe=>Cy e λg as p4=>(uR g λy i p1=>eu uD i&&((p1.endLine==p4.line)&&ju y f))&&l2 as λa1 a2=>ju a1 (eu zk)&&ju a2 (eu z6))
 &&(my s2 λt v _=>(uR t λz m7 _=>eu m m7&&ju z (eu zk))&&ju v (eu m))
end
theorem Ww{b:List Stmt}{m:Nat}{f:Str->Bool}(h:Q5 b m f=true):∃x p0 p1 p2 p3 p4 p5 p6 p7 p8 p9,b=[.Expr (.Call (.Attribute (.Name x p0) (nm uD) p1) [.Name (nm zk) p2,.Name (nm z6) p3] [] p4) p5,.Assign [.Attribute (.Name (nm zk) p6) (nm m) p7] (.Name (nm m) p8) p9]/\(p1.endLine==p4.line)=true/\f x=true:=by
 refine bw (Km h) ?_;rintro s1 s2 rfl h0
 refine n2 h0 λh1 h2=>?_
 refine Y9 h1 λe p5 q1=>?_
 refine uT q1 λg as p4 q2=>?_
 refine n2 q2 λq3 h3=>?_
 refine Bj q3 λy i p1 q4=>?_
 refine n3 q4 λh4 h5 q5=>?_
 refine y5 q5 λx p0 q6=>?_
 refine bw (Km h3) ?_;rintro a1 a2 rfl q7
 refine n2 q7 λh6 h7=>?_
 refine y5 h6 λz1 p2 g1=>?_
 refine y5 h7 λz2 p3 g2=>?_
 refine CB h2 λt v p9 g3=>?_
 refine n2 g3 λg4 h8=>?_
 refine Bj g4 λz m7 p7 g5=>?_
 refine n2 g5 λh9 g6=>?_
 refine y5 g6 λz3 p6 g7=>?_
 refine y5 h8 λz4 p8 g8=>?_
 exact⟨x,p0,p1,p2,p3,p4,p5,p6,p7,p8,p9,by rw[<-zv h4,<-zv g1,<-zv g2,<-zv h9,<-zv g7,<-zv g8],h5,q6⟩
noncomputable section
def AM(o:Option CFound)(v:Value):Bool:=opt o false λ| .val w=>w==v | _=>false
def mB(W:Ck)(aM fM:Addr):Bool:=specialIn W.K (.ref aM) "__getattribute__"==some (some (.builtin "type.__getattribute__"))&&(readsIn W.K aM (.type "type")&&(AM (findCls W.K (.ref aM) (.type "type") (nm uD)) (.ref fM)
 &&(nsIn W.K mainGlobals "Exception"==some none&&(AM (findCls W.K (.type "Exception") (.type "type") (nm uD)) (.builtin "Exception.__init__")
 &&Ij W.K fM [zk,z6] [] λ_ b sc=>Q5 b z6 λx=>(x==("Exception":Str))&&Aa sc [zk,z6] x))))
def Hp(W:Ck)(aM:Addr)(a fX:Addr):Bool:=Qr W.K a&&(VU W.K a&&((W.ns.all λx=>B5 W.K a (nm x))&&(B5 W.K a (nm z6)&&(B5 W.K a (nm zq)&&(subIn W.K (.ref a) (.type "BaseException")==some true
 &&(typeIn W.K (.ref a)==some (.type "type")&&(exmOne W.K (.ref a) (.ref a)==some true&&(fnIn W.K (.ref a) "__init__" fX
 &&Ij W.K fX [zk,z6,zq] [.int 0 0] λ_ b sc=>Q5 b zq λx=>!(x==("__debug__":Str))&&(nsIn W.K mainGlobals x==some (some (.ref aM))&&Aa sc [zk,z6,zq] x)))))))))
end
theorem WT{o:Option CFound}(h:AM o v=true):o=some (.val v):=
 fC (λz=>TF z) h λw e h=>by
  induction w using CFound.casesOn with
  |val w=>rw[e,eq_of_beq h]
  |_=>exact FT h
section
variable{W:Ck}{p:Program}
theorem Pk{aM a fX:Addr}(h:Hp W aM a fX=true):cW W.K a/\(∀x,bB W.ns x=true->bf W.K a (nm x))/\bf W.K a (nm z6)/\bf W.K a (nm zq)/\d_ W.K a:=by
 refine n8 h λh1 h2 h3 h4 h5 h6 h7 a7=>?_
 refine n2 a7 λh8 a8=>?_
 exact⟨⟨WI h1,VF h2⟩,λx hx=>JE (w6.mp h3 x (VW hx)),JE h4,JE h5,⟨by simpa using h6,by simpa using h7,by simpa using h8⟩⟩
theorem zj9{aM fM a fX:Addr}(X:W.K.In c.base)(T:TopRead p loose mg mb c.base)(eG:c.base.NoLimit)(dK:∃o,c.base.get? (c.base.objs.size - 1)=some o)(eH:c.bA a)(N:∀C,c.bA C->cW W.K C/\bf W.K C (nm z6)/\bf W.K C (nm zq))(hM:mB W aM fM=true)(h:Hp W aM a fX=true):mL prog c W a:=by
 refine n6 hM λm1 m2 m3 m4 m5 m6=>?_
 refine fc (Qc (c:=c) m6 .nil) λqM bM scM cdM FM gM kM=>?_
 refine eC (Ww gM) λxM p0 p1 p2 q9=>?_;refine eC q9 λp3 p4 p5 p6 q9=>?_;refine ou q9 ?_;clear q9;rintro p7 p8 p9 rfl lM gM
 refine n2 gM λYE YF=>?_
 obtain rfl:xM=("Exception":Str):=by simpa using YE
 have SM:=WW FM.kind YF
 refine n8 h λh1 h2 h3 h4 h5 h6 h7 a7=>?_
 refine n3 a7 λh8 h9 wF=>?_
 refine c6 (PX h9) λi1 i2 _=>?_
 refine fc (Qc (c:=c) wF .nil) λqX bX scX cdX FX gX kX=>?_
 refine eC (Ww gX) λx r0 r1 r2 q9=>?_;refine eC q9 λr3 r4 r5 r6 q9=>?_;refine ou q9 ?_;clear q9;rintro r7 r8 r9 rfl lX gX
 refine n3 gX λYG YH YI=>?_
 have SX:=WW FX.kind YI
 refine⟨eH,⟨WI h1,VF h2⟩,fX,i1,i2,λA hd μ σ s l vs H sk r=>?_⟩
 exact vM (A:=A) (aM:=aM) (fM:=fM) (mc:=.type "type") X eG dK T FX SX (by simpa using YH) (yr YG) lX (by simpa using m1) m2 (WT m3) kM (λC hC=>(N C hC).1) (λC hC=>(N C hC).2.2) (gN hd)
  (λA' Lf=>call_M (A:=A') X eG dK T FM SM (by simpa using m4) lM (WT m5) (λC hC=>(N C hC).1) (λC hC=>(N C hC).2.1) Lf) (λe=>by show A.depth+1<_;exact uV hd rfl) μ σ s l vs H sk r
end
noncomputable def q8:Nat:=nat_lit 1701080931
noncomputable def qa:Nat:=nat_lit 126879364178290
def qb:ME:=.loc q8
noncomputable def qc:Nat:=nat_lit 2
noncomputable def qd:MS:=.seq (.ret .cF) .nil
noncomputable def qe:Nat:=nat_lit 3
noncomputable def qf:MS:=.seq (.ret .cT) .nil
def qg:Nat:=nat_lit 1852270963
noncomputable def qh:ME:=.loc qg
noncomputable def qk:Nat:=nat_lit 6
noncomputable def ql:Nat:=nat_lit 0
noncomputable def qm:Nat:=nat_lit 32
def qn:Nat:=nat_lit 9
def qo:Nat:=nat_lit 10
noncomputable def qp:ME:=.cmp qh qk (.glob (nat_lit 35729053668061506140134002771) (.str ql [qm,qn,qo,nat_lit 13]))
noncomputable def qr:Nat:=nat_lit 1
noncomputable def qt:ME:=.cS []
def qu:ME:=.cons qh .nil
def qv:ME:=.call (.glob (nat_lit 6582895) (.bi qr)) qu
def qw:ME:=.cI (.ofNat qm)
noncomputable def qx:Nat:=nat_lit 49
def qy:ME:=.glob (nat_lit 35713366077147123828345762665) (.con (.ref qx))
def qz:AV:=.int ql (.ofNat (nat_lit 55295))
def Sj:AV:=.int ql (.ofNat (nat_lit 65533))
def Sk:AV:=.int ql (.ofNat (nat_lit 65536))
noncomputable def Sl:Int:=.ofNat (nat_lit 1114111)
noncomputable def aV:Nat:=nat_lit 97
def tD:ME:=.cS [aV]
def Sm:ME:=.ig tD qe qh qe (.cS [nat_lit 122])
def Sn:ME:=.cmp qv qc (.glob (nat_lit 21139651595484431163893893446) (.int ql (.ofNat (nat_lit 128))))
def q_:Nat:=nat_lit 70
def cV:Nat:=nat_lit 65
def So:ME:=.ig (.cS [cV]) qe qh qe (.cS [nat_lit 90])
def nP:Nat:=nat_lit 58
def N7:Nat:=nat_lit 895
noncomputable def g0:Nat:=nat_lit 77
def Sp:ME:=.glob (nat_lit 9225865958501560719742594937705) (.con (.ref g0))
def Fs:Nat:=nat_lit 48
def Sq:ME:=.ig (.cS [Fs]) qe qh qe (.cS [nat_lit 57])
def fO:Nat:=nat_lit 45
noncomputable def Sr:AV:=.int ql (.ofNat (nat_lit 183))
noncomputable def dy:Nat:=nat_lit 1954047348
noncomputable def gx:Nat:=nat_lit 431349919590
noncomputable def fP:Nat:=nat_lit 474214786402
noncomputable def fw:ME:=.lst .nil
def g9:ME:=.cI (.ofNat ql)
def IJ:ME:=.cons g9 .nil
noncomputable def iz:Nat:=nat_lit 435459026032
def iA:ME:=.glob (nat_lit 7234924) (.bi ql)
def eT:ME:=.loc dy
def oJ:ME:=.cons eT .nil
def IK:ME:=.call iA oJ
def dN:ME:=.cI (.ofNat qr)
def rf:ME:=.loc iz
noncomputable def Ft:Nat:=nat_lit 56
def Ss:ME:=.glob (nat_lit 7305790156124943209) (.con (.ref Ft))
def jF:Nat:=nat_lit 4
def jG:ME:=.loc fP
def fQ:ME:=.loc gx
def fD:Nat:=nat_lit 110425311047777
def oK:MS:=.seq (.ret fQ) .nil
def tE:ME:=.cS [qm]
def BH:Nat:=nat_lit 1852403562
noncomputable def fR:Nat:=nat_lit 119
noncomputable def bI:Nat:=nat_lit 1718379891
noncomputable def fE:Nat:=nat_lit 1684957547
def yY:Nat:=nat_lit 32481099966802019
noncomputable def rg:Nat:=nat_lit 1701080941
noncomputable def eJ:Nat:=nat_lit 435761734006
def aO:ME:=.loc bI
def rh:ME:=.loc fE
noncomputable def Fu:Nat:=nat_lit 5
def IL:ME:=.glob (nat_lit 435611006324) (.bi Fu)
def yZ:ME:=.loc rg
def lY:ME:=.loc eJ
def N8:MS:=.aQ aO eJ lY
def l9:Nat:=nat_lit 67
noncomputable def dX:Nat:=nat_lit 68
def bt:Nat:=nat_lit 84
def N9:ME:=.cS [l9,dX,cV,bt,cV]
noncomputable def BI:ME:=.cons lY .nil
noncomputable def oP:Nat:=nat_lit 1701606770
def jH:ME:=.loc oP
def hJ:Nat:=nat_lit 102
def bj:Nat:=nat_lit 105
noncomputable def ey:Nat:=nat_lit 120
noncomputable def aD:Nat:=nat_lit 101
def cg:Nat:=nat_lit 100
def Fv:ME:=.cS [hJ,bj,ey,aD,cg]
noncomputable def bH:Nat:=nat_lit 115
def aP:Nat:=nat_lit 110
def bk:Nat:=nat_lit 111
def aK:Nat:=nat_lit 116
def cZ:Nat:=nat_lit 104
def oQ:Nat:=nat_lit 118
def dg:Nat:=nat_lit 108
def dO:Nat:=nat_lit 117
def tF:ME:=.attr jH fE
noncomputable def oR:MS:=.seq (.ret .cN) .nil
def c_:Nat:=nat_lit 109
def cD:Nat:=nat_lit 114
def Su:ME:=.cS [aD,aP,dO,c_,aD,cD,aV,aK,bj,bk,aP]
def Sv:ME:=.cS [aP,bk,aK,aV,aK,bj,bk,aP]
noncomputable def Sw:ME:=.glob (nat_lit 7381223263494631287) (.con (.ref (nat_lit 188)))
noncomputable def Sx:ME:=.loc (nat_lit 495606460279)
noncomputable def lZ:Nat:=nat_lit 1685221239
def gb:ME:=.loc lZ
def tG:ME:=.cons gb .nil
noncomputable def BJ:Nat:=nat_lit 107
def Fw:Nat:=nat_lit 7308338789785498473
noncomputable def gy:Nat:=nat_lit 29793
def Sy:MS:=.seq (.aQ aO gy g9) .nil
def Na:ME:=.attr aO fP
def Fx:ME:=.loc gy
def Fy:Nat:=nat_lit 28542640894207341
noncomputable def rj:ME:=.glob (nat_lit 8389209266537657412) (.con (.ref (nat_lit 284)))
def Fz:Nat:=nat_lit 7381223203347197040
def BK:Nat:=nat_lit 8386088934781051238
def lg:ME:=.attr aO gy
def FA:ME:=.cons lg .nil
def gW:List Nat:=[bI]
def rk:ME:=.attr aO dy
def Nb:ME:=.call iA (.cons rk .nil)
def tH:Nat:=nat_lit 495723704172
def Nc:ME:=.call iA tG
def fS:Nat:=nat_lit 495622775156
noncomputable def fT:Nat:=nat_lit 500035838310
def dG:Nat:=nat_lit 112
def cK:Nat:=nat_lit 99
def Sz:MS:=.seq (.raise (.af aO fT (.cons (.bin ql (.cS [aD,ey,dG,aD,cK,aK,aD,cg,qm]) gb) .nil))) .nil
def Nd:MS:=.asg fP lg
def IM:ME:=.cmp lg qc Nb
def Nf:ME:=.cons (.idx rk lg) .nil
def SD:MS:=.seq (.mW aO gy dN) .nil
def BL:Nat:=nat_lit 126879296221299
def SG:MS:=.seq (.raise (.af aO fT (.cons (.cS [aD,ey,dG,aD,cK,aK,aD,cg,qm,aV,qm,aP,aV,c_,aD]) .nil))) .nil
def SI:MS:=.seq (.ret (.fx rk jG lg)) .nil
noncomputable def Ng:Nat:=nat_lit 8035896067036867220062736445292
def Nh:Nat:=nat_lit 474147942260
noncomputable def y_:Nat:=nat_lit 6581861
def Ni:Nat:=nat_lit 1684957542
def tI:ME:=.loc y_
noncomputable def zA:Nat:=nat_lit 435745158513
noncomputable def tJ:Nat:=nat_lit 34
def IP:ME:=.cS [tJ]
noncomputable def gz:Nat:=nat_lit 39
def SJ:ME:=.cons (.cS [gz]) .nil
def zB:ME:=.loc zA
def Nj:Nat:=nat_lit 465625706101
def tK:Nat:=nat_lit 32199706694087529
def oV:Nat:=nat_lit 103
def dT:Nat:=nat_lit 98
def Nk:Nat:=nat_lit 327
def zC:Nat:=nat_lit 127970252453989
noncomputable def SK:Nat:=nat_lit 139505261519354159117460846
noncomputable def c0:Nat:=nat_lit 1701667182
def Nl:Nat:=nat_lit 110386907936113
def FC:ME:=.cons qt .nil
def Nm:ME:=.cmp zB qr qt
def SO:ME:=.or (.cons (.cmp qh ql IP) (.cons (.cmp qh ql (.cS [gz])) .nil))
def SR:MS:=.seq (.asg zA qh) .nil
def dA:Nat:=nat_lit 62
noncomputable def nQ:ME:=.cons jG .nil
noncomputable def iB:Nat:=nat_lit 32199672317698931
noncomputable def FD:Nat:=nat_lit 1802658157
def zD:Nat:=nat_lit 63
def cv:ME:=.loc iB
def IQ:ME:=.loc FD
def Nn:ME:=.cons IQ .nil
def Np:MS:=.seq (.ret qt) .nil
noncomputable def Nq:Nat:=nat_lit 2128683894076490277232
def Nr:ME:=.attr aO qg
def nR:Nat:=nat_lit 44
noncomputable def zE:Nat:=nat_lit 124
def tL:Nat:=nat_lit 113
noncomputable def SU:Nat:=nat_lit 7955443211016889715
def SW:Nat:=nat_lit 7308325599891841392
noncomputable def SY:Nat:=nat_lit 126926843769447
def IS:ME:=.attr cv gy
def S_:ME:=.cons (.call (.glob (nat_lit 483006575175) (.con (.ref (nat_lit 471)))) (.cons IS .nil)) .nil
def tM:MS:=.expr (.af cv BL .nil)
def BM:ME:=.loc SY
noncomputable def d9:Nat:=nat_lit 60
noncomputable def jI:Nat:=nat_lit 40
def FE:ME:=.cons (.cS [jI]) .nil
def iC:Nat:=nat_lit 121
noncomputable def Nt:MS:=.seq .cont .nil
def Nu:MS:=.asg c0 (.af cv c0 .nil)
def BN:ME:=.neg dN
def T1:ME:=.attr (.idx BM BN) Nq
def IT:ME:=.cS [aP,aV,c_,aD]
def bK:ME:=.loc c0
def BO:ME:=.cons cv .nil
def T4:ME:=.cons (.call (.glob (nat_lit 1982043604936460166514) (.con (.ref (nat_lit 440)))) BO) .nil
def FF:Nat:=nat_lit 7368560
def Nv:ME:=.cons fQ .nil
def Nw:ME:=.cons (.cS [zE]) .nil
noncomputable def lh:Nat:=nat_lit 41
def T5:ME:=.cons (.cS [lh]) .nil
def T7:MS:=.expr (.af cv zC T5)
noncomputable def Ny:Nat:=nat_lit 495622906222
noncomputable def hV:ME:=.iQ .nil
def BP:ME:=.loc Ny
noncomputable def T8:ME:=.cons (.cS [nat_lit 42]) .nil
def T9:ME:=.cS [c_,bj,ey,aD,cg]
def c7:Nat:=nat_lit 69
def l_:Nat:=nat_lit 80
def hY:Nat:=nat_lit 89
def Ta:ME:=.cS [aD,c_,dG,aK,iC]
def Tc:ME:=.tup (.cons Ta .nil)
def d5:Nat:=nat_lit 78
def iD:Nat:=nat_lit 35
def Td:ME:=.cS [cK,cZ,bj,dg,cg,cD,aD,aP]
noncomputable def Te:ME:=.glob (nat_lit 478959290927382175769970) (.con (.ref (nat_lit 510)))
noncomputable def IU:ME:=.glob (nat_lit 540220857603255058068548) (.con (.ref (nat_lit 421)))
noncomputable def zF:Nat:=nat_lit 109304441107824
noncomputable def rn:Nat:=nat_lit 120282512849267
def FG:MS:=.aQ aO c0 bK
def FH:ME:=.loc zF
def BQ:ME:=.loc rn
noncomputable def nS:Nat:=nat_lit 1953460082
def FI:ME:=.loc nS
def Tf:Nat:=nat_lit 8319395793566264421
noncomputable def nU:Nat:=nat_lit 544943658403139570398305
noncomputable def Nz:Nat:=nat_lit 2129333263491757535086
noncomputable def zG:Nat:=nat_lit 465557548909
def NA:ME:=.attr aO Tf
def NB:ME:=.bin ql (.cS [aK,cZ,aD,qm,aD,dg,aD,c_,aD,aP,aK,qm]) bK
def Tg:ME:=.cS [qm,bj,bH,qm,cg,aD,cK,dg,aV,cD,aD,cg,qm,aK,fR,bj,cK,aD]
def m8:ME:=.cons rf .nil
def BR:ME:=.loc zG
noncomputable def gA:Nat:=nat_lit 32772479204551781
noncomputable def nV:Nat:=nat_lit 495622845810
def NC:ME:=.attr aO nU
def FJ:Nat:=nat_lit 7628135
def jJ:ME:=.loc gA
def m9:ME:=.cons jJ .nil
def tN:ME:=.loc nV
def jK:Nat:=nat_lit 8
def ma:Nat:=nat_lit 7
def nW:ME:=.cons bK .nil
noncomputable def Th:Nat:=nat_lit 7956987046770876830295421444462
def cL:Nat:=nat_lit 73
noncomputable def ND:Nat:=nat_lit 604545536547335093237286292771005796
noncomputable def NF:Nat:=nat_lit 34523319001288803923857100880840937923940
noncomputable def Ti:Nat:=nat_lit 146793563361274154532684578494110459236
def Tj:Nat:=nat_lit 28549237878776937
noncomputable def IV:Nat:=nat_lit 126943821785444
def NG:List Nat:=[IV,nat_lit 495773510003]
def zH:ME:=.loc IV
def IW:Nat:=nat_lit 125779768604014
noncomputable def NH:ME:=.loc (nat_lit 495773510003)
def Tn:ME:=.call iA (.cons zH .nil)
noncomputable def lj:Nat:=nat_lit 1684828020
def fU:ME:=.loc lj
noncomputable def To:ME:=.glob (nat_lit 599475169993356805734446670598662519) (.con (.ref (nat_lit 646)))
def Tp:ME:=.glob (nat_lit 7497827) (.bi qc)
def IX:ME:=.cons fU .nil
noncomputable def FK:ME:=.glob (nat_lit 140747575933925759975848275) (.con (.ref (nat_lit 240)))
def Tq:ME:=.call Tp (.cons qb .nil)
def rp:Nat:=nat_lit 38
def zI:Nat:=nat_lit 126943822178668
def Ts:MS:=.aQ aO zI (.loc zI)
def IY:Nat:=nat_lit 1702521203
noncomputable def NI:Nat:=nat_lit 2037277037
def zJ:ME:=.loc NI
noncomputable def IZ:Nat:=nat_lit 1871941859643659349869
noncomputable def Tt:ME:=.glob (nat_lit 549795218491880453794124) (.con (.ref (nat_lit 264)))
def I_:ME:=.attr aO (nat_lit 1852141679)
noncomputable def J0:ME:=.glob (nat_lit 140747575933926940907695685) (.con (.ref (nat_lit 252)))
noncomputable def J1:Nat:=nat_lit 493274035520859444309869
noncomputable def NJ:Nat:=nat_lit 435777791340
def ll:Nat:=nat_lit 59
def Tu:ME:=.glob (nat_lit 7889261) (.bi qe)
def Tv:ME:=.cS [aV,qm,cD,aD,hJ,aD,cD,aD,aP,cK,aD,qm,aK,cZ,aV,aK,qm,bj,bH,qm,aP,bk,aP,aD]
noncomputable def NK:Nat:=nat_lit 7239026
noncomputable def FL:Nat:=nat_lit 1870285927043859637618
noncomputable def me:Nat:=nat_lit 114849429287527
def tO:ME:=.loc me
noncomputable def oW:Nat:=nat_lit 1937207154
noncomputable def FN:ME:=.cons .cN .nil
def tP:ME:=.attr aO oW
def NL:ME:=.idx tP BN
def NM:ME:=.attr aO me
def Tw:MS:=.seq (.expr (.af NM NJ .nil)) .nil
def NN:ME:=.call iA (.cons tP .nil)
noncomputable def Tx:ME:=.loc (nat_lit 1701995880)
noncomputable def FO:Nat:=nat_lit 7368564
noncomputable def mf:Nat:=nat_lit 435610083700
def tQ:ME:=.loc mf
def Tz:ME:=.ite (.cmp tO jK .cN) (.call (.glob (nat_lit 114849429287495) (.con (.ref (nat_lit 711)))) (.cons (.attr tQ zI) .nil)) tO
noncomputable def FP:Nat:=nat_lit 7823730
noncomputable def J2:Nat:=nat_lit 461228831859
def J3:ME:=.loc FP
def TA:ME:=.cons tQ (.cons tO .nil)
def J4:ME:=.cons fw .nil
def TB:MS:=.cf [J2,gx] (.tup (.cons (.call (.glob (nat_lit 461228831827) (.con (.ref (nat_lit 795)))) (.cons J3 (.cons (.call (.glob (nat_lit 540404744368885400040039) (.con (.ref (nat_lit 806)))) TA) .nil))) J4))
noncomputable def NO:Nat:=nat_lit 29113321536775536
def zK:ME:=.loc J2
def J5:MS:=.asg NO (.af zK FO .nil)
def tR:ME:=.loc NO
def TC:ME:=.not (.af tR tK .nil)
def TH:ME:=.idx (.attr tR dy) (.attr tR gy)
def TJ:ME:=.cons tQ (.cons zK .nil)
def TK:MS:=.seq (.ret (.af qt BH Nv)) .nil
def NP:ME:=.cmp (.fx gb .no dN) ql (.cS [iD])
def TL:ME:=.cons (.attr zK fP) .nil
def TM:ME:=.call (.glob (nat_lit 28832903356049507) (.con (.ref (nat_lit 659)))) (.cons (.fx gb dN .no) TL)
noncomputable def TN:ME:=.glob (nat_lit 474107725441211574874736) (.con (.ref (nat_lit 666)))
def NQ:Nat:=nat_lit 121398852089200
def TO:Nat:=nat_lit 28538242730059122
def TP:MS:=.seq (.ret eT) .nil
def oX:Nat:=nat_lit 37
noncomputable def BS:ME:=.cS [oX]
noncomputable def NR:Nat:=nat_lit 2110239404018478768496
def J6:Nat:=nat_lit 126879296481648
noncomputable def J7:Nat:=nat_lit 1952867692
noncomputable def NT:ME:=.glob (nat_lit 8392569318908719183) (.con (.ref (nat_lit 862)))
def zL:ME:=.loc J7
def NU:ME:=.cmp zL qr fw
def TQ:MS:=.asg iB (.attr (.idx zL BN) iB)
def TR:Nat:=nat_lit 110386891156579
def TS:MS:=.asg TR (.af zL FF .nil)
def TU:ME:=.cmp (.attr (.loc TR) c0) qn .cN
def TV:MS:=.expr (.af (.loc J6) fD (.cons tE .nil))
def NV:ME:=.attr cv dy
noncomputable def TX:ME:=.glob (nat_lit 110386806616175) (.con (.ref (nat_lit 881)))
noncomputable def lp:Nat:=nat_lit 6583396
def nX:ME:=.loc lp
def J8:ME:=.attr aO mf
def TY:ME:=.cons J8 (.cons NM .nil)
def TZ:Nat:=nat_lit 7308901700765574514
def dP:Nat:=nat_lit 33
noncomputable def T_:Nat:=nat_lit 146793563361271670531309315887573591410
def T':ME:=.attr (.loc fT) Fy
def FQ:Nat:=nat_lit 474450194027
def gC:Nat:=nat_lit 76
def U0:List Nat:=[d9,dP,c7,gC,c7,g0,c7,d5,bt]
def lq:Nat:=nat_lit 83
def U1:List Nat:=[d9,dP,cV,bt,bt,gC,cL,lq,bt]
def U2:List Nat:=[d9,dP,c7,d5,bt,cL,bt,hY]
noncomputable def mh:Nat:=nat_lit 79
noncomputable def lu:Nat:=nat_lit 491328007785
noncomputable def U3:Nat:=nat_lit 9063402015715061414002240155241
def cO:ME:=.loc lu
noncomputable def mi:MS:=.expr (.af cO SK .nil)
noncomputable def U4:Nat:=nat_lit 36033721956451838805495866738
noncomputable def U5:Nat:=nat_lit 599171888897044489877558084927317362
def FU:ME:=.cons cO .nil
noncomputable def U6:Nat:=nat_lit 146829763983265364705371506
noncomputable def U7:Nat:=nat_lit 8749578199462542207997100254578
def FV:Nat:=nat_lit 500153084262
def FW:Nat:=nat_lit 1953718636
def FY:ME:=.af cO c0 .nil
def J9:MS:=.asg c0 FY
def BU:ME:=.attr aO lp
def NW:ME:=.cmp (.af cO BL .nil) jF g9
noncomputable def U8:Nat:=nat_lit 36031379441385492746644579698
noncomputable def U9:ME:=.glob (nat_lit 8035610628427862744424934306881) (.con (.ref (nat_lit 165)))
def zM:Nat:=nat_lit 82
def Ja:Nat:=nat_lit 85
def Jb:ME:=.cS [cD,aD,tL,dO,bj,cD,aD,cg]
def Ua:ME:=.cS [bj,c_,dG,dg,bj,aD,cg]
noncomputable def Ub:ME:=.glob (nat_lit 474108085735761806258030) (.con (.ref (nat_lit 181)))
def NX:Nat:=nat_lit 30506441441044844
def Jc:Nat:=nat_lit 1684104562
def NY:ME:=.attr cO gy
def NZ:ME:=.attr (.loc fT) iz
noncomputable def N_:Nat:=nat_lit 35403942292929286290477642601
def BV:ME:=.loc N_
def Uc:ME:=.or (.cons (.af cO tH (.cons IP .nil)) (.cons (.af cO tH SJ) .nil))
def O1:Nat:=nat_lit 28554735403623780
noncomputable def Ud:ME:=.glob (nat_lit 540221291934520390542706) (.con (.ref (nat_lit 1000)))
def Ue:ME:=.cons cO (.cons .cF .nil)
def O4:Nat:=nat_lit 7234315311538794101
def Ug:ME:=.cons cO (.cons .cT .nil)
noncomputable def Jd:Nat:=nat_lit 133507968131447482421834601
def Uh:MS:=.expr (.af cO BL .nil)
noncomputable def Ui:ME:=.glob (nat_lit 35713347096453467881519277426) (.con (.ref (nat_lit 986)))
def Uj:AV:=.str ql [cL,dX,zM,c7,q_,lq]
def O5:ME:=.cons (.af cO Nl .nil) .nil
noncomputable def zN:Nat:=nat_lit 431130765409
def rq:ME:=.loc zN
noncomputable def Uk:Nat:=nat_lit 2110239420476976755561
noncomputable def Ul:ME:=.glob (nat_lit 6583364) (.con (.ref (nat_lit 628)))
def BW:Nat:=nat_lit 7957695015159099246
noncomputable def Um:Nat:=nat_lit 8243122740700083049
noncomputable def Un:Nat:=nat_lit 121371670593793641018258281
def Je:Nat:=nat_lit 491328402799
def Uo:Nat:=nat_lit 30506441440650599
noncomputable def Up:Nat:=nat_lit 545182384934027678343536
def O7:ME:=.attr aO Up
def zO:ME:=.loc oW
noncomputable def Uq:Nat:=nat_lit 133540892405349
def FZ:ME:=.loc Uq
def Ur:Nat:=nat_lit 28832903391110516
noncomputable def zP:Nat:=nat_lit 6910581
def zQ:Nat:=nat_lit 465490374508
noncomputable def F_:Nat:=nat_lit 128017497219440
def Us:List Nat:=[bI,fE,c0,zP,zQ,eJ,F_]
def rA:ME:=.loc zP
def zR:ME:=.loc F_
def nY:Nat:=nat_lit 7954890092460992611
noncomputable def BX:Nat:=nat_lit 544942427809977285304686
noncomputable def Ut:ME:=.cons rh (.cons bK (.cons rA (.cons (.loc zQ) (.cons lY (.cons zR .nil)))))
noncomputable def mj:Nat:=nat_lit 1701080942
def tS:List Nat:=[bI,mj]
def oY:ME:=.loc mj
noncomputable def O8:ME:=.glob (nat_lit 2147637572233656103508) (.con (.ref (nat_lit 296)))
def O9:ME:=.idx tP oY
def Jf:Nat:=nat_lit 33618059247183214
def rB:Nat:=nat_lit 7827314
def Uu:List Nat:=[aD,dg,aD,c_,aD,aP,aK]
def mm:ME:=.cons oY .nil
def Oa:MS:=.seq (.ret oY) .nil
noncomputable def Uv:Nat:=nat_lit 1852486297175617463393
def G0:ME:=.cS Uu
noncomputable def Jg:Nat:=nat_lit 132394084823664
noncomputable def Uw:Nat:=nat_lit 144388465020807718105345125
def Ux:ME:=.attr (.loc rB) BX
def zS:ME:=.loc Jg
def BY:ME:=.af aO rB mm
def Ob:ME:=.glob (nat_lit 1953720684) (.bi qk)
def Uy:Nat:=nat_lit 8390047167833138542
noncomputable def Uz:Nat:=nat_lit 140756726392389995333968993
noncomputable def UA:Nat:=nat_lit 8032801226751244132555468072033
noncomputable def mn:Nat:=nat_lit 1701147252
def fF:ME:=.loc mn
noncomputable def UB:ME:=.af fF nY (.cons FI .nil)
noncomputable def oZ:Nat:=nat_lit 1871512873130370823265
def zT:ME:=.loc oZ
def G3:ME:=.cons zT .nil
def UC:ME:=.call Sw (.cons (.glob (nat_lit 322565048292684474765143) Uj) (.cons (.af fF eJ G3) .nil))
noncomputable def UD:ME:=.loc (nat_lit 495874892144)
def UE:ME:=.cons fF (.cons FI .nil)
def Oc:ME:=.call (.glob (nat_lit 9147272411096850662063168315767) (.con (.ref (nat_lit 1664)))) UE
def Od:ME:=.cons nX .nil
def UG:ME:=.cons fF (.cons jJ Od)
def UH:MS:=.seq (.expr (.af fQ fD (.cons (.tup (.cons zT nW)) .nil))) .nil
def Oe:ME:=.cons fF (.cons FI Od)
def mq:ME:=.attr aO mn
def UI:ME:=.cS [qm,bj,bH,qm,aP,bk,aK,qm,cg,aD,cK,dg,aV,cD,aD,cg]
def UJ:Nat:=nat_lit 32772479322582883
def Of:ME:=.idx BR g9
def UK:MS:=.seq (.ret fw) .nil
noncomputable def G4:Nat:=nat_lit 431315576931
def G5:ME:=.cons (.loc G4) .nil
noncomputable def UL:ME:=.loc (nat_lit 6647407)
def G6:Nat:=nat_lit 435710945396
noncomputable def Jh:Nat:=nat_lit 1870282279968085729646
def UM:ME:=.cons (.loc Jh) .nil
def UN:ME:=.cS [ey,c_,dg,aP,bH]
def UO:Nat:=nat_lit 7234314139196417380
def UP:Nat:=nat_lit 29113321653494124
def UQ:ME:=.cS [aK,cZ,aD,qm,aV,aK,aK,cD,bj,dT,dO,aK,aD,qm]
def UR:ME:=.af BU oP (.cons jJ nW)
def US:ME:=.attr aO (nat_lit 474147938676)
def UT:Nat:=nat_lit 32199659248511075
def BZ:ME:=.loc FO
def Og:Nat:=nat_lit 121381873218146
def UW:ME:=.af (.loc Og) FJ (.cons zT J4)
def G7:Nat:=nat_lit 128026154263411
def G8:ME:=.loc BJ
noncomputable def UX:ME:=.loc (nat_lit 1819043171)
noncomputable def Oh:ME:=.loc (nat_lit 499850244711)
noncomputable def UY:ME:=.cI (.ofNat (nat_lit 2147483629))
noncomputable def UZ:ME:=.cI (.ofNat (nat_lit 2147483647))
noncomputable def U_:ME:=.glob (nat_lit 7630441) (.bi jK)
noncomputable def o_:Nat:=nat_lit 111477796466547
def eV:ME:=.loc o_
def Oi:ME:=.idx eV g9
def Oj:ME:=.idx eV dN
def Ol:Nat:=nat_lit 126888071227508
noncomputable def Om:ME:=.glob (nat_lit 1870858745032837524575) (.con (.ref (nat_lit 1777)))
noncomputable def V0:ME:=.loc (nat_lit 1701670771)
def G9:Nat:=nat_lit 1852994932
noncomputable def hZ:ME:=.glob (nat_lit 7308901701084343391) (.con (.ref (nat_lit 1784)))
def Oo:ME:=.cS [d9,dP,c7,gC,c7,g0,c7,d5,bt,qm]
noncomputable def B_:ME:=.loc (nat_lit 7364967)
def V1:ME:=.cons (.cS [ey,dA]) .nil
def V2:ME:=.cS [nR,aD,lh,lh,dA]
def V3:ME:=.bin ql rq (.loc (nat_lit 1701998445))
def Oq:ME:=.call iA (.cons rq .nil)
def B':ME:=.cons eV .nil
def V4:ME:=.call (.glob (nat_lit 488440920196018971176031) (.con (.ref (nat_lit 1805)))) B'
noncomputable def Ga:ME:=.glob (nat_lit 478792262542605903031391) (.con (.ref (nat_lit 1791)))
def V5:ME:=.bin ql rq (.cS [d9,dP,c7,d5,bt,cL,bt,hY,qm,oX,qm,fR,qm,tJ])
def V6:ME:=.cS [dT,zD,nR,qm]
noncomputable def Ot:Nat:=nat_lit 6649188
def Ou:ME:=.cons (.loc Ot) .nil
def Ov:ME:=.cI (.ofNat d9)
def Ow:Nat:=nat_lit 126879296220272
noncomputable def D2:Cl:=⟨[],none,true⟩
def zbp:Fn:=⟨[q8,qa],[],.seq (.kJ [nat_lit 7827308,nat_lit 1751607656] (.loc qa) (.seq (.ite (.cmp qb qc (.loc (nat_lit 7827308))) qd .nil) (.seq (.ite (.cmp qb qe (.loc (nat_lit 1751607656))) qf .nil) .nil))) qd⟩
def zic:Fn:=⟨[qg],[],.seq (.ret (.and (.cons qp (.cons (.cmp qh qr qt) .nil)))) .nil⟩
def zl5:Fn:=⟨[qg],[],.seq (.asg q8 qv) (.seq (.ite (.cmp qb qc qw) (.seq (.ret qp) .nil) .nil) (.seq (.ret (.call qy (.cons qb (.cons (.glob (nat_lit 100668001673040238198474819) (.tup [.tup [.int ql (.ofNat qm),qz],.tup [.int ql (.ofNat (nat_lit 57344)),Sj],.tup [Sk,.int ql Sl]])) .nil)))) .nil))⟩
def z8i:Fn:=⟨[qg],[],.seq (.ret Sm) .nil⟩
def za2:Fn:=⟨[qg],[],.seq (.ite Sn (.seq (.ret (.or (.cons (.call (.glob (nat_lit 593979591732665245919125124115559273) (.con (.ref q_))) qu) (.cons So (.cons (.cmp qh ql (.cS [nat_lit 95])) (.cons (.cmp qh ql (.cS [nP])) .nil)))))) .nil) .nil) (.seq (.ret (.call qy (.cons qv (.cons
 (.glob (nat_lit 25771008428298300987684246611) (.tup [.tup [.int ql (.ofNat (nat_lit 192)),.int ql (.ofNat (nat_lit 214))],.tup [.int ql (.ofNat (nat_lit 216)),.int ql (.ofNat (nat_lit 246))],.tup [.int ql (.ofNat (nat_lit 248)),.int ql (.ofNat (nat_lit 767))],.tup [.int ql (.ofNat (nat_lit 880)),
 .int ql (.ofNat (nat_lit 893))],.tup [.int ql (.ofNat N7),.int ql (.ofNat (nat_lit 8191))],.tup [.int ql (.ofNat (nat_lit 8204)),.int ql (.ofNat (nat_lit 8205))],.tup [.int ql (.ofNat (nat_lit 8304)),.int ql (.ofNat (nat_lit 8591))],.tup [.int ql (.ofNat (nat_lit 11264)),.int ql (.ofNat (nat_lit
 12271))],.tup [.int ql (.ofNat (nat_lit 12289)),qz],.tup [.int ql (.ofNat (nat_lit 63744)),.int ql (.ofNat (nat_lit 64975))],.tup [.int ql (.ofNat (nat_lit 65008)),Sj],.tup [Sk,.int ql (.ofNat (nat_lit 983039))]])) .nil)))) .nil)⟩
def zbr:Fn:=⟨[qg],[],.seq (.ite (.call Sp qu) qf .nil) (.seq (.ite Sn (.seq (.ret (.or (.cons Sq (.cons (.cmp qh ql (.cS [fO])) (.cons (.cmp qh ql (.cS [nat_lit 46])) .nil))))) .nil) .nil) (.seq (.ret (.call qy (.cons qv (.cons (.glob (nat_lit 100668001673040237981486925) (.tup [.tup
 [Sr,Sr],.tup [.int ql (.ofNat (nat_lit 768)),.int ql (.ofNat (nat_lit 879))],.tup [.int ql (.ofNat (nat_lit 8255)),.int ql (.ofNat (nat_lit 8256))]])) .nil)))) .nil))⟩
def zcm:Fn:=⟨[dy],[],.seq (.cf [gx,fP] (.tup (.cons fw IJ))) (.seq (.forR iz (.bin ql IK dN) (.seq (.ite (.or (.cons (.cmp rf ql IK) (.cons (.call Ss (.cons (.idx eT rf) .nil)) .nil))) (.seq (.ite (.cmp rf jF jG) (.seq (.expr (.af fQ fD (.cons (.fx eT jG rf) .nil))) .nil) .nil) (.seq (.asg fP (.bin ql rf dN)) .nil)) .nil) .nil)) oK)⟩
def zgf:Fn:=⟨[dy],[],.seq (.ret (.af tE BH (.cons (.call (.glob (nat_lit 140733243907283301278249075) (.con (.ref fR))) oJ) .nil))) .nil⟩
def z1n:Fn:=⟨[bI,fE,yY,rg,eJ],[],.seq (.aQ aO fE rh) (.seq (.aQ aO yY (.call IL (.cons (.loc yY) .nil))) (.seq (.aQ aO rg yZ) (.seq N8 .nil)))⟩
noncomputable def za5:Cl:=⟨[],some (nat_lit 148),false⟩
def zei:Fn:=⟨[fE,eJ],[],.seq (.ite (.cmp rh ql N9) (.seq (.ret lY) .nil) .nil) (.seq (.ret (.af tE BH (.cons (.call (.glob (nat_lit 139500816864787097958050914) (.con (.ref (nat_lit 174)))) BI) .nil))) .nil)⟩
def Dn:Fn:=⟨[oP,eJ],[],.seq (.ite (.and (.cons (.cmp (.attr jH rg) ql Fv) (.cons (.cmp lY qr (.attr jH eJ)) .nil))) (.seq (.ret (.bin ql (.cS [bj,bH,qm,aP,bk,aK,qm,aK,cZ,aD,qm,hJ,bj,ey,aD,cg,qm,oQ,aV,dg,dO,aD,qm]) (.attr jH eJ))) .nil) .nil) (.seq (.ite (.cmp tF ql
 N9) oR .nil) (.seq (.ite (.cmp tF qk (.tup (.cons Su (.cons Sv .nil)))) (.seq (.ret (.ite (.cmp lY qk (.attr jH yY)) .cN (.bin ql (.cS [bj,bH,qm,aP,bk,aP,aD,qm,bk,hJ,qm]) (.af tE BH (.cons (.attr jH yY) .nil))))) .nil) .nil) (.seq (.asg (nat_lit 495606460279) (.call Sw
 (.cons tF BI))) (.seq (.ite (.cmp Sx ql fw) (.seq (.ret (.cS [cZ,aV,bH,qm,aP,bk,qm,fR,bk,cD,cg])) .nil) .nil) (.seq (.cx lZ Sx (.seq (.ite (.not (.call (.glob (nat_lit 28273320740746089) (.con (.ref (nat_lit 195)))) (.cons tF tG))) (.seq (.ret (.bin ql (.bin ql (.bin ql (.cS
 [cZ,aV,bH,qm,aV,qm,fR,bk,cD,cg,qm,aK,cZ,aV,aK,qm,bj,bH,qm,aP,bk,aP,aD,qm,bk,hJ,qm,BJ,bj,aP,cg,qm]) tF) (.cS [nP,qm])) gb)) .nil) .nil) .nil)) oR)))))⟩
def z2w:Fn:=⟨[bI,dy,fP,Fw],[.int ql (.ofNat ql),.bool true],.seq (.aQ aO dy eT) (.seq (.aQ aO fP jG) (.seq (.aQ aO Fw (.loc Fw)) Sy))⟩
def jl:Fn:=⟨[bI,gy],[],.seq (.ret (.ite (.attr aO Fw) (.bin ql Na Fx) Na)) .nil⟩
def jr:Fn:=⟨[bI,Fy,gy],[],.seq (.ret (.call rj (.cons (.loc Fy) (.cons (.af aO Fz (.cons Fx .nil)) .nil)))) .nil⟩
def z5i:Fn:=⟨[bI,Fy],[],.seq (.ret (.af aO BK (.cons (.loc Fy) FA))) .nil⟩
def z3r:Fn:=⟨gW,[],.seq (.ret (.cmp lg Fu Nb)) .nil⟩
def z5m:Fn:=⟨[bI,lZ],[],.seq (.ret (.af rk (nat_lit 493273536200833593603187) (.cons gb FA))) .nil⟩
def z5o:Fn:=⟨[bI,lZ],[],.seq (.ite (.not (.af aO tH tG)) qd .nil) (.seq (.mW aO gy Nc) qf)⟩
def z52:Fn:=⟨[bI,lZ],[],.seq (.ite (.not (.af aO fS tG)) Sz .nil) .nil⟩
def z4z:Fn:=⟨gW,[],.seq Nd (.seq (.ez (.and (.cons IM (.cons (.call Ss Nf) .nil))) SD) (.seq (.ret (.bin qr lg jG)) .nil))⟩
def z1r:Fn:=⟨gW,[],.seq (.ite (.cmp (.af aO BL .nil) ql g9) (.seq (.raise (.af aO fT (.cons (.cS [aD,ey,dG,aD,cK,aK,aD,cg,qm,aV,qm,bH,dG,aV,cK,aD]) .nil))) .nil) .nil) .nil⟩
def z18:Fn:=⟨gW,[],.seq (.ret (.and (.cons IM (.cons (.call Sp Nf) .nil)))) .nil⟩
def z5h:Fn:=⟨gW,[],.seq Nd (.seq (.ez (.and (.cons IM (.cons (.call (.glob (nat_lit 35399049883351859276401308521) (.con (.ref bt))) Nf) .nil))) SD) (.seq (.ite (.cmp lg ql jG) SG .nil) SI))⟩
def z63:Fn:=⟨gW,[],.seq (.ite (.not (.af aO Ng .nil)) SG .nil) (.seq (.ret (.af aO Nh .nil)) .nil)⟩
def z5j:Fn:=⟨[bI,lZ],[],.seq (.asg y_ (.af rk Ni (.cons gb FA))) (.seq (.ite (.cmp tI qc g9) Sz .nil) (.seq (.asg gx (.fx rk lg tI)) (.seq (.aQ aO gy (.bin ql tI Nc)) oK)))⟩
def z4x:Fn:=⟨gW,[],.seq (.cx zA (.tup (.cons IP SJ)) (.seq (.ite (.af aO fS (.cons zB .nil)) (.seq (.ret (.af aO Nj (.cons zB .nil))) .nil) .nil) .nil)) (.seq (.raise (.af aO fT (.cons (.cS [aD,ey,dG,aD,cK,aK,aD,cg,qm,aV,qm,dg,bj,aK,aD,cD,aV,dg]) .nil))) .nil)⟩
def z7s:Fn:=⟨gW,[],.seq (.expr (.af aO BL .nil)) (.seq (.ite (.not (.af aO tK .nil)) (.seq (.raise (.af aO fT (.cons (.cS [bH,bk,c_,aD,aK,cZ,bj,aP,oV,qm,bH,aK,aV,aP,cg,bH,qm,dT,aD,cZ,bj,aP,cg,qm,aV,qm,cg,aD,cK,dg,aV,cD,aV,aK,bj,bk,aP]) .nil))) .nil) .nil) .nil)⟩
def zef:Cl:=⟨[(Fz,nat_lit 320),(BK,Nk),(fT,nat_lit 334),(tK,nat_lit 341),(tH,nat_lit 348),(fS,nat_lit 355),(zC,nat_lit 362),(BL,nat_lit 369),(SK,nat_lit 376),(Ng,nat_lit 383),(Nh,nat_lit 390),(c0,nat_lit 397),(Nj,nat_lit 404),(Nl,nat_lit 411),(y_,nat_lit 418)],some (nat_lit 313),false⟩
def z8p:Fn:=⟨[dy,fP],[],.seq (.cf [gy,zA] (.tup (.cons jG FC))) (.seq (.ez (.cmp Fx qc IK) (.seq (.asg qg (.idx eT Fx)) (.seq (.ite Nm (.seq (.ite (.cmp qh ql zB) (.seq (.asg zA qt) .nil) .nil) .nil) (.seq (.ite SO SR (.seq (.ite (.cmp qh ql (.cS [dA])) (.seq (.ret
 (.bin ql Fx dN)) .nil) .nil) .nil)) .nil)) (.seq (.pJ gy dN) .nil)))) (.seq (.raise (.call rj (.cons (.cS [aV,qm,cg,aD,cK,dg,aV,cD,aV,aK,bj,bk,aP,qm,cZ,aV,bH,qm,aP,bk,qm,aD,aP,cg]) nQ))) .nil))⟩
def zhd:Fn:=⟨[iB],[],.seq (.cx FD (.glob (nat_lit 357745967437) (.tup [.str ql [zD],.str ql [nat_lit 42],.str ql [nat_lit 43]])) (.seq (.ite (.af cv fS Nn) (.seq (.ret IQ) .nil) .nil) .nil)) Np⟩
def z7r:Fn:=⟨[bI,iz],[],.seq (.aQ aO iz rf) (.seq (.aQ aO Nq fw) (.seq (.aQ aO qg qt) .nil))⟩
def z7q:Fn:=⟨[bI,iB,qg],[],.seq (.ite (.cmp Nr ql qt) (.seq (.aQ aO qg qh) .nil) (.seq (.ite (.cmp Nr qr qh) (.seq (.raise (.af cv fT (.cons (.cS [aV,qm,oV,cD,bk,dO,dG,qm,fR,bj,aK,cZ,qm,dT,bk,aK,cZ,qm,nR,qm,aV,aP,cg,qm,zE]) .nil))) .nil) .nil) .nil)) .nil⟩
def z7n:Fn:=⟨[bI,FD],[],.seq (.asg fE (.ite (.cmp Nr ql (.cS [zE])) (.cS [cK,cZ,bk,bj,cK,aD]) (.cS [bH,aD,tL]))) (.seq (.ret (.tup (.cons rh (.cons (.call IL (.cons (.attr aO Nq) .nil)) Nn)))) .nil)⟩
def vK:Cl:=⟨[(SU,nat_lit 461),(SW,nat_lit 468)],some (nat_lit 454),false⟩
def zel:Fn:=⟨[iB],[],.seq (.asg SY (.lst S_)) (.seq (.ez .cT (.seq tM (.seq (.ite (.and (.cons (.cmp (.call iA (.cons BM .nil)) ql (.glob (nat_lit 1480730996835001519949) (.int ql (.ofNat d9)))) (.cons (.af cv tH FE) .nil))) (.seq (.raise (.af cv fT (.cons (.cS [aK,bk,bk,
 qm,c_,aV,aP,iC,qm,oV,cD,bk,dO,dG,bH,qm,fR,bj,aK,cZ,bj,aP,qm,bk,aP,aD,qm,aV,aP,bk,aK,cZ,aD,cD]) .nil))) .nil) .nil) (.seq (.ite (.af cv fS FE) (.seq (.expr (.af BM fD S_)) Nt) .nil) (.seq Nu (.seq (.expr (.af T1 fD (.cons (.tup (.cons IT (.cons bK T4)))
 .nil))) (.seq (.ez (.not (.call (.glob (nat_lit 31084703186775911) (.con (.ref (nat_lit 489)))) (.cons cv (.cons (.idx BM BN) .nil)))) (.seq (.asg gx (.af (.af BM FF .nil) SW T4)) (.seq (.ite (.cmp BM ql fw) oK .nil) (.seq (.expr (.af T1 fD Nv)) .nil)))) .nil))))))) .nil)⟩
def zkx:Fn:=⟨[iB,nat_lit 483006575207],[],.seq tM (.seq (.cx qg (.tup (.cons (.cS [nR]) Nw)) (.seq (.ite (.af cv fS qu) (.seq (.expr (.af (.loc (nat_lit 483006575207)) SU (.cons cv qu))) qf) .nil) .nil)) (.seq T7 qd))⟩
def zey:Fn:=⟨[iB],[],.seq (.asg Ny hV) (.seq tM (.seq (.ez (.af cv fS Nw) (.seq tM (.seq Nu (.seq (.ite (.cmp bK qk BP) (.seq (.raise (.af cv fT (.cons (.cS [aV,qm,aP,aV,c_,aD,qm,bH,aK,aV,aP,cg,bH,qm,aK,fR,bj,cK,aD,qm,bj,aP,qm,aV,qm,oV,cD,bk,dO,dG,
 qm,fR,bj,aK,cZ,qm,aK,aD,ey,aK]) .nil))) .nil) .nil) (.seq (.d3 BP bK .cT) (.seq tM .nil)))))) (.seq T7 (.seq (.ite (.and (.cons (.not (.af cv fS T8)) (.cons (.cmp BP qr hV) .nil))) (.seq (.raise (.af cv fT (.cons (.cS [aD,ey,dG,aD,cK,aK,aD,cg,qm,nat_lit 42])
 .nil))) .nil) .nil) (.seq (.ret (.tup (.cons T9 (.cons (.call IL (.cons BP .nil)) .nil)))) .nil)))))⟩
def zgo:Fn:=⟨[iB],[],.seq (.ite (.af cv fS (.cons (.cS [c7,g0,l_,bt,hY]) .nil)) (.seq (.ret Tc) .nil) .nil) (.seq (.ite (.af cv fS (.cons (.cS [cV,d5,hY]) .nil)) (.seq (.ret (.tup (.cons (.cS [aV,aP,iC]) .nil))) .nil) .nil) (.seq (.expr (.af cv zC FE)) (.seq tM
 (.seq (.ite (.af cv fS (.cons (.glob (nat_lit 71830128051024) (.str ql [iD,l_,l9,dX,cV,bt,cV])) .nil)) (.seq (.ret (.call (.glob (nat_lit 474108446024822765479282) (.con (.ref (nat_lit 496)))) BO)) .nil) .nil) (.seq (.ret (.tup (.cons Td (.cons (.call (.glob (nat_lit
 531071345732769240147314) (.con (.ref (nat_lit 482)))) BO) .nil)))) .nil)))))⟩
def zen:Fn:=⟨[iB],[],.seq tM (.seq (.asg gx (.call (.glob (nat_lit 1833537132346011116914) (.con (.ref (nat_lit 503)))) BO)) (.seq (.expr (.af cv y_ .nil)) oK))⟩
def zed:Fn:=⟨[dy],[],.seq (.ret (.call Te (.cons (.call IU oJ) .nil))) .nil⟩
def z4w:Fn:=⟨[bI,c0,zF,rn],[],.seq FG (.seq (.aQ aO zF FH) (.seq (.aQ aO rn BQ) .nil))⟩
noncomputable def zj6:Cl:=⟨[],some (nat_lit 531),false⟩
def z9l:Fn:=⟨[bI,nS],[],.seq (.aQ aO nS FI) (.seq (.aQ aO Tf hV) (.seq (.aQ aO nU hV) (.seq (.aQ aO Nz hV) .nil)))⟩
def z30:Fn:=⟨[bI,c0,zG,iz],[],.seq (.ite (.cmp bK qk NA) (.seq (.raise (.call rj (.cons (.bin ql NB Tg) m8))) .nil) .nil) (.seq (.d3 NA bK BR) .nil)⟩
def z25:Fn:=⟨[bI,gA,c0,oP],[],.seq (.asg nV (.af NC FJ m9)) (.seq (.ite (.cmp tN jK .cN) (.seq (.asg nV hV) (.seq (.d3 NC jJ tN) .nil)) .nil) (.seq (.ite (.cmp bK ma tN) (.seq (.d3 tN bK jH) .nil) .nil) .nil))⟩
def z2e:Fn:=⟨[bI,c0,zF,rn,iz],[],.seq (.ite (.cmp bK qk (.attr aO Nz)) (.seq (.raise (.call rj (.cons (.bin ql (.bin ql (.cS [aK,cZ,aD,qm,aP,bk,aK,aV,aK,bj,bk,aP,qm]) bK) Tg) m8))) .nil) .nil) (.seq (.d3 (.attr aO Nz) bK (.call (.glob (nat_lit 7957695015159099214) (.con (.ref (nat_lit 534)))) (.cons bK (.cons FH (.cons BQ .nil))))) .nil)⟩
def zdy:Fn:=⟨[bI,c0],[],.seq (.ret (.af NA FJ nW)) .nil⟩
def zd1:Fn:=⟨[bI,gA],[],.seq (.ret (.af NC FJ (.cons jJ (.cons hV .nil)))) .nil⟩
def zev:Fn:=⟨[bI,gA,c0],[],.seq (.ret (.af (.af aO nV m9) FJ nW)) .nil⟩
def z4r:Fn:=⟨[bI,gA,fE],[],.seq (.asg nV (.af aO nV m9)) (.seq (.ret (.comp bK c0 [fE,nV] tN (.cmp (.attr (.idx tN bK) fE) ql rh))) .nil)⟩
def zab:Fn:=⟨[bI,gA],[],.seq (.asg Ny (.af aO Th (.cons jJ (.cons (.cS [cL,dX]) .nil)))) (.seq (.ret (.ite (.cmp BP qr fw) (.idx BP g9) .cN)) .nil)⟩
def KN:Cl:=⟨[(ND,nat_lit 559),(NF,nat_lit 566),(Ti,nat_lit 573),(zG,nat_lit 580),(nV,nat_lit 587),(oP,nat_lit 594),(Th,nat_lit 599),(Tj,nat_lit 606)],some (nat_lit 552),false⟩
def z80:Fn:=⟨NG,[],.seq (.ite (.cmp zH ql qt) oR .nil) (.seq (.asg IW g9) (.seq (.cx (nat_lit 499984591204) zH (.seq (.asg eJ (.af NH Ni (.cons (.loc (nat_lit 499984591204)) .nil))) (.seq (.ite (.cmp lY qc g9) oR .nil) (.seq (.asg IW (.bin ql (.bin qc (.loc IW) (.call iA (.cons NH .nil))) lY)) .nil)))) (.seq (.ret (.loc IW)) .nil)))⟩
def z8g:Fn:=⟨[IV],[],.seq (.asg fP g9) (.seq (.ez (.and (.cons (.cmp jG qc (.bin qr Tn dN)) (.cons (.cmp (.idx zH jG) ql (.cS [Fs])) .nil))) (.seq (.pJ fP dN) .nil)) (.seq (.ret (.fx zH jG .no)) .nil))⟩
def zl9:Fn:=⟨[lj],[],.seq (.ite (.cmp (.fx fU .no dN) ql (.cS [ey])) (.seq (.cf NG (.tup (.cons (.call To (.cons (.fx fU dN .no) .nil)) (.cons (.glob (nat_lit 393511224850018276492616) (.str ql [Fs,qx,nat_lit 50,nat_lit 51,nat_lit 52,nat_lit 53,nat_lit 54,nat_lit 55,Ft,nat_lit 57,
 aV,dT,cK,cg,aD,hJ])) .nil)))) (.seq (.asg IV (.af qt BH (.cons (.comp (.ite (.ig (.cS [cV]) qe qh qe (.cS [q_])) (.call Tp (.cons (.bin ql qv qw) .nil)) qh) qg [] zH .cT) .nil))) .nil)) (.seq (.cf NG (.tup (.cons (.call To IX) (.cons (.glob (nat_lit 91621471766852) (.str ql
 [Fs,qx,nat_lit 50,nat_lit 51,nat_lit 52,nat_lit 53,nat_lit 54,nat_lit 55,Ft,nat_lit 57])) .nil)))) .nil)) (.seq (.ite (.cmp Tn jF (.glob (nat_lit 100738873561604678715920205) (.int ql (.ofNat (nat_lit 12))))) oR .nil) (.seq (.ret (.call (.glob (nat_lit 599475249206959987933907593699549558)
 (.con (.ref (nat_lit 639)))) (.cons zH (.cons NH .nil)))) .nil))⟩
def zkv:Fn:=⟨[lj,iz],[.int ql (.ofNat ql)],.seq (.asg q8 (.call (.glob (nat_lit 28832903138144099) (.con (.ref (nat_lit 651)))) IX)) (.seq (.ite (.cmp qb jK .cN) (.seq (.raise (.call FK (.cons (.bin ql (.cS [aV,qm,cD,aD,hJ,aD,cD,aD,aP,cK,aD,qm,aK,bk,qm,aV,qm,bH,bj,oV,aP,
 qm,aK,cZ,aV,aK,qm,bj,bH,qm,aP,bk,qm,aP,dO,c_,dT,aD,cD,nP,qm]) fU) m8))) .nil) .nil) (.seq (.ite (.or (.cons (.cmp qb jF (.cI Sl)) (.cons (.not (.call (.glob (nat_lit 32195248316707689) (.con (.ref zD))) (.cons Tq .nil))) .nil))) (.seq (.raise (.call FK (.cons (.bin ql (.cS
 [aV,qm,cD,aD,hJ,aD,cD,aD,aP,cK,aD,qm,aK,bk,qm,fR,cZ,aV,aK,qm,bj,bH,qm,aP,bk,qm,bH,bj,oV,aP,qm,bk,hJ,qm,aV,qm,cg,bk,cK,dO,c_,aD,aP,aK,nP,qm]) fU) m8))) .nil) .nil) (.seq (.ret Tq) .nil)))⟩
def zeq:Fn:=⟨[c0],[],.seq (.ite (.cmp bK ql (.cS [dg,aK])) (.seq (.ret (.cS [d9])) .nil) .nil) (.seq (.ite (.cmp bK ql (.cS [oV,aK])) (.seq (.ret (.cS [dA])) .nil) .nil) (.seq (.ite (.cmp bK ql (.cS [aV,c_,dG])) (.seq (.ret (.cS [rp])) .nil) .nil) (.seq (.ite (.cmp bK ql (.cS
 [aV,dG,bk,bH])) (.seq (.ret (.cS [gz])) .nil) .nil) (.seq (.ite (.cmp bK ql (.cS [tL,dO,bk,aK])) (.seq (.ret IP) .nil) .nil) oR))))⟩
def z64:Fn:=⟨[bI,zI],[],.seq Ts (.seq (.aQ aO IY g9) (.seq (.aQ aO (nat_lit 1852141679) fw) .nil))⟩
def zbh:Fn:=⟨[bI,NI],[],.seq (.aQ aO IY (.bin ql (.attr aO IY) zJ)) (.seq (.ite (.cmp (.attr aO IY) jF (.attr (.attr aO zI) IZ)) (.seq (.raise (.call Tt (.cons (.cS [aD,aP,aK,bj,aK,bj,aD,bH,qm,dG,dO,aK,qm,bj,aP,qm,aK,bk,bk,qm,c_,aV,aP,iC,qm,bH,bj,oV,aP,bH]) .nil))) .nil) .nil) .nil)⟩
def z9u:Fn:=⟨[bI,c0],[],.seq (.ite (.cmp bK qk I_) (.seq (.raise (.call J0 (.cons (.bin ql (.cS [aV,aP,qm,aD,aP,aK,bj,aK,iC,qm,bH,aK,aV,aP,cg,bH,qm,fR,bj,aK,cZ,bj,aP,qm,bj,aK,bH,aD,dg,hJ,nP,qm]) bK) .nil))) .nil) .nil) (.seq (.ite (.cmp (.call iA (.cons
 I_ .nil)) Fu (.attr (.attr aO zI) J1)) (.seq (.raise (.call Tt (.cons (.cS [aD,aP,aK,bj,aK,bj,aD,bH,qm,bH,aK,aV,aP,cg,qm,aK,bk,bk,qm,cg,aD,aD,dG,qm,fR,bj,aK,cZ,bj,aP,qm,bk,aP,aD,qm,aV,aP,bk,aK,cZ,aD,cD]) .nil))) .nil) .nil) (.seq (.expr (.af I_ fD
 nW)) .nil))⟩
def z90:Fn:=⟨gW,[],.seq (.expr (.af I_ FF .nil)) .nil⟩
def zne:Cl:=⟨[(nat_lit 6579297,nat_lit 687),(nat_lit 491328400997,nat_lit 694),(NJ,nat_lit 701)],some (nat_lit 680),false⟩
def z5k:Fn:=⟨[bI,dy,c0],[],.seq (.aQ aO dy eT) (.seq FG Sy)⟩
def z6t:Fn:=⟨gW,[],.seq (.ret (.cmp lg ql Nb)) .nil⟩
def zaf:Fn:=⟨[bI,nat_lit 495723897197],[],.seq Nd (.seq (.ez (.and (.cons IM (.cons (.cmp (.idx rk lg) ma (.loc (nat_lit 495723897197))) .nil))) (.seq (.aQ aO gy (.bin ql lg dN)) .nil)) SI)⟩
def z4c:Fn:=⟨[bI,iz],[],.seq (.asg y_ (.af rk Ni (.cons (.cS [ll]) FA))) (.seq (.asg lZ (.fx rk (.bin ql lg dN) (.call Tu (.cons tI FA)))) (.seq (.ite (.or (.cons (.cmp tI qc g9) (.cons (.and (.cons (.cmp (.fx gb .no dN) qr (.cS [iD])) (.cons (.not (.call
 (.glob (nat_lit 28549237878780777) (.con (.ref bj))) tG)) .nil))) .nil))) (.seq (.raise (.call FK (.cons Tv m8))) .nil) .nil) (.seq (.aQ aO gy (.bin ql tI dN)) (.seq (.ret gb) .nil))))⟩
def zks:Cl:=⟨[(tK,nat_lit 736),(NK,nat_lit 743),(FL,nat_lit 750)],some (nat_lit 729),false⟩
def z7o:Fn:=⟨[bI,dy,me],[],.seq (.aQ aO me tO) (.seq (.aQ aO oW (.lst (.cons (.call (.glob (nat_lit 29113321536775504) (.con (.ref (nat_lit 753)))) (.cons eT FN)) .nil))) (.seq (.aQ aO fP g9) .nil))⟩
def zdg:Fn:=⟨gW,[],.seq (.ez (.and (.cons (.cmp tP qr fw) (.cons (.af NL tK .nil) .nil))) (.seq (.ite (.cmp (.attr (.af tP FF .nil) c0) qn .cN) Tw .nil) .nil)) (.seq (.ret (.ite (.cmp tP qr fw) NL .cN)) .nil)⟩
def z62:Fn:=⟨gW,[],.seq (.asg (nat_lit 1701995880) NL) (.seq (.ite (.cmp NN ql dN) (.seq (.aQ aO fP (.attr Tx gy)) .nil) .nil) (.seq (.ret (.af Tx FL (.cons Na .nil))) .nil))⟩
def vL:Cl:=⟨[(FO,nat_lit 778),(FL,nat_lit 785)],some (nat_lit 771),false⟩
def zer:Fn:=⟨[mf,me],[],.seq (.ret Tz) .nil⟩
def za7:Fn:=⟨[FP,mf,me],[.none],.seq TB (.seq J5 (.seq (.ez (.cmp tR qn .cN) (.seq (.expr (.af fQ fD (.cons (.call (.glob (nat_lit 35713346948954664764285480034) (.con (.ref (nat_lit 828)))) (.cons (.af tR NK (.cons (.cS [rp,d9]) .nil)) .nil)) .nil))) (.seq (.ite TC
 (.seq (.ite (.cmp TH ql (.cS [d9])) (.seq (.raise (.call J0 (.cons (.cS [d9,qm,bj,aP,qm,aK,cZ,aD,qm,oQ,aV,dg,dO,aD,qm,bk,hJ,qm,aV,aP,qm,aV,aK,aK,cD,bj,dT,dO,aK,aD]) .nil))) .nil) .nil) (.seq (.expr (.af fQ fD (.cons (.call (.glob (nat_lit
 2463394665576263412936811123009907) (.con (.ref (nat_lit 821)))) (.cons (.af zK FL .nil) TJ)) .nil))) .nil)) .nil) (.seq J5 .nil)))) TK))⟩
def z96:Fn:=⟨[lZ,mf,J2],[],.seq (.ite NP (.seq (.ret TM) .nil) .nil) (.seq (.asg qg (.call TN tG)) (.seq (.ite (.cmp qh jK .cN) (.seq (.expr (.af zK NQ (.cons gb (.cons (.af tQ (nat_lit 39619496283163362531199870403144491888233) tG) .nil)))) Np) .nil) (.seq (.ret qh) .nil)))⟩
def zbs:Fn:=⟨[dy],[],.seq (.cx qg (.glob (nat_lit 25770989300105841872051388758) (.str ql [qn,nat_lit 13,qo])) (.seq (.asg dy (.af eT TO (.cons qh (.cons tE .nil)))) .nil)) TP⟩
def zac:Fn:=⟨[FP,mf,me],[.none],.seq TB (.seq J5 (.seq (.ez (.cmp tR qn .cN) (.seq (.expr (.af fQ fD (.cons (.af tR NK (.cons (.cS [rp,oX]) .nil)) .nil))) (.seq (.ite TC (.seq (.expr (.af fQ fD (.cons (.call (.glob (nat_lit 36038538825172248184090814828) (.con (.ref (nat_lit 843)))) (.cons tR TJ)) .nil))) .nil) .nil) (.seq J5 .nil)))) TK))⟩
def zbj:Fn:=⟨[NO,mf,J2],[],.seq (.asg FD TH) (.seq (.asg lZ (.af zK FL .nil)) (.seq (.ite (.cmp IQ ql BS) (.seq (.ite NP (.seq (.raise (.call FK (.cons Tv TL))) .nil) .nil) (.seq (.expr (.af zK NQ (.cons (.bin ql BS gb) (.cons (.af tQ NR tG) .nil)))) Np)) .nil) (.seq (.ret (.ite NP TM (.bin ql (.bin ql (.cS [rp]) gb) (.cS [ll])))) .nil)))⟩
def z4p:Fn:=⟨[bI,dy,c0,fP],[],.seq (.aQ aO iB (.call IU (.cons eT (.cons jG (.cons (.cmp bK jK .cN) .nil))))) (.seq FG .nil)⟩
noncomputable def zht:Cl:=⟨[],some (nat_lit 859),false⟩
def zlw:Fn:=⟨[dy,mf,me,fP],[.int ql (.ofNat ql)],.seq (.cf [J6,J7] (.tup (.cons fw (.cons (.lst (.cons (.call NT (.cons eT (.cons .cN nQ))) .nil)) .nil)))) (.seq (.asg zA qt) (.seq (.ez NU (.seq TQ (.seq (.ite (.af cv tK .nil) (.seq TS (.seq (.ite TU (.seq (.expr (.af
 tO NJ .nil)) (.seq TV (.seq (.ite Nm (.seq (.raise (.af cv fT (.cons (.cS [aV,qm,dg,bj,aK,aD,cD,aV,dg,qm,cg,bk,aD,bH,qm,aP,bk,aK,qm,aD,aP,cg,qm,bj,aP,qm,bj,aK,bH,qm,dG,aV,cD,aV,c_,aD,aK,aD,cD,qm,aD,aP,aK,bj,aK,iC]) .nil))) .nil) .nil) .nil))) .nil)
 Nt)) .nil) (.seq (.asg qg (.idx NV IS)) (.seq (.mW cv gy dN) (.seq (.ite (.and (.cons (.cmp zB ql qt) (.cons (.cmp qh ql BS) (.cons (.af cv Ng .nil) .nil)))) (.seq (.expr (.af zL fD (.cons (.call TX (.cons cv TA)) .nil))) (.seq TV Nt)) .nil) (.seq (.ite Nm (.seq (.asg zA
 (.ite (.cmp qh ql zB) qt zB)) .nil) (.seq (.ite SO SR .nil) .nil)) (.seq (.expr (.af (.loc J6) fD qu)) .nil)))))))) (.seq (.ret (.af qt BH (.cons (.loc J6) .nil))) .nil)))⟩
def zm2:Fn:=⟨[iB,mf,me],[],.seq (.asg fP (.af cv Fz (.cons (.bin qr IS dN) .nil))) (.seq Nu (.seq (.expr (.af cv zC (.cons (.cS [ll]) .nil))) (.seq (.expr (.af tO (nat_lit 491328400997) (.cons (.bin ql BS bK) .nil))) (.seq (.asg dy (.af tQ NR nW)) (.seq (.expr (.af
 tO (nat_lit 6579297) (.cons IK .nil))) (.seq (.ret (.call NT (.cons eT (.cons bK nQ)))) .nil))))))⟩
def z3n:Fn:=⟨[bI,mf,lp,me],[],.seq (.aQ aO mf tQ) (.seq (.aQ aO lp nX) (.seq (.aQ aO me tO) .nil))⟩
def ba:Fn:=⟨[bI,dy],[],.seq (.asg J7 (.lst (.cons (.call NT (.cons eT (.cons .cN IJ))) .nil))) (.seq (.ez NU (.seq TQ (.seq tM (.seq (.ite (.af cv tK .nil) (.seq TS (.seq (.ite TU Tw .nil) .nil)) (.seq (.ite (.af cv fS (.cons BS .nil)) (.seq (.expr (.af zL
 fD (.cons (.call TX (.cons cv TY)) .nil))) .nil) (.seq (.expr (.af aO TZ BO)) .nil)) .nil)) .nil)))) .nil)⟩
def z3g:Fn:=⟨[bI,iB],[],.seq (.asg fP IS) (.seq (.ite (.af cv fS (.cons (.cS [d9,dP,fO,fO]) .nil)) (.seq (.asg lj (.af cv Nj (.cons (.cS [fO,fO,dA]) .nil))) (.seq (.ite (.or (.cons (.cmp (.cS [fO,fO]) qk fU) (.cons (.cmp (.fx fU BN .no) ql (.cS [fO]))
 .nil))) (.seq (.raise (.af cv BK (.cons (.cS [fO,fO,qm,fR,bj,aK,cZ,bj,aP,qm,aV,qm,cK,bk,c_,c_,aD,aP,aK]) nQ))) .nil) .nil) .nil)) (.seq (.ite (.af cv fS (.cons (.cS [d9,zD]) .nil)) (.seq (.expr (.af aO (nat_lit 146793563361894347757370471563147699570) BO)) .nil)
 (.seq (.ite (.af cv tH (.cons (.cS [d9,dP,nat_lit 91]) .nil)) (.seq (.raise (.af cv BK (.cons (.cS [cK,bk,aP,cg,bj,aK,bj,bk,aP,aV,dg,qm,dG,aV,cD,aK,bH,qm,aV,cD,aD,qm,dg,aD,hJ,aK,qm,bk,dO,aK]) nQ))) .nil) (.seq (.expr (.af aO T_ (.cons cv nQ))) .nil))
 .nil)) .nil)) .nil)⟩
def z0l:Fn:=⟨[bI,iB,fP],[],.seq (.asg iz (.af cv Fz nQ)) (.seq (.lB (.seq (.asg y_ (.call (.glob (nat_lit 521468782488882288457007530592396644) (.con (.ref (nat_lit 432)))) (.cons NV nQ))) .nil) rj fT true (.call rj (.cons T' m8))) (.seq (.asg lZ qt)
 (.seq (.cx FQ (.glob (nat_lit 357628530519) (.tup [.str ql U0,.str ql U1,.str ql U2,.str ql [d9,dP,d5,mh,bt,cV,bt,cL,mh,d5]])) (.seq (.ite (.af cv tH (.cons (.loc FQ) .nil)) (.seq (.asg lZ (.loc FQ)) .nil) .nil) .nil)) (.seq (.ite (.cmp gb ql qt) (.seq (.raise (.call rj
 (.cons (.cS [aP,bk,qm,cg,aD,cK,dg,aV,cD,aV,aK,bj,bk,aP]) m8))) .nil) .nil) (.seq (.asg lu (.af aO U3 (.cons cv (.cons (.bin ql jG Nc) (.cons (.bin qr tI dN) m8))))) (.seq (.aQ cv gy tI) (.seq mi (.seq (.ite (.cmp gb ql (.cS U0)) (.seq (.expr (.af aO U4 (.cons
 cO m8))) .nil) (.seq (.ite (.cmp gb ql (.cS U1)) (.seq (.expr (.af aO U5 FU)) .nil) (.seq (.ite (.cmp gb ql (.cS U2)) (.seq (.expr (.af aO U6 FU)) .nil) (.seq (.expr (.af aO U7 (.cons cO m8))) .nil)) .nil)) .nil)) (.seq (.expr (.af cO y_ .nil)) .nil)))))))))⟩
def z1j:Fn:=⟨[bI,iB,FV,FW,iz],[],.seq (.asg FP (.fx NV (.loc FV) (.loc FW))) (.seq (.asg fP (.af cv Fz (.cons (.loc FV) .nil))) (.seq (.asg dy (.call (.glob NQ (.con (.ref (nat_lit 874)))) (.cons J3 (.cons J8 (.cons NM nQ))))) (.seq (.ite (.and (.cons
 (.cmp eT ql J3) (.cons (.attr cv Fw) .nil))) (.seq (.ret (.call IU (.cons eT nQ))) .nil) .nil) (.seq (.ret (.call IU (.cons eT (.cons rf (.cons .cF .nil))))) .nil))))⟩
def z1q:Fn:=⟨[bI,lu,iz],[],.seq J9 (.seq mi (.seq (.expr (.af BU ND (.cons bK (.cons (.call Te FU) m8)))) .nil))⟩
def z0q:Fn:=⟨[bI,lu],[],.seq (.asg gA FY) (.seq (.ez (.and (.cons NW (.cons (.not (.af cO tK .nil)) .nil))) (.seq J9 (.seq mi (.seq (.cf [fE,yY] (.call (.glob (nat_lit 1852630415645132023154) (.con (.ref (nat_lit 993)))) FU)) (.seq mi (.seq (.cf [rg,
 eJ] (.af aO U8 (.cons cO (.cons rh .nil)))) (.seq (.expr (.af BU NF (.cons jJ (.cons bK (.cons (.call U9 (.cons rh (.cons (.loc yY) (.cons yZ BI)))) .nil))))) .nil))))))) .nil)⟩
def z1s:Fn:=⟨[bI,lu,fE],[],.seq (.ite (.af cO fS (.cons (.cS [iD,zM,c7,nat_lit 81,Ja,cL,zM,c7,dX]) .nil)) (.seq (.ret (.tup (.cons Jb FN))) .nil) .nil) (.seq (.ite (.af cO fS (.cons (.cS [iD,cL,g0,l_,gC,cL,c7,dX]) .nil)) (.seq (.ret (.tup (.cons
 Ua FN))) .nil) .nil) (.seq (.asg rg (.cS [cg,aD,hJ,aV,dO,dg,aK])) (.seq (.ite (.af cO fS (.cons (.cS [iD,q_,cL,nat_lit 88,c7,dX]) .nil)) (.seq mi (.seq (.asg rg Fv) .nil)) .nil) (.seq (.ret (.tup (.cons yZ (.cons (.call Ub (.cons rh (.cons (.af aO NX (.cons cO (.cons
 (.glob (nat_lit 8038385184331455038532657636724) (.con (.ref (nat_lit 814)))) .nil))) .nil))) .nil)))) .nil))))⟩
def z59:Fn:=⟨[bI,lu,Jc],[],.seq (.asg fP (.bin ql NY dN)) (.seq (.asg FP (.af cO Nl .nil)) (.seq (.lB (.seq (.ret (.call (.loc Jc) (.cons J3 TY))) .nil) FK fT true (.af cO BK (.cons T' (.cons (.bin ql jG NZ) .nil)))) .nil))⟩
def z1y:Fn:=⟨[bI,lu],[],.seq (.asg N_ (.af cO fS (.cons BS .nil))) (.seq (.ite BV (.seq mi .nil) .nil) (.seq J9 (.seq mi (.seq (.ite Uc (.seq (.expr (.af J8 O1 (.cons BV (.cons bK (.cons (.af aO NX (.cons cO (.cons (.glob (nat_lit
 8038385184331454466867963652460) (.con (.ref (nat_lit 836)))) .nil))) .nil))))) (.seq .zW .nil)) .nil) (.seq (.cf [zF,rn] (.call Ud Ue)) (.seq (.asg O4 .cN) (.seq (.ite (.and (.cons NW (.cons (.af cO fS (.cons (.cS [d5,dX,cV,bt,cV]) .nil)) .nil))) (.seq (.ite BV (.seq (.raise
 (.af cO fT (.cons (.cS [aV,qm,dG,aV,cD,aV,c_,aD,aK,aD,cD,qm,aD,aP,aK,bj,aK,iC,qm,fR,bj,aK,cZ,qm,aV,qm,aP,bk,aK,aV,aK,bj,bk,aP]) .nil))) .nil) .nil) (.seq mi (.seq (.asg O4 FY) .nil))) .nil) (.seq (.expr (.af J8 O1 (.cons BV (.cons bK (.cons .cN (.cons BQ
 (.cons (.loc O4) .nil))))))) .nil))))))))⟩
def z1f:Fn:=⟨[bI,lu,iz],[],.seq J9 (.seq mi (.seq (.cf [zF,rn] (.call Ud Ug)) (.seq (.expr (.af BU Ti (.cons bK (.cons FH (.cons BQ m8))))) .nil)))⟩
def zgp:Cl:=⟨[(Jc,nat_lit 902),(TZ,nat_lit 909),(T_,nat_lit 923),(U3,nat_lit 930),(U4,nat_lit 937),(U5,nat_lit 944),(U8,nat_lit 951),(NX,nat_lit 958),(U6,nat_lit 965),(U7,nat_lit 972)],some N7,false⟩
def zbn:Fn:=⟨[lu,Jd],[],.seq (.expr (.af cO zC FE)) (.seq (.asg gx hV) (.seq (.ez .cT (.seq Uh (.seq (.asg c0 (.ite (.loc Jd) FY (.af cO Nh .nil))) (.seq (.ite (.cmp bK qk fQ) (.seq (.raise (.af cO fT (.cons (.cS [aV,qm,cK,cZ,bk,bj,cK,aD,qm,bH,aK,aV,aP,
 cg,bH,qm,aK,fR,bj,cK,aD]) .nil))) .nil) .nil) (.seq (.d3 fQ bK .cT) (.seq Uh (.seq (.ite (.not (.af cO fS Nw)) (.seq (.expr (.af cO zC T5)) (.seq (.ret (.call IL Nv)) .nil)) .nil) .nil))))))) .nil))⟩
def zhc:Fn:=⟨[lu],[],.seq (.ite (.af cO tH FE) (.seq (.ret (.tup (.cons Su (.cons (.call Ui Ue) .nil)))) .nil) .nil) (.seq (.asg fP NY) (.seq (.asg lZ FY) (.seq (.ite (.cmp gb ql (.cS [d5,mh,bt,cV,bt,cL,mh,d5])) (.seq mi (.seq (.ret (.tup (.cons Sv (.cons (.call Ui
 Ug) .nil)))) .nil)) .nil) (.seq (.ite (.cmp gb ma (.glob (nat_lit 100663408076306884583312464) (.tup [.str ql [l9,dX,cV,bt,cV],Uj,.str ql [cL,dX,zM,c7,q_],.str ql [cL,dX],.str ql [c7,d5,bt,cL,bt,cL,c7,lq],.str ql [c7,d5,bt,cL,bt,hY],.str ql [d5,g0,bt,mh,nat_lit 75,
 c7,d5,lq],.str ql [d5,g0,bt,mh,nat_lit 75,c7,d5]]))) (.seq (.raise (.af cO BK (.cons (.bin ql (.cS [aP,bk,qm,BJ,bj,aP,cg,qm,bk,hJ,qm,aV,aK,aK,cD,bj,dT,dO,aK,aD,bH,nP,qm]) gb) nQ))) .nil) .nil) (.seq (.ret (.tup (.cons gb (.cons (.tup .nil) .nil)))) .nil)))))⟩
def zeo:Fn:=⟨[lu,Jd],[],.seq (.ite (.af cO fS (.cons (.cS [lq,hY,lq,bt,c7,g0]) .nil)) (.seq mi (.seq (.ret (.tup (.cons .cN O5))) .nil)) .nil) (.seq (.expr (.af cO zC (.cons (.cS [l_,Ja,nat_lit 66,gC,cL,l9]) .nil))) (.seq mi (.seq (.asg zF (.call (.glob (nat_lit
 122618043015070259200816496) (.con (.ref (nat_lit 1007)))) (.cons cO O5))) (.seq (.asg zN NY) (.seq (.ite (.and (.cons NW (.cons Uc .nil))) (.seq (.ret (.tup (.cons FH O5))) .nil) .nil) (.seq (.aQ cO gy rq) (.seq (.ite (.not (.loc Jd)) (.seq (.raise (.af cO fT (.cons (.cS [aD,
 ey,dG,aD,cK,aK,aD,cg,qm,aV,qm,bH,iC,bH,aK,aD,c_,qm,aP,aV,c_,aD]) .nil))) .nil) .nil) (.seq (.ret (.tup (.cons FH FN))) .nil))))))))⟩
def ze1:Fn:=⟨[lu,dy],[],.seq (.cx qg eT (.seq (.asg Uk (.or (.cons Sm (.cons So (.cons Sq .nil))))) (.seq (.ite (.and (.cons (.not (.loc Uk)) (.cons (.cmp qh ma (.glob (nat_lit 25781888669741777315417970000) (.str ql [qm,nat_lit 13,qo,fO,gz,jI,lh,nat_lit 43,nR,nat_lit 46,
 nat_lit 47,nP,nat_lit 61,zD,ll,dP,nat_lit 42,iD,nat_lit 64,nat_lit 36,nat_lit 95,oX]))) .nil))) (.seq (.raise (.af cO fT (.cons (.cS [aV,qm,bH,bj,oV,aP,qm,aK,cZ,aV,aK,qm,aP,bk,qm,dG,dO,dT,dg,bj,cK,qm,aP,aV,c_,aD,qm,cZ,aV,bH]) .nil))) .nil) .nil) .nil))) (.seq
 (.ret (.call (.glob (nat_lit 1851984717554840792931) (.con (.ref (nat_lit 126)))) oJ)) .nil)⟩
def zih:Fn:=⟨[dy,mf,c0,me],[.none],.seq (.asg lp (.call Ul nW)) (.seq (.expr (.af (.call (.glob (nat_lit 2110234895986192577604) (.con (.ref (nat_lit 975)))) (.cons tQ (.cons nX (.cons Tz .nil)))) Jc oJ)) (.seq (.ret nX) .nil))⟩
def z61:Fn:=⟨[bI,J1,IZ],[.int ql (.ofNat (nat_lit 20)),.int ql (.ofNat (nat_lit 100000))],.seq (.aQ aO J1 (.loc J1)) (.seq (.aQ aO IZ (.loc IZ)) .nil)⟩
noncomputable def zlh:Cl:=⟨[],some (nat_lit 1180),false⟩
def z6k:Fn:=⟨[bI,c0,eJ,rn,BW],[],.seq FG (.seq N8 (.seq (.aQ aO rn BQ) (.seq (.aQ aO BW (.loc BW)) .nil)))⟩
def z6e:Fn:=⟨gW,[],.seq (.ret (.cmp (.attr aO eJ) jK .cN)) .nil⟩
def z41:Fn:=⟨gW,[],.seq (.ret (.cmp (.attr aO BW) qn .cN)) .nil⟩
def zn4:Cl:=⟨[(Um,nat_lit 1208),(Un,nat_lit 1215)],some (nat_lit 1201),false⟩
def z2f:Fn:=⟨[bI,zI,Je],[.none],.seq Ts (.seq (.aQ aO Je (.ite (.cmp (.loc Je) jK .cN) hV (.loc Je))) (.seq (.aQ aO Uo hV) (.seq (.aQ aO Up hV) .nil)))⟩
def z36:Fn:=⟨[bI,N_,c0,eJ,rn,BW],[.none,.none],.seq (.asg oW (.ite BV O7 (.attr aO Uo))) (.seq (.ite (.or (.cons (.cmp bK qk zO) (.cons (.and (.cons (.not BV) (.cons (.cmp (.call TN nW) qn .cN) .nil))) .nil))) qd .nil) (.seq (.d3 zO bK (.call (.glob (nat_lit
 133540892405317) (.con (.ref (nat_lit 1218)))) (.cons bK (.cons lY (.cons BQ (.cons (.loc BW) .nil)))))) qf))⟩
def z2t:Fn:=⟨[bI,Uq],[],.seq (.ite (.af FZ Un .nil) (.seq (.raise (.call J0 (.cons (.bin ql (.cS [aV,aP,qm,dO,aP,dG,aV,cD,bH,aD,cg,qm,aD,aP,aK,bj,aK,iC,qm,cK,aV,aP,aP,bk,aK,qm,dT,aD,qm,dG,dO,aK,qm,bj,aP,nP,qm]) (.attr FZ c0)) .nil))) .nil)
 .nil) (.seq (.ret (.ite (.af FZ Um .nil) (.af aO (nat_lit 550015431874764053181807) (.cons FZ .nil)) (.attr FZ eJ))) .nil)⟩
def z28:Fn:=⟨[bI,c0],[],.seq (.ite (.cmp bK ma O7) (.seq (.raise (.call J0 (.cons (.bin ql (.cS [aP,bk,qm,bH,dO,cK,cZ,qm,dG,aV,cD,aV,c_,aD,aK,aD,cD,qm,aD,aP,aK,bj,aK,iC,nP,qm]) bK) .nil))) .nil) .nil) (.seq (.ret (.af aO Ur (.cons (.idx O7 bK) .nil))) .nil)⟩
def zct:Cl:=⟨[(O1,nat_lit 1273),(Ur,nat_lit 1308),(NR,nat_lit 1329)],some (nat_lit 1265),false⟩
def z5p:Fn:=⟨Us,[],.seq (.aQ aO fE rh) (.seq FG (.seq (.aQ aO zP rA) (.seq (.aQ aO zQ (.loc zQ)) (.seq N8 (.seq (.aQ aO F_ zR) (.seq (.aQ aO nY fw) (.seq (.aQ aO nU fw) (.seq (.aQ aO BX fw) .nil))))))))⟩
noncomputable def zka:Cl:=⟨[],some (nat_lit 1351),false⟩
def z8h:Fn:=⟨gW,[],.seq (.aQ aO oW fw) .nil⟩
def z9n:Fn:=⟨Us,[],.seq (.expr (.af tP fD (.cons (.call (.glob (nat_lit 33617921907650382) (.con (.ref (nat_lit 1354)))) Ut) .nil))) (.seq (.ret (.bin qr NN dN)) .nil)⟩
def zee:Fn:=⟨tS,[],.seq (.ite (.not (.ig g9 qe oY qc NN)) (.seq (.raise (.call O8 (.cons (.cS [aP,bk,qm,bH,dO,cK,cZ,qm,aP,bk,cg,aD]) .nil))) .nil) .nil) (.seq (.ret O9) .nil)⟩
def z8n:Fn:=⟨gW,[],.seq (.ret (.af aO Jf (.cons (.cS [cD,bk,bk,aK]) (.cons qt (.cons qt (.cons qt (.cons qt FN))))))) .nil⟩
def z7p:Fn:=⟨[bI,F_,fE,c0,zP,zQ,eJ],[],.seq (.ite (.and (.cons (.cmp zR qn .cN) (.cons (.cmp (.attr (.af aO rB (.cons zR .nil)) fE) ma (.glob (nat_lit 23455118214185296) (.tup [.str ql [cD,bk,bk,aK],.str ql Uu]))) .nil))) (.seq (.raise (.call O8 (.cons (.cS [aV,
 qm,aP,bk,cg,aD,qm,bk,hJ,qm,aK,cZ,bj,bH,qm,BJ,bj,aP,cg,qm,cZ,aV,bH,qm,aP,bk,qm,cK,cZ,bj,dg,cg,cD,aD,aP]) .nil))) .nil) .nil) (.seq (.asg mj (.af aO Jf Ut)) (.seq (.ite (.cmp zR qn .cN) (.seq (.expr (.af (.attr (.idx tP zR) nY) fD mm)) .nil) .nil) Oa))⟩
def z5r:Fn:=⟨[bI,F_,c0,zP,zQ],[],.seq (.ret (.af aO Uv (.cons zR (.cons G0 (.cons bK (.cons rA (.cons (.loc zQ) FC))))))) .nil⟩
def z5n:Fn:=⟨[bI,gA],[],.seq (.asg rB (.af aO rB m9)) (.seq (.ite (.cmp (.attr (.loc rB) fE) qr G0) (.seq (.raise (.call O8 (.cons (.cS [aP,bk,aK,qm,aV,aP,qm,aD,dg,aD,c_,aD,aP,aK]) .nil))) .nil) .nil) (.seq (.ret (.loc rB)) .nil))⟩
def z3d:Fn:=⟨[bI,gA,Jg,zP],[],.seq (.asg rB (.af aO Uw m9)) (.seq (.cx mj Ux (.seq (.ite (.cmp (.attr O9 c0) ql zS) (.seq (.aQ O9 eJ rA) Oa) .nil) .nil)) (.seq (.asg mj (.af aO Jf (.cons (.cS [aP,aV,c_,aD,bH,dG,aV,cK,aD]) (.cons zS (.cons qt (.cons zS (.cons rA m9))))))) (.seq (.expr (.af Ux fD mm)) Oa)))⟩
def zcu:Fn:=⟨tS,[],.seq (.ret (.attr BY fE)) .nil⟩
def zdp:Fn:=⟨tS,[],.seq (.ret (.attr BY c0)) .nil⟩
def zbk:Fn:=⟨tS,[],.seq (.ret (.attr BY eJ)) .nil⟩
def z8f:Fn:=⟨tS,[],.seq (.ret (.call Ob (.cons (.attr BY nY) .nil))) .nil⟩
def z5w:Fn:=⟨tS,[],.seq (.ret (.call Ob (.cons (.attr BY nU) .nil))) .nil⟩
def z6q:Fn:=⟨tS,[],.seq (.ret (.call Ob (.cons (.attr BY BX) .nil))) .nil⟩
def D3:Cl:=⟨[(Jf,nat_lit 1379),(rB,nat_lit 1386),(Uy,nat_lit 1393),(Uv,nat_lit 1400),(Uz,nat_lit 1407),(Uw,nat_lit 1435),(UA,nat_lit 1449),(fE,nat_lit 1463),(c0,nat_lit 1470),(eJ,nat_lit 1491),(nY,nat_lit 1505),(nU,nat_lit 1512),(BX,nat_lit 1519)],some (nat_lit 1372),false⟩
def z9y:Fn:=⟨[mn,nS],[],.seq (.cf [gx,J7] (.tup (.cons fw (.cons (.rev UB) .nil)))) (.seq (.ez NU (.seq (.asg mj (.af zL FF .nil)) (.seq (.ite (.cmp (.af fF fE mm) ql G0) (.seq (.expr (.af fQ fD mm)) (.seq (.expr (.af zL (nat_lit 110425311311973) (.cons (.rev (.af fF nY mm)) .nil))) .nil)) .nil) .nil))) oK)⟩
def zr4:Fn:=⟨[mn,gA,lp],[],.seq (.asg c0 (.af nX Tj (.cons (.af fF c0 m9) .nil))) (.seq (.ite (.cmp bK jK .cN) oR .nil) (.seq (.cx oZ (.af fF nU m9) (.seq (.ite (.cmp (.af fF c0 G3) ql bK) (.seq (.asg (nat_lit 495874892144) UC) (.seq (.ret (.ite (.cmp (.call iA (.cons UD .nil)) ql dN) (.idx UD g9) .cN)) .nil)) .nil) .nil)) oR))⟩
def zj3:Fn:=⟨[mn,nS,lp],[],.seq (.asg gx hV) (.seq (.cx gA Oc (.seq (.asg lj (.call (.glob (nat_lit 439955186793) (.con (.ref (nat_lit 1671)))) UG)) (.seq (.ite (.and (.cons (.cmp fU qn .cN) (.cons (.cmp fU ma fQ) .nil))) (.seq (.d3 fQ fU jJ) .nil) .nil) .nil))) oK)⟩
def zez:Fn:=⟨[mn,gA,lp],[],.seq (.asg gx fw) (.seq (.cx oZ (.af fF nU m9) (.seq (.asg oP (.af nX oP (.cons (.af fF c0 m9) (.cons (.af fF c0 G3) .nil)))) (.seq (.ite (.and (.cons (.cmp jH qn .cN) (.cons (.cmp tF qk (.tup (.cons (.cS [cL,dX,zM,c7,q_]) (.cons
 (.cS [cL,dX,zM,c7,q_,lq]) .nil)))) .nil))) (.seq (.cx c0 UC UH) .nil) .nil) .nil))) oK)⟩
def z6c:Fn:=⟨[mn,nS,lp],[],.seq (.cf [FQ,gx] (.tup (.cons (.call (.glob (nat_lit 7308324466019230825) (.con (.ref (nat_lit 1678)))) Oe) J4))) (.seq (.cx gA Oc (.seq (.kJ [oZ,c0] (.call (.glob (nat_lit 544942431457053059212658) (.con (.ref (nat_lit 1685)))) UG) (.seq (.ite (.cmp bK ma (.loc FQ)) UH .nil) .nil)) .nil)) oK)⟩
def z5l:Fn:=⟨[bI,mn,lp],[],.seq (.aQ aO mn fF) (.seq (.aQ aO lp nX) (.seq (.aQ aO (nat_lit 7022344841626678625) hV) (.seq (.aQ aO (nat_lit 474147938676) hV) .nil)))⟩
def z5t:Fn:=⟨tS,[],.seq (.asg c0 (.af mq c0 mm)) (.seq (.asg zG (.af BU zG nW)) (.seq (.ite (.cmp BR jK .cN) (.seq (.asg gx (.lst (.cons (.tup (.cons oY (.cons (.bin ql NB UI) .nil))) .nil))) .nil) (.seq (.asg gx (.comp (.tup (.cons oY oJ)) dy [mj] (.af aO
 UJ (.cons oY (.cons bK (.cons BR .nil)))) .cT)) .nil)) (.seq (.ret (.bin ql fQ (.af aO nU (.cons oY nW)))) .nil)))⟩
def z6g:Fn:=⟨[bI,mj,c0,zG],[],.seq (.asg nY (.af mq nY mm)) (.seq (.ite (.cmp Of ql (.cS [aV,aP,iC])) UK .nil) (.seq (.ite (.cmp Of ql Ta) (.seq (.ret (.ite (.cmp (.loc nY) ql fw) fw (.lst (.cons (.bin ql NB (.cS [qm,c_,dO,bH,aK,qm,dT,aD,qm,aD,c_,dG,aK,
 iC])) .nil)))) .nil) .nil) (.seq (.asg lu (.comp (.af mq c0 G5) G4 gW (.loc nY) (.cmp (.af mq fE G5) ql G0))) (.seq (.ite (.cmp Of ql T9) (.seq (.ret (.comp (.bin ql (.bin ql UL (.cS [qm,c_,aV,iC,qm,aP,bk,aK,qm,bH,aK,aV,aP,cg,qm,bj,aP,qm])) bK) (nat_lit 6647407)
 [c0,zG] cO (.cmp UL ma (.idx BR dN)))) .nil) .nil) (.seq (.ite (.not (.af (.af aO (nat_lit 2037172999266208347489) (.cons bK (.cons (.idx BR dN) .nil))) (nat_lit 32497648407896929) FU)) (.seq (.ret (.lst (.cons (.bin ql (.bin ql (.cS [aK,cZ,aD,qm,aD,dg,aD,c_,aD,aP,aK,bH,
 qm,bj,aP,qm]) bK) (.cS [qm,cg,bk,qm,aP,bk,aK,qm,hJ,bk,dg,dg,bk,fR,qm,bj,aK,bH,qm,c_,bk,cg,aD,dg])) .nil))) .nil) .nil) (.seq (.cx G4 (.loc nY) (.seq (.ite (.and (.cons (.cmp (.af mq fE G5) ql (.cS [aK,aD,ey,aK])) (.cons (.not (.call (.glob (nat_lit
 7741231927631246185) (.con (.ref (nat_lit 133)))) (.cons (.af mq eJ G5) .nil))) .nil))) (.seq (.ret (.lst (.cons (.bin ql (.cS [aK,aD,ey,aK,qm,c_,aV,iC,qm,aP,bk,aK,qm,bH,aK,aV,aP,cg,qm,bj,aP,qm]) bK) .nil))) .nil) .nil) .nil)) UK))))))⟩
def z3f:Fn:=⟨[bI,mj,c0],[],.seq (.cf [gx,G6] (.tup (.cons fw (.cons hV .nil)))) (.seq (.cx Jh (.af mq BX mm) (.seq (.asg Jg (.af mq c0 UM)) (.seq (.asg lj (.ite (.cmp zS ql qt) UN (.bin ql (.cS [ey,c_,dg,aP,bH,nP]) zS))) (.seq (.d3 (.loc G6) fU
 (.loc Jh)) (.seq (.asg dy (.af aO UO (.cons bK (.cons fU (.cons (.af mq eJ UM) .nil))))) (.seq (.ite (.cmp eT qn .cN) (.seq (.expr (.af fQ fD (.cons (.tup (.cons (.loc Jh) oJ)) .nil))) .nil) .nil) .nil)))))) (.seq (.cx oZ (.af mq nU mm) (.seq (.asg lj (.af mq c0
 G3)) (.seq (.d3 (.loc G6) fU zT) (.seq (.asg dy (.af aO oZ (.cons bK (.cons fU (.cons (.af mq eJ G3) .nil))))) (.seq (.ite (.cmp eT qn .cN) (.seq (.expr (.af fQ fD (.cons (.tup (.cons zT oJ)) .nil))) .nil) .nil) .nil))))) (.seq (.asg nV (.af BU nV nW)) (.seq (.asg
 UP (.comp fU lj [G6,nV] tN (.and (.cons (.cmp (.attr (.idx tN fU) rg) ql Jb) (.cons (.cmp fU ma (.loc G6)) .nil))))) (.seq (.ret (.bin ql (.comp (.tup (.cons oY (.cons (.bin ql (.bin ql UQ fU) (.cS [qm,dg,aV,cK,BJ,bH])) .nil))) lj [mj] (.loc UP) .cT) fQ)) .nil)))))⟩
def z5q:Fn:=⟨[bI,gA,c0,eJ],[],.seq (.ret (.ite (.cmp UR jK .cN) .cN (.af aO oZ (.cons jJ (.cons bK BI))))) .nil⟩
def z45:Fn:=⟨[bI,gA,c0,eJ],[],.seq (.asg oP UR) (.seq (.ite (.cmp jH jK .cN) (.seq (.ret (.bin ql (.bin ql UQ bK) UI)) .nil) .nil) (.seq (.asg eJ (.call Ub (.cons tF BI))) (.seq (.asg dy (.call (.glob (nat_lit 1937008998) (.con (.ref (nat_lit 202)))) (.cons jH
 BI))) (.seq (.ite (.and (.cons (.cmp eT jK .cN) (.cons (.cmp tF ql (.cS [cL,dX])) .nil))) (.seq (.ite (.cmp lY qk US) (.seq (.ret (.bin ql (.bin ql (.cS [aK,cZ,aD,qm,cL,dX,qm]) lY) (.cS [qm,bH,aK,aV,aP,cg,bH,qm,aK,fR,bj,cK,aD]))) .nil) .nil) (.seq (.d3 US lY .cT)
 .nil)) .nil) TP))))⟩
def zl2:Cl:=⟨[(gA,nat_lit 1718),(UJ,nat_lit 1723),(nU,nat_lit 1728),(UO,nat_lit 1735),(oZ,nat_lit 1742)],some (nat_lit 1706),false⟩
def zh6:Fn:=⟨[mn,nS],[],.seq (.cx G4 UB (.seq (.ite (.cmp (.af fF fE G5) ql G0) (.seq (.ret (.loc G4)) .nil) .nil) .nil)) oR⟩
def zr5:Fn:=⟨[mn,nS,lp],[],.seq (.cf [UT,gx] (.tup (.cons (.call (.glob (nat_lit 32199659248511043) (.con (.ref (nat_lit 1745)))) (.cons fF Od)) J4))) (.seq (.asg FO (.call (.glob (nat_lit 2148140299925180413295) (.con (.ref (nat_lit 1756)))) UE)) (.seq (.ite (.and (.cons (.cmp BZ
 qn .cN) (.cons (.cmp (.af fF c0 (.cons BZ .nil)) qr (.attr nX nS)) .nil))) (.seq (.expr (.af fQ fD (.cons (.tup (.cons BZ (.cons (.bin ql (.cS [aK,cZ,aD,qm,bk,dO,aK,aD,cD,c_,bk,bH,aK,qm,aD,dg,aD,c_,aD,aP,aK,qm,c_,dO,bH,aK,qm,dT,aD,qm]) (.attr nX nS)) .nil)))
 .nil))) .nil) .nil) (.seq (.asg Og hV) (.seq (.kJ [oZ,c0] (.call (.glob (nat_lit 39267240499973699441191191864778563744354) (.con (.ref (nat_lit 1692)))) Oe) (.seq (.d3 (.loc Og) zT (.bin ql UW (.lst (.cons (.tup (.cons zT (.cons (.bin ql (.cS [aK,cZ,aD,cD,aD,qm,bj,bH,qm,aP,
 bk,qm,cL,dX,qm]) bK) .nil))) .nil)))) .nil)) (.seq (.cx mj Oc (.seq (.asg gx (.bin ql fQ (.af (.loc UT) gA mm))) (.seq (.cx oZ (.af fF nU mm) (.seq (.asg gx (.bin ql fQ UW)) .nil)) .nil))) oK)))))⟩
def cp:Fn:=⟨[G7,BJ],[],.seq (.asg (nat_lit 1819043171) (.ite (.cmp G8 qc (.call iA (.cons (.loc G7) .nil))) (.idx (.loc G7) G8) g9)) (.seq (.asg (nat_lit 499850244711) (.call Tu (.cons UX (.cons (.bin qr BN UX) .nil)))) (.seq (.asg (nat_lit 431199119725) (.bin jF (.bin qc (.bin
 ql (.bin ql (.bin ql (.bin jF Oh UY) (.bin qc (.bin qc (.cI (.ofNat (nat_lit 7919))) G8) G8)) (.bin qc (.cI (.ofNat (nat_lit 31))) G8)) (.cI (.ofNat (nat_lit 17)))) (.cI (.ofNat (nat_lit 48271)))) UZ)) (.seq (.ret (.lst (.cons (.bin qc Oh (.call U_ (.cons (.cmp Oh Fu (.bin Fu (.cI
 (.ofNat qo)) (.cI (.ofNat (nat_lit 18))))) .nil))) (.cons (.loc (nat_lit 431199119725)) .nil)))) .nil)))⟩
def kc:Fn:=⟨[o_,FO],[],.seq (.ite (.cmp Oi jF g9) (.seq (.asg (nat_lit 474449277540) (.bin jF Oi BZ)) (.seq (.d3 eV g9 (.bin qe Oi BZ)) (.seq (.ret (.loc (nat_lit 474449277540))) .nil))) .nil) (.seq (.d3 eV dN (.bin jF (.bin ql (.bin qc Oj (.cI (.ofNat (nat_lit 39373))))
 (.cI (.ofNat ma))) UZ)) (.seq (.ret (.bin jF (.bin qe (.bin jF (.bin qc Oj Oj) UY) qw) BZ)) .nil))⟩
def zix:Fn:=⟨[o_,Ol],[],.seq (.ret (.idx (.loc Ol) (.call Om (.cons eV (.cons (.call iA (.cons (.loc Ol) .nil)) .nil))))) .nil⟩
def OZ:Fn:=⟨[dy],[],.seq (.lB (.seq (.expr (.call (.glob (nat_lit 7238520861960004978) (.con (.ref (nat_lit 1015)))) (.cons eT (.cons (.call (.glob (nat_lit 122613338155510752479571525) (.con (.ref (nat_lit 1332)))) (.cons (.call (.glob (nat_lit 126943822178636) (.con (.ref (nat_lit 1183)))) .nil) .nil)) (.cons (.cS [cD]) .nil))))) .nil) rj fT false NZ) oR⟩
def bW:Fn:=⟨[o_],[],.seq (.asg (nat_lit 1701670771) (.lst (.cons (.cS [d9,dP,c7,gC,c7,g0,c7,d5,bt,qm,aP,qx,qm,c7,g0,l_,bt,hY,dA]) (.cons (.cS [d9,dP,cV,bt,bt,gC,cL,lq,bt,qm,aP,qx,qm,ey,qm,l9,dX,cV,bt,cV,qm,gz,aV,dA,dT,gz,dA]) (.cons (.cS [d9,dP,c7,
 d5,bt,cL,bt,hY,qm,aP,qx,qm,tJ,d9,dT,nat_lit 47,dA,tJ,dA]) (.cons (.cS [d9,dP,fO,fO,qm,dA,qm,fO,fO,dA]) .nil)))))) (.seq (.expr (.af V0 fD (.cons (.cS [d9,dP,d5,mh,bt,cV,bt,cL,mh,d5,qm,aP,qx,qm,l_,Ja,nat_lit 66,gC,cL,l9,qm,gz,dG,gz,dA]) .nil))) (.seq
 (.asg gx qt) (.seq (.forR G9 (.call Om (.cons eV (.cons (.cI (.ofNat jF)) .nil))) (.seq (.asg gx (.bin ql (.bin ql fQ (.af (.call hZ (.cons eV (.cons V0 .nil))) TO (.cons (.cS [aP,qx]) (.cons (.bin ql (.cS [aP]) (.call (.glob (nat_lit 7500915) (.bi ma)) (.cons (.loc G9) .nil)))
 .nil)))) (.call hZ (.cons eV (.cons (.lst (.cons qt (.cons tE (.cons (.cS [qo,qm,qm]) .nil)))) .nil))))) .nil)) oK)))⟩
def OW:Fn:=⟨[o_],[],.seq (.cf [nat_lit 7364967,c0] (.tup (.cons (.call hZ (.cons eV (.cons (.lst (.cons tE (.cons (.cS [qm,qm]) (.cons (.cS [qo]) .nil)))) .nil))) (.cons (.call hZ (.cons eV (.cons (.lst (.cons tD (.cons (.cS [dg,bk,aP,oV,nat_lit 46,aP,aV,c_,aD]) .nil)))
 .nil))) .nil)))) (.seq (.cf [gA,oP] (.tup (.cons (.bin ql (.bin ql Oo bK) B_) (.cons (.bin ql (.bin ql (.cS [d9,dP,cV,bt,bt,gC,cL,lq,bt,qm]) bK) B_) .nil)))) (.seq (.asg oW (.lst (.cons (.tup (.cons jJ (.cons (.cS [jI,dT,nR]) (.cons (.cS [lh,dA]) .nil)))) (.cons (.tup
 (.cons jJ (.cons (.cS [jI,dT,qm]) (.cons (.cS [cK,lh,dA]) .nil)))) (.cons (.tup (.cons jJ (.cons (.cS [c7,g0,l_,bt,hY,qm]) V1))) (.cons (.tup (.cons jJ (.cons (.cS [jI,dT,nR,jI,cK,zE,cg]) (.cons V2 .nil)))) .nil)))))) (.seq (.asg oW (.bin ql zO (.lst (.cons (.tup (.cons Oo
 (.cons B_ (.cons (.cS [jI,dT,lh,dA]) .nil)))) (.cons (.tup (.cons jH (.cons (.cS [ey,qm]) (.cons (.cS [l9,dX,cV,bt,c7,qm,iD,cL,g0,l_,gC,cL,c7,dX,dA]) .nil)))) (.cons (.tup (.cons jH (.cons (.cS [ey,qm,jI,dO,zE,oQ,zE,dO]) (.cons (.cS [lh,qm,iD,cL,g0,l_,gC,cL,c7,
 dX,dA]) .nil)))) .nil)))))) (.seq (.asg oW (.bin ql zO (.lst (.cons (.tup (.cons jH (.cons (.bin ql (.cS [ey,qm,l9,dX,cV,bt,cV]) B_) (.cons (.cS [oQ,dA]) .nil)))) (.cons (.tup (.cons (.bin ql (.cS [d9,dP,d5,mh,bt,cV,bt,cL,mh,d5,qm]) bK) (.cons (.bin ql B_ (.cS [l_,Ja,
 nat_lit 66,gC,cL,l9,qm,gz,dG,gz,qm])) V1))) .nil))))) (.seq (.asg oW (.bin ql zO (.lst (.cons (.tup (.cons (.bin ql (.bin ql (.cS [d9,dP,c7,d5,bt,cL,bt,hY,qm]) bK) B_) (.cons (.cS [gz,oQ,gz,qm]) (.cons (.cS [d5,dX,cV,bt,cV,qm,aP,dA]) .nil)))) (.cons (.tup (.cons qt
 (.cons qt (.cons (.cS [d9,dP,fO,fO,qm,aV,qm,fO,fO,qm,dT,qm,fO,fO,dA]) .nil)))) .nil))))) (.seq (.asg oW (.bin ql zO (.lst (.cons (.tup (.cons qt (.cons qt (.cons (.cS [d9,dP,nat_lit 91,cL,nat_lit 71,d5,mh,zM,c7,nat_lit 91,nat_lit 93,nat_lit 93,dA]) .nil)))) (.cons (.tup (.cons
 qt (.cons qt (.cons (.cS [d9,dP,c7,gC,c7,g0,c7,d5,bt,qm,aV,qm,cV,d5,hY]) .nil)))) .nil))))) (.seq (.cf [zN,nat_lit 1701998445,FW] (.call hZ (.cons eV (.cons zO .nil)))) (.seq (.ret (.tup (.cons (.bin ql V3 (.loc FW)) (.cons (.bin ql (.call iA (.cons V3 .nil)) (.call U_
 (.cons (.cmp (.loc FW) ql V2) .nil))) .nil)))) .nil))))))))⟩
def Vq:Fn:=⟨[o_],[],.seq (.asg zN (.call hZ (.cons eV (.cons (.lst (.cons (.cS [d9,dP,cV,bt,bt,gC,cL,lq,bt,qm,aV,qm,ey,qm,l9,dX,cV,bt,cV,qm,gz]) (.cons (.cS [d9,dP,cV,bt,bt,gC,cL,lq,bt,qm,aV,qm,ey,qm,d5,g0,bt,mh,nat_lit 75,c7,d5,lq,qm,iD,q_,cL,
 nat_lit 88,c7,dX,qm,gz]) (.cons (.cS [d9,dP,c7,d5,bt,cL,bt,hY,qm,aD,qm,gz]) .nil)))) .nil)))) (.seq (.asg zN (.bin ql rq (.call hZ (.cons eV (.cons (.lst (.cons qt (.cons (.cS [oQ]) (.cons (.cS [dO,qm,rp,iD,nat_lit 54,nat_lit 53,ll,qm]) .nil)))) .nil))))) (.seq (.ret (.tup
 (.cons (.bin ql (.bin ql rq (.call hZ (.cons eV (.cons (.lst (.cons (.cS [rp,iD,Fs,ll]) (.cons (.cS [rp,iD,ey,ll]) (.cons (.cS [rp,qm]) (.cons (.cS [rp,iD,qx,qx,qx,nat_lit 52,qx,qx,nat_lit 50,ll]) .nil))))) .nil)))) (.cS [gz,dA])) (.cons Oq .nil)))) .nil))⟩
def aW:Fn:=⟨[o_],[],.seq (.asg zN (.call (.glob (nat_lit 474033289659572409166943) (.con (.ref (nat_lit 1798)))) B')) (.seq (.kJ [dy,iz] (.lst (.cons V4 (.cons (.call (.glob (nat_lit 33542187086496439974676753503) (.con (.ref (nat_lit 1812)))) B') .nil))) (.seq (.ite (.cmp
 (.call Ga (.cons (.bin ql rq eT) .nil)) qr (.bin ql Oq rf)) qd .nil) .nil)) (.seq (.cf [dy,iz] V4) (.seq (.asg lj (.bin ql (.bin ql (.bin ql V5 eT) (.cS [tJ,dA])) (.call hZ (.cons eV (.cons (.lst (.cons qt (.cons tE (.cons (.cS [d9,dP,c7,gC,c7,g0,c7,d5,bt,qm,nat_lit 122,
 qm,cV,d5,hY,dA]) .nil)))) .nil))))) (.seq (.ite (.cmp (.call Ga (.cons (.bin ql fU (.cS [oX,fR,ll])) .nil)) qr (.call iA IX)) qd .nil) (.seq (.asg lj (.bin ql (.bin ql V5 (.call hZ (.cons eV (.cons (.lst (.cons (.cS [jI,dT,qm,cK,lh]) (.cons (.cS [jI,dT,nR,lh]) (.cons (.cS
 [cV,d5,hY,qm,ey]) (.cons (.cS [jI,iD,l_,l9,dX,cV,bt,cV,zE,aV,lh]) FC))))) .nil)))) (.cS [tJ,dA]))) (.seq (.ret (.cmp (.call Ga (.cons (.bin ql (.bin ql (.bin ql fU Oo) (.call hZ (.cons eV (.cons (.lst (.cons tD (.cons (.cS [dT,dT]) .nil))) .nil)))) (.cS [qm,oX,fR,ll,
 dA])) .nil)) ql (.call iA IX))) .nil))))))⟩
def Vg:Fn:=⟨[o_],[],.seq (.cf [NI,FD] (.tup (.cons (.bin ql (.cI (.ofNat Ft)) (.call Om (.cons eV (.cons (.cI (.ofNat jK)) .nil)))) (.cons (.call hZ (.cons eV (.cons (.lst (.cons qt T8)) .nil))) .nil)))) (.seq (.asg zN (.call hZ (.cons eV (.cons (.lst (.cons qt (.cons
 (.cS [dT,nR]) (.cons V6 .nil)))) .nil)))) (.seq (.cf [Ot,FV] (.tup (.cons (.tup (.cons IT (.cons (.cS [cK]) Nn))) (.cons (.idx (.iQ (.cons qt (.cons (.tup .nil) (.cons (.cS [dT,nR]) (.cons (.tup (.cons (.tup (.cons IT (.cons (.cS [dT]) FC))) .nil)) (.cons V6 (.cons (.tup (.cons
 (.tup (.cons IT (.cons (.cS [dT]) (.cons (.cS [zD]) .nil)))) .nil)) .nil))))))) rq) .nil)))) (.seq (.forR G9 zJ (.seq (.asg Ot (.tup (.cons (.cS [bH,aD,tL]) (.cons (.ite (.cmp (.loc G9) qc (.bin qr zJ dN)) (.tup Ou) (.bin ql (.loc FV) (.tup Ou))) FC)))) .nil)) (.seq (.asg dy
 (.bin ql (.bin ql (.bin ql (.bin ql (.bin ql (.cS [jI]) rq) (.bin qc (.cS [jI]) (.bin qr zJ dN))) (.cS [cK])) IQ) (.bin qc (.cS [lh]) zJ))) (.seq (.lB (.seq (.asg lj (.call (.glob (nat_lit 511885938424749028894066) (.con (.ref (nat_lit 517)))) oJ)) .nil) rj fT false (.and (.cons
 (.cmp zJ jF Ov) (.cons (.cmp NZ ql (.bin ql Oq Ov)) .nil)))) (.seq (.ret (.and (.cons (.cmp zJ qe Ov) (.cons (.cmp fU ql (.tup (.cons Td Ou))) .nil)))) .nil))))))⟩
def Vh:Fn:=⟨[o_],[],.seq (.cf [mn,lp] (.tup (.cons (.call (.glob (nat_lit 1701147220) (.con (.ref (nat_lit 1543)))) .nil) (.cons (.call Ul (.cons tD .nil)) .nil)))) (.seq (.asg nS (.af fF Uy .nil)) (.seq (.asg gA (.af fF Uz (.cons FI (.cons tD (.cons qt (.cons tD
 .nil)))))) (.seq (.cf [Jg,rg] (.tup (.cons (.call hZ (.cons eV (.cons (.lst (.cons qt (.cons (.cS [dG]) .nil))) .nil))) (.cons (.call hZ (.cons eV (.cons (.lst (.cons Jb (.cons Fv (.cons Ua .nil)))) .nil))) .nil)))) (.seq (.expr (.af nX ND (.cons tD (.cons Tc IJ)))) (.seq (.asg
 oP (.call U9 (.cons N9 (.cons (.tup .nil) (.cons yZ (.cons (.ite (.cmp yZ ql Fv) (.cS [dO]) .cN) .nil)))))) (.seq (.expr (.af nX NF (.cons tD (.cons (.ite (.cmp zS ql (.cS [dG])) (.cS [ey,c_,dg,aP,bH,nP,dG]) UN) (.cons jH .nil))))) (.seq (.asg zP (.call hZ (.cons eV
 (.cons (.lst (.cons qt (.cons (.cS [dO]) (.cons (.cS [oQ]) .nil)))) .nil)))) (.seq (.ite (.cmp rA qr qt) (.seq (.expr (.af fF UA (.cons jJ (.cons zS (.cons rA .nil))))) .nil) .nil) (.seq (.asg Ow (.fY oY [mj,lj] [] (.call (.glob (nat_lit 461229090915) (.con (.ref (nat_lit 1763))))
 Oe) .cT)) (.seq (.ite (.cmp rA ql qt) (.seq (.ret (.cmp (.loc Ow) ql (.ite (.cmp yZ ql Jb) (.lst m9) fw))) .nil) .nil) (.seq (.ret (.cmp (.loc Ow) ql (.ite (.and (.cons (.cmp yZ ql Fv) (.cons (.cmp rA ql (.cS [oQ])) .nil))) (.lst (.cons (.idx (.af fF BX m9) g9) .nil)) fw)))
 .nil)))))))))))⟩
def pV:Fn:=⟨[G7],[],.seq (.asg dy (.cS [d9,dP,c7,d5,bt,cL,bt,hY,qm,oX,qm,tL,qm,tJ,gz,tJ,dA,d9,dP,cV,bt,bt,gC,cL,lq,bt,qm,aV,qm,ey,qm,l9,dX,cV,bt,cV,qm,oX,tL,ll,oQ,gz,qm,iC,qm,l9,dX,cV,bt,cV,qm,oX,tL,ll,fR,gz,dA])) (.seq (.ite (.or (.cons (.cmp
 (.call Ga (.cons (.cS [d9,dP,c7,gC,c7,g0,c7,d5,bt,qm,aV,qm,c7,g0,l_,bt,hY,dA,d9,dP,c7,gC,c7,g0,c7,d5,bt,qm,dT,qm,jI,cK,nR,lh,dA]) .nil)) qr (.cI (.ofNat dP))) (.cons (.cmp (.call Ga oJ) qr (.af eT (nat_lit 517097156201) (.cons (.cS [oX,tL,ll,oQ]) .nil)))
 .nil))) qd .nil) (.seq (.asg o_ (.call (.glob (nat_lit 2000278120176583535711) (.con (.ref (nat_lit 1770)))) (.cons (.loc G7) IJ))) (.seq (.forR G9 (.cI (.ofNat qc)) (.seq (.ite (.or (.cons (.not (.call (.glob (nat_lit 154732543826880787743157942876058512479) (.con (.ref (nat_lit 1819))))
 B')) (.cons (.not (.call (.glob (nat_lit 39611531219681481624118939926234866478175) (.con (.ref (nat_lit 1826)))) B')) (.cons (.not (.call (.glob (nat_lit 154732543826880787465663015739021421663) (.con (.ref (nat_lit 1831)))) B')) .nil)))) qd .nil) .nil)) qf)))⟩
def Ik:Tr Fn:=.node (nat_lit 836) zac (.node (nat_lit 496) zey (.node (nat_lit 355) z5o (.node (nat_lit 148) z1n (.node g0 za2 (.node zD zl5 (.node Ft zic (.node qx zbp .leaf .leaf) .leaf) (.node q_
 z8i .leaf .leaf)) (.node fR zcm (.node bt zbr .leaf .leaf) (.node (nat_lit 126) zgf .leaf .leaf))) (.node Nk jr (.node (nat_lit 313) z2w (.node (nat_lit 202) Dn (.node (nat_lit 181) zei .leaf .leaf) .leaf)
 (.node (nat_lit 320) jl .leaf .leaf)) (.node (nat_lit 341) z3r (.node (nat_lit 334) z5i .leaf .leaf) (.node (nat_lit 348) z5m .leaf .leaf)))) (.node (nat_lit 418) z7s (.node (nat_lit 390) z5h (.node
 (nat_lit 376) z1r (.node (nat_lit 369) z4z (.node (nat_lit 362) z52 .leaf .leaf) .leaf) (.node (nat_lit 383) z18 .leaf .leaf)) (.node (nat_lit 404) z5j (.node (nat_lit 397) z63 .leaf
 .leaf) (.node (nat_lit 411) z4x .leaf .leaf))) (.node (nat_lit 461) z7q (.node (nat_lit 440) zhd (.node (nat_lit 432) z8p .leaf .leaf) (.node (nat_lit 454) z7r .leaf .leaf)) (.node (nat_lit 482) zel (.node (nat_lit 468)
 z7n .leaf .leaf) (.node (nat_lit 489) zkx .leaf .leaf))))) (.node (nat_lit 659) zkv (.node (nat_lit 580) zdy (.node (nat_lit 552) z9l (.node (nat_lit 517) zed (.node (nat_lit 510) zen (.node (nat_lit 503) zgo .leaf .leaf) .leaf)
 (.node (nat_lit 531) z4w .leaf .leaf)) (.node (nat_lit 566) z25 (.node (nat_lit 559) z30 .leaf .leaf) (.node (nat_lit 573) z2e .leaf .leaf))) (.node (nat_lit 606) zab (.node (nat_lit 594) zev (.node
 (nat_lit 587) zd1 .leaf .leaf) (.node (nat_lit 599) z4r .leaf .leaf)) (.node (nat_lit 646) z8g (.node (nat_lit 639) z80 .leaf .leaf) (.node (nat_lit 651) zl9 .leaf .leaf)))) (.node (nat_lit 750) z4c (.node (nat_lit 701)
 z90 (.node (nat_lit 687) zbh (.node (nat_lit 680) z64 (.node (nat_lit 666) zeq .leaf .leaf) .leaf) (.node (nat_lit 694) z9u .leaf .leaf)) (.node (nat_lit 736) z6t (.node (nat_lit 729) z5k .leaf .leaf) (.node
 (nat_lit 743) zaf .leaf .leaf))) (.node (nat_lit 806) zer (.node (nat_lit 778) zdg (.node (nat_lit 771) z7o .leaf .leaf) (.node (nat_lit 785) z62 .leaf .leaf)) (.node (nat_lit 821) z96 (.node (nat_lit 814) za7 .leaf
 .leaf) (.node (nat_lit 828) zbs .leaf .leaf)))))) (.node (nat_lit 1400) z7p (.node (nat_lit 993) zhc (.node (nat_lit 930) z1j (.node N7 z3n (.node (nat_lit 874) zlw (.node (nat_lit 859) z4p (.node
 (nat_lit 843) zbj .leaf .leaf) .leaf) (.node (nat_lit 881) zm2 .leaf .leaf)) (.node (nat_lit 909) z3g (.node (nat_lit 902) ba .leaf .leaf) (.node (nat_lit 923) z0l .leaf .leaf))) (.node (nat_lit 958) z59
 (.node (nat_lit 944) z0q (.node (nat_lit 937) z1q .leaf .leaf) (.node (nat_lit 951) z1s .leaf .leaf)) (.node (nat_lit 972) z1f (.node (nat_lit 965) z1y .leaf .leaf) (.node (nat_lit 986)
 zbn .leaf .leaf)))) (.node (nat_lit 1273) z36 (.node (nat_lit 1201) z6k (.node (nat_lit 1015) zih (.node (nat_lit 1007) ze1 (.node (nat_lit 1000) zeo .leaf .leaf) .leaf) (.node (nat_lit 1180) z61 .leaf .leaf)) (.node
 (nat_lit 1215) z41 (.node (nat_lit 1208) z6e .leaf .leaf) (.node (nat_lit 1265) z2f .leaf .leaf))) (.node (nat_lit 1372) z8h (.node (nat_lit 1329) z28 (.node (nat_lit 1308) z2t .leaf .leaf)
 (.node (nat_lit 1351) z5p .leaf .leaf)) (.node (nat_lit 1386) zee (.node (nat_lit 1379) z9n .leaf .leaf) (.node (nat_lit 1393) z8n .leaf .leaf))))) (.node (nat_lit 1723) z6g (.node (nat_lit 1519) z6q (.node (nat_lit
 1470) zdp (.node (nat_lit 1449) z3d (.node (nat_lit 1435) z5n (.node (nat_lit 1407) z5r .leaf .leaf) .leaf) (.node (nat_lit 1463) zcu .leaf .leaf)) (.node (nat_lit 1505) z8f (.node (nat_lit 1491) zbk .leaf
 .leaf) (.node (nat_lit 1512) z5w .leaf .leaf))) (.node (nat_lit 1685) zez (.node (nat_lit 1671) zr4 (.node (nat_lit 1664) z9y .leaf .leaf) (.node (nat_lit 1678) zj3 .leaf .leaf)) (.node (nat_lit 1706) z5l (.node (nat_lit 1692)
 z6c .leaf .leaf) (.node (nat_lit 1718) z5t .leaf .leaf)))) (.node (nat_lit 1791) OZ (.node (nat_lit 1763) zr5 (.node (nat_lit 1742) z45 (.node (nat_lit 1735) z5q (.node (nat_lit 1728) z3f .leaf .leaf)
 .leaf) (.node (nat_lit 1756) zh6 .leaf .leaf)) (.node (nat_lit 1777) kc (.node (nat_lit 1770) cp .leaf .leaf) (.node (nat_lit 1784) zix .leaf .leaf))) (.node (nat_lit 1819) aW (.node (nat_lit 1805) OW (.node (nat_lit 1798) bW .leaf
 .leaf) (.node (nat_lit 1812) Vq .leaf .leaf)) (.node (nat_lit 1831) Vh (.node (nat_lit 1826) Vg .leaf .leaf) (.node (nat_lit 1838) pV .leaf .leaf))))))
def Rj:Tr Fn:=.node Nk jr (.node (nat_lit 320) jl .leaf .leaf) .leaf
def D5:Tr Cl:=.node (nat_lit 795) vL (.node (nat_lit 471) vK (.node (nat_lit 284) D2 (.node (nat_lit 240) D2 (.node (nat_lit 165) za5 .leaf .leaf) .leaf) (.node (nat_lit 421) zef .leaf .leaf)) (.node (nat_lit 711) zne (.node (nat_lit 628) KN (.node (nat_lit
 534) zj6 .leaf .leaf) .leaf) (.node (nat_lit 753) zks .leaf .leaf))) (.node (nat_lit 1332) zct (.node (nat_lit 1183) zlh (.node (nat_lit 975) zgp (.node (nat_lit 862) zht .leaf .leaf) .leaf) (.node (nat_lit 1218) zn4 .leaf .leaf)) (.node (nat_lit 1543)
 D3 (.node (nat_lit 1354) zka .leaf .leaf) (.node (nat_lit 1745) zl2 .leaf .leaf)))
def Tr.map(g:α->β)(t:Tr α):Tr β:=Tr.rec (motive:=λ_=>Tr β) .leaf (λk v _ _ L R=>.node k (g v) L R) t
theorem Tr.get_map{g:α->β}{t:Tr α}{a:Nat}{r:β}(h:(t.map g).get a=some r):∃f,t.get a=some f/\r=g f:=by
 induction t with
 |leaf=>exact NS h
 |node k v l r hl hr=>
  show ∃f,(Bool.rec (Bool.rec (r.get a) (l.get a) (Nat.blt a k)) (some v) (Nat.beq a k):Option α)=some f/\_
  replace h:(Bool.rec (Bool.rec ((r.map g).get a) ((l.map g).get a) (Nat.blt a k)) (some (g v)) (Nat.beq a k):Option β)=some _:=h
  revert h
  cases Nat.beq a k with
  |true=>exact λh=>⟨v,rfl,(w3 h).symm⟩
  |false=>cases Nat.blt a k with
   |true=>exact hl
   |false=>exact hr
def gBare(U:List (List Nat)):Gl:=⟨U,Ik,Rj,D5,1000,true,.leaf⟩
def cmpT: {t:List (List Nat)->Tr Run // t = λU=>Tr.map (λf C CQ args σ=>runF (gBare U) C CQ f args σ) Ik}:=⟨_,by
 delta Ik
 dsimp only[qb,qd,qf,qh,qp,qt,qu,qv,qw,qy,tD,Sm,Sn,So,Sp,Sq,fw,g9,IJ,iA,eT,oJ,IK,dN,rf,Ss,jG,fQ,oK,tE,aO,rh,IL,yZ,lY,N8,N9,BI,jH,Fv,tF,oR,Su,Sv,Sw,Sx,gb,tG,Sy,Na,Fx,rj,lg,FA,rk,Nb,Nc,Sz,Nd,IM,Nf,SD,SG,SI,tI,IP,SJ,zB,FC,Nm,SO,SR,nQ,cv,IQ,Nn,Np,Nr,IS,S_,tM,BM,FE,Nt,Nu,BN,T1,IT,bK,BO,T4,Nv,Nw,T5,T7,hV,BP,T8,T9,Ta,Tc,Td,Te,IU,FG,FH,BQ,FI,NA,NB,Tg,m8,BR,NC,jJ,m9,tN,nW,zH,NH,Tn,fU,To,Tp,IX,FK,Tq,Ts,zJ,Tt,I_,J0,Tu,Tv,tO,FN,tP,NL,NM,Tw,NN,Tx,tQ,Tz,J3,TA,J4,TB,zK,J5,tR,TC,TH,TJ,TK,NP,TL,TM,TN,TP,BS,NT,zL,NU,TQ,TS,TU,TV,NV,TX,nX,J8,TY,T',cO,mi,FU,FY,J9,BU,NW,U9,Jb,Ua,Ub,NY,NZ,BV,Uc,Ud,Ue,Ug,Uh,Ui,O5,rq,Ul,O7,zO,FZ,rA,zR,Ut,oY,O8,O9,mm,Oa,G0,Ux,zS,BY,Ob,fF,UB,zT,G3,UC,UD,UE,Oc,Od,UG,UH,Oe,mq,UI,Of,UK,G5,UL,UM,UN,UQ,UR,US,BZ,UW,G8,UX,Oh,UY,UZ,U_,eV,Oi,Oj,Om,V0,hZ,Oo,B_,V1,V2,V3,Oq,B',V4,Ga,V5,V6,Ou,Ov,Tr.map,runF,ex,ev,OfNat.ofNat,zac,zey,z5o,z1n,za2,zl5,zic,zbp,z8i,zcm,zbr,zgf,jr,z2w,Dn,zei,jl,z3r,z5i,z5m,z7s,z5h,z1r,z4z,z52,z18,z5j,z63,z4x,z7q,zhd,z8p,z7r,zel,z7n,zkx,zkv,zdy,z9l,zed,zen,zgo,z4w,z25,z30,z2e,zab,zev,zd1,z4r,z8g,z80,zl9,z4c,z90,zbh,z64,zeq,z9u,z6t,z5k,zaf,zer,zdg,z7o,z62,z96,za7,zbs,z7p,zhc,z1j,z3n,zlw,z4p,zbj,zm2,z3g,ba,z0l,z59,z0q,z1q,z1s,z1f,z1y,zbn,z36,z6k,zih,ze1,zeo,z61,z41,z6e,z2f,z8h,z28,z2t,z5p,zee,z9n,z8n,z6g,z6q,zdp,z3d,z5n,z5r,zcu,z8f,zbk,z5w,zez,zr4,z9y,zj3,z5l,z6c,z5t,OZ,zr5,z45,z5q,z3f,zh6,kc,cp,zix,aW,OW,bW,Vq,Vh,Vg,pV]⟩
noncomputable def iu: List Nat:=[3,0,2,22,23,24,25,26,27,28,29,30,31,32,33,34,35,36,37,38,39,40,41,42,134,433,844,845,1337,49,48,56,55,63,62,70,69,77,76,84,83,119,118,126,125,148,147,181,180,202,201,313,312,308,306,320,319,327,326,334,333,341,340,348,347,355,354,362,361,369,368,376,375,383,382,390,389,397,396,404,403,411,410,418,417,432,431,440,439,454,453,461,460,468,467,482,481,489,488,496,495,503,502,510,509,517,516,531,530,552,551,559,558,566,565,573,572,580,579,587,586,594,593,599,598,606,605,639,638,646,645,651,650,659,658,654,652,666,665,680,679,687,686,694,693,701,700,729,728,736,735,743,742,750,749,771,770,778,777,785,784,806,805,814,813,809,807,821,820,828,827,836,835,831,829,843,842,859,858,874,873,869,867,881,880,895,894,902,901,909,908,923,922,930,929,937,936,944,943,951,950,958,957,965,964,972,971,986,985,993,992,1000,999,1007,1006,1015,1014,1010,1008,1180,1179,1175,1173,1201,1200,1208,1207,1215,1214,1265,1264,1260,1258,1273,1272,1268,1266,1308,1307,1329,1328,1351,1350,1372,1371,1379,1378,1386,1385,1393,1392,1400,1399,1407,1406,1435,1434,1449,1448,1463,1462,1470,1469,1491,1490,1505,1504,1512,1511,1519,1518,1664,1663,1671,1670,1678,1677,1685,1684,1692,1691,1706,1705,1718,1717,1723,1722,1728,1727,1735,1734,1742,1741,1756,1755,1763,1762,1770,1769,1777,1776,1784,1783,1791,1790,1798,1797,1805,1804,1812,1811,1819,1818,1826,1825,1831,1830,1838,1837,216,215,211,209,237,236,232,230,281,280,276,274,165,164,219,218,240,239,252,251,264,263,284,283,296,295,421,420,471,470,534,533,628,627,711,710,753,752,795,794,862,861,975,974,1183,1182,1218,1217,1332,1331,1354,1353,1543,1542,1745,1744,1477,1484,1498]
noncomputable def nsL: List Nat:=[29793,544943658403139570398305,7022344841626678625,474214786402,7954890092460992611,32481099966802019,6583396,8319395793566264421,30506441440650599,114849429287527,7308338789785498473,1684957547,126943822178668,465490374508,28542640894207341,1701080941,493274035520859444309869,1871941859643659349869,1701667182,544942427809977285304686,7957695015159099246,2129333263491757535086,1852141679,491328402799,545182384934027678343536,128017497219440,2128683894076490277232,435459026032,109304441107824,1953460082,1937207154,32199672317698931,1852270963,1702521203,120282512849267,435610083700,474147938676,1954047348,1701147252,6910581,435761734006]
noncomputable def R5: List (Nat×Nat):=[(7234924,0),(6582895,1),(7497827,2),(7889261,3),(435526984050,4),(435611006324,5),(1953720684,6),(7500915,7),(7630441,8)]
noncomputable def mC(P:Params)(a:Nat):Obj:=match a with
 |3=>Xl P 137
 |2=>Xd P 137
 |12=>pW (Jz 137 rows)
 |219=>(Ia P 29 (Xp 137)).2.1.getD 16 default
 |a=>Hy P a
noncomputable def KP(P:Params):Frag:=iu.map λa=>(a,mC P a)
noncomputable def WK(P:Params):Ck:=⟨KP P,nsL,R5⟩
theorem P_(P:Params):∀(f a b i:Nat),b+a * i<1839->i+1<2 ^ f->(gen P f a b).get i=some (Hy P (b+a * i))
 |0,a,b,i,_,h=>by simp at h
 |f+1,a,b,i,hb,h=>by
  have e0:gen P (f+1) a b=(match Nat.blt b 1839 with | true=>BT.node (Hy P b) (gen P f (2 * a) (a+b)) (gen P f (2 * a) (2 * a+b)) | false=>.nil):=rfl
  have iZ:Nat.blt b 1839=true:=by
   have:b<1839:=Nat.lt_of_le_of_lt (Nat.le_add_right _ _) hb
   exact Nat.ble_eq_true_of_le this
  rw[e0,iZ]
  show(BT.node _ _ _).get i=_
  rw[BT.get_node]
  by_cases h0:i=0
  ·subst h0;rw[if_pos rfl,Nat.mul_zero,Nat.add_zero]
  ·rw[if_neg h0]
   have hp:2 ^ (f+1)=2 * 2 ^ f:=by rw[Nat.pow_succ];lia
   by_cases h1:i % 2=1
   ·rw[if_pos h1]
    have hi:i=2 * (i / 2)+1:=by lia
    have e1:a+b+2 * a * (i / 2)=b+a * i:=by
     have:a * i=a * (2 * (i / 2)+1):=congrArg (a * ·) hi
     rw[this,Nat.mul_add,Nat.mul_one,<-Nat.mul_assoc,Nat.mul_comm a 2];lia
    rw[<-e1]
    exact P_ P f (2 * a) (a+b) (i / 2) (by rw[e1];exact hb) (by lia)
   ·rw[if_neg h1]
    have hi:i=2 * (i / 2 - 1)+2:=by lia
    have e1:2 * a+b+2 * a * (i / 2 - 1)=b+a * i:=by
     have:a * i=a * (2 * (i / 2 - 1)+2):=congrArg (a * ·) hi
     rw[this,Nat.mul_add,<-Nat.mul_assoc,Nat.mul_comm a 2];lia
    rw[<-e1]
    exact P_ P f (2 * a) (2 * a+b) (i / 2 - 1) (by rw[e1];exact hb) (by lia)
theorem sx(P:Params){a:Nat}(h:a<1839):(E P 137).get a=some (mC P a):=by
 have hG:∀a,a<1839->(G P).get a=some (Hy P a):=λa h=>by
  have:=P_ P 12 1 0 a (by lia) (by show a+1<4096;exact mP h rfl)
  rwa [Nat.zero_add,Nat.one_mul] at this
 have e0:∀(t:BT) (b:Nat) (f:Obj->Obj),(t.set b f).get a=if a=b then (t.get b).map f else t.get a:=λt b f=>BT.get_set f t b a
 unfold E
 rw[e0]
 by_cases h1:a=219
 ·subst h1
  rw[if_pos rfl,BT.get_set,if_neg (by decide),BT.get_set,if_neg (by decide),BT.get_set,if_neg (by decide),hG 219 (by decide)]
  rfl
 ·rw[if_neg h1,e0]
  by_cases h2:a=12
  ·subst h2
   rw[if_pos rfl,BT.get_set,if_neg (by decide),BT.get_set,if_neg (by decide),hG 12 (by decide)]
   rfl
  ·rw[if_neg h2,e0]
   by_cases h3:a=3
   ·subst h3
    rw[if_pos rfl,BT.get_set,if_neg (by decide),hG 3 (by decide)]
    rfl
   ·rw[if_neg h3,e0]
    by_cases h4:a=2
    ·subst h4
     rw[if_pos rfl,hG 2 (by decide)];rfl
    ·rw[if_neg h4,hG a h]
     unfold mC
     split
     ·exact w1 rfl h3
     ·exact w1 rfl h4
     ·exact w1 rfl h2
     ·exact w1 rfl h1
     ·rfl
noncomputable def uH(o:Obj):Bool:=match o.data with | .freed=>false | _=>true
theorem WN(h:uH o=true):alive o=some o:=by
 obtain⟨a,b,d,e⟩:=o
 unfold alive
 split
 ·rename_i e;cases e;exact FT h
 ·rfl
theorem E9: (λP=>iu.all λa=>uH (mC P a)) = λ_=>true:=by kernel_rfl
theorem wZ: (iu.all λa=>Nat.blt a 1839)=true:=by decide +kernel
theorem VI{β:Type}(f:Nat->β):∀{l:List Nat}{a:Nat}{o:β},(l.map λa=>(a,f a)).lookup a=some o->a∈l/\o=f a
 |[],_,_,h=>by exact NS h
 |b::l,a,o,h=>by
  rw[List.map_cons,List.lookup_cons] at h
  induction q:a==b with
  |true=>rw[q] at h;obtain rfl:=w3 h;rw[eq_of_beq q];exact⟨.head _,rfl⟩
  |false=>
   rw[q] at h
   refine oA (VI f h) λh1 h2=>?_
   exact⟨.tail _ h1,h2⟩
theorem RM(P:Params):(KP P).In (H1 P):=by
 intro a o e
 refine oA (VI (mC P) e) ?_;rintro hm rfl
 have h1:a<1839:=w5 (w6.mp wZ a hm)
 have h2:=w6.mp (congrFun E9 P) a hm
 show(absHeap (E P 137) 1839 {}).get? a=_
 rw[abs_get h1 (sx P h1),WN h2]
theorem ZU: (λP=>Ik.all (λa f=>zY (WK P) false a f)) = λ_=>true:=by kernel_rfl
theorem ZV: (λP=>Rj.all (λa f=>zY (WK P) true a f)) = λ_=>true:=by kernel_rfl
theorem E8: (λP=>D5.all (λa k=>Xb (WK P) a k)) = λ_=>true:=by kernel_rfl
theorem kM: (λP=>mB (WK P) 219 216) = λ_=>true:=by kernel_rfl
theorem kX1: (λP=>Hp (WK P) 219 240 237) = λ_=>true:=by kernel_rfl
theorem kX2: (λP=>Hp (WK P) 219 284 281) = λ_=>true:=by kernel_rfl
def okN(a:Addr):Prop:=∃k,D5.get a=some k/\k.exc=false
def Sb(a:Addr):Prop:=∃k,D5.get a=some k/\k.exc=true
structure Wo extends World where
 B:Heap
 sub:∀b o,(H1 toWorld.params).get? b=some o->B.get? b=some o
 top:∃o,B.get? (B.objs.size - 1)=some o
noncomputable def av(w:Wo)(P R:List Nat)(U:List (List Nat))(tab:Nat->Int):Cx:=⟨P,R,w.toWorld,w.B,U,okN,Sb,tab⟩
noncomputable def gU(U:List (List Nat)):Gl:=⟨U,Ik,Rj,D5,1000,true,cmpT.1 U⟩
theorem HJ{P:Params}{a:Addr}(h1:a<1839)(h2:uH (mC P a)=true):(H1 P).get? a=some (mC P a):=by
 show(absHeap (E P 137) 1839 {}).get? a=_
 rw[abs_get h1 (sx P h1),WN h2]
theorem ZY: (λP=>(uH (mC P 0)&&(uH (mC P 1)&&(uH (mC P 2)&&(uH (mC P 3)&&uH (mC P 1838)))))) = λ_=>true:=by kernel_rfl
theorem zmj(P:Params):(∃o,(H1 P).get? 0=some o)/\(∃o,(H1 P).get? 1=some o)/\(∃o,(H1 P).get? 2=some o)/\(∃o,(H1 P).get? 3=some o)/\∃o,(H1 P).get? ((H1 P).objs.size - 1)=some o:=by
 refine n5 (congrFun ZY P) λa0 a1 a2 a3 a4=>?_
 refine⟨⟨_,HJ (by decide) a0⟩,⟨_,HJ (by decide) a1⟩,⟨_,HJ (by decide) a2⟩,⟨_,HJ (by decide) a3⟩,?_⟩
 have:(H1 P).objs.size=1839:=absHeap_size _ _ _
 rw[this]
 exact⟨_,HJ (by decide) a4⟩
theorem vy: R5.all (λp=>(match bootBuiltins (nm p.1) with | some v=>v==iO p.2 | none=>false)&&!(nm p.1==("__name__":Str)))=true:=by decide +kernel
theorem vR: D5.all (λa k=>ak k.exc (Nat.beq a 240||Nat.beq a 284) true)=true:=by decide +kernel
theorem JJ(P:Params){a:Addr}(h:Sb a):∃fX,Hp (WK P) 219 a fX=true:=by
 refine au h λk e hx=>?_
 have:=Tr.cC vR e
 rw[hx] at this
 replace this:(Nat.beq a 240||Nat.beq a 284)=true:=this
 rw[Bool.or_eq_true] at this
 rcases this with q | q
 ·rw[Nat.eq_of_beq_eq_true q];exact⟨237,congrFun kX1 P⟩
 ·rw[Nat.eq_of_beq_eq_true q];exact⟨281,congrFun kX2 P⟩
theorem nJ(w:Wo):(KP w.params).In w.B:=(RM w.params).keeps w.sub
theorem OH(w:Wo):∃o,w.B.get? sysModules=some o:=(zmj w.params).2.1.elim λo e=>⟨o,w.sub _ _ e⟩
section
variable{w:Wo}{U:List (List Nat)}{Pt Rt:List Nat}{tab:Nat->Int}{p:Program}
theorem i5(T:TopRead p loose mg mb w.B):Wd prog (av w Pt Rt U tab) (WK w.params) p loose mg mb where
 X:=nJ w
 T:=T
 fm:=⟨nJ w,λC ⟨k,e,hx⟩=>(P7 (c:=av w Pt Rt U tab) ⟨k,e,hx⟩ hx (Tr.cC (congrFun E8 w.params) e)).2.1,λC ⟨k,e,hx⟩=>(P7 (c:=av w Pt Rt U tab) ⟨k,e,hx⟩ hx (Tr.cC (congrFun E8 w.params) e)).2.2⟩
 pK x k h:=by
  refine n2 (w6.mp vy _ h) λh1 h2=>?_
  refine⟨?_,by simpa using yr h2⟩
  dsimp only at h1
  split at h1
  ·rename_i v e;rw[e,show v=iO k from by simpa using h1]
  ·exact FT h1
 sys:=OH w
 Ig C h:=by
  refine oE (JJ w.params h) λfX hX=>?_
  exact(Pk hX).2.2.2.2
theorem h_(T:TopRead p loose mg mb w.B)(hP:Pt.length<=1000000)(hR:Rt.length<=1000000):Tb prog (av w Pt Rt U tab) (WK w.params) (gU U) where
 fu:=⟨by show 1000<=100000;decide,by show 0<1000;decide⟩
 mx:=rfl
 U:=rfl
 P:=hP
 R:=hR
 lim:=T.nolimit
 top:=w.top
 fn a f h:=Xk (Tr.cC (congrFun ZU w.params) h)
 fq a f h:=Xk (Tr.cC (congrFun ZV w.params) h)
 runs a r h:=by
  rw[show(gU U).runs=_ from congrFun cmpT.2 U] at h
  refine au (Tr.get_map h) λf e1 e2=>?_
  refine aT f (Xk (Tr.cC (congrFun ZU w.params) e1)) λC CQ args σ=>?_
  rw[e2];kernel_rfl
 Ra a k h:=(mU (Tr.cC (congrFun E8 w.params) h)).1
 cls a k h hx:=(P7 (c:=av w Pt Rt U tab) ⟨k,h,hx⟩ hx (Tr.cC (congrFun E8 w.params) h)).1
 exc a k h hx:=by
  refine oE (JJ w.params ⟨k,h,hx⟩) λfX hX=>?_
  refine zj9 (nJ w) T T.nolimit w.top ⟨k,h,hx⟩ (λC hC=>?_) (congrFun kM w.params) hX
  refine oE (JJ w.params hC) λfX hX=>?_
  have:=Pk hX
  exact dp this.1 this.2.2.1 this.2.2.2.1
 Dm a k m f h hx hm:=by
  have:=(mU (Tr.cC (congrFun E8 w.params) h)).2
  rw[hx] at this
  replace this:k.ms.isEmpty=true:=this
  rw[jk this] at hm
  exact NS hm
 fm C hC:=by
  refine oE (JJ w.params hC) λfX hX=>?_
  have:=Pk hX
  exact⟨this.1,this.2.1⟩
end
structure aZ (c c':Cx):Prop where
 b:c'.base=c.base
 w:c'.w=c.w
 ok:c'.ok=c.ok
 bA:c'.bA=c.bA
theorem aZ.refl(c:Cx):aZ c c:=⟨rfl,rfl,rfl,rfl⟩
theorem z7(w:Wo)(P R P' R':List Nat)(U U':List (List Nat))(t t':Nat->Int):aZ (av w P R U t) (av w P' R' U' t'):=⟨rfl,rfl,rfl,rfl⟩
mutual
noncomputable def pO(n:Nat):AV->Bool
 |.none=>true
 |.bool _=>true
 |.int q _=>Nat.beq q 0
 |.str q _=>Nat.beq q 0
 |.tup l=>mY n l
 |.obj i=>Nat.blt i n
 |.ins _ d=>Nat.blt d n
 |.con _=>true
 |.bi _=>true
 |.any=>false
noncomputable def mY(n:Nat):List AV->Bool
 |[]=>true
 |a::l=>pO n a&&mY n l
end
section
variable{N:Nat}
theorem yc(S:aZ c c'){a:AV}(e:pO n a=true)(x:VR c μ N h a v):VR c' μ n h a v:=by
 induction x using VR.rec (motive_2:=λl vs _=>mY n l=true->aH c' μ n h l vs) with
 |none=>exact .none
 |bool b=>exact .bool b
 |int q i t=>obtain rfl:q=0:=w4 e;exact VR.int (c:=c') 0 i t
 |str q s t=>obtain rfl:q=0:=w4 e;exact VR.str (c:=c') 0 s t
 |tup ht _ ih=>exact .tup ht (ih e)
 |obj hi=>exact .obj (w5 e)
 |ins hk hd ha=>exact .ins (S.ok▸hk) (w5 e) ha
 |con v e0=>exact .con v e0
 |bi k=>exact .bi k
 |nil=>exact .nil
 |cons _ _ x y=>rename_i e;exact n2 e λa b=>.cons (x a) (y b)
theorem zpf(S:aZ c c'){l:List AV}(e:mY n l=true)(x:aH c μ N h l vs):aH c' μ n h l vs:=by
 induction x using aH.rec (motive_1:=λ_ _ _=>True) with
 |nil=>exact .nil
 |cons x _ _ y=>exact n2 e λa b=>.cons (yc S a x) (y b)
 |_=>trivial
def KQ(n:Nat)(es:List (Nat×AV)):Bool:=es.all λp=>pO n p.2
def Ib(n:Nat)(es:List (List Nat×AV)):Bool:=es.all λp=>pO n p.2
theorem vQ(S:aZ c c'){es:List (Nat×AV)}{ds:List DictEntry}(e:KQ n es=true)(r:fh c μ N h es ds):fh c' μ n h es ds:=by
 induction r with
 |nil=>exact .nil
 |cons v _ ih=>
  refine n2 (show(pO n _&&KQ n _)=true from e) λh1 h2=>?_
  rw[<-S.w]
  exact .cons (yc S h1 v) (ih h2)
theorem vP(S:aZ c c'){es:List (List Nat×AV)}{ds:List DictEntry}(e:Ib n es=true)(r:fz c μ N h es ds):fz c' μ n h es ds:=by
 induction r with
 |nil=>exact .nil
 |cons v _ ih=>
  refine n2 (show(pO n _&&Ib n _)=true from e) λh1 h2=>?_
  rw[<-S.w]
  exact .cons (yc S h1 v) (ih h2)
def KR(n:Nat)(a:ao):Bool:=match a with
 |.list l=>mY n l
 |.ns es=>KQ n es
 |.dict u _ es=>!u&&Ib n es
 |_=>false
theorem Xa(c:Cx):vh c []:=⟨⟨w9 _,w9 _⟩,λ_ h=>nomatch h⟩
theorem K0(S:aZ c c'){a:ao}(e:KR n a=true)(r:aG c μ N h a o):aG c' μ n h a o:=by
 induction r using oC with
 |list v=>exact .list (zpf S e v)
 |ns v=>exact .ns (vQ S e v)
 |@dict u es pre ents k k' v uu p=>
  refine n2 (show(!u&&Ib n es)=true from e) λh1 h2=>?_
  induction u with
  |true=>exact FT h1
  |false=>
   refine oA (p rfl) ?_;rintro rfl rfl
   exact .dict (vP S h2 v) (Xa _) λ_=>⟨rfl,rfl⟩
 |_=>exact FT e
theorem HR.cut(S:aZ c c')(le:ai.n<=σ.n)(tr:∀l,l < ai.n->∀o,h.get? (μ l)=some o->aG c μ σ.n h (σ.get l) o->aG c' μ ai.n h (ai.get l) o)(H:HR c μ σ h):HR c' μ ai h where
 keep:=by rw[S.b];exact H.keep
 obj l hl:=by
  refine au (H.obj l (w7 hl le)) λo ho r=>?_
  exact aT o ho (tr l hl o ho r)
 inj i j hi hj:=H.inj i j (w7 hi le) (w7 hj le)
 new i hi:=by rw[S.b];exact H.new i (w7 hi le)
theorem Ext.cut{m:Nat}(X:Ext μ n h aj n' h')(a:n<=m)(b:m<=n'):Ext μ n h aj m h':=
 ⟨a,X.eq,λi p q=>X.fresh i p (w7 q b),X.kp,X.own⟩
theorem cX.cut(S:aZ c c')(le:n<=N)(x:cX c A μ N h):cX c' A μ n h:=by
 refine dR x λfs e f o=>?_
 exact mH fs e (by rw[S.b];exact f) (λe he l hl=>⟨λi hi=>(o e he l hl).1 i (w7 hi le),(o e he l hl).2⟩)
def vc(c c':Cx)(μ:Nat->Addr)(N n:Nat)(h:Heap)(ρ aI:az):Prop:=∀x y',aC aI x=some y'->∃y,aC ρ x=some y/\∀v,VR c μ N h y v->VR c' μ n h y' v
theorem cm.cut{m:Str->Option Value}(S:aZ c c')(le:n<=N)(tr:vc c c' μ N n h ρ aI)(F:cm c A μ N h L m ρ):cm c' A μ n h L m aI where
 ns:=F.ns
 above:=by rw[S.b];exact F.above
 own i hi:=F.own i (w7 hi le)
 vals x:=by
  induction e:aC aI x with
  |none=>trivial
  |some y'=>
   refine au (tr x y' e) λy e1 k=>?_
   have:=F.vals x
   rw[e1] at this
   refine au this λv hv r=>?_
   exact aT v hv (k v r)
 fG:=F.fG.cut S le
 dj p hp:=by
  refine c6 (F.dj p hp) λa b d=>?_
  exact dp (by rw[S.b];exact a) (λi hi=>b i (w7 hi le)) d
 lU:=F.lU
theorem ax.cut(S:aZ c c')(le:ai.n<=σ.n)(n0:ae<=ai.n)(tr:∀l,l < ai.n->∀o,s.heap.get? (μ l)=some o->aG c μ σ.n s.heap (σ.get l) o->aG c' μ ai.n s.heap (ai.get l) o)(tv:vc c c' μ σ.n ai.n s.heap ρ aI)(x:ax c A a9 ae aa L μ σ ρ s):ax c' A a9 ae aa L μ ai aI s:=
 ⟨x.hr.cut S le tr,x.ex.cut n0 le,x.sm,x.fr.elim λm F=>⟨m,F.cut S le tv⟩,x.out⟩
theorem PQ.cut{iL aE dZ:AH}{v v':AV}{a:Value}(S:aZ c c')(en:iL.n = σ.n)(le:dZ.n<=aE.n)(n0:σ.n<=dZ.n)(tr:∀aj,∀l,l < dZ.n->∀o,s'.heap.get? (aj l)=some o->aG c aj aE.n s'.heap (aE.get l) o->aG c' aj dZ.n s'.heap (dZ.get l) o)(tv:∀aj x,VR c aj aE.n s'.heap v x->VR c' aj dZ.n s'.heap v' x)(q:PQ c (RV c) (.ok v aE) μ σ s a s'):PQ c' (RV c') (.ok v' dZ) μ iL s a s':=by
 refine lN q λb ai aj e H X r sm=>?_
 cases e
 exact iH v' dZ aj rfl (H.cut S le (tr aj)) (by rw[en];exact X.cut n0 le) (tv aj a r) sm
theorem PQ.widen{u_ iL aE:AH}{v v':AV}{a:Value}(S:aZ c c')(e0:u_.n=0)(H:HR c' μ iL s.heap)(hl:∀l,l < iL.n->∃x,iL.get l = .list x)(tv:∀aj x,VR c aj aE.n s'.heap v x->VR c' μ iL.n s'.heap v' x)(q:PQ c (RV c) (.ok v aE) μ u_ s a s'):PQ c' (RV c') (.ok v' iL) μ iL s a s':=by
 refine lN q λb ai aj e H1 X r sm=>?_
 cases e
 have keep:∀b o,s.heap.get? b=some o->¬pC o->s'.heap.get? b=some o:=λb o e nd=>X.kp.same e (λi hi=>w1 (e0▸hi) (Nat.not_lt_zero _)) nd
 have tk:y1 s.heap s'.heap:=λb o e f=>keep b o e f.iy
 refine iH v' iL μ rfl ⟨by rw[S.b];exact H1.keep,λl iY=>?_,H.inj,H.new⟩ ⟨wa _,λ_ _=>rfl,λi p q=>w1 q (Nat.not_lt.mpr p),λb o e _=>X.kp b o e λi hi=>w1 (e0▸hi) (Nat.not_lt_zero _),λi _ e=>?_⟩ (tv aj a r) sm
 ·refine au (H.obj l iY) λo ho ro=>?_
  refine oE (hl l iY) λx ex=>?_
  refine aT o (keep _ _ ho ?_) (ro.mono (wa _) (λ_ _=>rfl) tk)
  rw[ex] at ro
  cases ro
  rintro ⟨es,k,z⟩
  contradiction
 ·refine oE (wq.mp e) λo ho=>?_
  exact X.there ho
end
noncomputable def i4(a b top:Nat):Nat:=match a with
 |0=>(b * 39373+7) % 2147483647 * ((b * 39373+7) % 2147483647) % 2147483629 / 32 % top
 |a+1=>(a+1) % top
noncomputable def pa(a top:Nat):Nat:=match a with
 |0=>0
 |a+1=>(a+1) / top
noncomputable def mu(a b:Nat):Nat:=match a with
 |0=>(b * 39373+7) % 2147483647
 |_+1=>b
noncomputable abbrev o8: Nat:=111477796466547
abbrev lD: Nat:=7368564
noncomputable def Cq(a b:Nat):ao:=.list [.int 0 (.ofNat a),.int 0 (.ofNat b)]
def zw(m:Nat)(l r:bG)(a b:Nat):AH:=⟨m,.node (Cq a b) l r⟩
section
variable(U:List (List Nat))(C CQ:Call)(m:Nat)(l r:bG)
theorem Av(a b:Nat){top:Nat}(ht:top=2\/top=3\/top=4\/top=5\/top=8\/top=13):
  runF (gU U) C CQ kc [.obj 0,.int 0 (.ofNat top)] (zw m l r (a+1) b) = .ok (.int 0 (.ofNat (i4 (a+1) b top))) (zw m l r (pa (a+1) top) (mu (a+1) b)):=by
 rcases ht with rfl | rfl | rfl | rfl | rfl | rfl <;> rfl
theorem zk5(h:n<1152921504606846976):yy (.ofNat n)=true:=Nat.ble_eq_true_of_le h
noncomputable def eB(e:ME):ME:=.bin 4 (.bin 0 (.bin 2 e (.cI (.ofNat 39373))) (.cI (.ofNat 7))) (.cI (.ofNat 2147483647))
def yx: ME:=.idx (.loc o8) (.cI (.ofNat 1))
theorem Aw(b:Nat)(hb:b<2147483647){top:Nat}(ht:top=2\/top=3\/top=4\/top=5\/top=8\/top=13):
  runF (gU U) C CQ kc [.obj 0,.int 0 (.ofNat top)] (zw m l r 0 b) = .ok (.int 0 (.ofNat (i4 0 b top))) (zw m l r (pa 0 top) (mu 0 b)):=by
 let ρ:az:=[(o8,.obj 0),(lD,.int 0 (.ofNat top))]
 have g1:∀b,(ev (gU U) C yx ρ).v (zw m l r 0 b) = .ok (.int 0 (.ofNat b)) (zw m l r 0 b):=λb=>rfl
 have g2:(ev (gU U) C (.bin 2 yx (.cI (.ofNat 39373))) ρ).v (zw m l r 0 b) = .ok (.int 0 (.ofNat (b * 39373))) (zw m l r 0 b):=by
  show((ev (gU U) C yx ρ).v (zw m l r 0 b)).bind (λv σ=>(Res.ok (AV.int 0 (.ofNat 39373)) σ).bind λw σ=>bh 2 v w σ)=_
  rw[g1];rfl
 have g3:(ev (gU U) C (eB yx) ρ).v (zw m l r 0 b) = .ok (.int 0 (.ofNat ((b * 39373+7) % 2147483647))) (zw m l r 0 b):=by
  show(((ev (gU U) C (.bin 2 yx (.cI (.ofNat 39373))) ρ).v (zw m l r 0 b)).bind λv σ=>(Res.ok (AV.int 0 (.ofNat 7)) σ).bind λw σ=>bh 0 v w σ).bind (λv σ=>(Res.ok (AV.int 0 (.ofNat 2147483647)) σ).bind λw σ=>bh 4 v w σ)=_
  rw[g2]
  show Res.ok (AV.int 0 (Int.fmod (Int.ofNat (b * 39373+7)) (Int.ofNat 2147483647))) _=_
  rw[show Int.fmod (Int.ofNat (b * 39373+7)) (Int.ofNat 2147483647)=Int.ofNat ((b * 39373+7) % 2147483647) from(Int.ofNat_fmod _ _).symm]
 generalize By:(b * 39373+7) % 2147483647=b' at *
 have lb:b'<2147483647:=By▸Nat.mod_lt _ (by decide)
 have g4:(ev (gU U) C (.bin 2 yx yx) ρ).v (zw m l r 0 b') = .ok (.int 0 (.ofNat (b' * b'))) (zw m l r 0 b'):=by
  show((ev (gU U) C yx ρ).v (zw m l r 0 b')).bind (λv σ=>((ev (gU U) C yx ρ).v σ).bind λw σ=>bh 2 v w σ)=_
  rw[g1]
  show((ev (gU U) C yx ρ).v (zw m l r 0 b')).bind (λw σ=>bh 2 (.int 0 (.ofNat b')) w σ)=_
  rw[g1]
  show ak (ak (yy (.ofNat b')) true (yy (.ofNat b'))) (Res.ok (AV.int 0 (Int.mul (.ofNat b') (.ofNat b'))) (zw m l r 0 b')) .stuck=_
  rw[zk5 (fy lb rfl)];rfl
 have g5:(ev (gU U) C (.bin 4 (.bin 3 (.bin 4 (.bin 2 yx yx) (.cI (.ofNat 2147483629))) (.cI (.ofNat 32))) (.loc lD)) ρ).v (zw m l r 0 b') = .ok (.int 0 (.ofNat (b' * b' % 2147483629 / 32 % top))) (zw m l r 0 b'):=by
  show((((ev (gU U) C (.bin 2 yx yx) ρ).v (zw m l r 0 b')).bind λv σ=>(Res.ok (AV.int 0 (.ofNat 2147483629)) σ).bind λw σ=>bh 4 v w σ).bind (λv σ=>(Res.ok (AV.int 0 (.ofNat 32)) σ).bind λw σ=>bh 3 v w σ)).bind (λv σ=>(Res.ok (AV.int 0 (.ofNat top)) σ).bind λw σ=>bh 4 v w σ)=_
  rw[g4]
  show ak (nL (.ofNat top)) (Res.ok (AV.int 0 (Int.fmod (Int.fdiv (Int.fmod (Int.ofNat (b' * b')) (Int.ofNat 2147483629)) (Int.ofNat 32)) (Int.ofNat top))) (zw m l r 0 b')) .stuck=_
  rw[show nL (.ofNat top)=true by rcases ht with rfl | rfl | rfl | rfl | rfl | rfl <;> rfl]
  rw[show Int.fmod (Int.ofNat (b' * b')) (Int.ofNat 2147483629)=Int.ofNat (b' * b' % 2147483629) from(Int.ofNat_fmod _ _).symm,
   show Int.fdiv (Int.ofNat (b' * b' % 2147483629)) (Int.ofNat 32)=Int.ofNat (b' * b' % 2147483629 / 32) from(Int.ofNat_fdiv _ _).symm,
   show Int.fmod (Int.ofNat (b' * b' % 2147483629 / 32)) (Int.ofNat top)=Int.ofNat (b' * b' % 2147483629 / 32 % top) from(Int.ofNat_fmod _ _).symm]
  rfl
 have e1:ex (gU U) C CQ (.d3 (.loc o8) (.cI (.ofNat 1)) (eB yx)) ρ (zw m l r 0 b) = .ok .next ρ (zw m l r 0 b'):=by
  show((ev (gU U) C (eB yx) ρ).v (zw m l r 0 b)).bO ρ (λv σ=>(Res.ok (AV.obj 0) σ).bO ρ λw σ=>(Res.ok (AV.int 0 (.ofNat 1)) σ).bO ρ λj σ=>(JF (gU U) w j v σ).bO ρ λ_ σ=>.ok .next ρ σ)=_
  rw[g3];rfl
 have e2:ex (gU U) C CQ (.ret (.bin 4 (.bin 3 (.bin 4 (.bin 2 yx yx) (.cI (.ofNat 2147483629))) (.cI (.ofNat 32))) (.loc lD))) ρ (zw m l r 0 b') = .ok (.ret (.int 0 (.ofNat (b' * b' % 2147483629 / 32 % top)))) ρ (zw m l r 0 b'):=by
  show((ev (gU U) C (.bin 4 (.bin 3 (.bin 4 (.bin 2 yx yx) (.cI (.ofNat 2147483629))) (.cI (.ofNat 32))) (.loc lD)) ρ).v (zw m l r 0 b')).bO ρ (λv σ=>.ok (.ret v) ρ σ)=_
  rw[g5];rfl
 have e3:runF (gU U) C CQ kc [.obj 0,.int 0 (.ofNat top)] (zw m l r 0 b)=jM ((ex (gU U) C CQ (.d3 (.loc o8) (.cI (.ofNat 1)) (eB yx)) ρ (zw m l r 0 b)).seq λρ σ=>(ex (gU U) C CQ (.ret (.bin 4 (.bin 3 (.bin 4 (.bin 2 yx yx) (.cI (.ofNat 2147483629))) (.cI (.ofNat 32))) (.loc lD))) ρ σ).seq ji):=rfl
 rw[e3,e1]
 show jM ((ex (gU U) C CQ (.ret (.bin 4 (.bin 3 (.bin 4 (.bin 2 yx yx) (.cI (.ofNat 2147483629))) (.cI (.ofNat 32))) (.loc lD))) ρ (zw m l r 0 b')).seq ji)=_
 rw[e2]
 show Res.ok (AV.int 0 (.ofNat (b' * b' % 2147483629 / 32 % top))) (zw m l r 0 b')=_
 unfold i4 pa mu
 rw[By]
theorem zkh(a b:Nat)(hb:b<2147483647){top:Nat}(ht:top=2\/top=3\/top=4\/top=5\/top=8\/top=13):
  runF (gU U) C CQ kc [.obj 0,.int 0 (.ofNat top)] (zw m l r a b) = .ok (.int 0 (.ofNat (i4 a b top))) (zw m l r (pa a top) (mu a b)):=by
 induction a using nC with
 |zero=>exact Aw U C CQ m l r b hb ht
 |succ a=>exact Av U C CQ m l r a b ht
end
theorem uE{a b top:Nat}(h:0<top):i4 a b top<top:=by
 unfold i4;split <;> exact Nat.mod_lt _ h
theorem Ay{a b:Nat}(h:b<2147483647):mu a b<2147483647:=by
 unfold mu;split
 ·exact Nat.mod_lt _ (by decide)
 ·exact h
noncomputable def bN: Nat×Nat->List Nat->Nat×Nat
 |p,[]=>p
 |p,t::ts=>bN (pa p.1 t,mu p.1 p.2) ts
noncomputable def fA: Nat×Nat->List Nat->List (Nat×Nat)
 |_,[]=>[]
 |p,t::ts=>(t,i4 p.1 p.2 t)::fA (pa p.1 t,mu p.1 p.2) ts
def zp(p:Nat×Nat)(ts:List Nat)(j:Nat):Int:=if j % 2=0 then ((bN p (ts.take (j / 2))).1:Int) else ((bN p (ts.take (j / 2))).2:Int)
noncomputable def fB: List Nat->List (List (Nat×Nat))
 |[]=>[[]]
 |t::ts=>(List.range t).flatMap λd=>(fB ts).map λr=>(t,d)::r
def cB(t:Nat):Prop:=t=2\/t=3\/t=4\/t=5\/t=8\/t=13
theorem cB.YJ{t:Nat}(h:cB t):0<t:=by rcases h with rfl | rfl | rfl | rfl | rfl | rfl <;> decide
abbrev bM: Nat:=2147483647
theorem xg: ∀(ts:List Nat) {p:Nat×Nat},p.2<bM->(bN p ts).2<bM
 |[],_,h=>h
 |t::ts,p,h=>xg ts (p:=(pa p.1 t,mu p.1 p.2)) (Ay h)
theorem uv: ∀(ts:List Nat) (p:Nat×Nat),(∀t∈ts,cB t)->fA p ts∈fB ts
 |[],_,_=>.head _
 |t::ts,p,h=>by
  unfold fA fB
  rw[List.mem_flatMap]
  exact aT _ (List.mem_range.mpr (uE (h t (.head _)).YJ)) (List.mem_map_of_mem (uv ts _ λu hu=>h u (.tail _ hu)))
theorem Xi: ∀(ts:List Nat) (p:Nat×Nat) (k:Nat) (top d:Nat),(fA p ts)[k]? = some (top,d)->
  ts[k]? = some top/\d=i4 (bN p (ts.take k)).1 (bN p (ts.take k)).2 top/\bN p (ts.take (k+1))=(pa (bN p (ts.take k)).1 top,mu (bN p (ts.take k)).1 (bN p (ts.take k)).2)
 |[],_,_,_,_,h=>by simp[fA] at h
 |t::ts,p,0,top,d,h=>by
  unfold fA at h
  simp at h
  refine oA h ?_;clear h;rintro rfl rfl
  exact dp rfl rfl rfl
 |t::ts,p,k+1,top,d,h=>by
  unfold fA at h
  rw[List.getElem?_cons_succ] at h
  refine c6 (Xi ts _ k top d h) λh1 h2 h3=>?_
  exact dp (by rw[List.getElem?_cons_succ];exact h1) h2 h3
noncomputable def xi(k:Nat):ao:=.list [.int (k+k+3) (.ofNat 0),.int (k+k+4) (.ofNat 0)]
def zc(k:Nat):AH:=⟨1,.node (xi k) .leaf .leaf⟩
theorem yo(p:Nat×Nat)(ts:List Nat)(k:Nat):zp p ts (k+k)=((bN p (ts.take k)).1:Int):=by
 unfold zp
 rw[if_pos (by lia),show(k+k) / 2=k by lia]
theorem yn(p:Nat×Nat)(ts:List Nat)(k:Nat):zp p ts (k+k+1)=((bN p (ts.take k)).2:Int):=by
 unfold zp
 rw[if_neg (by lia),show(k+k+1) / 2=k by lia]
section
variable{N:Nat}
theorem jn{q q':Nat}{i i':Int}(r:VR c μ N h (.int q i) v)(e:c.off q+i=c'.off q'+i'):VR c' μ n h (.int q' i') v:=by
 cases r with
 |int _ _ t=>rw[e];exact .int q' i' t
theorem QB{x y x' y':AV}(r:aG c μ N h (.list [x,y]) o)(kx:∀v,VR c μ N h x v->VR c' μ n h x' v)(ky:∀v,VR c μ N h y v->VR c' μ n h y' v):aG c' μ n h (.list [x',y']) o:=by
 cases r with
 |list v=>cases v with
  |cons a v=>cases v with
   |cons b v=>cases v with
    |nil=>exact .list (.cons (kx _ a) (.cons (ky _ b) .nil))
theorem zjr{k a b:Nat}(ha:c.tab (k+k)=a)(hb:c.tab (k+k+1)=b)(r:aG c μ N h (xi k) o):aG c' μ n h (Cq a b) o:=
 QB r (λv q=>jn q (by show c.tab (k+k)+0=(0:Int)+(a:Int);rw[ha];exact Int.add_comm _ _)) (λv q=>jn q (by show c.tab (k+k+1)+0=(0:Int)+(b:Int);rw[hb];exact Int.add_comm _ _))
theorem Wn{k a b:Nat}(ha:c'.tab (k+k)=a)(hb:c'.tab (k+k+1)=b)(r:aG c μ N h (Cq a b) o):aG c' μ n h (xi k) o:=
 QB r (λv q=>jn q (by show(0:Int)+(a:Int)=c'.tab (k+k)+0;rw[ha];exact Int.zero_add _)) (λv q=>jn q (by show(0:Int)+(b:Int)=c'.tab (k+k+1)+0;rw[hb];exact Int.zero_add _))
theorem lK{k k':Nat}(ha:c'.tab (k'+k')=c.tab (k+k))(hb:c'.tab (k'+k'+1)=c.tab (k+k+1))(r:aG c μ N h (xi k) o):aG c' μ n h (xi k') o:=
 QB r (λv q=>jn q (by show c.tab (k+k)+0=c'.tab (k'+k')+0;rw[ha])) (λv q=>jn q (by show c.tab (k+k+1)+0=c'.tab (k'+k'+1)+0;rw[hb]))
end
mutual
def eqv: AV->AV->Bool
 |.none,.none=>true
 |.bool a,.bool b=>a==b
 |.int q i,.int q' j=>Nat.beq q q'&&fZ i j
 |.str q s,.str q' t=>Nat.beq q q'&&cu s t
 |.tup l,.tup m=>dU l m
 |.obj i,.obj j=>Nat.beq i j
 |.ins C d,.ins C' d'=>Nat.beq C C'&&Nat.beq d d'
 |.con (.ref a),.con (.ref b)=>Nat.beq a b
 |.bi k,.bi k'=>Nat.beq k k'
 |_,_=>false
def dU: List AV->List AV->Bool
 |[],[]=>true
 |a::l,b::m=>eqv a b&&dU l m
 |_,_=>false
end
mutual
theorem og: ∀{a b:AV},eqv a b=true->a=b
 |.none,b,h=>by induction b using AV.casesOn with
  |none=>rfl
  |_=>exact FT h
 |.bool x,b,h=>by induction b using AV.casesOn with
  |bool y=>rw[show x=y from eq_of_beq (show(x==y)=true from h)]
  |_=>exact FT h
 |.int q i,b,h=>by induction b using AV.casesOn with
  |int q' j=>
   refine n2 (show(Nat.beq q q'&&fZ i j)=true from h) λh1 h2=>?_
   rw[Nat.eq_of_beq_eq_true h1,HI h2]
  |_=>exact FT h
 |.str q s,b,h=>by induction b using AV.casesOn with
  |str q' t=>
   refine n2 (show(Nat.beq q q'&&cu s t)=true from h) λh1 h2=>?_
   rw[Nat.eq_of_beq_eq_true h1,(yd s t).mp h2]
  |_=>exact FT h
 |.tup l,b,h=>by induction b using AV.casesOn with
  |tup m=>rw[cz (show dU l m=true from h)]
  |_=>exact FT h
 |.obj i,b,h=>by induction b using AV.casesOn with
  |obj j=>rw[Nat.eq_of_beq_eq_true (show Nat.beq i j=true from h)]
  |_=>exact FT h
 |.ins C d,b,h=>by induction b using AV.casesOn with
  |ins C' d'=>
   refine n2 (show(Nat.beq C C'&&Nat.beq d d')=true from h) λh1 h2=>?_
   rw[Nat.eq_of_beq_eq_true h1,Nat.eq_of_beq_eq_true h2]
  |_=>exact FT h
 |.con v,b,h=>by induction b using AV.casesOn with
  |con u=>
   induction v using Value.casesOn with
   |ref x=>induction u using Value.casesOn with
    |ref y=>rw[Nat.eq_of_beq_eq_true (show Nat.beq x y=true from h)]
    |_=>exact FT h
   |_=>exact FT h
  |_=>induction v using Value.casesOn with | _=>exact FT h
 |.bi k,b,h=>by induction b using AV.casesOn with
  |bi k'=>rw[Nat.eq_of_beq_eq_true (show Nat.beq k k'=true from h)]
  |_=>exact FT h
 |.any,b,h=>by induction b using AV.casesOn with | _=>exact FT h
theorem cz: ∀{l m:List AV},dU l m=true->l=m
 |[],m,h=>by induction m using lC with
  |nil=>rfl
  |cons _ _=>exact FT h
 |a::l,m,h=>by induction m using lC with
  |nil=>exact FT h
  |cons b m=>
   refine n2 (show(eqv a b&&dU l m)=true from h) λh1 h2=>?_
   rw[og h1,cz h2]
end
def jo(K:Nat)(o:ao):Bool:=o.on false (λl=>dU l [.int (K+K+3) (.ofNat 0),.int (K+K+4) (.ofNat 0)]) (λ_ _=>false) (λ_=>false) λ_ _=>false
theorem AX{K:Nat}{o:ao}(h:jo K o=true):o=xi K:=by
 induction o using ao.casesOn with
 |list l=>exact congrArg ao.list (cz h)
 |_=>exact FT h
def Bi(x:XR)(p:az->AH->Bool):Bool:=XR.rec (motive:=λ_=>Bool) (λf ρ σ=>Fl.rec (motive:=λ_=>Bool) (p ρ σ) false (λ_=>false) f) (λ_ _ _=>false) false x
theorem Cz{x:XR}{p:az->AH->Bool}(h:Bi x p=true):∃ρ σ,x = .ok .next ρ σ/\p ρ σ = true:=by
 induction x using XR.casesOn with
 |ok f ρ σ=>induction f using Fl.casesOn with
  |next=>exact uY ρ σ rfl h
  |_=>exact FT h
 |_=>exact FT h
def QM(x:XR)(v:AV)(p:az->AH->Bool):Bool:=XR.rec (motive:=λ_=>Bool) (λf ρ σ=>Fl.rec (motive:=λ_=>Bool) false false (λw=>eqv w v&&p ρ σ) f) (λ_ _ _=>false) false x
theorem XM{x:XR}{v:AV}{p:az->AH->Bool}(h:QM x v p=true):∃ρ σ,x = .ok (.ret v) ρ σ/\p ρ σ = true:=by
 induction x using XR.casesOn with
 |ok f ρ σ=>induction f using Fl.casesOn with
  |ret w=>exact n2 (show(eqv w v&&p ρ σ)=true from h) λh1 h2=>⟨ρ,σ,by rw[og h1],h2⟩
  |_=>exact FT h
 |_=>exact FT h
def EL(r:Res AV)(v:AV)(p:AH->Bool):Bool:=Res.rec (motive:=λ_=>Bool) (λw σ=>eqv w v&&p σ) (λ_ _=>false) false r
theorem zpe{r:Res AV}{v:AV}{p:AH->Bool}(h:EL r v p=true):∃σ,r = .ok v σ/\p σ = true:=by
 induction r using Res.casesOn with
 |ok w σ=>exact n2 (show(eqv w v&&p σ)=true from h) λh1 h2=>⟨σ,by rw[og h1],h2⟩
 |_=>exact FT h
def ue(r:Res Bool)(p:AH->Bool):Bool:=Res.rec (motive:=λ_=>Bool) (λw σ=>w&&p σ) (λ_ _=>false) false r
theorem zp0{r:Res Bool}{p:AH->Bool}(h:ue r p=true):∃σ,r = .ok true σ/\p σ = true:=by
 induction r using Res.casesOn with
 |ok w σ=>exact n2 (show(w&&p σ)=true from h) λh1 h2=>⟨σ,by rw[h1],h2⟩
 |_=>exact FT h
theorem JQ{x:XR}{f:XD}(h:x.seq f = .ok .next aI ai):∃ρ σ,x = .ok .next ρ σ/\f ρ σ = .ok .next aI ai:=by
 induction x using XR.casesOn with
 |ok fl ρ σ=>induction fl using Fl.casesOn with
  |next=>exact uY ρ σ rfl h
  |_=>nomatch h
 |_=>nomatch h
def QK(args:List AV):List Nat:=zf args [] λa _=>a.on [] (λ_ _=>[]) (λ_ t=>t) (λ_=>[]) λ_=>[]
def QL(args:List AV):Nat:=zf args 0 λ_ t=>zf t 0 λb _=>b.on 0 (λ_ i=>j4 i id id) (λ_ _=>0) (λ_=>0) λ_=>0
def Kl(o:ao):Nat:=o.on 0 (λl=>zf l 0 λa _=>a.on 0 (λq _=>(q - 3) / 2) (λ_ _=>0) (λ_=>0) λ_=>0) (λ_ _=>0) (λ_=>0) λ_ _=>0
def GY(ds:List (Nat×Nat))(args:List AV)(σ:AH):Res AV:=ak (dU args [.obj 0,.int 0 (.ofNat (QL args))])
 (bG.rec (motive:=λ_=>Res AV) .stuck (λo l r _ _=>ak (jo (Kl o) o) (opt (dF ds (Kl o)) .stuck λp=>ak (Nat.beq p.1 (QL args)) (.ok (.int 0 (.ofNat p.2)) ⟨σ.n,.node (xi (Kl o+1)) l r⟩) .stuck) .stuck) σ.t) .stuck
noncomputable def dM(ds:List (Nat×Nat))(a:Addr)(args:List AV)(σ:AH):Option (Res AV):=ak (Nat.beq a 1777) (some (GY ds args σ)) none
theorem Az{ds:List (Nat×Nat)}(h:GY ds args σ≠.stuck):∃top l r k d,args=[.obj 0,.int 0 (.ofNat top)]/\σ = ⟨σ.n,.node (xi k) l r⟩/\ds[k]? = some (top,d)/\
  GY ds args σ = .ok (.int 0 (.ofNat d)) ⟨σ.n,.node (xi (k+1)) l r⟩:=by
 obtain⟨m,t⟩:=σ
 generalize er:GY ds args ⟨m,t⟩ = R at h ⊢
 refine bT h er λh1 e=>?_
 induction t using bG.casesOn with
 |leaf=>exact w1 e.symm h
 |node o l r=>
  refine bT h e λh2 e=>fC h e λp e3 e=>bT h e λh4 e=>?_
  exact⟨QL args,l,r,Kl o,p.2,cz h1,congrArg (λo'=>AH.mk m (.node o' l r)) (AX h2),by rw[<-jm,e3,<-Nat.eq_of_beq_eq_true h4],e.symm⟩
theorem RR.fp{v v':AV}{iL aE dZ:AH}{x:Result}(k:∀a,PQ c (RV c) (.ok v aE) μ σ s a s'->PQ c' (RV c') (.ok v' dZ) μ iL s a s')(h:RR c (.ok v aE) μ σ s x s'):RR c' (.ok v' dZ) μ iL s x s':=by
 induction x with
 |ok f=>induction f with
  |ret a=>exact k a h
  |_=>exact h.elim
 |error e=>refine dY h λl _ _ z _=>?_;contradiction
section
variable{w:Wo}{U:List (List Nat)}{Pt Rt:List Nat}{q:Program}
theorem Ho(T:TopRead q loose mg mb (w.B))(hP:Pt.length<=1000000)(hR:Rt.length<=1000000){p:Nat×Nat}(hb:p.2<bM){ts:List Nat}(BA:∀t∈ts,cB t):
  cG prog (av w Pt Rt U (zp p ts)) (WK w.params) (dM (fA p ts)) 20 300 where
 keep a args σ r e:=by
  unfold dM at e
  induction ea:Nat.beq a 1777 with
  |false=>rw[ea] at e;exact NS e
  |true=>
   rw[Nat.eq_of_beq_eq_true ea]
   refine fc ((h_ (prog:=prog) (U:=U) (tab:=zp p ts) T hP hR).fn 1777 kc (by rfl)) λ_ _ _ _ _ _ k=>?_
   exact k
 call A hd hu hh μ σ s a args vs r e H sk rv ns:=by
  unfold dM at e
  induction ea:Nat.beq a 1777 with
  |false=>rw[ea] at e;exact NS e
  |true=>
   rw[ea] at e
   replace e:some (GY (fA p ts) args σ)=some r:=e
   obtain rfl:=w3 e
   obtain rfl:=w4 ea
   refine eC (Az ns) λtop l rr k q9=>?_;refine jR q9 ?_;clear q9;rintro d rfl YD eg eR
   refine c6 (Xi ts p k top d eg) λg1 g2 g3=>?_
   have ht:cB top:=BA top (List.mem_of_getElem? g1)
   have By:(bN p (ts.take k)).2<bM:=xg _ hb
   generalize ha:(bN p (ts.take k)).1=x at *
   generalize hy:(bN p (ts.take k)).2=y at *
   have e1:(av w Pt Rt U (zp p ts)).tab (k+k)=(x:Int):=(yo p ts k).trans (by rw[ha])
   have e2:(av w Pt Rt U (zp p ts)).tab (k+k+1)=(y:Int):=(yn p ts k).trans (by rw[hy])
   have e3:(av w Pt Rt U (zp p ts)).tab (k+1+(k+1))=(pa x top:Int):=(yo p ts (k+1)).trans (by rw[g3])
   have e4:(av w Pt Rt U (zp p ts)).tab (k+1+(k+1)+1)=(mu x y:Int):=(yn p ts (k+1)).trans (by rw[g3])
   rw[eR]
   obtain⟨m,t⟩:=σ
   injection YD with _ et
   subst et
   have H':HR (av w Pt Rt U (zp p ts)) μ (zw m l rr x y) s.heap:=
    HR.cut (σ:=⟨m,.node (xi k) l rr⟩) (ai:=zw m l rr x y) (.refl _) (wa _) (λj hj o ho ro=>by
    induction j using nC with
    |zero=>exact zjr e1 e2 ro
    |succ j=>exact ro) H
   have run:=zkh U oF oF m l rr x y By ht
   have R8:=PT (q:=false) (A:=A) (C:=oF) (CQ:=oF) (i5 (prog:=prog) (U:=U) (Pt:=Pt) (Rt:=Rt) (tab:=zp p ts) T) (h_ T hP hR) (G':=gU U) rfl rfl rfl ((h_ (prog:=prog) (U:=U) (tab:=zp p ts) T hP hR).fn 1777 kc (by rfl))
    (uV hd rfl) (uV hu rfl) (λ_=>hh) (λ_=>hh) (λ_=>XB) (λ_ _ _ z=>w1 rfl z) (λ_ _ _=>XB) (λ_ _ _ z=>w1 rfl z) H' sk rv (by rw[run];exact λz=>by contradiction)
   rw[run] at R8
   refine wo R8 λz s' qq=>RR.fp (σ:=zw m l rr x y) (aE:=zw m l rr (pa x top) (mu x y)) (v:=.int 0 (.ofNat (i4 x y top))) (λv=>PQ.cut (.refl _) rfl (wa _) (wa _) (λaj j hj o ho ro=>?_) λaj v hv=>?_) qq
   ·induction j using nC with
    |zero=>exact Wn e3 e4 ro
    |succ j=>exact ro
   ·rw[g2];exact hv
end

abbrev ia:=Addr->List AV->AH->Option (Res AV)
def R4(j m:Nat)(v:AV)(args:List AV)(σ:AH):Res AV:=ak (dU args [.obj 0]) (ak (Nat.beq σ.n 1) (ak (jo j (σ.get 0)) (.ok v (zc m)) .stuck) .stuck) .stuck
noncomputable def l3(fa j m:Nat)(v:AV):ia:=λa args σ=>ak (Nat.beq a fa) (ak (dU args [.obj 0]&&jo j (σ.get 0)) (some (R4 j m v args σ)) none) none
noncomputable def l6(O O':ia):ia:=λa args σ=>opt (O a args σ) (O' a args σ) some
def rQ(prog:Program)(c:Cx)(fa j m:Nat)(v:AV)(dm um:Nat):Prop:=∀A,A.depth+dm<recursionLimit->A.units+um<cLine->A.handled=none->∀μ s,HR c μ (zc j) s.heap->cX c A μ 1 s.heap->
 codeAny (model prog c.w) A (.call (.ref fa) ⟨[.ref (μ 0)],[]⟩) (RR c (.ok v (zc m)) μ (zc j) s) s
section
variable{W:Ck}{O O':ia}{dm um:Nat}
theorem ph(h:cG prog c W O dm um)(h':cG prog c W O' dm um):cG prog c W (l6 O O') dm um where
 keep a args σ r e:=by
  unfold l6 at e
  induction q:O a args σ with
  |some r'=>exact h.keep a args σ r' q
  |none=>rw[q] at e;exact h'.keep a args σ r e
 call A hd hu hh μ σ s a args vs r e H sk rv ns:=by
  unfold l6 at e
  induction q:O a args σ with
  |some r'=>rw[q] at e;obtain rfl:=w3 e;exact h.call A hd hu hh μ σ s a args vs _ q H sk rv ns
  |none=>rw[q] at e;exact h'.call A hd hu hh μ σ s a args vs r e H sk rv ns
theorem jg{Rc Ve:Nat}(h:cG prog c W O dm um)(a:dm<=Rc)(b:um<=Ve):cG prog c W O Rc Ve:=
 ⟨h.keep,λA hd hu=>h.call A (by lia) (by lia)⟩
theorem pg{fa j m:Nat}{v:AV}(hv:pO 1 v=true)(hk:keepIn W.K (.ref fa)=true)(h:rQ prog c fa j m v dm um):cG prog c W (l3 fa j m v) dm um where
 keep a args σ r e:=by
  unfold l3 at e
  induction q:Nat.beq a fa with
  |true=>rw[Nat.eq_of_beq_eq_true q];exact hk
  |false=>rw[q] at e;exact NS e
 call A hd hu hh μ σ s a args vs r e H sk rv ns:=by
  unfold l3 at e
  refine oA (zg e) λq e=>?_
  refine oA (zg e) λq2 e=>?_
  obtain rfl:=w3 e
  obtain rfl:=w4 q
  generalize er:R4 j m v args σ = R at ns ⊢
  refine bT ns er λh0 e1=>bT ns e1 λh1 e2=>bT ns e2 λh2 e3=>?_
  obtain rfl:=cz h0
  have hn:=w4 h1
  rw[<-e3]
  refine aH.k1 rv λv0 r0=>?_
  refine VR.kO r0 λhi=>?_
  refine wo (h A hd hu hh μ s (HR.cut (σ:=σ) (ai:=zc j) (.refl _) (Nat.le_of_eq hn.symm) (λl hl o ho ro=>?_) H) (hn▸sk)) λz s' qq=>RR.fp (σ:=zc j) (aE:=zc m) (v:=v) (λa=>PQ.cut (.refl _) hn (wa _) (wa _) (λaj l hl o ho ro=>?_) λaj x hx=>hx) qq
  ·obtain rfl:=Nat.lt_one_iff.mp hl
   rw[AX h2] at ro
   exact lK rfl rfl ro
  ·obtain rfl:=Nat.lt_one_iff.mp hl
   exact ro
end
noncomputable def qR(v:AV)(K:Nat)(r:Res AV):Bool:=match r with
 |.ok v' σ=>eqv v v'&&(pO 1 v&&(Nat.ble 1 σ.n&&jo K (σ.get 0)))
 |_=>false
theorem xQ{v:AV}{K:Nat}{r:Res AV}(h:qR v K r=true):∃σ,r = .ok v σ/\pO 1 v=true/\1<=σ.n/\σ.get 0=xi K:=by
 unfold qR at h
 split at h
 ·refine n4 h λh1 h2 h3 h4=>?_
  exact sZ _ (by rw[og h1]) h2 (w5 h3) (AX h4)
 ·exact FT h
section
variable{w:Wo}{U:List (List Nat)}{Pt Rt:List Nat}{q:Program}{tab:Nat->Int}
theorem Hk(T:TopRead q loose mg mb (w.B)){fa j m:Nat}{us:List Nat}{f:List (Nat×Nat)->AV}(RF:∀t∈us,cB t)(Yp:((fB us).all λds=>qR (f ds) us.length (zn (gU []) (dM ds) 30 fa [.obj 0] (zc 0)))=true){p:Nat×Nat}(hp:p.2<bM)(t1:tab (j+j)=(p.1:Int))(t2:tab (j+j+1)=(p.2:Int))(t3:tab (m+m)=((bN p us).1:Int))(t4:tab (m+m+1)=((bN p us).2:Int)):
  rQ prog (av w Pt Rt U tab) fa j m (f (fA p us)) 150 1000:=λA hd hu hh μ s H sk=>by
 have fact:=w6.mp Yp _ (uv us p RF)
 refine jR (xQ fact) λaE e1 e2 e3 e4=>?_
 have a1:zp p us (0+0)=(p.1:Int):=yo p us 0
 have a2:zp p us (0+0+1)=(p.2:Int):=yn p us 0
 have a3:zp p us (us.length+us.length)=((bN p us).1:Int):=by rw[yo,List.take_length]
 have a4:zp p us (us.length+us.length+1)=((bN p us).2:Int):=by rw[yn,List.take_length]
 have H':HR (av w [] [] [] (zp p us)) μ (zc 0) s.heap:=HR.cut (σ:=zc j) (ai:=zc 0) (z7 ..) (wa _) (λl hl o ho ro=>by
  have hl:l<1:=hl
  obtain rfl:l=0:=jP hl
  exact lK (c:=av w Pt Rt U tab) (c':=av w [] [] [] (zp p us)) (k:=j) (k':=0) (a1.trans t1.symm) (a2.trans t2.symm) ro) H
 have run:=Cw (prog:=prog) (i5 (U:=[]) (Pt:=[]) (Rt:=[]) (tab:=zp p us) T) (h_ T (w9 _) (w9 _)) (Ho (prog:=prog) (U:=[]) (Pt:=[]) (Rt:=[]) T (w9 _) (w9 _) hp RF) 30 A (eL hd rfl) (eL hu rfl) hh
  μ (zc 0) s fa [.obj 0] [.ref (μ 0)] H' (sk.cut (z7 ..) (wa _)) (.cons (.obj Nat.zero_lt_one) .nil) (by rw[e1];exact λz=>by contradiction)
 rw[e1] at run
 refine wo run λz s' qq=>RR.fp (σ:=zc 0) (aE:=aE) (v:=f (fA p us)) (λa=>PQ.cut (z7 ..) rfl e3 (wa _) (λaj l hl o ho ro=>?_) λaj x hx=>yc (z7 ..) e2 hx) qq
 have hl:l<1:=hl
 obtain rfl:l=0:=jP hl
 rw[e4] at ro
 exact lK (c:=av w [] [] [] (zp p us)) (c':=av w Pt Rt U tab) (k:=us.length) (k':=m) (t3.trans a3.symm) (t4.trans a4.symm) ro
end
noncomputable section
noncomputable abbrev zea: Nat:=nat_lit 493274035520859444309869
noncomputable abbrev zex: Nat:=nat_lit 1871941859643659349869
abbrev WG: Nat:=nat_lit 126943822178668
abbrev zlo: Nat:=nat_lit 491328402799
abbrev zhv: Nat:=nat_lit 30506441440650599
noncomputable abbrev zcq: Nat:=nat_lit 545182384934027678343536
abbrev vm: Nat:=nat_lit 1953460082
abbrev zh5: Nat:=nat_lit 8319395793566264421
noncomputable abbrev zdf: Nat:=nat_lit 544943658403139570398305
noncomputable abbrev zej: Nat:=nat_lit 2129333263491757535086
abbrev vn: Nat:=nat_lit 1702521203
abbrev vk: Nat:=nat_lit 1852141679
abbrev zn9: Nat:=nat_lit 435610083700
abbrev CS: Nat:=nat_lit 6583396
abbrev zl6: Nat:=nat_lit 114849429287527
abbrev jz: Nat:=nat_lit 32199672317698931
abbrev vj: Nat:=nat_lit 1701667182
abbrev B3: Nat:=nat_lit 1954047348
abbrev PV: Nat:=nat_lit 474214786402
abbrev P4: Nat:=nat_lit 7308338789785498473
abbrev vi: Nat:=nat_lit 29793
noncomputable abbrev jb: Nat:=nat_lit 1718379891
abbrev uB: Nat:=nat_lit 1952867692
noncomputable def zm: Nat->List Nat
 |0=>[]
 |1=>[32]
 |_=>[10,32,32]
noncomputable def ze(i:Nat):Nat->List Nat
 |0=>[60,33,69,76,69,77,69,78,84,32]++110::(48+i)::[32,69,77,80,84,89,62]
 |1=>[60,33,65,84,84,76,73,83,84,32]++110::(48+i)::[32,120,32,67,68,65,84,65,32,39,97,62,98,39,62]
 |2=>[60,33,69,78,84,73,84,89,32]++110::(48+i)::[32,34,60,98,47,62,34,62]
 |3=>[60,33,45,45,32,62,32,45,45,62]
 |_=>[60,33,78,79,84,65,84,73,79,78,32]++110::(48+i)::[32,80,85,66,76,73,67,32,39,112,39,62]
noncomputable def UU(i:Nat):List (List Nat):=(List.range i).map λk=>[110,48+k]
def jN(t:List Nat):Nat->Nat->List (Nat×Nat)->List Nat
 |_,g,[]=>zm g++t
 |i,g,(j,g')::bF=>zm g++(ze i j++jN t (i+1) g' bF)
def oG(l:List ao):AH:=l.foldl AH.push ⟨0,.leaf⟩
noncomputable def dz: ao:=.dict false 0 []
noncomputable def uz: ao:=.dict true 0 []
def mG(d:ao):List ao:=[
 .ns [(zea,.int 0 (.ofNat 20)),(zex,.int 0 (.ofNat 100000))],
 .ns [(WG,.ins 1183 0),(zlo,.obj 2),(zhv,.obj 3),(zcq,.obj 4)],
 dz,d,dz,
 .ns [(vm,.str 0 [114]),(zh5,.obj 6),(zdf,.obj 7),(zej,.obj 8)],
 d,d,d,
 .ns [(WG,.ins 1183 0),(vn,.int 0 (.ofNat 0)),(vk,.obj 10)],
 .list [],
 .ns [(zn9,.ins 1332 1),(CS,.ins 628 5),(zl6,.ins 711 9)]]
def objs(d:ao)(text at_:AV):List ao:=mG d++[
 .ns [(jz,.ins 421 13),(vj,.none)],
 .ns [(B3,text),(PV,.int 0 (.ofNat 0)),(P4,.bool true),(vi,at_)],
 .list [.ins 862 12]]
def gK(text at_:AV):AH:=oG (objs uz text at_)
def Ih: List (Nat×AV)->List (Nat×AV)->Bool
 |[],[]=>true
 |a::l,b::m=>Nat.beq a.1 b.1&&(eqv a.2 b.2&&Ih l m)
 |_,_=>false
def si(l:List α):Bool:=zf l true λ_ _=>false
def v_(a b:ao):Bool:=ao.rec (motive:=λ_=>Bool) (λl=>b.on false (λm=>dU l m) (λ_ _=>false) (λ_=>false) λ_ _=>false)
 (λu k es=>b.xR false λu' k' cQ=>u==u'&&(Nat.beq k k'&&(si es&&si cQ))) (λl=>b.on false (λ_=>false) (λ_ _=>false) (λm=>Ih l m) λ_ _=>false) (λ_ _ _=>false) false (λ_=>false) a
def vY(d:ao->Bool)(x o:ao):Bool:=ao.rec (motive:=λ_=>Bool) (λ_=>v_ x o) (λ_ _ _=>v_ x o) (λ_=>v_ x o) (λ_ _ _=>v_ x o) (d x) (λ_=>v_ x o) o
def pN(d:ao->Bool)(σ:AH):List ao->Nat->Bool
 |[],_=>true
 |o::l,i=>vY d (σ.get i) o&&pN d σ l (i+1)
def rY(d:ao->Bool)(l:List ao)(σ:AH):Bool:=Nat.ble l.length σ.n&&pN d σ l 0
def Bm(a:ao):Bool:=a.xR false λu _ es=>u&&si es
def nI(a:ao):Bool:=a.xR false λu k es=>!u&&(Nat.beq k 0&&si es)
def wY(U:List (List Nat))(a:ao):Bool:=a.xR false λu _ es=>u&&(Nat.ble (len es) 1&&es.all λe=>yw U e.1)
def iT(ρ:az)(x:Nat)(v:AV):Bool:=match aC ρ x with | some y=>eqv y v | none=>false
def QU: az:=[(jb,.ins 975 11),(B3,.str 1 [])]
def lQ: az:=[(jb,.ins 975 11),(uB,.obj 14)]
def lR: az:=[(jb,.ins 975 11),(uB,.obj 14),(jz,.ins 421 13)]
def pv(ρ:az)(m:Bool):Bool:=iT ρ jb (.ins 975 11)&&(iT ρ uB (.obj 14)&&ak m (iT ρ jz (.ins 421 13)) true)
noncomputable def dW: MS->MS | .seq a _=>a | m=>m
noncomputable def cE: MS->MS | .seq _ b=>b | m=>m
def JM: MS:=dW ba.body
def JR: MS:=dW (cE ba.body)
def mz: ME:=match JR with | .ez t _=>t | _=>.cN
def kg: MS:=match JR with | .ez _ b=>b | m=>m
def Ge: MS:=dW kg
def Gf: MS:=dW (cE kg)
def rC: MS:=dW (cE (cE kg))
noncomputable def O0: ia:=λ_ _ _=>none
def cR(U:List (List Nat)):Call:=zn (gU U) O0 30
def gr(U:List (List Nat))(m:MS):XD:=ex (gU U) (cR U) (y9 (gU U) 3) m
def pT(U:List (List Nat))(e:ME)(ρ:az)(σ:AH):Res Bool:=(ev (gU U) (cR U) e ρ).b σ
def ph0: Bool:=Bi (gr [] JM QU (oG (mG dz))) λρ σ=>pv ρ false&&rY nI (objs .any (.str 1 []) (.int 0 (.ofNat 0))) σ
def N2(i g:Nat):Bool:=ue (pT (UU i) mz lQ (gK (.str 2 (zm g++[60])) (.int 1 (.ofNat 0)))) λaE=>Bi ((gr (UU i) Ge lQ aE).seq (gr (UU i) Gf)) λρ σ=>
 pv ρ true&&rY Bm (objs .any (.str 2 (zm g++[60])) (.int 1 (.ofNat (zm g).length))) σ
def N4(i j:Nat):Bool:=Bi (gr (UU i) rC lR (gK (.str 2 (ze i j)) (.int 1 (.ofNat 0)))) λρ σ=>pv ρ false&&rY (wY (UU (i+1))) (objs .any (.str 2 (ze i j)) (.int 1 (.ofNat (ze i j).length))) σ
def aX(t:List Nat):XR:=(gr (UU 3) rC lR (gK (.str 1 t) (.int 1 (.ofNat 0)))).on (uS (pT (UU 3) mz) (gr (UU 3) kg) 1000) (λv ρ σ=>.ok (.ret v) ρ σ) .exc .stuck
def sG(σ:AH):Bool:=Nat.beq σ.n 12&&rY nI (mG .any) σ
def Ox(t:List Nat)(args:List AV)(σ:AH):Res AV:=ak (dU args [.ins 975 11,.str 1 t]&&sG σ) (jM (aX t)) .stuck
def EJ(t:List Nat):ia:=λa args σ=>ak (Nat.beq a 902) (some (Ox t args σ)) none
def QA(t:List Nat):Res AV:=zn (gU (UU 3)) (EJ t) 30 1791 [.str 1 t] ⟨0,.leaf⟩
def qW(t:List Nat)(k:Nat):Bool:=EL (QA t) (.int 1 (.ofNat k)) λ_=>true
end
theorem Pg{Γ:Ctx}{p:Pos}{t:Sem Fin}{fs:List Frame}{e:End}(h:Runs M Γ p t fs s e s'):s.toks<=s'.toks:=by
 induction h with
 |fresh _ ih=>exact Nat.le_trans (Nat.le_succ _) ih
 |call _ _ cY cU=>exact Nat.le_trans cY cU
 |resumeFresh _ _ _ _ cY cU=>exact Nat.le_trans cY cU
 |resumeSuspended _ _ _ _ cY cU=>exact Nat.le_trans cY cU
 |segRet _ _ cY cU=>exact Nat.le_trans cY cU
 |segGen _ _ cY cU=>exact Nat.le_trans cY cU
 |segSuspGen _ _ _ _ cY cU=>exact Nat.le_trans cY cU
 |done=>exact wa _
 |raise=>exact wa _
 |yield=>exact wa _
 |again _ _ ih=>exact ih
 |rule _ ih=>exact ih
 |«at» _ ih=>exact ih
 |load _ _ ih=>exact ih
 |update _ _ ih=>exact ih
 |loadIfAlive _ ih=>exact ih
 |point _ ih=>exact ih
 |alloc _ ih=>exact ih
 |ask _ ih=>exact ih
 |choose _ _ ih=>exact ih
 |os _ ih=>exact ih
 |handled _ ih=>exact ih
 |genState _ _ ih=>exact ih
 |stack _ ih=>exact ih
 |thread _ ih=>exact ih
 |newGen _ ih=>exact ih
 |callSusp _ ih=>exact ih
 |resumeJustStarted _ _ _ ih=>exact ih
 |resumeThrowFresh _ _ ih=>exact ih
 |resumeRunning _ _ ih=>exact ih
 |resumeFinished _ _ ih=>exact ih
 |segSuspOut _ _ ih=>exact ih
theorem zgs{Γ:Ctx}{p:Pos}{g:Nat}{r:Resume}{res:GenResult}(h:Wakes M Γ p g r s res s'):s.toks<=s'.toks:=by
 unfold Wakes at h
 split at h
 ·exact h.elim
 ·split at h
  ·refine sr h ?_;clear h;rintro e1 s1 h1 _ _ rfl;have:=Pg h1;exact this
  ·rw[h.2];exact wa _
  ·rw[h.2];exact wa _
 ·refine sr h ?_;clear h;rintro e1 s1 h1 _ _ rfl;have:=Pg h1;exact this
 ·rw[h.2];exact wa _
 ·rw[h.2];exact wa _
theorem zn3{Γ:Ctx}:∀(t:Sem α) (Q:α->Pos->Shared->Prop) (E:Value->Pos->Shared->Prop) (p:Pos) (s:Shared),Sem.wp M Γ t Q E p s->
  ∀k,k<=s.toks->Sem.wp M Γ t (λa p' s'=>k<=s'.toks/\Q a p' s') (λe p' s'=>k<=s'.toks/\E e p' s') p s:=by
 intro t
 induction t with
 |pure a=>intro Q E p s h k hk;exact⟨hk,h⟩
 |raise e=>intro Q E p s h k hk;exact⟨hk,h⟩
 |unsupported _=>intro Q E p s h k hk;exact h
 |finish _=>intro Q E p s h k hk;exact h
 |rule _ f ih=>intro Q E p s h k hk;exact ih _ Q E p s h k hk
 |«at» _ f ih=>intro Q E p s h k hk;exact ih _ Q E _ s h k hk
 |load a _ f ih=>intro Q E p s h k hk;refine au h λo ho h=>?_;exact aT o ho (ih _ Q E p s h k hk)
 |update a _ g f ih=>intro Q E p s h k hk;exact⟨h.1,ih _ Q E p _ h.2 k hk⟩
 |loadIfAlive a f ih=>intro Q E p s h k hk;exact ih _ Q E p s h k hk
 |point _ f ih=>intro Q E p s h k hk;exact ih _ Q E p s h k hk
 |register _ _ _=>intro Q E p s h k hk;exact h
 |alloc o f ih=>intro Q E p s h k hk;exact ih _ Q E p _ h k hk
 |fresh f ih=>intro Q E p s h k hk;exact ih _ Q E p _ h k (Nat.le_succ_of_le hk)
 |ask f ih=>intro Q E p s h k hk;exact ih _ Q E p s h k hk
 |choose _ _ f ih=>intro Q E p s h k hk;exact⟨h.1,ih _ Q E p _ h.2 k hk⟩
 |os _ _ f ih=>intro Q E p s h k hk;exact ih _ Q E p _ h k hk
 |call c hd _ _ f ih=>intro Q E p s h k hk;refine bw h λr s1 h1 h2=>?_;exact uY r s1 h1 (ih _ Q E p s1 h2 k (Nat.le_trans hk (Pg h1)))
 |handled _ f ih=>intro Q E p s h k hk;exact ih _ Q E p s h k hk
 |newGen _ f ih=>intro Q E p s h k hk;exact ih _ Q E p _ h k hk
 |genState _ f ih=>intro Q E p s h k hk;refine au h λst e h=>?_;exact aT st e (ih _ Q E p s h k hk)
 |resume _ _ _ f ih=>intro Q E p s h k hk;refine bw h λres s1 h1 h2=>?_;exact uY res s1 h1 (ih _ Q E p s1 h2 k (Nat.le_trans hk (zgs h1)))
 |yield _ _ _ _ _=>intro Q E p s h k hk;exact h
 |stack f ih=>intro Q E p s h k hk;exact ih _ Q E p s h k hk
 |fork _ _ _=>intro Q E p s h k hk;exact h
 |thread f ih=>intro Q E p s h k hk;exact ih _ Q E p s h k hk
 |await _ _ _ _ _ _=>intro Q E p s h k hk;exact h
theorem jh{t:Sem α}{Q:α->Shared->Prop}{E:Value->Shared->Prop}(h:wpAny M A t Q E s):
  wpAny M A t (λa s'=>s.toks<=s'.toks/\Q a s') (λe s'=>s.toks<=s'.toks/\E e s') s:=λΓ p ZC=>zn3 t _ _ p s (h Γ p ZC) _ (wa _)
theorem none_or{W:Ck}:cG prog c W O0 0 0 where
 keep a args σ r e:=nomatch e
 call A hd hu hh μ σ s a args vs r e:=nomatch e
structure HF (A:Around) (env:Env) (L:Fm) (n:En):Prop where
 fr:∃fa outer,env.frame=some fa/\A.frames=some (env::outer)
 kd:env.scope.kind = .function
 E:dE env L n
 hh:A.handled=none
section
variable{w:Wo}{U:List (List Nat)}{Pt Rt:List Nat}{q:Program}{tab:Nat->Int}{O:ia}{dm um k:Nat}
theorem pI(T:TopRead q loose mg mb (w.B))(hP:Pt.length<=1000000)(hR:Rt.length<=1000000)(hO:cG prog (av w Pt Rt U tab) (WK w.params) O dm um)(hd:A.depth+2 * k+(dm+40)<recursionLimit)(hu:A.units+8 * k+(um+400)<cLine)(hh:A.handled=none):
  At prog (av w Pt Rt U tab) A (WK w.params) (gU U) (zn (gU U) O k) false:=
 K2 (i5 T) (h_ T hP hR) rfl rfl rfl (sq hd rfl) (sq hu rfl) (λ_=>hh) (λ_=>hh)
  ⟨Cw (i5 T) (h_ T hP hR) hO k A (sD hd rfl) (sD hu rfl) hh,λa rest=>Cw (i5 T) (h_ T hP hR) hO k _ (by rw[(oq A a rest).1];lia) (by rw[(oq A a rest).2.1];lia) hh⟩
  (VL (h_ (prog:=prog) (U:=U) (tab:=tab) T hP hR) hO k)
theorem iE(T:TopRead q loose mg mb (w.B))(hP:Pt.length<=1000000)(hR:Rt.length<=1000000)(hO:cG prog (av w Pt Rt U tab) (WK w.params) O dm um)(hd:A.depth+2 * k+(dm+40)<recursionLimit)(hu:A.units+8 * k+(um+400)<cLine){n:En}(F:HF A env L n)(m:MS):(∀s,d4 (WK w.params) false m n (.one s)=true->SS prog (av w Pt Rt U tab) A env L s (ex (gU U) (zn (gU U) O k) (y9 (gU U) 3) m))/\
   (∀l,d4 (WK w.params) false m n (.many l)=true->ib prog (av w Pt Rt U tab) A env L l (ex (gU U) (zn (gU U) O k) (y9 (gU U) 3) m)):=by
 refine bw F.fr λfa outer h1 h2=>?_
 exact VZ (i5 T) (pI T hP hR hO hd hu F.hh) (λ_ hv=>K2 (G':=(gU U).quiet) (i5 T) (h_ T hP hR) rfl rfl rfl (by show A.depth+6<_;exact sq hd rfl) (by show A.units+200<_;exact sq hu rfl) (λz=>by exact TF z) (λz=>by exact FT z)
  ⟨xq (i5 T) (h_ T hP hR) 3 _ (by show A.depth+2 * 3+8<_;exact QS hd rfl) (by show A.units+8 * 3+210<_;exact QS hu rfl),λa rest=>xq (i5 T) (h_ T hP hR) 3 _ (by rw[(oq _ a rest).1];show A.depth+1+2 * 3+8<_;exact Kq hd rfl) (by rw[(oq _ a rest).2.1];show A.units+1+8 * 3+210<_;exact Kq hu rfl)⟩
  (OX (h_ (prog:=prog) (U:=U) (tab:=tab) T hP hR) 3)) h1 h2 F.kd F.E m
theorem Ri(T:TopRead q loose mg mb (w.B))(hP:Pt.length<=1000000)(hR:Rt.length<=1000000)(hO:cG prog (av w Pt Rt U tab) (WK w.params) O dm um)(hd:A.depth+2 * k+(dm+40)<recursionLimit)(hu:A.units+8 * k+(um+400)<cLine){n:En}(F:HF A env L n){e:ME}{x:Expr}(h:bg (WK w.params) false e n (.one x)=true):SE prog (av w Pt Rt U tab) A env L x (ev (gU U) (zn (gU U) O k) e):=
 bA (i5 T) (pI T hP hR hO hd hu F.hh) F.E h
def gd(c:Cx)(v:AV)(σ:AH)(c':Cx)(X:XR):Prop:=c'=c/\∃aI,X = .ok (.ret v) aI σ
theorem Hg(T:TopRead q loose mg mb (w.B))(hP:Pt.length<=1000000)(hR:Rt.length<=1000000){a:Addr}{f:Fn}(hf:Ik.get a=some f){good:Cx->XR->Prop}(hd:A.depth<recursionLimit)(hh:A.handled=none)(H:HR (av w Pt Rt U tab) μ σ s.heap)(sk:cX (av w Pt Rt U tab) A μ σ.n s.heap)(r:aH (av w Pt Rt U tab) μ σ.n s.heap args vs)(eb:xb (len f.ps - 1) f.ps f.ds args=some ρ)(hb:∀A' env L n body s1,A'.depth=A.depth+1->A'.units=A.units+3->HF A' env L n->d4 (WK w.params) false f.body n (.many body)=true->ax (av w Pt Rt U tab) A' μ σ.n s L μ σ ρ s1->
   ∀Q E,(∀c' X fl s',good c' X->SQ c' A' X μ σ.n s L fl s'->Q fl s')->(∀X e s',good (av w Pt Rt U tab) X->d7 (av w Pt Rt U tab) A' X μ σ.n s L e s'->E e s')->wpAny (model prog w.toWorld) A' (execs body env) Q E s1):
  codeAny (model prog w.toWorld) A (.call (.ref a) ⟨vs,[]⟩) (λx s'=>∃c' X,good c' X/\RR c' (jM X) μ σ s x s') s:=by
 refine fc ((h_ (prog:=prog) (U:=U) (tab:=tab) T hP hR).fn a f hf) λqual body scope c5 F eH _=>?_
 refine au (id sk) λfs e1 _=>?_
 exact WO (c:=av w Pt Rt U tab) (nJ w) T.nolimit w.top hd F H sk r eb λL s1 St=>
  hb _ _ _ _ body s1 rfl rfl ⟨⟨_,_,rfl,Around.frames_deeper e1⟩,F.kind,Dh F.kind,hh⟩ eH St _ _ (λc' X _ _ g q=>⟨c',X,g,q⟩) λX _ _ g q=>⟨X,g,q⟩
end
section
theorem WP.run{R:Rel β α}{m:Sem α}{r:Res β}{b:β}(h:WP prog c A R m r μ σ s)(e:r = .ok b ai){Q:α->Shared->Prop}{E:Value->Shared->Prop}(k:∀a s' aj,HR c aj ai s'.heap->Ext μ σ.n s.heap aj ai.n s'.heap->R aj ai.n s'.heap b a->b9 s s'->s.toks<=s'.toks->Q a s'):wpAny (model prog c.w) A m Q E s:=by
 subst e
 refine wj (jh (h λz=>by contradiction)) ?_ ?_
 ·rintro a s' ⟨tk,b',aE,aj,z,H,X,r,sm⟩
  cases z
  exact k a s' aj H X r sm tk
 ·rintro v s' ⟨_,l,_,_,z,_⟩
  contradiction
section
variable{W:Ck}{G:Gl}{C:Call}{p:Program}{n:En}{m:Str->Option Value}(w0:Wd prog c W p loose mg mb)(a:At prog c A W G C false)(EN:dE env L n)(H:HR c μ σ s.heap)(F:cm c A μ σ.n s.heap L m ρ)
include w0 a EN H F
theorem sF{g k:Nat}{es:ME}{x:Expr}(h:bg W false (.call (.glob g (.bi k)) es) n (.one x)=true)(hk:(∃id,iO k = .builtin id)\/∃T,iO k = .type T){l:List AV}(he:(ev G C es ρ).l σ = .ok l ai){Q:Value->Shared->Prop}{E:Value->Shared->Prop}(kk:∀vs aj s',HR c aj ai s'.heap->Ext μ σ.n s.heap aj ai.n s'.heap->aH c aj ai.n s'.heap l vs->b9 s s'->s.toks<=s'.toks->wpAny (model prog c.w) A (call (iO k) vs) Q E s'):wpAny (model prog c.w) A (eval x env) Q E s:=by
 refine uT (zi h) λgf l4 p4 h=>n3 h λc1 c2 c3=>?_
 have sg:=bA w0 a EN c2
 have ha:=((Hd w0 a es n env L EN).2 l4 c3).1
 revert sg
 refine y5 c1 λgs gp _ sg=>?_
 show wpAny _ _ (do callWith p4 (<-eval (.Name gs gp) env) [] (backTo p4 (starEach l4 env)) (backToKw p4 (keywordEach [] env))) _ _ _
 refine wg ((sg.v μ σ s ρ m H F).run rfl λv s2 bV H2 X2 r sm tk=>r.kF ?_)
 have go:=(ha.sl.l p4 bV σ s2 ρ m H2 (F.on H X2)).run (E:=E) he λvs s3 gF H3 X3 rs t_ Vc=>kk vs gF s3 H3 (X2.trans X3) rs (sm.trans t_) (Nat.le_trans tk Vc)
 rcases hk with⟨id,e⟩ | ⟨T,e⟩ <;> rw[e] at go ⊢
 ·exact callWith_builtin (ha.noStar p4) (xh ha go)
 ·exact PySem.callWith_type (ha.noStar p4) (xh ha go)
theorem D4{g:Nat}{fa:Addr}{es:ME}{x:Expr}(h:bg W false (.call (.glob g (.con (.ref fa))) es) n (.one x)=true)(hk:keepIn W.K (.ref fa)=true){l:List AV}(he:(ev G C es ρ).l σ = .ok l ai){Q:Value->Shared->Prop}{E:Value->Shared->Prop}(kk:∀vs aj s',HR c aj ai s'.heap->cm c A aj ai.n s'.heap L m ρ->Ext μ σ.n s.heap aj ai.n s'.heap->aH c aj ai.n s'.heap l vs->b9 s s'->wpAny (model prog c.w) A (call (.ref fa) vs) Q E s'):wpAny (model prog c.w) A (eval x env) Q E s:=by
 refine uT (zi h) λgf l4 p4 h=>n3 h λc1 c2 c3=>?_
 have sg:=bA w0 a EN c2
 have ha:=((Hd w0 a es n env L EN).2 l4 c3).1
 revert sg
 refine y5 c1 λgs gp _ sg=>?_
 show wpAny _ _ (do callWith p4 (<-eval (.Name gs gp) env) [] (backTo p4 (starEach l4 env)) (backToKw p4 (keywordEach [] env))) _ _ _
 refine wg ((sg.v μ σ s ρ m H F).run rfl λv s2 bV H2 X2 r sm tk=>r.kC λ_=>?_)
 have F2:=F.on H X2
 exact callWith_of (P:=λh=>keepIn W.K (.ref fa)=true/\W.K.In h) (by rw[ha.noStar p4];rfl) (λh q=>keeps_K q.1 h q.2) (xh ha ((ha.sl.l p4 bV σ s2 ρ m H2 F2).run he λvs s3 gF H3 X3 rs t_ Vc=>⟨⟨hk,w0.X.keeps H3.keep⟩,kk vs gF s3 H3 (F2.on H2 X3) (X2.trans X3) rs (sm.trans t_)⟩))
end
@[elab_as_elim]
theorem fH{W:Ck}{q:Bool}{n:En}{e f:MS}{P:List Stmt->Prop}{l:List Stmt}(h:d4 W q (.seq e f) n (.many l)=true)(k:∀s m,d4 W q e n (.one s)=true->d4 W q f n (.many m)=true->P (s::m)):P l:=by
 refine bw (Qd (show HM (.many l) _=true from h)) ?_;rintro s m rfl h
 exact n2 h (k s m)
@[elab_as_elim]
theorem n9{W:Ck}{q:Bool}{n:En}{P:List Stmt->Prop}{l:List Stmt}(h:d4 W q .nil n (.many l)=true)(k:P []):P l:=by
 rw[Qo (show rD (.many l)=true from h)];exact k
@[elab_as_elim]
theorem vo{W:Ck}{q:Bool}{n:En}{e f:ME}{P:Expr->Prop}{x:Expr}(h:bg W q (.bin 0 e f) n (.one x)=true)(k:∀l r p,bg W q e n (.one l)=true->bg W q f n (.one r)=true->P (.BinOp l .Add r p)):P x:=
 uk (zi h) λl o r p h=>n3 h λh1 h2 h3=>(wl (show decide (Operator.Add=o)=true from h1))▸k l r p h2 h3
@[elab_as_elim]
theorem GP{W:Ck}{q:Bool}{n:En}{t:List Nat}{P:Expr->Prop}{x:Expr}(h:bg W q (.cS t) n (.one x)=true)(k:∀i p,P (.Constant (.str (S t)) i p)):P x:=
 Bh (zi h) λc i p h=>by
  induction c using Const.casesOn with
  |str y=>rw[<-uK (show cu t y.cps.toList=true from h)];exact k i p
  |_=>exact FT h
@[elab_as_elim]
theorem sI{W:Ck}{q:Bool}{n:En}{e f:ME}{P:List Expr->Prop}{l:List Expr}(h:bg W q (.cons e f) n (.many l)=true)(k:∀x xs,bg W q e n (.one x)=true->bg W q f n (.many xs)=true->P (x::xs)):P l:=by
 refine bw (Vv (show Jt (.many l) _=true from h)) λx xs e1 h=>?_
 cases e1
 exact n3 h λ_ h2 h3=>k x xs h2 h3
@[elab_as_elim]
theorem Mg{W:Ck}{q:Bool}{n:En}{P:List Expr->Prop}{l:List Expr}(h:bg W q .nil n (.many l)=true)(k:P []):P l:=by
 rw[jk (show l.isEmpty=true from h)];exact k
theorem QI{W:Ck}{n:En}{x:Nat}{e:ME}{st:Stmt}{rest:List Stmt}(EN:dE env L n)(h:d4 W false (.asg x e) n (.one st)=true)(ne:XJ e=false)(S:ax c A a9 ae aa L μ σ ρ s){a:AV}{Q:Flow->Shared->Prop}{E:Value->Shared->Prop}(value:∀y m,bg W false e n (.one y)=true->cm c A μ σ.n s.heap L m ρ->wpAny (model prog c.w) A (eval y env) (PQ c (RV c) (.ok a ai) μ σ s) (λ_ _=>False) s)(k:∀aj s',ax c A a9 ae aa L aj ai (zd ρ x a) s'->wpAny (model prog c.w) A (execs rest env) Q E s'):wpAny (model prog c.w) A (execs (st::rest) env) Q E s:=by
 refine CB (show my st _=true from h) λt y pos h=>XS h λid ip h=>n4 h λk1 k2 k3 k4=>?_
 rw[<-zv k1]
 have k5:Jn y=true:=((Bool.or_eq_true _ _).mp k4).elim (λz=>z) λz=>n2 z λz _=>TF (z.symm.trans ne)
 refine oE S.fr λm F=>?_
 refine wpAny_execs_cons (wpAny_Assign_Name (wj (value y m k3 F) (λv s2 qq=>?_) (λ_ _ h=>h.elim)) (OO k5 _ _ _))
 refine lN qq λbb aE bV z H2 X2 r2 rF=>?_
 cases z
 exact xz EN.eo (EN.rG k2) (S.step H2 X2 rF) r2 λs3 S3 _=>k bV s3 S3
theorem Kh{st:Stmt}{rest:List Stmt}{X:XD}{v:AV}{Q:Flow->Shared->Prop}{E:Value->Shared->Prop}(h:SS prog c A env L st X)(S:ax c A a9 ae aa L μ σ ρ s)(e:X ρ σ = .ok (.ret v) aI ai)(k:∀w aj s',ax c A a9 ae aa L aj ai aI s'->VR c aj ai.n s'.heap v w->Q (.ret w) s'):wpAny (model prog c.w) A (execs (st::rest) env) Q E s:=by
 refine wpAny_execs_cons (wj (h a9 ae aa μ σ s ρ S (by rw[e];exact λz=>by contradiction)) ?_ ?_)
 ·rintro f s' ⟨fl,bo,aE,aj,z,S',hf⟩
  rw[e] at z
  cases z
  refine au hf ?_;clear hf;rintro v rfl hv
  exact k v aj s' S' hv
 ·rintro v s' ⟨l,_,_,_,z,_⟩
  rw[e] at z;contradiction
theorem yp{st:Stmt}{rest:List Stmt}{X:XD}{Q:Flow->Shared->Prop}{E:Value->Shared->Prop}(h:SS prog c A env L st X)(S:ax c A a9 ae aa L μ σ ρ s)(e:X ρ σ = .ok .next aI ai)(k:∀aj s',s.toks<=s'.toks->ax c A a9 ae aa L aj ai aI s'->wpAny (model prog c.w) A (execs rest env) Q E s'):wpAny (model prog c.w) A (execs (st::rest) env) Q E s:=by
 refine wpAny_execs_cons (wj (jh (h a9 ae aa μ σ s ρ S (by rw[e];exact λz=>by contradiction))) ?_ ?_)
 ·rintro f s' ⟨tk,fl,bo,aE,aj,z,S',hf⟩
  rw[e] at z
  cases z
  cases hf
  exact k aj s' tk S'
 ·rintro v s' ⟨_,l,bo,aE,aj,z,_⟩
  rw[e] at z
  contradiction
theorem zt{W:Ck}{a b:MS}{n:En}{body:List Stmt}(h:d4 W false (.seq a b) n (.many body)=true):∃st rest,body=st::rest/\d4 W false a n (.one st)=true/\d4 W false b n (.many rest)=true:=by
 refine bw (Qd (show HM (.many body) _=true from h)) λs m e h=>?_
 refine n2 h λh1 h2=>?_
 exact Bq s m e h1 h2
theorem Vf{W:Ck}{n:En}{body:List Stmt}(h:d4 W false .nil n (.many body)=true):body=[]:=Qo h
end
theorem PG: ∀(l:List ao) (σ:AH),(l.foldl AH.push σ).n = σ.n+l.length/\∀i,(l.foldl AH.push σ).get i=if i < σ.n then σ.get i else match l[i - σ.n]? with | some o=>o | none=>σ.get i
 |[],σ=>⟨rfl,λi=>by simp⟩
 |a::l,σ=>by
  refine oA (PG l (σ.push a)) λh1 h2=>?_
  have hn:(σ.push a).n = σ.n+1:=rfl
  refine⟨by rw[List.foldl_cons,h1,hn,List.length_cons];exact Nat.add_right_comm _ _ _,λi=>?_⟩
  rw[List.foldl_cons,h2,hn]
  by_cases q:i < σ.n
  ·rw[if_pos (Nat.lt_succ_of_lt q),if_pos q,AH.bc σ a (Nat.ne_of_lt q)]
  ·rw[if_neg q]
   by_cases q2:i = σ.n
   ·subst q2
    rw[if_pos (Nat.le_refl _),Nat.sub_self,AH.bY];rfl
   ·rw[if_neg (by lia),AH.bc σ a q2,show i - σ.n=(i - (σ.n+1))+1 by lia,List.getElem?_cons_succ]
theorem HG(l:List ao):(oG l).n=l.length:=by
 have:=(PG l ⟨0,.leaf⟩).1
 show(l.foldl AH.push ⟨0,.leaf⟩).n=_
 rw[this];exact Nat.zero_add _
theorem ux{l:List ao}{i:Nat}{o:ao}(h:l[i]? = some o):(oG l).get i=o:=by
 have:=(PG l ⟨0,.leaf⟩).2 i
 show(l.foldl AH.push ⟨0,.leaf⟩).get i=_
 rw[this,if_neg (Nat.not_lt_zero i)]
 show(match l[i]? with | some o=>o | none=>_)=o
 rw[h]
theorem Xz: ∀{l m:List (Nat×AV)},Ih l m=true->l=m
 |[],m,h=>by induction m using lC with
  |nil=>rfl
  |cons _ _=>exact FT h
 |a::l,m,h=>by induction m using lC with
  |nil=>exact FT h
  |cons b m=>
   refine n3 (show(Nat.beq a.1 b.1&&(eqv a.2 b.2&&Ih l m))=true from h) λh1 h2 h3=>?_
   obtain⟨x,y⟩:=a
   obtain⟨x',y'⟩:=b
   obtain rfl:x=x':=w4 h1
   obtain rfl:y=y':=og h2
   rw[Xz h3]
theorem Kf{l:List α}(h:si l=true):l=[]:=by
 induction l using lC with
 |nil=>rfl
 |cons _ _=>exact FT h
theorem Vo{a b:ao}(h:v_ a b=true):a=b:=by
 induction a using ao.casesOn with
 |list l=>induction b using ao.casesOn with
  |list m=>exact congrArg ao.list (cz h)
  |_=>exact FT h
 |ns l=>induction b using ao.casesOn with
  |ns m=>exact congrArg ao.ns (Xz h)
  |_=>exact FT h
 |dict u k es=>induction b using ao.casesOn with
  |dict u' k' cQ=>exact n4 (show(u==u'&&(Nat.beq k k'&&(si es&&si cQ)))=true from h) λh1 h2 h3 h4=>by rw[eq_of_beq h1,Nat.eq_of_beq_eq_true h2,Kf h3,Kf h4]
  |_=>exact FT h
 |_=>exact FT h
theorem zpi{d:ao->Bool}{x o:ao}(h:vY d x o=true):(o = .any/\d x=true)\/(o≠.any/\x=o):=by
 induction o using ao.casesOn with
 |any=>exact .inl ⟨rfl,h⟩
 |_=>exact .inr ⟨λz=>(nomatch z),Vo h⟩
def Qv(d:ao->Bool)(l:List ao)(σ:AH):Prop:=l.length<=σ.n/\∀i o,l[i]? = some o->(o = .any/\d (σ.get i)=true)\/(o≠.any/\σ.get i=o)
theorem W_{d:ao->Bool}{σ:AH}:∀{l:List ao}{k:Nat},pN d σ l k=true->∀i o,l[i]? = some o->(o = .any/\d (σ.get (k+i))=true)\/(o≠.any/\σ.get (k+i)=o)
 |[],_,_,i,o,e=>NS e
 |a::l,k,h,i,o,e=>n2 (show(vY d (σ.get k) a&&pN d σ l (k+1))=true from h) λh1 h2=>by
  induction i using nC with
  |zero=>obtain rfl:=w3 e;exact zpi h1
  |succ i=>
   have:=W_ h2 i o e
   rwa [show k+1+i=k+(i+1) from(Nat.add_right_comm _ _ _)] at this
theorem PO{d:ao->Bool}{l:List ao}(h:rY d l σ = true):Qv d l σ:=by
 refine n2 h λh1 h2=>?_
 refine⟨w5 h1,λi o e=>?_⟩
 have:=W_ h2 i o e
 rwa [Nat.zero_add] at this
def Yk(R:ao->ao->Prop)(l:List ao):List ao->Prop:=List.rec (motive:=λ_=>List ao->Prop) (λ_=>True) (λa _ ih m=>List.rec (motive:=λ_=>Prop) False (λb m _=>R a b/\ih m) m) l
theorem XW{R:ao->ao->Prop}:∀{l m:List ao}{i:Nat}{o:ao},Yk R l m->l[i]? = some o->∃o',m[i]? = some o'/\R o o'
 |[],_,_,_,_,e=>NS e
 |a::l,[],_,_,h,_=>h.elim
 |a::l,b::m,0,o,h,e=>⟨b,rfl,w3 e▸h.1⟩
 |a::l,b::m,i+1,o,h,e=>XW (l:=l) (i:=i) h.2 e
theorem W5(text at_:AV):Qv Bm (objs .any text at_) (gK text at_):=
 ⟨Nat.le_of_eq (HG _).symm,λi o e=>by
  have z:∀o:ao,o≠.any->(o = .any/\Bm o=true)\/(o≠.any/\o=o):=λo h=>.inr ⟨h,rfl⟩
  have y:(ao.any = .any/\Bm uz=true)\/(ao.any≠.any/\uz = .any):=.inl ⟨rfl,rfl⟩
  refine au (XW (R:=λo o'=>(o = .any/\Bm o'=true)\/(o≠.any/\o'=o)) (l:=objs .any text at_) (m:=objs uz text at_)
   ⟨z _ nofun,z _ nofun,z _ nofun,y,z _ nofun,z _ nofun,y,y,y,z _ nofun,z _ nofun,z _ nofun,z _ nofun,z _ nofun,z _ nofun,trivial⟩ e) λo' e' q=>?_
  rw[show(gK text at_).get i=o' from ux e']
  exact q⟩
theorem znb{U:List (List Nat)}{x:List Nat}(h:yw U x=true):x∈U:=by
 induction U with
 |nil=>exact FT h
 |cons a l ih=>
  change ak (cu a x) true (yw l x)=true at h
  induction q:cu a x with
  |true=>rw[(yd a x).mp q];exact .head _
  |false=>rw[q] at h;exact .tail _ (ih h)
section
variable{w:Wo}{P R P' R':List Nat}{U U':List (List Nat)}{t t':Nat->Int}{N:Nat}
theorem Wy{k:Nat}{es:List (List Nat×AV)}(hs:∀a∈U,a∈U')(hl:es.length+U.length<=U'.length)(hm:U'.length<=1000)(hk:∀e∈es,e.1∈U')(r:aG (av w P R U t) μ N h (.dict true k es) o):aG (av w P' R' U' t') μ n h uz o:=by
 cases r with
 |@dict _ _ pre ents _ k' v uu p=>
  have el:ents.length=es.length:=v.len
  have:vh (av w P' R' U' t') (pre++ents):=by
   refine oA uu ?_;clear uu;rintro ⟨u1,u2⟩ u3
   have u2:pre.length<=U.length:=u2
   refine⟨⟨by rw[List.length_append];lia,by show(pre++ents).length<=U'.length;rw[List.length_append];lia⟩,λe Rq=>?_⟩
   rcases List.mem_append.mp Rq with he | he
   ·refine dC (u3 e he) λa tk h1 h2 h3=>?_
    exact Bq a tk (hs a h1) h2 h3
   ·clear el hl u1 u2 u3 p Rq
    induction v with
    |nil=>cases he
    |@cons a tk x vv l cQ _ _ ih=>
     rcases w8.mp he with rfl | he
     ·exact Bq a tk (hk _ (.head _)) rfl rfl
     ·exact ih (λe h=>hk e (.tail _ h)) he
  have:=aG.dict (c:=av w P' R' U' t') (μ:=μ) (n:=n) (h:=h) (u:=true) (es:=[]) (pre:=pre++ents) (ents:=[]) (k:=0) (k':=k') .nil this λz=>by exact TF z
  rw[List.append_nil] at this
  exact this
theorem XH{a:ao}(h:nI a=true):a=dz:=by
 induction a using ao.casesOn with
 |dict u k es=>
  refine n3 (show(!u&&(Nat.beq k 0&&si es))=true from h) λh1 h2 h3=>?_
  rw[Nat.eq_of_beq_eq_true h2,Kf h3]
  cases u with
  |false=>rfl
  |true=>exact FT h1
 |_=>exact FT h
theorem zk3{a:ao}(hz:nI a=true)(r:aG (av w P R U t) μ N h a o):aG (av w P' R' U' t') μ n h uz o:=by
 rw[XH hz] at r
 have r:aG (av w P R U t) μ N h (.dict false 0 []) o:=r
 cases r with
 |@dict _ _ pre ents _ k' v uu p=>
  refine oA (p rfl) ?_;rintro rfl rfl
  cases v
  exact .dict (u:=true) (pre:=[]) .nil (Xa _) λz=>by exact TF z
theorem Qe{a:ao}(hz:Bm a=true)(hs:∀a∈U,a∈U')(hl:U.length<=U'.length)(hm:U'.length<=1000)(r:aG (av w P R U t) μ N h a o):aG (av w P' R' U' t') μ n h uz o:=by
 induction a using ao.casesOn with
 |dict u k es=>
  refine n2 (show(u&&si es)=true from hz) λh1 h2=>?_
  obtain rfl:=h1
  obtain rfl:=Kf h2
  exact Wy hs (by simpa using hl) hm (by simp) r
 |_=>exact FT hz
theorem AL{a:ao}(hz:wY U' a=true)(hs:∀a∈U,a∈U')(hl:U.length+1<=U'.length)(hm:U'.length<=1000)(r:aG (av w P R U t) μ N h a o):aG (av w P' R' U' t') μ n h uz o:=by
 induction a using ao.casesOn with
 |dict u k es=>
  refine n3 (show(u&&(Nat.ble (len es) 1&&es.all λe=>yw U' e.1))=true from hz) λh0 h1 h2=>?_
  obtain rfl:=h0
  have h1:=w5 h1
  rw[zb] at h1
  exact Wy hs (by lia) hm (λe he=>znb (w6.mp h2 e he)) r
 |_=>exact FT hz
theorem pQ{d:ao->Bool}{text at_ da at':AV}(hg:Qv d (objs .any text at_) σ)(ht:∀h v,VR (av w P R U t) μ σ.n h text v->VR (av w P' R' U' t') μ 15 h da v)(ha:∀h v,VR (av w P R U t) μ σ.n h at_ v->VR (av w P' R' U' t') μ 15 h at' v)(hd:∀h a o,d a=true->aG (av w P R U t) μ σ.n h a o->aG (av w P' R' U' t') μ 15 h uz o)(tv:vc (av w P R U t) (av w P' R' U' t') μ σ.n 15 s.heap ρ aI)(n0:ae<=15)(x:ax (av w P R U t) A a9 ae aa L μ σ ρ s):ax (av w P' R' U' t') A a9 ae aa L μ (gK da at') aI s:=by
 have hn:(gK da at').n=15:=HG _
 refine oA hg λg1 g2=>?_
 have cl:∀i a,(objs .any text at_)[i]? = some a->(objs uz da at')[i]? = some a->a≠.any->KR 15 a=true->∀o,aG (av w P R U t) μ σ.n s.heap (σ.get i) o->aG (av w P' R' U' t') μ 15 s.heap ((gK da at').get i) o:=λi a h1 h2 na hc o r=>by
  rcases g2 i a h1 with⟨z,_⟩ | ⟨_,z⟩
  ·exact w1 z na
  ·rw[z] at r
   rw[show(gK da at').get i=a from ux h2]
   exact K0 (z7 ..) hc r
 have dd:∀i,(objs .any text at_)[i]? = some .any->(objs uz da at')[i]? = some uz->∀o,aG (av w P R U t) μ σ.n s.heap (σ.get i) o->aG (av w P' R' U' t') μ 15 s.heap ((gK da at').get i) o:=λi h1 h2 o r=>by
  rw[show(gK da at').get i=uz from ux h2]
  rcases g2 i _ h1 with⟨_,z⟩ | ⟨z,_⟩
  ·exact hd _ _ _ z r
  ·exact w1 rfl z
 refine ax.cut (z7 ..) (by rw[hn];exact g1) (by rw[hn];exact n0) (λl hl o ho r=>?_) (by rw[hn];exact tv) x
 rw[hn] at hl ⊢
 match l,hl,r with
 |0,_,r=>exact cl 0 _ rfl rfl (by simp) rfl o r
 |1,_,r=>exact cl 1 _ rfl rfl (by simp) rfl o r
 |2,_,r=>exact cl 2 _ rfl rfl (by simp[dz]) rfl o r
 |3,_,r=>exact dd 3 rfl rfl o r
 |4,_,r=>exact cl 4 _ rfl rfl (by simp[dz]) rfl o r
 |5,_,r=>exact cl 5 _ rfl rfl (by simp) rfl o r
 |6,_,r=>exact dd 6 rfl rfl o r
 |7,_,r=>exact dd 7 rfl rfl o r
 |8,_,r=>exact dd 8 rfl rfl o r
 |9,_,r=>exact cl 9 _ rfl rfl (by simp) rfl o r
 |10,_,r=>exact cl 10 _ rfl rfl (by simp) rfl o r
 |11,_,r=>exact cl 11 _ rfl rfl (by simp) rfl o r
 |12,_,r=>exact cl 12 _ rfl rfl (by simp) rfl o r
 |13,_,r=>
  have z:σ.get 13 = .ns [(B3,text),(PV,.int 0 (.ofNat 0)),(P4,.bool true),(vi,at_)]:=by
   rcases g2 13 _ rfl with⟨z,_⟩ | ⟨_,z⟩
   ·contradiction
   ·exact z
  rw[z] at r
  rw[show(gK da at').get 13 = .ns [(B3,da),(PV,.int 0 (.ofNat 0)),(P4,.bool true),(vi,at')] from ux rfl]
  cases r with
  |ns v=>cases v with
   |cons v1 v=>cases v with
    |cons v2 v=>cases v with
     |cons v3 v=>cases v with
      |cons v4 v=>
       cases v
       exact .ns (.cons (c:=av w P' R' U' t') (ht _ _ v1) (.cons (c:=av w P' R' U' t') (yc (z7 ..) rfl v2) (.cons (c:=av w P' R' U' t') (yc (z7 ..) rfl v3) (.cons (c:=av w P' R' U' t') (ha _ _ v4) .nil))))
 |14,_,r=>exact cl 14 _ rfl rfl (by simp) rfl o r
 |l+15,hl,_=>lia
end
noncomputable def t0: Nat->Int:=λ_=>0
theorem A_(i:Nat):(UU i).length=i:=by simp[UU]
theorem XE{i j:Nat}(h:i<=j):∀a∈UU i,a∈UU j:=by
 intro a ha
 refine au (List.mem_map.mp ha) ?_;rintro k hk rfl
 exact List.mem_map.mpr ⟨k,List.mem_range.mpr (w7 (List.mem_range.mp hk) h),rfl⟩
theorem Jm{W pc R:List Nat}{x:Nat}(h:W.drop x=pc++R)(hx:x<=W.length):W.take x++pc++R=W/\W.take (x+pc.length)=W.take x++pc/\W.drop (x+pc.length)=R/\x+pc.length<=W.length/\(W.take x).length=x:=by
 have hl:(W.take x).length=x:=by rw[List.length_take];exact Nat.min_eq_left hx
 have e:W=W.take x++(pc++R):=by rw[<-h,List.take_append_drop]
 have e2:W=(W.take x++pc)++R:=by rw[List.append_assoc];exact e
 have l2:(W.take x++pc).length=x+pc.length:=by rw[List.length_append,hl]
 refine⟨e2.symm,?_,?_,?_,hl⟩
 ·have:=List.take_left' (l₂:=R) l2
  rw[<-e2] at this;exact this
 ·have:=List.drop_left' (l₂:=R) l2
  rw[<-e2] at this;exact this
 ·have:=congrArg List.length e2
  rw[List.length_append,l2] at this;exact so this
section
variable{w:Wo}{P R P' R':List Nat}{U U':List (List Nat)}{t t':Nat->Int}{N:Nat}
theorem mF{q q':Nat}{x x':List Nat}(r:VR c μ N h (.str q x) v)(e:c.wrap q x=c'.wrap q' x'):VR c' μ n h (.str q' x') v:=by
 cases r with
 |str _ _ t=>rw[e];exact .str q' x' t
theorem QF(S:aZ c c')(h1:pv ρ false=true):vc c c' μ N 15 h ρ lQ:=by
 refine n3 h1 λa1 a2 _=>?_
 have get:∀{x v},iT ρ x v=true->aC ρ x=some v:=λ{x v} h=>by
  unfold iT at h
  split at h
  ·rename_i y e;rw[e,og h]
  ·exact FT h
 intro x y' e
 change ak (Nat.beq jb x) (some (.ins 975 11)) (ak (Nat.beq uB x) (some (.obj 14)) none)=some y' at e
 induction q1:Nat.beq jb x with
 |true=>
  rw[q1] at e;obtain rfl:=w3 e
  rw[<-Nat.eq_of_beq_eq_true q1]
  exact aT _ (get a1) (λv r=>yc S rfl r)
 |false=>
  rw[q1] at e
  replace e:ak (Nat.beq uB x) (some (.obj 14)) none=some y':=e
  refine oA (zg e) λq2 e=>?_
  obtain rfl:=w3 e
  rw[<-Nat.eq_of_beq_eq_true q2]
  exact aT _ (get a2) (λv r=>yc S rfl r)
theorem Qy(S:aZ c c')(h1:pv ρ true=true):vc c c' μ N 15 h ρ lR:=by
 refine n3 h1 λa1 a2 a3=>?_
 have get:∀{x v},iT ρ x v=true->aC ρ x=some v:=λ{x v} h=>by
  unfold iT at h
  split at h
  ·rename_i y e;rw[e,og h]
  ·exact FT h
 intro x y' e
 change ak (Nat.beq jb x) (some (.ins 975 11)) (ak (Nat.beq uB x) (some (.obj 14)) (ak (Nat.beq jz x) (some (.ins 421 13)) none))=some y' at e
 induction q1:Nat.beq jb x with
 |true=>
  rw[q1] at e;obtain rfl:=w3 e
  rw[<-Nat.eq_of_beq_eq_true q1]
  exact aT _ (get a1) (λv r=>yc S rfl r)
 |false=>
  rw[q1] at e
  replace e:ak (Nat.beq uB x) (some (.obj 14)) (ak (Nat.beq jz x) (some (.ins 421 13)) none)=some y':=e
  induction q2:Nat.beq uB x with
  |true=>
   rw[q2] at e;obtain rfl:=w3 e
   rw[<-Nat.eq_of_beq_eq_true q2]
   exact aT _ (get a2) (λv r=>yc S rfl r)
  |false=>
   rw[q2] at e
   replace e:ak (Nat.beq jz x) (some (.ins 421 13)) none=some y':=e
   refine oA (zg e) λq3 e=>?_
   obtain rfl:=w3 e
   rw[<-Nat.eq_of_beq_eq_true q3]
   exact aT _ (get a3) (λv r=>yc S rfl r)
end
def gG(A:Around)(L:Fm)(a9:Nat->Addr)(ae:Nat)(aa:Shared)(w:Wo)(W:List Nat)(x i:Nat)(ρ:az)(μ:Nat->Addr)(s:Shared):Prop:=
 ax (av w (W.take x) (W.drop x) (UU i) t0) A a9 ae aa L μ (gK (.str 2 []) (.int 1 (.ofNat 0))) ρ s
section
variable{w:Wo}{W:List Nat}{x i:Nat}
theorem R_(text at_:AV):(gK text at_).n=15:=HG _
theorem Qh(b:Bool):pv (ak b lR lQ) b=true:=by cases b <;> decide +kernel
theorem gG.tw{b:Bool}{pc R:List Nat}(n0:ae<=15)(hi:i<=3)(S:gG A L a9 ae aa w W x i (ak b lR lQ) μ s)(h:W.drop x=pc++R)(hx:x<=W.length):
  ax (av w (W.take x) R (UU i) t0) A a9 ae aa L μ (gK (.str 2 pc) (.int 1 (.ofNat 0))) (ak b lR lQ) s:=by
 refine oA (Jm h hx) λe _=>?_
 refine pQ (P:=W.take x) (R:=W.drop x) (U:=UU i) (t:=t0) (P':=W.take x) (R':=R) (U':=UU i) (t':=t0) (W5 _ _) (λh' v r=>mF r ?_) (λh' v r=>jn r rfl) (λh' a o hz r=>Qe hz (λ_ h=>h) (wa _) (by rw[A_];exact fy hi rfl) r) ?_ n0 S
 ·show W.take x++[]++W.drop x=W.take x++pc++R
  rw[List.append_nil,List.take_append_drop,e]
 ·rw[R_]
  induction b with
  |true=>exact Qy (z7 ..) (Qh true)
  |false=>exact QF (z7 ..) (Qh false)
theorem gG.last{t:List Nat}(n0:ae<=15)(hi:i<=3)(S:gG A L a9 ae aa w W x i lR μ s)(h:W.drop x=t)(hx:x<=W.length):
  ax (av w (W.take x) [] (UU 3) t0) A a9 ae aa L μ (gK (.str 1 t) (.int 1 (.ofNat 0))) lR s:=by
 refine pQ (P:=W.take x) (R:=W.drop x) (U:=UU i) (t:=t0) (P':=W.take x) (R':=[]) (U':=UU 3) (t':=t0) (W5 _ _) (λh' v r=>mF r ?_) (λh' v r=>jn r rfl) (λh' a o hz r=>Qe hz (XE hi) (by rw[A_,A_];exact hi) (by decide) r) ?_ n0 S
 ·show W.take x++[]++W.drop x=W.take x++t
  rw[List.append_nil,h]
 ·rw[R_];exact Qy (z7 ..) (Qh true)
theorem gG.of{b:Bool}{j:Nat}{d:ao->Bool}{pc R:List Nat}{m:Nat}(n0:ae<=15)(S:ax (av w (W.take x) R (UU i) t0) A a9 ae aa L μ σ ρ s)(hc:rY d (objs .any (.str 2 pc) (.int 1 (.ofNat m))) σ = true)(kU:pv ρ b=true)(h:W.drop x=pc++R)(hx:x<=W.length)(hm:m<=pc.length)(hd:∀h a o,d a=true->aG (av w (W.take x) R (UU i) t0) μ σ.n h a o->aG (av w (W.take (x+m)) (W.drop (x+m)) (UU j) t0) μ 15 h uz o):gG A L a9 ae aa w W (x+m) j (ak b lR lQ) μ s:=by
 refine jQ (Jm h hx) λe _ _ le hl=>?_
 refine pQ (P:=W.take x) (R:=R) (U:=UU i) (t:=t0) (P':=W.take (x+m)) (R':=W.drop (x+m)) (U':=UU j) (t':=t0) (PO hc) (λh' v r=>mF r ?_) (λh' v r=>jn r ?_) hd ?_ n0 S
 ·show W.take x++pc++R=W.take (x+m)++[]++W.drop (x+m)
  rw[List.append_nil,List.take_append_drop,e]
 ·show((W.take x).length:Int)+(m:Int)=((W.take (x+m)).length:Int)+0
  rw[hl,List.length_take];lia
 ·induction b with
  |true=>exact Qy (z7 ..) kU
  |false=>exact QF (z7 ..) kU
end
theorem LX: ph0=true:=by decide +kernel
theorem LY: ((List.range 4).all λi=>(List.range 3).all λg=>N2 i g)=true:=by decide +kernel
theorem LZ: ((List.range 3).all λi=>(List.range 5).all λj=>N4 i j)=true:=by decide +kernel
theorem yL{i g:Nat}(hi:i<4)(hg:g<3):N2 i g=true:=w6.mp (w6.mp LY i (List.mem_range.mpr hi)) g (List.mem_range.mpr hg)
theorem yM{i j:Nat}(hi:i<3)(hj:j<5):N4 i j=true:=w6.mp (w6.mp LZ i (List.mem_range.mpr hi)) j (List.mem_range.mpr hj)
theorem zmx(i j:Nat):∃r,ze i j=60::r:=by
 match j with
 |0=>exact⟨_,rfl⟩
 |1=>exact⟨_,rfl⟩
 |2=>exact⟨_,rfl⟩
 |3=>exact⟨_,rfl⟩
 |j+4=>exact⟨_,rfl⟩
theorem rem_60{t:List Nat}(ht:∃r,t=60::r)(i g:Nat)(bF:List (Nat×Nat)):∃r,jN t i g bF=zm g++60::r:=by
 induction bF using lC with
 |nil=>refine oE ht ?_;clear ht;rintro r rfl;exact⟨r,rfl⟩
 |cons p bF=>
  obtain⟨j,g'⟩:=p
  refine oE (zmx i j) λr hr=>?_
  exact⟨r++jN t (i+1) g' bF,by show zm g++(ze i j++_)=_;rw[hr];rfl⟩
section
variable{w:Wo}{q:Program}{n:En}
theorem zlc{i g:Nat}(h:N2 i g=true):∃aE fe ff dD bC,pT (UU i) mz lQ (gK (.str 2 (zm g++[60])) (.int 1 (.ofNat 0))) = .ok true aE/\gr (UU i) Ge lQ aE = .ok .next fe ff/\gr (UU i) Gf fe ff = .ok .next dD bC/\
  pv dD true=true/\rY Bm (objs .any (.str 2 (zm g++[60])) (.int 1 (.ofNat (zm g).length))) bC=true:=by
 refine au (zp0 h) λaE e1 h=>?_
 refine bw (Cz h) λdD bC e2 h=>?_
 refine bw (JQ e2) λfe ff ea eb=>?_
 exact n2 h λh1 h2=>⟨aE,fe,ff,dD,bC,e1,ea,eb,h1,h2⟩
theorem zlf{i j:Nat}(h:N4 i j=true):∃dD bC,gr (UU i) rC lR (gK (.str 2 (ze i j)) (.int 1 (.ofNat 0))) = .ok .next dD bC/\pv dD false=true/\rY (wY (UU (i+1))) (objs .any (.str 2 (ze i j)) (.int 1 (.ofNat (ze i j).length))) bC=true:=by
 refine bw (Cz h) λdD bC e h=>?_
 exact n2 h λh1 h2=>⟨dD,bC,e,h1,h2⟩
def vb(A:Around)(L:Fm)(a9:Nat->Addr)(ae:Nat)(aa:Shared)(w:Wo)(P t W:List Nat)(k:Nat)(s':Shared):Prop:=
 (∃i g bF x aj,k=bF.length+1001/\i+bF.length<=3/\g<3/\(∀p∈bF,p.1<5/\p.2<3)/\x<=W.length/\W.drop x=jN t i g bF/\gG A L a9 ae aa w W x i lQ aj s')\/
  (∃aj ai aI,ax (av w P [] (UU 3) t0) A a9 ae aa L aj ai aI s'/\uS (pT (UU 3) mz) (gr (UU 3) kg) k aI ai=aX t)
def Kw(prog:Program)(A:Around)(env:Env)(L:Fm)(a9:Nat->Addr)(ae:Nat)(aa:Shared)(w:Wo)(P t:List Nat)(r:Except Value Flow)(s':Shared):Prop:=match r with
 |.ok f=>SQ (av w P [] (UU 3) t0) A (aX t) a9 ae aa L f s'
 |.error e=>cameBackBy (model prog w.toWorld) A env (d7 (av w P [] (UU 3) t0) A (aX t) a9 ae aa L) e s'
structure dt (A:Around) (L:Fm) (a9:Nat->Addr) (ae:Nat) (aa:Shared) (w:Wo) (P t W:List Nat) (k:Nat) (Q:Flow->Shared->Prop) (E:Value->Shared->Prop):Prop where
 nx:∀k' s',k'<k->vb A L a9 ae aa w P t W k' s'->Q .next s'
 ct:∀k' s',k'<k->vb A L a9 ae aa w P t W k' s'->Q .cont s'
 rt:∀v s',SQ (av w P [] (UU 3) t0) A (aX t) a9 ae aa L (.ret v) s'->Q (.ret v) s'
 ex:∀e s',d7 (av w P [] (UU 3) t0) A (aX t) a9 ae aa L e s'->E e s'
section
variable{W P t:List Nat}{k:Nat}{Q:Flow->Shared->Prop}{E:Value->Shared->Prop}
theorem Sd{R:XR}{x:XR}{f:az->AH->XR}{fl:Fl}(e:R=x.on f (λv ρ σ=>.ok (.ret v) ρ σ) .exc .stuck)(z:x = .ok fl ρ σ):R=(XR.ok fl ρ σ).on f (λv ρ σ=>.ok (.ret v) ρ σ) .exc .stuck:=z▸e
theorem X_{x:XR}{m:Nat}(p:dt A L a9 ae aa w P t W k Q E)(hm:m<k)(e:aX t=x.on (uS (pT (UU 3) mz) (gr (UU 3) kg) m) (λv ρ σ=>.ok (.ret v) ρ σ) .exc .stuck){f:Flow}(h:SQ (av w P [] (UU 3) t0) A x a9 ae aa L f s):Q f s:=h.k λfl ρ σ aj z S hf=>by
 rw[z] at e
 induction fl using Fl.casesOn with
 |next=>rw[show f = .next from hf];exact p.nx m s hm (.inr ⟨aj,σ,ρ,S,e.symm⟩)
 |cont=>rw[show f = .cont from hf];exact p.ct m s hm (.inr ⟨aj,σ,ρ,S,e.symm⟩)
 |ret y=>exact hf.elim λv q=>by rw[q.1];exact p.rt v s ⟨.ret y,ρ,σ,aj,e,S,v,rfl,q.2⟩
theorem Y8{x:XR}{f:az->AH->XR}(p:dt A L a9 ae aa w P t W k Q E)(e:aX t=x.on f (λv ρ σ=>.ok (.ret v) ρ σ) .exc .stuck)(h:d7 (av w P [] (UU 3) t0) A x a9 ae aa L v s):E v s:=
 h.k λl ρ σ aj z S F=>p.ex v s ⟨l,ρ,σ,aj,e.trans (by rw[z];rfl),S,F⟩
theorem zpl{st:Stmt}{m:Nat}{X:MS}(h:SS prog (av w P [] (UU 3) t0) A env L st (gr (UU 3) X))(S:ax (av w P [] (UU 3) t0) A a9 ae aa L μ σ ρ s)(p:dt A L a9 ae aa w P t W k Q E)(hm:m<k)(e:aX t=(gr (UU 3) X ρ σ).on (uS (pT (UU 3) mz) (gr (UU 3) kg) m) (λv ρ σ=>.ok (.ret v) ρ σ) .exc .stuck)(ns:aX t≠.stuck):wpAny (model prog w.toWorld) A (execs [st] env) Q E s:=
 wpAny_execs_cons (wj (h a9 ae aa μ σ s ρ S λz=>ns (e.trans (by rw[z];rfl))) (λf s' q=>by
  have q:=X_ (s:=s') p hm e q
  cases f with
  |next=>exact wpAny_execs_nil q
  |_=>exact q) λv s' q=>Y8 p e q)
variable(T:TopRead q loose mg mb (w.B))(F:HF A env L n)(hd:A.depth+200<recursionLimit)(hu:A.units+1000<cLine)(n0:ae<=15)(ns:aX t≠.stuck)
include T F hd hu n0
theorem zpa{st:Stmt}{i y:Nat}(hC:d4 (WK w.params) false rC n (.one st)=true)(lP:P.length<=1000000)(S:gG A L a9 ae aa w W y i lR μ s)(i3:i<=3)(hy:W.drop y=t)(hle:y<=W.length)(eP:W=P++t)(ns:aX t≠.stuck)(p:dt A L a9 ae aa w P t W k Q E)(hk:1000<k):wpAny (model prog w.toWorld) A (execs [st] env) Q E s:=by
 have S7:=gG.last (t:=t) n0 i3 S hy hle
 rw[List.append_cancel_right ((show W.take y++t=W from hy▸List.take_append_drop y W).trans eP)] at S7
 exact zpl ((iE (prog:=prog) (U:=UU 3) (Pt:=P) (Rt:=[]) (tab:=t0) (k:=30) T lP (w9 _) (none_or (prog:=prog)) (eL hd rfl) (eL hu rfl) F rC).1 st hC) S7 p hk rfl ns
theorem zpg{st:Stmt}{i j g y:Nat}{bF:List (Nat×Nat)}(hC:d4 (WK w.params) false rC n (.one st)=true)(hW:W.length<=1000000)(S:gG A L a9 ae aa w W y i lR μ s)(i3:i+1+bF.length<=3)(hj:j<5)(hg:g<3)(hit:∀p∈bF,p.1<5/\p.2<3)(Ip:W.drop y=ze i j++jN t (i+1) g bF)(hle:y<=W.length)(p:dt A L a9 ae aa w P t W k Q E)(hk:bF.length+1001<k):wpAny (model prog w.toWorld) A (execs [st] env) Q E s:=by
 have lr:(jN t (i+1) g bF).length<=1000000:=by
  have:=congrArg List.length Ip
  rw[List.length_drop,List.length_append] at this;lia
 have S7:=gG.tw (b:=true) n0 (Bp (iI i3) rfl) S Ip hle
 refine dC (zlf (yM (i:=i) (j:=j) (iI i3) hj)) λYb jW e5 LD LI=>?_
 refine yp (c:=av w (W.take y) (jN t (i+1) g bF) (UU i) t0) ((iE (prog:=prog) (U:=UU i) (tab:=t0) (k:=30) T (by rw[List.length_take];exact jO (Nat.min_eq_left hle) (Nat.le_trans hle hW) rfl) lr (none_or (prog:=prog)) (eL hd rfl) (eL hu rfl) F rC).1 st hC) S7 e5 λiJ s5 _ S8=>?_
 refine jQ (Jm Ip hle) λ_ _ d1 d2 _=>?_
 exact wpAny_execs_nil (p.nx (bF.length+1001) _ hk (.inl ⟨i+1,g,bF,_,iJ,rfl,i3,hg,hit,d2,d1,
  gG.of (b:=false) n0 S8 LI LD Ip hle (wa _) λh' a o hz r=>AL hz (XE (Nat.le_succ i)) (by rw[A_,A_];exact wa _) (by rw[A_];exact CR i3 rfl) r⟩))
theorem zov{tx:Expr}{Ji GK stC:Stmt}{i g x:Nat}{bF:List (Nat×Nat)}{Qb:Bool->Shared->Prop}(hT:bg (WK w.params) false mz n (.one tx)=true)(hA:d4 (WK w.params) false Ge n (.one Ji)=true)(hB:d4 (WK w.params) false Gf n (.one GK)=true)(hC:d4 (WK w.params) false rC n (.one stC)=true)(hW:W.length<=1000000)(ht:∃r,t=60::r)(eP:W=P++t)(ns:aX t≠.stuck)(ek:k=bF.length+1001)(sX:i+bF.length<=3)(hg:g<3)(hit:∀p∈bF,p.1<5/\p.2<3)(hx:x<=W.length)(wQ:W.drop x=jN t i g bF)(S1:gG A L a9 ae aa w W x i lQ μ s)(hb:∀s2,wpAny (model prog w.toWorld) A (execs [Ji,GK,stC] env) Q E s2->Qb true s2)(p:dt A L a9 ae aa w P t W k Q E):
  wpAny (model prog w.toWorld) A (isTrue tx env (eval tx env)) Qb E s:=by
 refine oE (rem_60 ht i g bF) λC1 K_=>?_
 have tk:(W.take x).length<=1000000:=by rw[List.length_take];exact jO (Nat.min_eq_left hx) (Nat.le_trans hx hW) rfl
 have Iw:W.drop x=(zm g++[60])++C1:=by rw[wQ,K_,List.append_assoc];rfl
 have lr:C1.length<=1000000:=by
  have:=congrArg List.length Iw
  rw[List.length_drop,List.length_append] at this;lia
 have S2:=gG.tw (b:=false) n0 (iI sX) S1 Iw hx
 refine eC (zlc (yL (i:=i) (g:=g) (mP (iI sX) rfl) hg)) λaE fe ff dD q9=>?_;refine au q9 λbC e1 q9=>?_;refine jS q9 λea eb LC LG=>?_
 have iV:W.drop (x+(zm g).length)=60::C1/\x+(zm g).length<=W.length:=by
  refine jQ (Jm (pc:=zm g) (R:=60::C1) (by rw[Iw,List.append_assoc];rfl) hx) λ_ _ d1 d2 _=>?_
  exact⟨d1,d2⟩
 refine S2.fr.elim λm F2=>((Ri (prog:=prog) (U:=UU i) (tab:=t0) (k:=30) T tk lr (none_or (prog:=prog)) (eL hd rfl) (eL hu rfl) F hT).b μ _ s _ m S2.hr F2).C2 e1 λv s2 bV H2 X2 rb rF=>?_
 rw[show v=true from rb.symm]
 have S3:=S2.step H2 X2 rF
 refine hb s2 (yp ((iE (prog:=prog) (U:=UU i) (tab:=t0) (k:=30) T tk lr (none_or (prog:=prog)) (eL hd rfl) (eL hu rfl) F Ge).1 Ji hA) S3 ea λgF s3 _ S4=>yp ((iE (prog:=prog) (U:=UU i) (tab:=t0) (k:=30) T tk lr (none_or (prog:=prog)) (eL hd rfl) (eL hu rfl) F Gf).1 GK hB) S4 eb λgc s4 _ S5=>?_)
 have S6:gG A L a9 ae aa w W (x+(zm g).length) i lR gc s4:=gG.of (b:=true) n0 S5 LG LC Iw hx (by rw[List.length_append];exact Nat.le_add_right _ _) λh' a o hz r=>Qe hz (λ_ h=>h) (wa _) (by rw[A_];exact CR sX rfl) r
 induction bF using lC with
 |nil=>exact zpa T F hd hu n0 hC (by rw[eP,List.length_append] at hW;exact iI hW) S6 sX (iV.1.trans (List.append_cancel_left (show zm g++t=zm g++60::C1 from K_)).symm) iV.2 eP ns p (by rw[ek];simp only[List.length_nil];exact wa _)
 |cons q bF=>
  have hq:=hit q (.head _)
  exact zpg T F hd hu n0 hC hW S6 (by rw[List.length_cons] at sX;exact jO (Nat.add_right_comm _ _ _) sX rfl) hq.1 hq.2 (λp hp=>hit p (.tail _ hp)) (iV.1.trans (List.append_cancel_left (show zm g++(ze i q.1++jN t (i+1) q.2 bF)=zm g++60::C1 from K_)).symm) iV.2 p (by rw[ek,List.length_cons];exact wa _)
theorem zp6{tx:Expr}{b:List Stmt}{Qb:Bool->Shared->Prop}(hT:bg (WK w.params) false mz n (.one tx)=true)(hB:d4 (WK w.params) false kg n (.many b)=true)(lP:P.length<=1000000)(ns:aX t≠.stuck)(S:ax (av w P [] (UU 3) t0) A a9 ae aa L μ σ ρ s)(e:uS (pT (UU 3) mz) (gr (UU 3) kg) k ρ σ = aX t)(hb:∀s2,wpAny (model prog w.toWorld) A (execs b env) Q E s2->Qb true s2)(hf:∀s2,SQ (av w P [] (UU 3) t0) A (aX t) a9 ae aa L .next s2->Qb false s2)(p:dt A L a9 ae aa w P t W k Q E):wpAny (model prog w.toWorld) A (isTrue tx env (eval tx env)) Qb E s:=by
 induction k using nC with
 |zero=>exact w1 e.symm ns
 |succ k=>
  refine S.fr.elim λm F1=>wj (WP.cM S ((Ri (prog:=prog) (U:=UU 3) (Pt:=P) (Rt:=[]) (tab:=t0) (k:=30) T lP (w9 _) (none_or (prog:=prog)) (eL hd rfl) (eL hu rfl) F hT).b μ σ s ρ m S.hr F1) (show aX t=(pT (UU 3) mz ρ σ).bO ρ _ from e.symm) ns
   λr bC bV v s2 S2 X2 hr er=>(?_:Qb v s2)) (λ_ _ h=>h) p.ex
  rw[show v=r from hr.symm]
  induction r with
  |false=>exact hf s2 ⟨.next,ρ,bC,bV,er,S2,rfl⟩
  |true=>
   have e3:aX t=(gr (UU 3) kg ρ bC).on (uS (pT (UU 3) mz) (gr (UU 3) kg) k) (λv ρ σ=>.ok (.ret v) ρ σ) .exc .stuck:=er
   exact hb s2 (wj ((iE (prog:=prog) (U:=UU 3) (Pt:=P) (Rt:=[]) (tab:=t0) (k:=30) T lP (w9 _) (none_or (prog:=prog)) (eL hd rfl) (eL hu rfl) F kg).2 _ hB a9 ae aa bV bC s2 ρ S2 λz=>ns (e3.trans (by rw[show gr (UU 3) kg ρ bC = .stuck from z];rfl)))
    (λf s3 h=>X_ p (wb k) e3 h) λe s3 h=>Y8 p e3 h)
end
theorem zjy(T:TopRead q loose mg mb (w.B))(F:HF A env L n)(hd:A.depth+200<recursionLimit)(hu:A.units+1000<cLine){st:Stmt}(ir:d4 (WK w.params) false JR n (.one st)=true){W P t:List Nat}(hW:W.length<=1000000)(ht:∃r,t=60::r){bF:List (Nat×Nat)}(hi:∀p∈bF,p.1<5/\p.2<3)(hl:bF.length<=3)(eW:W=jN t 0 0 bF)(eP:W=P++t)(ns:aX t≠.stuck)(n0:ae<=15)(S:gG A L a9 ae aa w W 0 0 lQ μ s):
  wpAny (model prog w.toWorld) A (exec st env) (SQ (av w P [] (UU 3) t0) A (aX t) a9 ae aa L) (d7 (av w P [] (UU 3) t0) A (aX t) a9 ae aa L) s:=by
 refine u9 (show o4 st (λx l=>bg (WK w.params) false mz n (.one x)&&d4 (WK w.params) false kg n (.many l))=true from ir) λtx b pos h=>?_
 refine n2 h λhT hB=>?_
 refine dC (zt (show d4 (WK w.params) false (.seq Ge (.seq Gf (.seq rC .nil))) n (.many b)=true from hB)) ?_;rintro Ji b1 rfl hA YP
 refine dC (zt YP) ?_;rintro GK b2 rfl Lg YQ
 refine dC (zt YQ) ?_;rintro stC b3 rfl hC YR
 obtain rfl:=Vf YR
 refine bw F.fr λfa outer hf cJ=>?_
 have lP:P.length<=1000000:=by rw[eP,List.length_append] at hW;exact iI hW
 refine wpAny_While ?_
 refine codeAny_whileLoop (R:=Kw prog A env L a9 ae aa w P t) (vb A L a9 ae aa w P t W) ?_ (bF.length+1001) (.inl ⟨0,0,bF,0,μ,rfl,(jO (Nat.zero_add _) hl rfl),(Nat.succ_pos _),hi,w9 _,eW,S⟩)
 intro k s1 iv
 refine iv.elim (λh=>?_) λh=>?_
 ·refine eC h λi g bF x q9=>?_;refine au q9 λcq ek q9=>?_;refine c6 q9 λsX hg q9=>?_;refine jS q9 λhit hx wQ S1=>?_
  exact zov T F hd hu n0 hT hA Lg hC hW ht eP ns ek sX hg hit hx wQ S1 (λs2 h=>h) ⟨λk' s' l iv=>⟨k',l,iv⟩,λk' s' l iv=>⟨k',l,iv⟩,λv s' h=>h,λe s' h=>h.jD hf cJ λ_ _ h=>h⟩
 ·refine dY h λcq aE bo S1 e1=>?_
  exact zp6 T F hd hu n0 hT hB lP ns S1 e1 (λs2 h=>h) (λs2 h=>wpAny_execs_nil h) ⟨λk' s' l iv=>⟨k',l,iv⟩,λk' s' l iv=>⟨k',l,iv⟩,λv s' h=>h,λe s' h=>h.jD hf cJ λ_ _ h=>h⟩
end
theorem zmw: ∃bo aE,gr [] JM QU (oG (mG dz)) = .ok .next bo aE/\pv bo false=true/\rY nI (objs .any (.str 1 []) (.int 0 (.ofNat 0))) aE=true:=by
 have h:=LX
 refine bw (Cz h) λdD bC e h=>?_
 exact n2 h λh1 h2=>⟨dD,bC,e,h1,h2⟩
theorem zU{t:List Nat}(h:Ox t args σ≠.stuck):args=[.ins 975 11,.str 1 t]/\sG σ = true/\Ox t args σ = jM (aX t):=by
 refine oA (z8 h) λh1 e1=>?_
 exact n2 h1 λa b=>⟨cz a,b,e1⟩
section
variable{w:Wo}{q:Program}
theorem Gg(T:TopRead q loose mg mb (w.B)){P t:List Nat}(hW:(P++t).length<=1000000)(ht:∃r,t=60::r){bF:List (Nat×Nat)}(hi:∀p∈bF,p.1<5/\p.2<3)(hl:bF.length<=3)(eP:P++t=jN t 0 0 bF):
  cG prog (av w P [] (UU 3) t0) (WK w.params) (EJ t) 260 1200 where
 keep a args σ r e:=by
  unfold EJ at e
  induction ea:Nat.beq a 902 with
  |false=>rw[ea] at e;exact NS e
  |true=>
   rw[Nat.eq_of_beq_eq_true ea]
   refine fc ((h_ (prog:=prog) (U:=[]) (Pt:=[]) (Rt:=[]) (tab:=t0) T (w9 _) (w9 _)).fn 902 ba (by rfl)) λ_ _ _ _ _ _ k=>?_
   exact k
 call A hd hu hh μ σ s a args vs r e H sk rv ns:=by
  unfold EJ at e
  refine oA (zg e) λea e=>?_
  obtain rfl:=w3 e
  obtain rfl:=w4 ea
  refine c6 (zU ns) ?_;rintro rfl hc er
  rw[er] at ns ⊢
  have nr:aX t≠.stuck:=λz=>ns (by rw[z];rfl)
  refine n2 hc λhn hc=>?_
  have hn:=w4 hn
  refine oA (PO hc) λ_ hg=>?_
  have lP:P.length<=1000000:=by rw[List.length_append] at hW;exact iI hW
  let c:=av w P [] (UU 3) t0
  refine wo (Hg (ρ:=[(jb,.ins 975 11),(B3,.str 1 t)]) (good:=λc' X=>c'=c/\X=aX t) T lP (w9 _) (f:=ba) (by rfl) (gN hd) hh H sk rv (by rfl) λA' env L n body s1 hA hU F eH St Q E hQ hE=>?_) λx s' qq=>?_
  case refine_2=>
   refine bw qq ?_;clear qq;rintro c' X ⟨rfl,rfl⟩ qq
   exact qq
  refine dC (zt (show d4 (WK w.params) false (.seq JM (.seq JR .nil)) n (.many body)=true from eH)) ?_;rintro u4 b1 rfl h1 ny
  refine fH ny λu5 b2 h2 nz=>n9 nz ?_
  have IF:(oG (mG dz)).n=12:=HG _
  have cl:∀i x,(mG .any)[i]? = some x->(mG dz)[i]? = some x->x≠.any->KR 12 x=true->∀o,aG c μ σ.n s1.heap (σ.get i) o->aG (av w (P++t) [] [] t0) μ 12 s1.heap ((oG (mG dz)).get i) o:=λi x h1 h2 na pZ o r=>by
   rcases hg i x h1 with⟨z,_⟩ | ⟨_,z⟩
   ·exact w1 z na
   ·rw[z] at r
    rw[ux h2]
    exact K0 (z7 ..) pZ r
  have dd:∀i,(mG .any)[i]? = some .any->(mG dz)[i]? = some dz->∀o,aG c μ σ.n s1.heap (σ.get i) o->aG (av w (P++t) [] [] t0) μ 12 s1.heap ((oG (mG dz)).get i) o:=λi h1 h2 o r=>by
   rw[ux h2]
   rcases hg i _ h1 with⟨_,z⟩ | ⟨z,_⟩
   ·rw[XH z] at r;exact K0 (z7 ..) rfl r
   ·exact w1 rfl z
  have S1:ax (av w (P++t) [] [] t0) A' μ σ.n s L μ (oG (mG dz)) QU s1:=by
   refine ax.cut (c:=c) (z7 ..) (by rw[IF];exact(Nat.le_of_eq hn.symm)) (by rw[IF];exact jO hn (wa _) rfl) (λl hl o ho r=>?_) ?_ St
   ·rw[IF] at hl ⊢
    match l,hl,r with
    |0,_,r=>exact cl 0 _ rfl rfl (by simp) rfl o r
    |1,_,r=>exact cl 1 _ rfl rfl (by simp) rfl o r
    |2,_,r=>exact cl 2 _ rfl rfl (by simp[dz]) rfl o r
    |3,_,r=>exact dd 3 rfl rfl o r
    |4,_,r=>exact cl 4 _ rfl rfl (by simp[dz]) rfl o r
    |5,_,r=>exact cl 5 _ rfl rfl (by simp) rfl o r
    |6,_,r=>exact dd 6 rfl rfl o r
    |7,_,r=>exact dd 7 rfl rfl o r
    |8,_,r=>exact dd 8 rfl rfl o r
    |9,_,r=>exact cl 9 _ rfl rfl (by simp) rfl o r
    |10,_,r=>exact cl 10 _ rfl rfl (by simp) rfl o r
    |11,_,r=>exact cl 11 _ rfl rfl (by simp) rfl o r
    |l+12,hl,_=>lia
   ·rw[IF]
    intro x y' e
    change ak (Nat.beq jb x) (some (.ins 975 11)) (ak (Nat.beq B3 x) (some (.str 1 [])) none)=some y' at e
    induction q1:Nat.beq jb x with
    |true=>
     rw[q1] at e;obtain rfl:=w3 e
     rw[<-Nat.eq_of_beq_eq_true q1]
     exact aT (.ins 975 11) rfl (λv r=>yc (z7 ..) rfl r)
    |false=>
     rw[q1] at e
     replace e:ak (Nat.beq B3 x) (some (AV.str 1 [])) none=some y':=e
     refine oA (zg e) λq2 e=>?_
     obtain rfl:=w3 e
     rw[<-Nat.eq_of_beq_eq_true q2]
     exact aT (.str 1 t) rfl (λv r=>mF r (by show P++t=P++t++[];rw[List.append_nil]))
  refine dC zmw λbo aE e1 LB LF=>?_
  have OG:=(iE (prog:=prog) (U:=[]) (Pt:=P++t) (Rt:=[]) (tab:=t0) (k:=30) T hW (w9 _) (none_or (prog:=prog)) (eA hA hd rfl) (eA hU hu rfl) F JM).1 u4 h1
  refine yp (c:=av w (P++t) [] [] t0) OG S1 e1 λbV s2 _ S2=>?_
  have S3:gG A' L μ σ.n s w (P++t) 0 0 lQ bV s2:=by
   refine pQ (P:=P++t) (R:=[]) (U:=[]) (t:=t0) (P':=(P++t).take 0) (R':=(P++t).drop 0) (U':=UU 0) (t':=t0) (PO LF) (λh' v r=>mF r ?_) (λh' v r=>jn r rfl) (λh' a o hz r=>zk3 hz r) ?_ (jO hn (wa _) rfl) S2
   ·show P++t++[]=[]++[]++(P++t)
    rw[List.append_nil,List.nil_append,List.nil_append]
   ·exact QF (z7 ..) LB
  refine wpAny_execs_cons (wj (zjy (prog:=prog) T F (Bo hA hd rfl) (Bo hU hu rfl) h2 hW ht hi hl eP rfl nr (jO hn (wa _) rfl) S3) (λf s5 hh=>?_) (λe s5 hh=>hE _ e s5 ⟨rfl,rfl⟩ hh))
  induction f with
  |next=>exact wpAny_execs_nil (hQ _ _ _ _ ⟨rfl,rfl⟩ hh)
  |_=>exact hQ _ _ _ _ ⟨rfl,rfl⟩ hh
def uy(prog:Program)(w:Wo)(P t:List Nat)(k:Nat):Prop:=∀A,A.depth+350<recursionLimit->A.units+2000<cLine->A.handled=none->∀μ s tk,HR (av w P [] (UU 3) t0) μ ⟨0,.leaf⟩ s.heap->cX (av w P [] (UU 3) t0) A μ 0 s.heap->
 ∃aE,codeAny (model prog w.toWorld) A (.call (.ref 1791) ⟨[.str (S (P++t)) tk],[]⟩) (RR (av w P [] (UU 3) t0) (.ok (.int 1 (.ofNat k)) aE) μ ⟨0,.leaf⟩ s) s
theorem yU{t:List Nat}{k:Nat}(h:qW t k=true):∃aE,QA t = .ok (.int 1 (.ofNat k)) aE:=by
 refine au (zpe h) λσ e _=>?_
 exact⟨σ,e⟩
theorem PD(T:TopRead q loose mg mb (w.B)){P t:List Nat}{k:Nat}(hp:qW t k=true)(hW:(P++t).length<=1000000)(ht:∃r,t=60::r){bF:List (Nat×Nat)}(hi:∀p∈bF,p.1<5/\p.2<3)(hl:bF.length<=3)(eP:P++t=jN t 0 0 bF):
  uy prog w P t k:=λA hd hu hh μ s tk H sk=>by
 refine oE (yU hp) λaE e1=>?_
 have lP:P.length<=1000000:=by rw[List.length_append] at hW;exact iI hW
 refine⟨aE,?_⟩
 have:=Cw (prog:=prog) (i5 (U:=UU 3) (Pt:=P) (Rt:=[]) (tab:=t0) T) (h_ T lP (w9 _)) (Gg (prog:=prog) T hW ht hi hl eP) 30 A (eL hd rfl) (eL hu rfl) hh
  μ ⟨0,.leaf⟩ s 1791 [.str 1 t] [.str (S (P++t)) tk] H sk (.cons (.str 1 t tk) .nil) (by show QA t≠_;rw[e1];exact λz=>by contradiction)
 have e2:zn (gU (UU 3)) (EJ t) 30 1791 [.str 1 t] ⟨0,.leaf⟩ = .ok (.int 1 (.ofNat k)) aE:=e1
 rw[e2] at this
 exact this
end
theorem jj{f:α->Bool}{a:α}{l:List α}(h:f a=true)(t:l.all f=true):(a::l).all f=true:=by
 show(f a&&l.all f)=true
 rw[h,t];rfl
noncomputable def wD: List (List Nat×Nat):=[([60,33,69,76,69,77,69,78,84,32,97,32,40,98,44,41,62],15),
 ([60,33,69,76,69,77,69,78,84,32,97,32,40,98,32,99,41,62],15),
 ([60,33,69,76,69,77,69,78,84,32,97,32,69,77,80,84,89,32,120,62],18),
 ([60,33,69,76,69,77,69,78,84,32,97,32,40,98,44,40,99,124,100,44,101,41,41,62],20),
 ([60,33,69,76,69,77,69,78,84,32,32,40,98,41,62],11),
 ([60,33,65,84,84,76,73,83,84,32,97,32,120,32,67,68,65,84,69,32,35,73,77,80,76,73,69,68,62],14),
 ([60,33,65,84,84,76,73,83,84,32,97,32,120,32,40,117,124,118,124,117,41,32,35,73,77,80,76,73,69,68,62],20),
 ([60,33,65,84,84,76,73,83,84,32,97,32,120,32,67,68,65,84,65,32,118,62],20),
 ([60,33,78,79,84,65,84,73,79,78,32,97,32,80,85,66,76,73,67,32,39,112,39,32,120,62],24),
 ([60,33,69,78,84,73,84,89,32,97,32,39,118,39,32,78,68,65,84,65,32,110,62],15),
 ([60,33,45,45,32,97,32,45,45,32,98,32,45,45,62],0),
 ([60,33,91,73,71,78,79,82,69,91,93,93,62],0),
 ([60,33,69,76,69,77,69,78,84,32,97,32,65,78,89],0),
 ([60,33,69,76,69,77,69,78,84,32,108,111,110,103,46,110,97,109,101,32,40,98,44,41,62],23),
 ([60,33,69,76,69,77,69,78,84,32,108,111,110,103,46,110,97,109,101,32,40,98,32,99,41,62],23),
 ([60,33,69,76,69,77,69,78,84,32,108,111,110,103,46,110,97,109,101,32,69,77,80,84,89,32,120,62],26),
 ([60,33,69,76,69,77,69,78,84,32,108,111,110,103,46,110,97,109,101,32,40,98,44,40,99,124,100,44,101,41,41,62],28),
 ([60,33,65,84,84,76,73,83,84,32,108,111,110,103,46,110,97,109,101,32,120,32,67,68,65,84,69,32,35,73,77,80,76,73,69,68,62],22),
 ([60,33,65,84,84,76,73,83,84,32,108,111,110,103,46,110,97,109,101,32,120,32,40,117,124,118,124,117,41,32,35,73,77,80,76,73,69,68,62],28),
 ([60,33,65,84,84,76,73,83,84,32,108,111,110,103,46,110,97,109,101,32,120,32,67,68,65,84,65,32,118,62],28),
 ([60,33,78,79,84,65,84,73,79,78,32,108,111,110,103,46,110,97,109,101,32,80,85,66,76,73,67,32,39,112,39,32,120,62],32),
 ([60,33,69,78,84,73,84,89,32,108,111,110,103,46,110,97,109,101,32,39,118,39,32,78,68,65,84,65,32,110,62],23),
 ([60,33,69,76,69,77,69,78,84,32,97,32,32,40,98,44,41,62],16),
 ([60,33,69,76,69,77,69,78,84,32,97,32,32,40,98,32,99,41,62],16),
 ([60,33,69,76,69,77,69,78,84,32,97,32,32,69,77,80,84,89,32,120,62],19),
 ([60,33,69,76,69,77,69,78,84,32,97,32,32,40,98,44,40,99,124,100,44,101,41,41,62],21),
 ([60,33,69,76,69,77,69,78,84,32,32,32,40,98,41,62],12),
 ([60,33,65,84,84,76,73,83,84,32,97,32,32,120,32,67,68,65,84,69,32,35,73,77,80,76,73,69,68,62],15),
 ([60,33,65,84,84,76,73,83,84,32,97,32,32,120,32,40,117,124,118,124,117,41,32,35,73,77,80,76,73,69,68,62],21),
 ([60,33,65,84,84,76,73,83,84,32,97,32,32,120,32,67,68,65,84,65,32,32,118,62],22),
 ([60,33,78,79,84,65,84,73,79,78,32,97,32,32,80,85,66,76,73,67,32,39,112,39,32,120,62],25),
 ([60,33,69,78,84,73,84,89,32,97,32,32,39,118,39,32,78,68,65,84,65,32,110,62],16),
 ([60,33,69,76,69,77,69,78,84,32,108,111,110,103,46,110,97,109,101,32,32,40,98,44,41,62],24),
 ([60,33,69,76,69,77,69,78,84,32,108,111,110,103,46,110,97,109,101,32,32,40,98,32,99,41,62],24),
 ([60,33,69,76,69,77,69,78,84,32,108,111,110,103,46,110,97,109,101,32,32,69,77,80,84,89,32,120,62],27),
 ([60,33,69,76,69,77,69,78,84,32,108,111,110,103,46,110,97,109,101,32,32,40,98,44,40,99,124,100,44,101,41,41,62],29),
 ([60,33,65,84,84,76,73,83,84,32,108,111,110,103,46,110,97,109,101,32,32,120,32,67,68,65,84,69,32,35,73,77,80,76,73,69,68,62],23),
 ([60,33,65,84,84,76,73,83,84,32,108,111,110,103,46,110,97,109,101,32,32,120,32,40,117,124,118,124,117,41,32,35,73,77,80,76,73,69,68,62],29),
 ([60,33,65,84,84,76,73,83,84,32,108,111,110,103,46,110,97,109,101,32,32,120,32,67,68,65,84,65,32,32,118,62],30),
 ([60,33,78,79,84,65,84,73,79,78,32,108,111,110,103,46,110,97,109,101,32,32,80,85,66,76,73,67,32,39,112,39,32,120,62],33),
 ([60,33,69,78,84,73,84,89,32,108,111,110,103,46,110,97,109,101,32,32,39,118,39,32,78,68,65,84,65,32,110,62],24),
 ([60,33,69,76,69,77,69,78,84,32,97,10,40,98,44,41,62],15),
 ([60,33,69,76,69,77,69,78,84,32,97,10,40,98,32,99,41,62],15),
 ([60,33,69,76,69,77,69,78,84,32,97,10,69,77,80,84,89,32,120,62],18),
 ([60,33,69,76,69,77,69,78,84,32,97,10,40,98,44,40,99,124,100,44,101,41,41,62],20),
 ([60,33,69,76,69,77,69,78,84,32,10,40,98,41,62],11),
 ([60,33,65,84,84,76,73,83,84,32,97,10,120,32,67,68,65,84,69,32,35,73,77,80,76,73,69,68,62],14),
 ([60,33,65,84,84,76,73,83,84,32,97,10,120,32,40,117,124,118,124,117,41,32,35,73,77,80,76,73,69,68,62],20),
 ([60,33,65,84,84,76,73,83,84,32,97,10,120,32,67,68,65,84,65,10,118,62],20),
 ([60,33,78,79,84,65,84,73,79,78,32,97,10,80,85,66,76,73,67,32,39,112,39,32,120,62],24),
 ([60,33,69,78,84,73,84,89,32,97,10,39,118,39,32,78,68,65,84,65,32,110,62],15),
 ([60,33,69,76,69,77,69,78,84,32,108,111,110,103,46,110,97,109,101,10,40,98,44,41,62],23),
 ([60,33,69,76,69,77,69,78,84,32,108,111,110,103,46,110,97,109,101,10,40,98,32,99,41,62],23),
 ([60,33,69,76,69,77,69,78,84,32,108,111,110,103,46,110,97,109,101,10,69,77,80,84,89,32,120,62],26),
 ([60,33,69,76,69,77,69,78,84,32,108,111,110,103,46,110,97,109,101,10,40,98,44,40,99,124,100,44,101,41,41,62],28),
 ([60,33,65,84,84,76,73,83,84,32,108,111,110,103,46,110,97,109,101,10,120,32,67,68,65,84,69,32,35,73,77,80,76,73,69,68,62],22),
 ([60,33,65,84,84,76,73,83,84,32,108,111,110,103,46,110,97,109,101,10,120,32,40,117,124,118,124,117,41,32,35,73,77,80,76,73,69,68,62],28),
 ([60,33,65,84,84,76,73,83,84,32,108,111,110,103,46,110,97,109,101,10,120,32,67,68,65,84,65,10,118,62],28),
 ([60,33,78,79,84,65,84,73,79,78,32,108,111,110,103,46,110,97,109,101,10,80,85,66,76,73,67,32,39,112,39,32,120,62],32),
 ([60,33,69,78,84,73,84,89,32,108,111,110,103,46,110,97,109,101,10,39,118,39,32,78,68,65,84,65,32,110,62],23)]
noncomputable def wI: List Nat:=[0,1,2,3,4,5,6,7,8,9,10,11,12,13,14,15,16,4,17,18,19,20,21,10,11,12,22,23,24,25,26,27,28,29,30,31,10,11,12,32,33,34,35,26,36,37,38,39,40,10,11,12,41,42,43,44,45,46,47,48,49,50,10,11,12,51,52,53,54,45,55,56,57,58,59,10,11,12]
noncomputable def lT: List (List Nat×Nat):=[([60,33,65,84,84,76,73,83,84,32,97,32,120,32,67,68,65,84,65,32,39,38,35,48,59,39,62],21),
 ([60,33,65,84,84,76,73,83,84,32,97,32,120,32,67,68,65,84,65,32,39,38,35,120,59,39,62],21),
 ([60,33,65,84,84,76,73,83,84,32,97,32,120,32,67,68,65,84,65,32,39,38,32,39,62],21),
 ([60,33,65,84,84,76,73,83,84,32,97,32,120,32,67,68,65,84,65,32,39,38,35,49,49,49,52,49,49,50,59,39,62],21),
 ([60,33,65,84,84,76,73,83,84,32,97,32,120,32,67,68,65,84,65,32,39,118,38,35,48,59,39,62],22),
 ([60,33,65,84,84,76,73,83,84,32,97,32,120,32,67,68,65,84,65,32,39,118,38,35,120,59,39,62],22),
 ([60,33,65,84,84,76,73,83,84,32,97,32,120,32,67,68,65,84,65,32,39,118,38,32,39,62],22),
 ([60,33,65,84,84,76,73,83,84,32,97,32,120,32,67,68,65,84,65,32,39,118,38,35,49,49,49,52,49,49,50,59,39,62],22),
 ([60,33,65,84,84,76,73,83,84,32,97,32,120,32,67,68,65,84,65,32,39,117,32,38,35,54,53,59,32,38,35,48,59,39,62],29),
 ([60,33,65,84,84,76,73,83,84,32,97,32,120,32,67,68,65,84,65,32,39,117,32,38,35,54,53,59,32,38,35,120,59,39,62],29),
 ([60,33,65,84,84,76,73,83,84,32,97,32,120,32,67,68,65,84,65,32,39,117,32,38,35,54,53,59,32,38,32,39,62],29),
 ([60,33,65,84,84,76,73,83,84,32,97,32,120,32,67,68,65,84,65,32,39,117,32,38,35,54,53,59,32,38,35,49,49,49,52,49,49,50,59,39,62],29),
 ([60,33,65,84,84,76,73,83,84,32,97,32,120,32,78,77,84,79,75,69,78,83,32,35,70,73,88,69,68,32,39,38,35,48,59,39,62],31),
 ([60,33,65,84,84,76,73,83,84,32,97,32,120,32,78,77,84,79,75,69,78,83,32,35,70,73,88,69,68,32,39,38,35,120,59,39,62],31),
 ([60,33,65,84,84,76,73,83,84,32,97,32,120,32,78,77,84,79,75,69,78,83,32,35,70,73,88,69,68,32,39,38,32,39,62],31),
 ([60,33,65,84,84,76,73,83,84,32,97,32,120,32,78,77,84,79,75,69,78,83,32,35,70,73,88,69,68,32,39,38,35,49,49,49,52,49,49,50,59,39,62],31),
 ([60,33,65,84,84,76,73,83,84,32,97,32,120,32,78,77,84,79,75,69,78,83,32,35,70,73,88,69,68,32,39,118,38,35,48,59,39,62],32),
 ([60,33,65,84,84,76,73,83,84,32,97,32,120,32,78,77,84,79,75,69,78,83,32,35,70,73,88,69,68,32,39,118,38,35,120,59,39,62],32),
 ([60,33,65,84,84,76,73,83,84,32,97,32,120,32,78,77,84,79,75,69,78,83,32,35,70,73,88,69,68,32,39,118,38,32,39,62],32),
 ([60,33,65,84,84,76,73,83,84,32,97,32,120,32,78,77,84,79,75,69,78,83,32,35,70,73,88,69,68,32,39,118,38,35,49,49,49,52,49,49,50,59,39,62],32),
 ([60,33,65,84,84,76,73,83,84,32,97,32,120,32,78,77,84,79,75,69,78,83,32,35,70,73,88,69,68,32,39,117,32,38,35,54,53,59,32,38,35,48,59,39,62],39),
 ([60,33,65,84,84,76,73,83,84,32,97,32,120,32,78,77,84,79,75,69,78,83,32,35,70,73,88,69,68,32,39,117,32,38,35,54,53,59,32,38,35,120,59,39,62],39),
 ([60,33,65,84,84,76,73,83,84,32,97,32,120,32,78,77,84,79,75,69,78,83,32,35,70,73,88,69,68,32,39,117,32,38,35,54,53,59,32,38,32,39,62],39),
 ([60,33,65,84,84,76,73,83,84,32,97,32,120,32,78,77,84,79,75,69,78,83,32,35,70,73,88,69,68,32,39,117,32,38,35,54,53,59,32,38,35,49,49,49,52,49,49,50,59,39,62],39),
 ([60,33,69,78,84,73,84,89,32,101,32,39,38,35,48,59,39,62],12),
 ([60,33,69,78,84,73,84,89,32,101,32,39,38,35,120,59,39,62],12),
 ([60,33,69,78,84,73,84,89,32,101,32,39,38,32,39,62],12),
 ([60,33,69,78,84,73,84,89,32,101,32,39,38,35,49,49,49,52,49,49,50,59,39,62],12),
 ([60,33,69,78,84,73,84,89,32,101,32,39,118,38,35,48,59,39,62],13),
 ([60,33,69,78,84,73,84,89,32,101,32,39,118,38,35,120,59,39,62],13),
 ([60,33,69,78,84,73,84,89,32,101,32,39,118,38,32,39,62],13),
 ([60,33,69,78,84,73,84,89,32,101,32,39,118,38,35,49,49,49,52,49,49,50,59,39,62],13),
 ([60,33,69,78,84,73,84,89,32,101,32,39,117,32,38,35,54,53,59,32,38,35,48,59,39,62],20),
 ([60,33,69,78,84,73,84,89,32,101,32,39,117,32,38,35,54,53,59,32,38,35,120,59,39,62],20),
 ([60,33,69,78,84,73,84,89,32,101,32,39,117,32,38,35,54,53,59,32,38,32,39,62],20),
 ([60,33,69,78,84,73,84,89,32,101,32,39,117,32,38,35,54,53,59,32,38,35,49,49,49,52,49,49,50,59,39,62],20)]
noncomputable def nu: List (List Nat):=[[],[32],[60,33,69,76,69,77,69,78,84,32,122,32,65,78,89,62]]
noncomputable def qZ: List (List Nat):=[[40,98,32,99,41],[40,98,44,41],[65,78,89,32,120],[40,35,80,67,68,65,84,65,124,97,41],[]]
noncomputable def qL: List (List Nat):=[[97],[98,98]]
noncomputable def B9(t g:List Nat):List Nat:=[60,33,69,78,84,73,84,89,32,37,32,119,32,34]++(t++([34,62]++g))
noncomputable def II: List Nat:=[37,119,59]
noncomputable def Bb(a:List Nat):List Nat:=[60,33,69,78,84,73,84,89,32,37,32,119,32,34]++(a++[34,62])
noncomputable def rM(b:List Nat):List Nat:=[60,33,69,76,69,77,69,78,84,32]++(b++[32,37,119,59,62])
noncomputable def OL: List Nat:=[60,33,69,76,69,77,69,78,84,32,97,32,69,77,80,84,89,62,60,33,69,76,69,77,69,78,84,32,98,32,40,99,44,41,62]
noncomputable def OM: List Nat:=[60,33,69,78,84,73,84,89,32,37,32,113,32,34,39,34,62,60,33,65,84,84,76,73,83,84,32,97,32,120,32,67,68,65,84,65,32,37,113,59,118,39,32,121,32,67,68,65,84,65,32,37,113,59,119,39,62]
def kB: Nat:=37
set_option maxHeartbeats 20000000
theorem M4: (wD.all λp=>qW p.1 p.2)=true:=by
 delta wD
 iterate 60 refine jj (by decide +kernel) ?_
 rfl
theorem M1: (lT.all λp=>qW p.1 p.2)=true:=by
 delta lT
 iterate 36 refine jj (by decide +kernel) ?_
 rfl
theorem M3: (qZ.all λa=>qL.all λb=>qW (Bb a++rM b) (Bb a).length)=true:=by
 delta qZ
 iterate 5 refine jj (by decide +kernel) ?_
 rfl
theorem L_: qW OL 33=true:=by decide +kernel
theorem M0: qW OM kB=true:=by decide +kernel
noncomputable def g_(l:List (List Nat×Nat)):Bool:=l.all λp=>nu.all λg=>qW (B9 p.1 g++II) (B9 p.1 g).length
set_option maxHeartbeats 20000000
theorem kE: g_ wD=true:=by
 delta wD
 iterate 60 refine jj (by decide +kernel) ?_
 rfl
noncomputable section
noncomputable def om(p:List Nat×Nat):AV:=.tup [.str 0 p.1,.int 0 (.ofNat p.2)]
def dr(ds:List (Nat×Nat))(k:Nat):Nat:=opt (dF ds k) 0 λp=>p.2
def iG(ds:List (Nat×Nat)):List Nat×Nat:=opt (dF wI (dr ds 0 * 26+dr ds 1 * 13+dr ds 2)) ([],0) λi=>opt (dF wD i) ([],0) id
def Iz(ds:List (Nat×Nat)):List Nat×Nat:=opt (dF lT (dr ds 0 * 12+dr ds 1 * 4+dr ds 2)) ([],0) id
def Q2(l:List (List Nat×Nat))(t:List Nat):Option Nat:=List.rec (motive:=λ_=>Option Nat) none (λp _ ih=>ak (cu p.1 t) (some p.2) ih) l
def zf9(σ:AH):Bool:=(List.range σ.n).all λi=>(σ.get i).on false (λ_=>true) (λ_ _=>false) (λ_=>false) λ_ _=>false
def Fg(q:Nat)(tk:List (List Nat×Nat))(args:List AV)(σ:AH):Res AV:=ak (dU args [.str q (QK args)]) (ak (zf9 σ) (opt (Q2 tk (QK args)) .stuck λk=>.ok (.int q (.ofNat k)) σ) .stuck) .stuck
def N5(tk:List (List Nat×Nat))(args:List AV)(σ:AH):Res AV:=Fg 1 tk args σ
def BC(tk:List (List Nat×Nat)):ia:=λa args σ=>ak (Nat.beq a 1791) (some (N5 tk args σ)) none
def rW(ds:List (Nat×Nat)):Res AV:=zn (gU []) (dM ds) 30 1805 [.obj 0] (zc 0)
def rL(ds:List (Nat×Nat)):Res AV:=zn (gU []) (dM ds) 30 1812 [.obj 0] (zc 0)
def AE: MS:=dW aW.body
def GZ: MS:=cE aW.body
def AF: MS:=dW GZ
def o7: MS:=cE GZ
def AG: MS:=dW o7
def AI: MS:=dW (cE o7)
def AJ: MS:=dW (cE (cE o7))
def rI: MS:=dW (cE (cE (cE o7)))
def rJ: MS:=dW (cE (cE (cE (cE o7))))
abbrev zj: Nat:=o8
abbrev jy: Nat:=431130765409
def uZ: az:=[(zj,.obj 0),(jy,.str 1 [])]
def KO(ρ:az):Bool:=iT ρ zj (.obj 0)&&iT ρ jy (.str 1 [])
def dI(O:ia)(m:MS):XD:=ex (gU []) (zn (gU []) O 30) (y9 (gU []) 3) m
def O2(p l:List Nat×Nat):ia:=l6 (l3 1805 0 3 (om p)) (l6 (l3 1812 3 6 (om l)) (BC [p,l]))
def vX(m:Nat)(x:XR):Bool:=Bi x λρ σ=>KO ρ&&(Nat.ble 1 σ.n&&jo m (σ.get 0))
def IH(p l:List Nat×Nat):Bool:=vX 6 (dI (O2 p l) AF uZ (zc 0))
def gE(ds:List (Nat×Nat)):List Nat:=opt (dF nu (dr ds 3)) [] id
def O3(ds:List (Nat×Nat)):ia:=l6 (l3 1805 0 3 (om (iG ds))) (l6 (dM ds) (BC [(app (B9 (iG ds).1 (gE ds)) II,len (B9 (iG ds).1 (gE ds)))]))
def pc3(ds:List (Nat×Nat)):Bool:=vX 4 (((dI (O3 ds) AG uZ (zc 0)).seq (dI (O3 ds) AI)).seq (dI (O3 ds) AJ))
def pE(ds:List (Nat×Nat)):List Nat:=opt (dF qZ (dr ds 0)) [] id
def nE(ds:List (Nat×Nat)):List Nat:=opt (dF qL (dr ds 1)) [] id
def O6(ds:List (Nat×Nat)):ia:=l6 (dM ds) (BC [(app (Bb (pE ds)) (rM (nE ds)),len (Bb (pE ds)))])
def L6(m:Nat)(x:XR):Bool:=QM x (.bool true) λ_ σ=>Nat.ble 1 σ.n&&jo m (σ.get 0)
def Se(ds:List (Nat×Nat)):Bool:=Bi (dI (O6 ds) rI uZ (zc 0)) λρ σ=>L6 2 (dI (O6 ds) rJ ρ σ)
end
theorem kW: ((fB [3,2,13]).all λds=>qR (om (iG ds)) 3 (rW ds))=true:=by decide +kernel
theorem kL: ((fB [3,3,4]).all λds=>qR (om (Iz ds)) 3 (rL ds))=true:=by decide +kernel
theorem kP6: ((fB [5,2]).all λds=>Se ds)=true:=by decide +kernel
theorem kP3: ((fB [3,2,13,3]).all λds=>pc3 ds)=true:=by decide +kernel
theorem LU: ((wD.take 20).all λp=>lT.all λl=>IH p l)=true:=by decide +kernel
theorem LV: (((wD.drop 20).take 20).all λp=>lT.all λl=>IH p l)=true:=by decide +kernel
theorem LW: ((wD.drop 40).all λp=>lT.all λl=>IH p l)=true:=by decide +kernel
section
theorem ax.CZ(S:ax c A a9 ae aa L μ σ ρ s)(T:ax c' A μ σ.n (j1 L s) L aj ai aI s'):ax c' A a9 ae aa L aj ai aI s':=
 ⟨T.hr,S.ij.trans T.ex,S.sm.trans T.sm,T.fr,S.out⟩
theorem b8.Eb{P:Obj->Prop}(S:ax c A a9 ae aa L μ σ ρ s)(b:c'.base=c.base){it:Addr}(I:b8 c L μ σ.n s.heap it P)(x:aU P)(T:ax c' A μ σ.n (j1 L s) L aj ai aI s'):b8 c' L aj ai.n s'.heap it P:=by
 refine au I.obj λo e p=>?_
 have e':(j1 L s).heap.get? it=some o:=(xc _ I.ne).trans e
 refine⟨⟨o,T.ex.kp.same e' I.own (x.iy p),p⟩,λi hi z=>?_,by rw[b];exact I.base,I.ne⟩
 by_cases q:i < σ.n
 ·rw[T.ex.eq i q] at z;exact I.own i q z
 ·have:=T.ex.fresh i (Nat.not_lt.mp q) hi
  rw[z,e'] at this;exact SN this
theorem b8.cut{P:Obj->Prop}{it:Addr}{N:Nat}(b:c'.base=c.base)(le:n<=N)(I:b8 c L μ N h it P):b8 c' L μ n h it P:=⟨I.obj,λi hi=>I.own i (w7 hi le),by rw[b];exact I.base,I.ne⟩
end
section
def CI(c:Cx)(A:Around)(L:Fm)(a9:Nat->Addr)(ae:Nat)(aa:Shared)(Inv:Nat->Cx->AH->az->Prop)(it:Addr)(n k:Nat)(s':Shared):Prop:=
 ∃i c1 cq aE bo,i+k=n/\aZ c c1/\Inv i c1 aE bo/\ax c1 A a9 ae aa L cq aE bo s'/\b8 c1 L cq aE.n s'.heap it (jp n i)
def Q_(M:Model)(A:Around)(env:Env)(Q:Flow->Shared->Prop)(E:Value->Shared->Prop)(r:Result)(s':Shared):Prop:=match r with | .ok f=>Q f s' | .error e=>cameBackBy M A env E e s'
def sC(prog:Program)(c:Cx)(A:Around)(env:Env)(L:Fm)(b:List Stmt)(xn n:Nat)(Inv:Nat->Cx->AH->az->Prop):Prop:=
 ∀i,i<n->∀c1 aE bo,aZ c c1->Inv i c1 aE bo->∀a9 ae aa cq s1,ae<=aE.n->0<s1.toks->ax c1 A a9 ae aa L cq aE (zd bo xn (.int 0 (.ofNat i))) s1->
   wpAny (model prog c.w) A (execs b env) (λfl s2=>fl = .next/\∃c2 bV bC dD,aZ c c2/\Inv (i+1) c2 bC dD/\ax c2 A a9 ae aa L bV bC dD s2) (λ_ _=>False) s1
section
variable{t:Expr}{xn:Nat}{b:List Stmt}{it:Addr}{Inv:Nat->Cx->AH->az->Prop}
theorem CI.k{k:Nat}{G:Prop}(h:CI c A L a9 ae aa Inv it n k s)(g:∀i c1 cq aE bo,i+k=n->aZ c c1->Inv i c1 aE bo->ax c1 A a9 ae aa L cq aE bo s->b8 c1 L cq aE.n s.heap it (jp n i)->G):G:=by
 refine eC h λi c1 cq aE q9=>?_;refine au q9 λbo x1 q9=>?_;refine jS q9 λx2 x3 x4 x5=>?_
 exact g i c1 cq aE bo x1 x2 x3 x4 x5
theorem zor(hT:∀c':Cx,aZ c c'->TG prog c' A env L t (λy ρ=>some (zd ρ xn y)))(turn:sC prog c A env L b xn n Inv){cA:Cx}{Br:Nat->Addr}{v7:AH}{jU:az}{sB:Shared}{i:Nat}{tk:Tok}{Q:Flow->Shared->Prop}{E E':Value->Shared->Prop}(A9:aZ c cA)(qF:Inv i cA v7 jU)(SB:ax cA A a9 ae aa L Br v7 jU sB)(IB:b8 cA L Br v7.n sB.heap it (jp n (i+1)))(tB:0<sB.toks)(q:i<n)(k:∀s4,CI c A L a9 ae aa Inv it n (n - (i+1)) s4->Q .next s4):
  wpAny (model prog c.w) A (assign t env (.int (i:Int) tk)) (λ_ s3=>wpAny (model prog c.w) A (execs b env) Q E' s3) E sB:=by
 have step:=jh (hT cA A9 _ _ _ _ _ _ _ (.int 0 (.ofNat i)) (.int (i:Int) tk) _ SB.again (VR.plain _ _) rfl (λ_ s'=>ax cA A Br v7.n (j1 L sB) L Br v7 (zd jU xn (.int 0 (.ofNat i))) s') (λ_ _=>False) λs' S=>S)
 rw[A9.w] at step
 refine wj step (λ_ s3 hs=>?_) (λ_ _ h=>h.2.elim)
 refine wj (turn i q cA v7 jU A9 qF _ _ _ Br s3 (wa _) (w7 tB hs.1) hs.2) (λf s4 h=>?_) (λ_ _ h=>h.elim)
 obtain⟨rfl,c2,bV,bC,dD,A8,inv2,S7⟩:=h
 exact k s4 ⟨i+1,c2,bV,bC,dD,(Nat.add_sub_of_le q),A8,inv2,SB.CZ S7,IB.Eb SB (A8.b.trans A9.b.symm) (Hf n (i+1)) S7⟩
theorem Y2{m i:Nat}(I:b8 c L μ m h it (jp n i)):IsRangeIter h it i ((n:Int) - i) 1:=by
 refine au I.obj λo eo po=>?_
 cases po;exact eo
theorem XZ{i:Nat}(gH:IsRangeIter h' it ((i:Int)+1) ((n:Int) - i - 1) 1):∃o,h'.get? it=some o/\jp n (i+1) o:=⟨_,gH,by
 show Obj.mk _ _ _ _=_
 have e1:((i:Int)+1)=((i+1:Nat):Int):=Eq.trans (Int.add_comm _ _) (Int.add_comm _ _)
 have e2:((n:Int) - i - 1)=(n:Int) - ((i+1:Nat):Int):=by lia
 rw[<-e2,<-e1]⟩
theorem zoz(hh:A.handled=none)(hT:∀c':Cx,aZ c c'->TG prog c' A env L t (λy ρ=>some (zd ρ xn y)))(turn:sC prog c A env L b xn n Inv)(h4:aa.heap.get? it=none){Q:Flow->Shared->Prop}{E:Value->Shared->Prop}(fin:∀c1 aE bo cq s1,aZ c c1->Inv n c1 aE bo->ax c1 A a9 ae aa L cq aE bo s1->Q .next s1)(h0:CI c A L a9 ae aa Inv it n n s):
  codeAny (model prog c.w) A (.forLoop t (.ref it) b [] env) (Q_ (model prog c.w) A env Q E) s:=by
 refine codeAny_forLoop_any (R:=Q_ (model prog c.w) A env Q E) (CI c A L a9 ae aa Inv it n) ?_ n h0
 intro k sA iv
 refine iv.k λi cA Br v7 jU hk A9 qF SA IA=>(Nat.lt_or_ge i n).elim (λq=>?_) λq=>?_
 ·refine wpAny_pyNext_range_item (Y2 IA) (by lia) λh' gH hs=>PB (Hf n (i+1)) (XZ gH) ?_
  exact zor hT turn A9 qF (SA.iter IA (Hf n i) h4 (λb o ne=>hs.extBut b o ne) ⟨rfl,rfl,rfl⟩) ⟨XZ gH,IA.own,IA.base,IA.ne⟩ (Nat.succ_pos _) q λs4 iv=>⟨n - (i+1),by lia,iv⟩
 ·obtain rfl:i=n:=Nat.le_antisymm (so hk.symm) q
  refine wpAny_pyNext_range_end hh (Y2 IA) (Int.sub_nonpos_of_le (Int.le_of_not_gt (Int.lt_irrefl _))) λh' he=>?_
  exact wpAny_execs_nil (fin cA v7 jU Br _ A9 qF (SA.iter IA (Hf i i) h4 (λb o ne=>he b o ne) ⟨rfl,rfl,rfl⟩))
end
theorem zgj{t:Expr}{x:Str}{xn:Nat}{p pos':Pos}{e:Expr}{b:List Stmt}{D:RD}{fa:Addr}(hh:A.handled=none)(hf:env.frame=some fa)(hT:∀c':Cx,aZ c c'->TG prog c' A env L t (λy ρ=>some (zd ρ xn y)))(hr:SE prog c A env L (.Name x p) (mV (.bi 4)))(ha:SA prog c A env L [e] (jv D jw))(hn:n<=1000000){aE:AH}(S0:ax c A a9 ae aa L μ σ ρ s)(eD:(D ρ).v σ = .ok (.int 0 (.ofNat n)) aE){Inv:Nat->Cx->AH->az->Prop}{Q:Flow->Shared->Prop}{E:Value->Shared->Prop}(init:∀aj s',ax c A a9 ae aa L aj aE ρ s'->∃c1 bC bo,aZ c c1/\Inv 0 c1 bC bo/\bC.n<=aE.n/\ax c1 A a9 ae aa L aj bC bo s')(turn:∀i,i<n->∀c1 aE bo,aZ c c1->Inv i c1 aE bo->∀a9 ae aa cq s1,ae<=aE.n->0<s1.toks->ax c1 A a9 ae aa L cq aE (zd bo xn (.int 0 (.ofNat i))) s1->
   wpAny (model prog c.w) A (execs b env) (λfl s2=>fl = .next/\∃c2 bV bC dD,aZ c c2/\Inv (i+1) c2 bC dD/\ax c2 A a9 ae aa L bV bC dD s2) (λ_ _=>False) s1)(fin:∀c1 aE bo cq s1,aZ c c1->Inv n c1 aE bo->ax c1 A a9 ae aa L cq aE bo s1->Q .next s1):
  wpAny (model prog c.w) A (exec (.For t (.Call (.Name x p) [e] [] pos') b [] pos) env) Q E s:=by
 refine S0.fr.elim λm F=>wpAny_For ?_ (λ_=>rfl)
 show wpAny _ _ (do callWith pos' (<-eval (.Name x p) env) [] (backTo pos' (starEach [e] env)) (backToKw pos' (keywordEach [] env))) _ _ s
 refine wg ((hr.v μ σ s ρ m S0.hr F).C2 rfl λv s1 cq H1 X1 r1 C3=>?_)
 refine VR.kF r1 ?_
 have S1:=S0.step H1 X1 C3
 show wpAny _ _ (callWith pos' (.type "range") [] (backTo pos' (starEach [e] env)) []) _ _ s1
 refine PySem.callWith_type (ha.noStar pos') (xh ha ?_)
 refine S1.fr.elim λm1 F1=>(ha.sl.l pos' cq σ s1 ρ m1 H1 F1).C2 (b:=[.int 0 (.ofNat n)]) (ai:=aE) (by show(((D ρ).v σ).bind λv σ=>Res.ok [v] σ)=_;rw[eD];rfl) λvs s2 bV H2 X2 r2 rF=>?_
 have S2:=S1.step H2 X2 rF
 refine aH.k1 r2 λv r=>?_
 refine VR.kI r λtk=>?_
 rw[show c.off 0+Int.ofNat n=(n:Int) from Int.zero_add _]
 show wpAny _ _ (call (.type "range") [.int n tk]) _ _ s2
 refine XT hn S2 λit s3 s4 S3 h=>?_
 have q:=h _ _ _ S3
 refine(init _ _ q.1).elim λc1 w=>?_
 refine sr w λiK bo V9 inv1 M7 S5=>?_
 exact zoz hh hT turn q.2.2 fin ⟨0,c1,bV,iK,bo,Nat.zero_add n,V9,inv1,S5,q.2.1.cut V9.b M7⟩
end
noncomputable abbrev kq: Nat:=1852994932
abbrev Bg: Nat:=431349919590
abbrev P0: Nat:=1701670771
theorem zk6: ((List.range 3).all λi=>(List.range 5).all λj=>Txt.replace (S (ze 1 j)) (S [110,49]) (S [110,48+i])==S (ze i j))=true:=by decide +kernel
theorem AK{i j:Nat}(hi:i<3)(hj:j<5):Txt.replace (S (ze 1 j)) (S [110,49]) (S [110,48+i])=S (ze i j):=by
 have:=w6.mp (w6.mp zk6 i (List.mem_range.mpr hi)) j (List.mem_range.mpr hj)
 simpa using this
theorem zi5: ((List.range 3).all λi=>(Str.ofString (toString ((i:Nat):Int)))==S [48+i])=true:=by decide +kernel
theorem zko{i:Nat}(hi:i<3):Str.ofString (toString ((i:Nat):Int))=S [48+i]:=by
 have:=w6.mp zi5 i (List.mem_range.mpr hi)
 simpa using this
theorem zmm: (λ(P:Params)=>nsIn (KP P) 2 sharingNotToldKey==some none) = λ_=>true:=by kernel_rfl
def JW: ME:=.cons (.cS [110,49]) (.cons (.bin 0 (.cS [110]) (.call (.glob 7500915 (.bi 7)) (.cons (.loc kq) .nil))) .nil)
theorem Jw(i j:Nat):(ze i j).length<=40:=by
 match j with
 |0=>exact w5 (by simp[ze])
 |1=>exact w5 (by simp[ze])
 |2=>exact w5 (by simp[ze])
 |3=>exact w5 (by simp[ze])
 |j+4=>exact w5 (by simp[ze])
section
variable{w:Wo}{U:List (List Nat)}{Pt Rt:List Nat}{q:Program}{tab:Nat->Int}{C:Call}{n:En}
theorem booked(T:TopRead q loose mg mb (w.B))(H:HR (av w Pt Rt U tab) μ σ h):NoneBooked h:=by
 refine au T.nolimit λmc hc _=>?_
 have e:nsIn (KP w.params) 2 sharingNotToldKey=some none:=by simpa using congrFun zmm w.params
 exact aT mc (hc.keeps H.keep) (ns_none_of (nJ w) hc e)
theorem zV(T:TopRead q loose mg mb (w.B))(a:At prog (av w Pt Rt U tab) A (WK w.params) (gU U) C false)(EN:dE env L n){X:ME}{x:Expr}(h:bg (WK w.params) false (.af X xx JW) n (.one x)=true){i j:Nat}(hi:i<3)(hj:j<5){aE:AH}{m:Str->Option Value}(tk:0<s.toks)(H:HR (av w Pt Rt U tab) μ σ s.heap)(FR:cm (av w Pt Rt U tab) A μ σ.n s.heap L m ρ)(ht:aC ρ kq=some (.int 0 (.ofNat i)))(eX:(ev (gU U) C X ρ).v σ = .ok (.str 0 (ze 1 j)) aE):
  wpAny (model prog w.toWorld) A (eval x env) (PQ (av w Pt Rt U tab) (RV (av w Pt Rt U tab)) (.ok (.str 0 (ze i j)) aE) μ σ s) (λ_ _=>False) s:=by
 have w0:=i5 (prog:=prog) (w:=w) (U:=U) (Pt:=Pt) (Rt:=Rt) (tab:=tab) T
 refine uT (zi h) λg l pos h=>Bj h λy s' ap h=>n6 h λh1 h2 h3 h4 h5 h6=>?_
 rw[<-zv h1]
 have ha:=((Hd w0 a JW n env L EN).2 l h6).1
 revert ha
 refine sI h6 λc1 l1 k1 k2=>sI k2 λc2 l2 k3 k4=>Mg k4 (GP k1 λkk p1=>vo k3 λc3 c4 p2 k5 k6=>GP k5 λkk3 p3 ha=>?_)
 rw[arm_eval_Call,JI h2]
 refine wg (((bA w0 a EN h5).v μ σ s ρ m H FR).run eX λv s2 bV H2 X2 r rF Ax=>r.kS λt=>?_)
 have Ax:0<s2.toks:=w7 tk Ax
 refine wg (wk ?_)
 have fN:methodCallPos true y env ap pos=pure pos:=by unfold methodCallPos;simp[h4]
 unfold methodCall
 rw[show methodCallForm _ _ _=true from rfl]
 have g1:∀(s:Shared) x t pl (Q:Value×List Value->Shared->Prop) E,Q (.builtin "str.replace",[.str x t]) s->wpAny (model prog w.toWorld) A (getMethod (.str x t) (nm xx) pl) Q E s:=λs x t pl Q E h=>by
  rw[VP];with_reducible exact GM.of (.str x t) (typeIs_str _ _ _) F.slot_str_replace F.type_str_replace GM.noRef h
 refine wg (wi (g1 _ _ _ _ _ _ (wg (wpAny_of_eq fN ?_))))
 refine callWith_builtin (ha.noStar pos) (xh ha ?_)
 refine wpAny_items_cons (wpAny_Constant_str ?_) rfl
 refine wpAny_items_cons (wpAny_BinOp (wpAny_Constant_str ?_)) rfl
 refine sF w0 a EN (μ:=bV) (σ:=aE) (s:={ s2 with toks:=s2.toks+1+1 }) (ρ:=ρ) (m:=m) (ai:=aE) (l:=[.int 0 (.ofNat i)]) H2 (FR.on H X2) k6 (.inr ⟨_,rfl⟩)
  (by show((opt (aC ρ kq) Res.stuck λv=>.ok v aE).bind λv σ=>(Res.ok [] σ).bind λl σ=>.ok (v::l) σ)=_;rw[ht];rfl) λvs gc s4 H5 X4 rs GG OK=>rs.k1 λv rv=>rv.kI λtki=>?_
 have OK:s2.toks+1+1<=s4.toks:=OK
 have ei:(av w Pt Rt U tab).off 0+Int.ofNat i=((i:Nat):Int):=Int.zero_add _
 rw[ei]
 show wpAny _ _ (call (.type "str") [.int ((i:Nat):Int) tki]) _ _ s4
 refine P.str_of_int (by rw[Int.natAbs_natCast];exact Nat.lt_of_le_of_lt (Nat.log2_le_self i) (fy hi rfl)) (P.add_str ?_)
 rw[show Str.ofString (toString ((i:Nat):Int))=S [48+i] from zko hi]
 refine⟨by rw[sizeLine_eq];show(2:Nat)<=_;exact dQ rfl,wpAny_items_nil ?_⟩
 refine SC.replaceA (by show s2.toks≠0;exact Kr Ax) (by show s4.toks+1≠0;exact Kr (Nat.succ_pos _)) (by show s2.toks≠s4.toks+1;exact wn (gN (Nat.lt_succ_of_lt OK))) ?_ (λt' k=>?_) (booked T (tab:=tab) (Pt:=Pt) (Rt:=Rt) (U:=U) (σ:=aE) (μ:=gc) H5)
 ·have:=Jw 1 j
  show(ze 1 j).length+((ze 1 j).length+1) * 2<=_
  lia
 ·change PQ (av w Pt Rt U tab) (RV (av w Pt Rt U tab)) (Res.ok (AV.str 0 (ze i j)) aE) μ σ s (.str (Txt.replace (S (ze 1 j)) (S [110,49]) (S [110,48+i])) t') _
  rw[AK hi hj]
  exact PQ.fin (aw:={ s4 with toks:=k }) H5 (X2.trans X4) (rF.trans GG) rfl (.str 0 (ze i j) t')
end
noncomputable section
def oy: Nat->Nat×Nat->List (Nat×Nat)
 |0,_=>[]
 |k+1,p=>(i4 p.1 p.2 5,i4 (bN p [5]).1 (bN p [5]).2 3)::oy k (bN p [5,3])
noncomputable def K9: Nat->List Nat
 |0=>[]
 |k+1=>5::3::K9 k
def se: Nat->List (Nat×Nat)->List Nat
 |_,[]=>[]
 |i,(j,g)::bF=>ze i j++(zm g++se (i+1) bF)
def K7: List AV:=[.str 0 (ze 1 0),.str 0 (ze 1 1),.str 0 (ze 1 2),.str 0 (ze 1 3),.str 0 (ze 1 4)]
def sA(k:Nat):AH:=oG [xi k,.list K7]
def jU: az:=[(zj,.obj 0),(P0,.obj 1),(Bg,.str 1 [])]
def Bs(i:Nat):az:=zd jU kq (.int 0 (.ofNat i))
def uP(K:Nat)(σ:AH):Bool:=Nat.ble 2 σ.n&&(jo K (σ.get 0)&&v_ (σ.get 1) (.list K7))
def CV: MS:=bW.body
def CT: MS:=dW CV
def Bt: MS:=dW (cE CV)
def CU: MS:=dW (cE (cE CV))
def I6: MS:=dW (cE (cE (cE CV)))
def KI: MS:=dW (cE (cE (cE (cE CV))))
def I7: ME:=match I6 with | .forR _ e _=>e | _=>.cN
def Yl: MS:=match I6 with | .forR _ _ b=>b | m=>m
def R3: ME:=match dW Yl with | .asg _ e=>e | _=>.cN
noncomputable def bL: ME->ME | .bin _ a _=>a | e=>e
noncomputable def bR: ME->ME | .bin _ _ b=>b | e=>e
noncomputable def mO: ME->ME | .af o _ _=>o | e=>e
def I9: ME:=bR R3
def I8: ME:=mO (bR (bL R3))
theorem vp: I6 = .forR kq I7 (.seq (.asg Bg (.bin 0 (.bin 0 (.loc Bg) (.af I8 xx JW)) I9)) .nil):=by rfl
theorem vq: bW.body = .seq CT (.seq Bt (.seq CU (.seq I6 (.seq KI .nil)))):=by rfl
def wx(O:ia)(e:ME):RD:=ev (gU []) (zn (gU []) O 30) e
def KH(d:Nat):Bool:=match ((dI (dM [(4,d)]) CT [(zj,.obj 0)] (zc 0)).seq (dI (dM [(4,d)]) Bt)).seq (dI (dM [(4,d)]) CU) with
 |.ok .next ρ σ=>(iT ρ zj (.obj 0)&&(iT ρ P0 (.obj 1)&&iT ρ Bg (.str 0 [])))&&(match (wx (dM [(4,d)]) I7 ρ).v σ with
  |.ok v aE=>eqv v (.int 0 (.ofNat d))&&uP 1 aE
  |_=>false)
 |_=>false
def KJ(i:Nat)(ds:List (Nat×Nat)):Bool:=match (wx (dM ds) I8 (Bs i)).v (sA 0) with
 |.ok v aE=>eqv v (.str 0 (ze 1 (dr ds 0)))&&(match (wx (dM ds) I9 (Bs i)).v aE with
  |.ok v2 bC=>eqv v2 (.str 0 (zm (dr ds 1)))&&uP 2 bC
  |_=>false)
 |_=>false
theorem ZI: ((List.range 4).all λd=>KH d)=true:=by decide +kernel
theorem ZJ: ((List.range 3).all λi=>(fB [5,3]).all λds=>KJ i ds)=true:=by decide +kernel
end
theorem Hq{x:Nat}{v:AV}(h:iT ρ x v=true):aC ρ x=some v:=by
 unfold iT at h
 split at h
 ·rename_i y e;rw[e,og h]
 ·exact FT h
theorem WQ{x y:List Nat}(h:x.length+y.length<=1000000):bh 0 (.str 1 x) (.str 0 y) σ = .ok (.str 1 (x++y)) σ:=by
 show ak (Nat.ble 1 1) (pl 0 (ak (Nat.ble (len x+len y) 1000000) (Res.ok (AV.str 1 (app x y)) σ) .stuck)) .stuck=_
 rw[zb,zb,Nat.ble_eq_true_of_le h,j9];rfl
theorem Xf{K:Nat}(h:uP K σ = true):2<=σ.n/\σ.get 0=xi K/\σ.get 1 = .list K7:=by
 refine n3 h λh1 h2 h3=>?_
 exact dp (w5 h1) (AX h2) (Vo h3)
theorem uL(k:Nat):(sA k).n=2:=HG _
theorem sA_0(k:Nat):(sA k).get 0=xi k:=ux rfl
theorem sA_1(k:Nat):(sA k).get 1 = .list K7:=ux rfl
theorem zmy{d:Nat}(h:KH d=true):∃fe ff jV i8 i7 iK dq,dI (dM [(4,d)]) CT [(zj,.obj 0)] (zc 0) = .ok .next fe ff/\dI (dM [(4,d)]) Bt fe ff = .ok .next jV i8/\dI (dM [(4,d)]) CU jV i8 = .ok .next i7 iK/\
  aC i7 zj=some (.obj 0)/\aC i7 P0=some (.obj 1)/\aC i7 Bg=some (.str 0 [])/\(wx (dM [(4,d)]) I7 i7).v iK = .ok (.int 0 (.ofNat d)) dq/\uP 1 dq=true:=by
 unfold KH at h
 split at h
 ·rename_i i7 iK e
  refine n2 h λh1 h2=>?_
  refine n3 h1 λg1 g2 g3=>?_
  split at h2
  ·rename_i v dq e4
   refine n2 h2 λk1 k2=>?_
   rw[og k1] at e4
   cases ea:dI (dM [(4,d)]) CT [(zj,.obj 0)] (zc 0) with
   |ok fl fe ff=>
    rw[ea] at e
    induction fl with
    |next=>
     replace e:(dI (dM [(4,d)]) Bt fe ff).seq (dI (dM [(4,d)]) CU) = .ok .next i7 iK:=e
     cases eb:dI (dM [(4,d)]) Bt fe ff with
     |ok fl jV i8=>
      rw[eb] at e
      induction fl with
      |next=>exact⟨fe,ff,jV,i8,i7,iK,dq,rfl,eb,e,Hq g1,Hq g2,Hq g3,e4,k2⟩
      |cont=>cases e
      |ret v=>cases e
     |exc l ρ σ=>rw[eb] at e;contradiction
     |stuck=>rw[eb] at e;contradiction
    |cont=>cases e
    |ret v=>cases e
   |exc l ρ σ=>rw[ea] at e;contradiction
   |stuck=>rw[ea] at e;contradiction
  ·exact FT h2
 ·exact FT h
theorem zn7{i:Nat}{ds:List (Nat×Nat)}(h:KJ i ds=true):∃aE bC,(wx (dM ds) I8 (Bs i)).v (sA 0) = .ok (.str 0 (ze 1 (dr ds 0))) aE/\(wx (dM ds) I9 (Bs i)).v aE = .ok (.str 0 (zm (dr ds 1))) bC/\uP 2 bC=true:=by
 unfold KJ at h
 split at h
 ·rename_i v aE e
  refine n2 h λh1 h2=>?_
  rw[og h1] at e
  split at h2
  ·rename_i v2 bC e2
   refine n2 h2 λk1 k2=>?_
   rw[og k1] at e2
   exact Bq aE bC e e2 k2
  ·exact FT h2
 ·exact FT h
theorem Xn(g:Nat):(zm g).length<=3:=by
 match g with
 |0=>exact w5 (by simp[zm])
 |1=>exact w5 (by simp[zm])
 |g+2=>exact w5 (by simp[zm])
theorem Qf: ∀(k:Nat) (p:Nat×Nat),(oy k p).length=k/\∀x∈oy k p,x.1<5/\x.2<3
 |0,_=>⟨rfl,λ_ h=>nomatch h⟩
 |k+1,p=>by
  refine oA (Qf k (bN p [5,3])) λh1 h2=>?_
  refine⟨by show(oy k (bN p [5,3])).length+1=_;rw[h1],λx hx=>?_⟩
  rcases w8.mp hx with rfl | hx
  ·exact⟨uE (by decide),uE (by decide)⟩
  ·exact h2 x hx
theorem WV: ∀(bF:List (Nat×Nat)) (i:Nat),(se i bF).length<=43 * bF.length
 |[],_=>w9 _
 |(j,g)::bF,i=>by
  have:=WV bF (i+1)
  have h1:=Jw i j
  have h2:=Xn g
  show(ze i j++(zm g++se (i+1) bF)).length<=43 * (bF.length+1)
  rw[List.length_append,List.length_append];lia
def j_(p:Nat×Nat):Nat:=i4 p.1 p.2 4
def zy(p:Nat×Nat):List Nat:=se 0 (oy (j_ p) (bN p [4]))
def xk(p:Nat×Nat):Nat×Nat:=bN (bN p [4]) (K9 (j_ p))
def QG(w:Wo)(N:Nat)(PF:List Nat)(pf:Nat×Nat)(i:Nat)(c:Cx)(σ:AH)(ρ:az):Prop:=∃f p,c=av w f [] [] (zp p [])/\σ = sA 0/\ρ = jU/\p.2<bM/\i<=N/\f++se i (oy (N - i) p)=PF/\bN p (K9 (N - i))=pf
theorem kj{c c':Cx}{μ:Nat->Addr}{N n:Nat}{h:Heap}{ρ:az}:∀{aI:az},(∀y∈aI,∃v,aC ρ y.1=some v/\∀x,VR c μ N h v x->VR c' μ n h y.2 x)->vc c c' μ N n h ρ aI
 |[],_=>λx y e=>by exact NS e
 |(a,b)::aI,k=>λx y e=>by
  change ak (Nat.beq a x) (some b) (aC aI x)=some y at e
  induction q:Nat.beq a x with
  |true=>
   rw[q] at e;obtain rfl:=w3 e
   rw[<-Nat.eq_of_beq_eq_true q]
   exact k _ (.head _)
  |false=>
   rw[q] at e
   exact kj (λy hy=>k y (.tail _ hy)) x y e
section
variable{w:Wo}{q:Program}{n:En}
theorem vU{P P':List Nat}{tab eK:Nat->Int}{K K':Nat}(hc:uP K σ = true)(ha:eK (K'+K')=tab (K+K))(hb:eK (K'+K'+1)=tab (K+K+1))(n0:ae<=2)(tv:vc (av w P [] [] tab) (av w P' [] [] eK) μ σ.n 2 s.heap ρ aI)(x:ax (av w P [] [] tab) A a9 ae aa L μ σ ρ s):ax (av w P' [] [] eK) A a9 ae aa L μ (sA K') aI s:=by
 refine c6 (Xf hc) λh1 h2 h3=>?_
 refine ax.cut (z7 ..) (by rw[uL];exact h1) (by rw[uL];exact n0) (λl hl o ho r=>?_) (by rw[uL];exact tv) x
 rw[uL] at hl ⊢
 match l,hl,r with
 |0,_,r=>rw[sA_0];rw[h2] at r;exact lK (c:=av w P [] [] tab) (c':=av w P' [] [] eK) ha hb r
 |1,_,r=>rw[sA_1];rw[h3] at r;exact K0 (z7 ..) rfl r
 |l+2,hl,_=>lia
theorem zj4(k:Nat):uP k (sA k)=true:=by
 unfold uP
 rw[uL,sA_0,sA_1]
 have h1:jo k (xi k)=true:=by
  show((Nat.beq (k+k+3) (k+k+3)&&fZ (.ofNat 0) (.ofNat 0))&&((Nat.beq (k+k+4) (k+k+4)&&fZ (.ofNat 0) (.ofNat 0))&&dU [] []))=true
  rw[Nat.beq_refl,Nat.beq_refl];rfl
 rw[h1];decide +kernel
theorem zmv(T:TopRead q loose mg mb (w.B))(F:HF A env L n)(hd:A.depth+200<recursionLimit)(hu:A.units+1000<cLine){b:List Stmt}(eH:d4 (WK w.params) false (.seq (.asg Bg (.bin 0 (.bin 0 (.loc Bg) (.af I8 xx JW)) I9)) .nil) n (.many b)=true){N:Nat}(hN:N<4){PF:List Nat}{pf:Nat×Nat}(IC:PF.length<=1000){i:Nat}(hi:i<N){c1:Cx}{aE:AH}{bo:az}(inv:QG w N PF pf i c1 aE bo){cq:Nat->Addr}{s1:Shared}(n0:ae<=2)(tk:0<s1.toks)(S:ax c1 A a9 ae aa L cq aE (zd bo kq (.int 0 (.ofNat i))) s1):
  wpAny (model prog w.toWorld) A (execs b env) (λfl s2=>fl = .next/\∃c2 bV bC dD,aZ (av w [] [] [] t0) c2/\QG w N PF pf (i+1) c2 bC dD/\ax c2 A a9 ae aa L bV bC dD s2) (λ_ _=>False) s1:=by
 refine cps λ_ κ=>?_;refine dC inv ?_;clear inv;rintro f p rfl rfl q9;refine jQ q9 ?_;clear q9;rintro rfl hp _ sQ wN
 refine dC (zt eH) ?_;rintro st b' rfl h1 h2
 obtain rfl:=Vf h2
 obtain⟨k,hk⟩:∃k,N - i=k+1:=⟨N - i - 1,by lia⟩
 rw[hk] at sQ wN
 have Rf:fA p [5,3]=[(5,i4 p.1 p.2 5),(3,i4 (bN p [5]).1 (bN p [5]).2 3)]:=rfl
 refine κ ?_;clear κ;let j:=i4 p.1 p.2 5
 let g:=i4 (bN p [5]).1 (bN p [5]).2 3
 have hj:j<5:=uE (by decide)
 have hg:g<3:=uE (by decide)
 have sQ:f++(ze i j++(zm g++se (i+1) (oy k (bN p [5,3]))))=PF:=sQ
 have wN:bN (bN p [5,3]) (K9 k)=pf:=wN
 have lf:f.length<=1000:=by rw[<-sQ,List.length_append] at IC;exact iI IC
 have BA:∀t∈[5,3],cB t:=by
  intro t ht
  simp at ht
  rcases ht with rfl | rfl
  ·exact .inr (.inr (.inr (.inl rfl)))
  ·exact .inr (.inl rfl)
 have fact:=w6.mp (w6.mp ZJ i (List.mem_range.mpr (Bp (Nat.lt_of_le_of_lt hi hN) rfl))) _ (uv [5,3] p BA)
 refine cps λ_ κ=>?_;refine dC (zn7 fact) λQW Yc eX eY hc=>?_
 have d0:dr (fA p [5,3]) 0=j:=rfl
 have d1:dr (fA p [5,3]) 1=g:=rfl
 rw[d0] at eX
 rw[d1] at eY
 refine κ ?_;clear κ;let c:=av w f [] [] (zp p [5,3])
 have S1:ax c A a9 ae aa L cq (sA 0) (Bs i) s1:=vU (P:=f) (tab:=zp p []) (P':=f) (eK:=zp p [5,3]) (K':=0) (ρ:=zd jU kq (.int 0 (.ofNat i))) (zj4 0) rfl rfl n0 (by
  rw[uL]
  exact kj (gL ⟨.obj 0,rfl,λx r=>yc (z7 ..) rfl r⟩ (gL ⟨.obj 1,rfl,λx r=>yc (z7 ..) rfl r⟩ (gL ⟨.str 1 [],rfl,λx r=>mF r rfl⟩ (gL ⟨.int 0 (.ofNat i),rfl,λx r=>yc (z7 ..) rfl r⟩ sf))))) S
 have RP:f.length<=1000000:=fy lf rfl
 have w0:=i5 (prog:=prog) (w:=w) (U:=[]) (Pt:=f) (Rt:=[]) (tab:=zp p [5,3]) T
 have a:=pI (prog:=prog) (A:=A) (k:=30) T RP (w9 _) (Ho (prog:=prog) (U:=[]) (Pt:=f) (Rt:=[]) T RP (w9 _) hp BA) (eL hd rfl) (eL hu rfl) F.hh
 refine QI (a:=.str 1 (ze i j++zm g)) (ai:=Yc) F.E h1 rfl S1 (λy m hy F1=>?_) λbV s3 S3=>wpAny_execs_nil ⟨rfl,?_⟩
 ·refine vo hy λl1 y2 pp k6 kY=>vo k6 λl2 y3 pp2 kF kR=>wpAny_BinOp (wpAny_BinOp ?_)
  refine((bA w0 a F.E kF).v cq (sA 0) s1 (Bs i) m S1.hr F1).run (b:=.str 1 []) rfl λv s2 bV H2 X2 r2 rF Ax=>?_
  have F2:=F1.on S1.hr X2
  refine WP.run (c:=c) (R:=RV c) (r:=Res.ok (AV.str 0 (ze i j)) QW) (E:=λ_ _=>False) (λ_=>wj (zV T a F.E kR (Bp (Nat.lt_of_le_of_lt hi hN) rfl) hj (KG tk Ax) H2 F2 rfl eX) (λ_ _ q=>q) λ_ _ h=>False.elim h) rfl λv3 s3 gF H3 X3 r3 t_ _=>?_
  have F3:=F2.on H2 X3
  refine(a.bin 0 .Add rfl gF QW s3 (.str 1 []) (.str 0 (ze i j)) v v3 H3 (r2.ext H2 X3) r3).run (WQ (by have:=Jw i j;simp;exact fy this rfl)) λv4 s4 gc H4 X4 r4 GG _=>?_
  refine((bA w0 a F.E kY).v gc QW s4 (Bs i) m H4 (F3.on H3 X4)).run eY λv5 s5 iJ H5 X5 r5 GH _=>?_
  exact(a.bin 0 .Add rfl iJ Yc s5 (.str 1 (ze i j)) (.str 0 (zm g)) v4 v5 H5 (r4.ext H4 X5) r5).run (WQ (by have:=Jw i j;have:=Xn g;exact pH ‹_› this rfl)) λv6 s6 CD H6 X6 r6 Ac _=>
   PQ.fin (aw:=s6) H6 (X2.trans (X3.trans (X4.trans (X5.trans X6)))) (rF.trans (t_.trans (GG.trans (GH.trans Ac)))) rfl r6
 have fin:ax (av w (f++(ze i j++zm g)) [] [] (zp (bN p [5,3]) [])) A a9 ae aa L bV (sA 0) jU s3:=by
  refine vU (K:=2) hc ?_ ?_ n0 (kj (gL ⟨.obj 0,rfl,λx r=>yc (z7 ..) rfl r⟩ (gL ⟨.obj 1,rfl,λx r=>yc (z7 ..) rfl r⟩ (gL ⟨.str 1 (ze i j++zm g),rfl,λx r=>mF r (List.append_nil _).symm⟩ sf)))) S3
  ·exact(yo (bN p [5,3]) [] 0).trans (yo p [5,3] 2).symm
  ·exact(yn (bN p [5,3]) [] 0).trans (yn p [5,3] 2).symm
 refine lL _ bV _ _ (z7 ..) ⟨f++(ze i j++zm g),bN p [5,3],rfl,rfl,rfl,xg [5,3] hp,hi,?_,?_⟩ fin
 ·rw[show N - (i+1)=k by lia,<-sQ,List.append_assoc,List.append_assoc]
 ·rw[show N - (i+1)=k by lia];exact wN
end
section
variable{w:Wo}{q:Program}
theorem Jv(p:Nat×Nat):(zy p).length<=200:=by
 have h1:=WV (oy (j_ p) (bN p [4])) 0
 have h2:=(Qf (j_ p) (bN p [4])).1
 have h3:j_ p<4:=uE (by decide)
 rw[h2] at h1
 show(se 0 (oy (j_ p) (bN p [4]))).length<=200
 lia
theorem zjv(T:TopRead q loose mg mb (w.B)){p:Nat×Nat}(hp:p.2<bM)(hd:A.depth+300<recursionLimit)(hu:A.units+1500<cLine)(hh:A.handled=none)(H:HR (av w [] [] [] (zp p [4])) μ (zc 0) s.heap)(sk:cX (av w [] [] [] (zp p [4])) A μ 1 s.heap):
  codeAny (model prog w.toWorld) A (.call (.ref 1798) ⟨[.ref (μ 0)],[]⟩) (RR (av w (zy p) [] [] (zp (xk p) [])) (.ok (.str 1 []) (zc 0)) μ (zc 0) s) s:=by
 have BA:∀t∈[4],cB t:=by
  intro t ht
  simp at ht
  subst ht
  exact .inr (.inr (.inl rfl))
 have hN:j_ p<4:=uE (by decide)
 let c:=av w [] [] [] (zp p [4])
 let cF:=av w (zy p) [] [] (zp (xk p) [])
 refine wo (Hg (ρ:=[(zj,.obj 0)]) (good:=gd cF (.str 1 []) (zc 0)) T (w9 _) (w9 _) (f:=bW) (by rfl) (gN hd) hh H sk (.cons (.obj Nat.zero_lt_one) .nil) (by rfl) λA' env L n body s1 hA hU F eH St Q E hQ hE=>?_) λx s' qq=>?_
 case refine_2=>
  refine bw qq ?_;clear qq;rintro c' X ⟨rfl,aI,rfl⟩ qq
  exact qq
 rw[vq] at eH
 refine fH eH λu4 b1 h1 ny=>fH ny λu5 b2 h2 nz=>fH nz λC4 b3 h3 pY=>fH pY λAf b4 h4 wJ=>fH wJ λC5 b5 h5 Dw=>n9 Dw ?_
 refine bw F.fr λfa outer hf cJ=>?_
 have hO:=Ho (prog:=prog) (w:=w) (U:=[]) (Pt:=[]) (Rt:=[]) T (w9 _) (w9 _) hp BA
 have st:=λm=>iE (prog:=prog) (U:=[]) (Pt:=[]) (Rt:=[]) (tab:=zp p [4]) (k:=30) T (w9 _) (w9 _) hO (eA hA hd rfl) (eA hU hu rfl) F m
 have w0:=i5 (prog:=prog) (w:=w) (U:=[]) (Pt:=[]) (Rt:=[]) (tab:=zp p [4]) T
 have a:=pI (prog:=prog) (A:=A') (k:=30) T (w9 _) (w9 _) hO (eA hA hd rfl) (eA hU hu rfl) F.hh
 have Rf:fA p [4]=[(4,j_ p)]:=rfl
 refine eC (zmy (w6.mp ZI (j_ p) (List.mem_range.mpr hN))) λfe ff jV i8 q9=>?_;refine dY q9 λi7 iK dq e1 q9=>?_;refine c6 q9 λe2 e3 q9=>?_;refine jQ q9 λg1 g2 g3 eD hc=>?_
 rw[<-Rf] at e1 e2 e3 eD
 refine yp ((st CT).1 u4 h1) St e1 λbV s2 _ S2=>yp ((st Bt).1 u5 h2) S2 e2 λgF s3 _ S3=>yp ((st CU).1 C4 h3) S3 e3 λgc s4 _ S4=>?_
 rw[vp] at h4
 refine Kn (show rV Af _=true from h4) λt y l pos h=>?_
 refine n4 h λk1 k2 k3 kB=>?_
 refine y5 k2 λid ip k2=>?_
 refine n2 k2 λk6 k7=>?_
 rw[<-zv k6]
 refine uT k3 λgg as pos' k3=>?_
 refine n2 k3 λk8 k9=>?_
 refine y5 k8 λZD LO k8=>?_
 refine n2 k8 λZE ZF=>?_
 obtain rfl:=zv ZE
 refine au (JP w0 F.E (pos:=LO) ZF) λwv gn hv=>?_
 match as,k9 with
 |[z],k9=>
 refine n2 k9 λZG ZH=>?_
 refine wpAny_execs_cons (zgj (D:=wx (dM (fA p [4])) I7) (Inv:=QG w (j_ p) (zy p) (xk p)) F.hh hf (λc' _=>JO F.E.eo (F.E.rG k7)) (A3 w0.X gn hv OY) (Hn (bA w0 a F.E ZH) JV (P8 ZG [] env)) (Bp hN rfl) S4 eD
  (λaj s' S'=>?_) (λi hi c1 aE bo sc inv a9 ae aa cq s1 hn tk S=>?_) (λc1 aE bo cq s1 sc inv S=>?_))
 ·refine Ya (av w [] [] [] (zp (bN p [4]) [])) (sA 0) jU (z7 ..) ⟨[],bN p [4],rfl,rfl,rfl,xg [4] hp,w9 _,rfl,rfl⟩ (Xf hc).1 ?_
  refine vU (K:=1) hc ?_ ?_ (by show 1<=2;exact Nat.succ_pos _) (kj (gL ⟨.obj 0,g1,λx r=>yc (z7 ..) rfl r⟩ (gL ⟨.obj 1,g2,λx r=>yc (z7 ..) rfl r⟩ (gL ⟨.str 0 [],g3,λx r=>mF r rfl⟩ sf)))) S'
  ·exact(yo (bN p [4]) [] 0).trans (yo p [4] 1).symm
  ·exact(yn (bN p [4]) [] 0).trans (yn p [4] 1).symm
 ·have LN:=inv
  refine sr LN λf p' e1' Yt e3' _=>?_
  have IC:=Jv p
  have hn:ae<=2:=by rw[Yt,uL] at hn;exact hn
  refine wj (zmv (prog:=prog) T F (Bo hA hd rfl) (Bo hU hu rfl) kB hN (fy IC rfl) hi inv hn tk S) (λfl s2 qq=>?_) λ_ _ h=>h
  obtain⟨q1,c2,bV,bC,dD,A8,inv2,S2⟩:=qq
  exact⟨q1,c2,bV,bC,dD,⟨A8.b,A8.w,A8.ok,A8.bA⟩,inv2,S2⟩
 ·refine dC inv ?_;clear inv;rintro f p' rfl rfl q9;refine jQ q9 ?_;clear q9;rintro rfl RC _ sQ wN
  rw[Nat.sub_self] at sQ wN
  have ef:f=zy p:=by
   have:f++[]=zy p:=sQ
   rwa [List.append_nil] at this
  have ep:p'=xk p:=wN
  subst ef ep
  have lP:(zy p).length<=1000000:=by have:=Jv p;exact fy this rfl
  show wpAny _ _ (execs [C5] env) _ _ _
  have ss5:=(iE (prog:=prog) (U:=[]) (Pt:=zy p) (Rt:=[]) (tab:=zp (xk p) []) (k:=30) T lP (w9 _) (none_or (prog:=prog)) (eA hA hd rfl) (eA hU hu rfl) F KI).1 C5 h5
  have e5:ex (gU []) (zn (gU []) O0 30) (y9 (gU []) 3) KI jU (sA 0) = .ok (.ret (.str 1 [])) jU (sA 0):=rfl
  refine Kh (c:=cF) ss5 S e5 λv iJ s5 S5 hv=>hQ cF (.ok (.ret (.str 1 [])) [] (zc 0)) _ _ ⟨rfl,[],rfl⟩ ⟨.ret (.str 1 []),[],zc 0,iJ,rfl,?_,v,rfl,mF hv rfl⟩
  refine ax.cut (σ:=sA 0) (z7 ..) (by rw[uL];show 1<=2;exact Nat.succ_pos _) (by show 1<=1;exact wa _) (λl hl o ho r=>?_) (kj λy hy=>nomatch hy) S5
  have hl:l<1:=hl
  obtain rfl:l=0:=jP hl
  rw[sA_0] at r
  exact lK rfl rfl r
end
noncomputable section
def xI(l:List (List Nat×Nat))(x:List Nat×Nat):Bool:=l.any λy=>cu y.1 x.1&&Nat.beq y.2 x.2
def qJ(l:List (List Nat))(x:List Nat):Bool:=l.any λy=>cu y x
noncomputable def Ll(t:List Nat):Bool:=match t with | a::_=>Nat.beq a 60 | []=>false
def l8(t:List Nat):Bool:=Ll t&&Nat.ble (len t) 500
end
theorem PZ{l:List (List Nat×Nat)}{x:List Nat×Nat}(h:xI l x=true):x∈l:=by
 refine au (List.any_eq_true.mp h) λy hy h=>?_
 refine n2 h λh1 h2=>?_
 obtain⟨a,b⟩:=y
 obtain⟨a',b'⟩:=x
 have h1:a=a':=(yd _ _).mp h1
 have h2:b=b':=w4 h2
 rw[<-h1,<-h2];exact hy
theorem Hm{l:List (List Nat)}{x:List Nat}(h:qJ l x=true):x∈l:=by
 refine au (List.any_eq_true.mp h) λy hy h=>?_
 rw[<-(yd _ _).mp h];exact hy
theorem zmz{t:List Nat}(h:l8 t=true):(∃r,t=60::r)/\t.length<=500:=by
 refine n2 h λh1 h2=>?_
 refine⟨?_,by rw[<-zb];exact w5 h2⟩
 induction t using lC with
 |nil=>exact FT h1
 |cons a r=>exact⟨r,by rw[Nat.eq_of_beq_eq_true (show Nat.beq a 60=true from h1)]⟩
theorem RN: ((fB [3,2,13]).all λds=>xI wD (iG ds))=true:=by decide +kernel
theorem kML: ((fB [3,3,4]).all λds=>xI lT (Iz ds))=true:=by decide +kernel
theorem kMG: ((fB [3,2,13,3]).all λds=>qJ nu (gE ds))=true:=by decide +kernel
theorem kMP: ((fB [5,2]).all λds=>qJ qZ (pE ds)&&qJ qL (nE ds))=true:=by decide +kernel
theorem RO: (wD.all λp=>l8 p.1&&nu.all λg=>l8 (B9 p.1 g++II))=true:=by decide +kernel
theorem kXL: (lT.all λp=>l8 p.1)=true:=by decide +kernel
theorem kXP: (qZ.all λa=>qL.all λb=>l8 (Bb a++rM b))=true:=by decide +kernel
theorem kP2: (wD.all λp=>lT.all λl=>IH p l)=true:=by
 have e:wD=wD.take 20++((wD.drop 20).take 20++wD.drop 40):=by decide +kernel
 rw[e,List.all_append,List.all_append,LU,LV,LW] at ⊢;rfl
theorem WU(t:List Nat):∀(bF:List (Nat×Nat)) (i g:Nat),jN t i g bF=zm g++(se i bF++t)
 |[],i,g=>rfl
 |(j,g')::bF,i,g=>by
  show zm g++(ze i j++jN t (i+1) g' bF)=zm g++((ze i j++(zm g'++se (i+1) bF))++t)
  rw[WU t bF (i+1) g',List.append_assoc,List.append_assoc]
theorem zcw{l:List (List Nat×Nat)}{t:List Nat}{k:Nat}(h:Q2 l t=some k):(t,k)∈l:=by
 induction l with
 |nil=>exact NS h
 |cons p l ih=>
  change ak (cu p.1 t) (some p.2) (Q2 l t)=some k at h
  induction q:cu p.1 t with
  |true=>
   rw[q] at h;obtain rfl:=w3 h
   rw[<-(yd _ _).mp q];exact .head _
  |false=>rw[q] at h;exact .tail _ (ih h)
theorem Y1{q:Nat}{tk:List (List Nat×Nat)}(h:Fg q tk args σ≠.stuck):∃t k,args=[.str q t]/\(∀l,l < σ.n->∃x,σ.get l = .list x)/\(t,k)∈tk/\Fg q tk args σ = .ok (.int q (.ofNat k)) σ:=by
 generalize er:Fg q tk args σ = R at h ⊢
 refine bT h er λh1 e1=>bT h e1 λh2 e2=>fC h e2 λk h3 e3=>?_
 refine wR (QK args) k (cz h1) (λl hl=>?_) (zcw h3) e3.symm
 have:=w6.mp h2 l (List.mem_range.mpr hl)
 induction e:σ.get l using ao.casesOn with
 |list x=>exact⟨x,rfl⟩
 |_=>rw[e] at this;exact FT this
theorem yW{tk:List (List Nat×Nat)}(h:N5 tk args σ≠.stuck):∃t k,args=[.str 1 t]/\(∀l,l < σ.n->∃x,σ.get l = .list x)/\(t,k)∈tk/\N5 tk args σ = .ok (.int 1 (.ofNat k)) σ:=Y1 h
section
variable{w:Wo}{U:List (List Nat)}{q:Program}{tab:Nat->Int}
theorem j0(T:TopRead q loose mg mb (w.B)){a:Addr}{f:Fn}(h:Ik.get a=some f):keepIn (WK w.params).K (.ref a)=true:=by
 refine fc ((h_ (prog:=q) (U:=[]) (Pt:=[]) (Rt:=[]) (tab:=t0) T (w9 _) (w9 _)).fn a f h) λ_ _ _ _ _ _ k=>?_
 exact k
theorem QC(T:TopRead q loose mg mb (w.B)){P:List Nat}{tk:List (List Nat×Nat)}(h:∀x∈tk,uy prog w P x.1 x.2):cG prog (av w P [] U tab) (WK w.params) (BC tk) 350 2000 where
 keep a args σ r e:=by
  unfold BC at e
  refine oA (zg e) λea e=>?_
  rw[Nat.eq_of_beq_eq_true ea]
  exact j0 T (f:=OZ) (by rfl)
 call A hd hu hh μ σ s a args vs r e H sk rv ns:=by
  unfold BC at e
  refine oA (zg e) λea e=>?_
  obtain rfl:=w3 e
  obtain rfl:=w4 ea
  refine sr (yW ns) ?_;rintro t k rfl hl hm er
  rw[er]
  cases rv with
  |cons r0 rr=>
  cases rr
  cases r0 with
  |str _ _ tok=>
  have H0:HR (av w P [] (UU 3) t0) μ ⟨0,.leaf⟩ s.heap:=HR.cut (σ:=σ) (ai:=⟨0,.leaf⟩) (z7 ..) (w9 _) (λl hl=>w1 hl (Nat.not_lt_zero _)) H
  refine oE (h _ hm A hd hu hh μ s tok H0 (sk.cut (z7 ..) (w9 _))) λaE vS=>?_
  exact wo vS λz s' qq=>RR.fp (c':=av w P [] U tab) (iL:=σ) (dZ:=σ) (v':=.int 1 (.ofNat k)) (λa=>PQ.widen (z7 ..) rfl H hl λaj x hx=>by
   cases hx with
   |int _ _ tt=>exact VR.int (c:=av w P [] U tab) 1 (.ofNat k) tt) qq
theorem Jy(T:TopRead q loose mg mb (w.B))(p:Nat×Nat){t:List Nat}{k:Nat}(hp:qW t k=true)(ht:l8 t=true):uy prog w (zy p) t k:=by
 refine oA (zmz ht) λh1 h2=>?_
 have l1:=Jv p
 refine oA (Qf (j_ p) (bN p [4])) λa1 a2=>?_
 have hN:j_ p<4:=uE (by decide)
 exact PD T hp (by rw[List.length_append];exact pH l1 h2 rfl) h1 (bF:=oy (j_ p) (bN p [4])) a2 (jO a1 (Nat.le_of_lt_succ hN) rfl) (by rw[WU];rfl)
end
theorem AB: aW.body = .seq AE (.seq AF (.seq AG (.seq AI (.seq AJ (.seq rI (.seq rJ .nil)))))):=by rfl
noncomputable def rX(p p':Nat×Nat)(j:Nat):Int:=match j with | 0=>p.1 | 1=>p.2 | 2=>p'.1 | _=>p'.2
def gY(p:Nat×Nat):Nat×Nat:=bN (xk p) [3,2,13,3,3,4]
def jL(p:Nat×Nat):Nat×Nat:=bN (gY p) [3,2,13,3]
def rK(p:Nat×Nat):Nat×Nat:=bN (jL p) [5,2]
theorem Xm{m:Nat}{x:XR}(h:vX m x=true):∃ρ σ,x = .ok .next ρ σ/\aC ρ zj=some (.obj 0)/\aC ρ jy=some (.str 1 [])/\1<=σ.n/\σ.get 0=xi m:=by
 refine bw (Cz h) λρ σ e h=>?_
 exact n3 h λh1 h2 h3=>n2 h1 λg1 g2=>⟨ρ,σ,e,Hq g1,Hq g2,w5 h2,AX h3⟩
theorem zpk{ds:List (Nat×Nat)}{G:Prop}(h:Se ds=true)(k:∀Kt CE QV CF,dI (O6 ds) rI uZ (zc 0) = .ok .next Kt CE->dI (O6 ds) rJ Kt CE = .ok (.ret (.bool true)) QV CF->1<=CF.n->CF.get 0=xi 2->G):G:=by
 refine bw (Cz h) λKt CE e6 h=>?_
 refine bw (XM h) λQV CF e7 h=>?_
 exact n2 h λh1 h2=>k _ _ _ _ e6 e7 (w5 h1) (AX h2)
section
variable{w:Wo}{q:Program}
theorem Dd{P:List Nat}{tab eK:Nat->Int}{K K':Nat}(h1:1<=σ.n)(h2:σ.get 0=xi K)(ha:eK (K'+K')=tab (K+K))(hb:eK (K'+K'+1)=tab (K+K+1))(n0:ae<=1)(g1:aC ρ zj=some (.obj 0))(g2:aC ρ jy=some (.str 1 []))(x:ax (av w P [] [] tab) A a9 ae aa L μ σ ρ s):ax (av w P [] [] eK) A a9 ae aa L μ (zc K') uZ s:=by
 refine ax.cut (z7 ..) h1 n0 (λl hl o ho r=>?_) (kj λy hy=>?_) x
 ·have hl:l<1:=hl
  obtain rfl:l=0:=jP hl
  rw[h2] at r
  exact lK (c:=av w P [] [] tab) (c':=av w P [] [] eK) ha hb r
 ·have hy:y∈[(zj,AV.obj 0),(jy,.str 1 [])]:=hy
  rcases w8.mp hy with rfl | hy
  ·exact aT (.obj 0) g1 (λx r=>yc (z7 ..) rfl r)
  rcases w8.mp hy with rfl | hy
  ·exact aT (.str 1 []) g2 (λx r=>mF r rfl)
  ·cases hy
theorem qQ{t:Nat}(h:t∈[3,2,13]):cB t:=by
 simp at h
 rcases h with rfl | rfl | rfl
 ·exact .inr (.inl rfl)
 ·exact .inl rfl
 ·exact .inr (.inr (.inr (.inr (.inr rfl))))
theorem EP{t:Nat}(h:t∈[3,2,13,3]):cB t:=by
 simp at h
 rcases h with rfl | rfl | rfl | rfl
 ·exact .inr (.inl rfl)
 ·exact .inl rfl
 ·exact .inr (.inr (.inr (.inr (.inr rfl))))
 ·exact .inr (.inl rfl)
theorem ER{t:Nat}(h:t∈[3,3,4]):cB t:=by
 simp at h
 rcases h with rfl | rfl
 ·exact .inr (.inl rfl)
 ·exact .inr (.inr (.inl rfl))
theorem EM{t:Nat}(h:t∈[5,2]):cB t:=by
 simp at h
 rcases h with rfl | rfl
 ·exact .inr (.inr (.inr (.inl rfl)))
 ·exact .inl rfl
theorem WS{p:Nat×Nat}(h:p.2<bM):(xk p).2<bM:=xg _ (xg _ h)
theorem zgy(T:TopRead q loose mg mb (w.B)){p:Nat×Nat}(hp:p.2<bM):rQ prog (av w [] [] [] (rX p (xk p))) 1798 0 1 (.str 0 (zy p)) 300 1500:=λA hd hu hh μ s H sk=>by
 have H':HR (av w [] [] [] (zp p [4])) μ (zc 0) s.heap:=HR.cut (σ:=zc 0) (ai:=zc 0) (z7 ..) (wa _) (λl hl o ho ro=>by
  have hl:l<1:=hl
  obtain rfl:l=0:=jP hl
  exact lK (c:=av w [] [] [] (rX p (xk p))) (c':=av w [] [] [] (zp p [4])) (k:=0) (k':=0) (yo p [4] 0) (yn p [4] 0) ro) H
 refine wo (zjv (prog:=prog) T hp hd hu hh H' (sk.cut (z7 ..) (wa _))) λz s' qq=>RR.fp (c:=av w (zy p) [] [] (zp (xk p) [])) (σ:=zc 0) (aE:=zc 0) (v:=.str 1 []) (λa=>PQ.cut (z7 ..) rfl (wa _) (wa _) (λaj l hl o ho ro=>?_) λaj x hx=>mF hx (List.append_nil _)) qq
 have hl:l<1:=hl
 obtain rfl:l=0:=jP hl
 exact lK (c:=av w (zy p) [] [] (zp (xk p) [])) (c':=av w [] [] [] (rX p (xk p))) (k:=0) (k':=1) (yo (xk p) [] 0).symm (yn (xk p) [] 0).symm ro
theorem zjp(T:TopRead q loose mg mb (w.B)){p:Nat×Nat}(hp:p.2<bM)(hd:A.depth+500<recursionLimit)(hu:A.units+3000<cLine)(hh:A.handled=none)(H:HR (av w [] [] [] (rX p (xk p))) μ (zc 0) s.heap)(sk:cX (av w [] [] [] (rX p (xk p))) A μ 1 s.heap):
  codeAny (model prog w.toWorld) A (.call (.ref 1819) ⟨[.ref (μ 0)],[]⟩) (RR (av w (zy p) [] [] (zp (jL p) [5,2])) (.ok (.bool true) (zc 2)) μ (zc 0) s) s:=by
 let c:=av w [] [] [] (rX p (xk p))
 let cF:=av w (zy p) [] [] (zp (jL p) [5,2])
 refine wo (Hg (ρ:=[(zj,.obj 0)]) (good:=gd cF (.bool true) (zc 2)) T (w9 _) (w9 _) (f:=aW) (by rfl) (gN hd) hh H sk (.cons (.obj Nat.zero_lt_one) .nil) (by rfl) λA' env L n body s1 hA hU F eH St Q E hQ hE=>?_) λx s' qq=>?_
 case refine_2=>
  refine bw qq ?_;clear qq;rintro c' X ⟨rfl,aI,rfl⟩ qq
  exact qq
 rw[AB] at eH
 refine fH eH λu4 b1 h1 ny=>fH ny λu5 b2 h2 nz=>fH nz λC4 b3 h3 pY=>fH pY λAf b4 h4 wJ=>fH wJ λC5 b5 h5 Dw=>fH Dw λst6 b6 h6 YY=>fH YY λst7 b7 h7 YZ=>n9 YZ ?_
 have lP:(zy p).length<=1000000:=by have:=Jv p;exact fy this rfl
 have o1:=pg (prog:=prog) (W:=WK w.params) (by rfl) (j0 T (f:=bW) (by rfl)) (zgy (prog:=prog) T hp)
 have OG:=(iE (prog:=prog) (U:=[]) (Pt:=[]) (Rt:=[]) (tab:=rX p (xk p)) (k:=30) T (w9 _) (w9 _) o1 (eA hA hd rfl) (eA hU hu rfl) F AE).1 u4 h1
 have e1:dI (l3 1798 0 1 (.str 0 (zy p))) AE [(zj,.obj 0)] (zc 0) = .ok .next [(zj,.obj 0),(jy,.str 0 (zy p))] (zc 1):=by rfl
 refine yp (c:=c) OG St e1 λcq s2 _ S1=>?_
 let p1:=xk p
 have DU:p1.2<bM:=WS hp
 have S2:ax (av w (zy p) [] [] (zp p1 [3,2,13,3,3,4])) A' μ 1 s L cq (zc 0) uZ s2:=by
  refine ax.cut (c:=c) (σ:=zc 1) (ρ:=[(zj,.obj 0),(jy,.str 0 (zy p))]) (z7 ..) (wa _) (wa _) (λl hl o ho r=>?_) (kj (gL ⟨.obj 0,rfl,λx r=>yc (z7 ..) rfl r⟩ (gL ⟨.str 0 (zy p),rfl,λx r=>mF r (List.append_nil _).symm⟩ sf))) S1
  ·have hl:l<1:=hl
   obtain rfl:l=0:=jP hl
   exact lK (c:=c) (c':=av w (zy p) [] [] (zp p1 [3,2,13,3,3,4])) (k:=1) (k':=0) (yo p1 _ 0) (yn p1 _ 0) r
 let wd:=iG (fA p1 [3,2,13])
 let pL:=bN p1 [3,2,13]
 let ld:=Iz (fA pL [3,3,4])
 have Zr:pL.2<bM:=xg _ DU
 have mw:wd∈wD:=PZ (w6.mp RN _ (uv [3,2,13] p1 λt h=>qQ h))
 have ml:ld∈lT:=PZ (w6.mp kML _ (uv [3,3,4] pL λt h=>ER h))
 let T2:=zp p1 [3,2,13,3,3,4]
 have cw:rQ prog (av w (zy p) [] [] T2) 1805 0 3 (om wd) 150 1000:=Hk (prog:=prog) (Pt:=zy p) (Rt:=[]) (U:=[]) (tab:=T2) T (f:=λds=>om (iG ds)) (λt h=>qQ h) kW DU (yo p1 _ 0) (yn p1 _ 0) (yo p1 _ 3) (yn p1 _ 3)
 have cl:rQ prog (av w (zy p) [] [] T2) 1812 3 6 (om ld) 150 1000:=Hk (prog:=prog) (Pt:=zy p) (Rt:=[]) (U:=[]) (tab:=T2) T (f:=λds=>om (Iz ds)) (λt h=>ER h) kL Zr (yo p1 _ 3) (yn p1 _ 3) (yo p1 _ 6) (yn p1 _ 6)
 have pw:uy prog w (zy p) wd.1 wd.2:=Jy T p (w6.mp M4 _ mw) (mU (w6.mp RO _ mw)).1
 have pl:uy prog w (zy p) ld.1 ld.2:=Jy T p (w6.mp M1 _ ml) (w6.mp kXL _ ml)
 have o2:cG prog (av w (zy p) [] [] T2) (WK w.params) (O2 wd ld) 350 2000:=
  ph (jg (pg (by rfl) (j0 T (f:=OW) (by rfl)) cw) (dQ rfl) (dQ rfl)) (ph (jg (pg (by rfl) (j0 T (f:=Vq) (by rfl)) cl) (dQ rfl) (dQ rfl)) (QC T (gL pw (gL pl sf))))
 have ss2:=(iE (prog:=prog) (U:=[]) (Pt:=zy p) (Rt:=[]) (tab:=T2) (k:=30) T lP (w9 _) o2 (eA hA hd rfl) (eA hU hu rfl) F AF).1 u5 h2
 refine eQ (Xm (w6.mp (w6.mp kP2 _ mw) _ ml)) λdD bC q9=>?_;refine jQ q9 λe2 g1 g2 n2 t2=>?_
 refine yp (c:=av w (zy p) [] [] T2) ss2 S2 e2 λbV s3 _ S3=>?_
 have DV:(gY p).2<bM:=xg _ DU
 have S4:ax (av w (zy p) [] [] (zp (gY p) [3,2,13,3])) A' μ 1 s L bV (zc 0) uZ s3:=Dd (tab:=T2) (K:=6) (K':=0) n2 t2 ((yo (gY p) _ 0).trans (yo p1 [3,2,13,3,3,4] 6).symm) ((yn (gY p) _ 0).trans (yn p1 [3,2,13,3,3,4] 6).symm) (wa _) g1 g2 S3
 let ds:=fA (gY p) [3,2,13,3]
 let T3:=zp (gY p) [3,2,13,3]
 have md:ds∈fB [3,2,13,3]:=uv [3,2,13,3] (gY p) λt h=>EP h
 have wds:iG ds=iG (fA (gY p) [3,2,13]):=rfl
 have RY:iG ds∈wD:=show iG (fA (gY p) [3,2,13])∈wD from PZ (w6.mp RN _ (uv [3,2,13] (gY p) λt h=>qQ h))
 have RT:gE ds∈nu:=Hm (w6.mp kMG _ md)
 have Yr:rQ prog (av w (zy p) [] [] T3) 1805 0 3 (om (iG ds)) 150 1000:=Hk (prog:=prog) (Pt:=zy p) (Rt:=[]) (U:=[]) (tab:=T3) T (f:=λds=>om (iG ds)) (λt h=>qQ h) kW DV (yo (gY p) _ 0) (yn (gY p) _ 0) (yo (gY p) _ 3) (yn (gY p) _ 3)
 have pe:uy prog w (zy p) (app (B9 (iG ds).1 (gE ds)) II) (len (B9 (iG ds).1 (gE ds))):=by
  rw[j9,zb]
  exact Jy T p (w6.mp (w6.mp kE _ RY) _ RT) (w6.mp (mU (w6.mp RO _ RY)).2 _ RT)
 have o3:cG prog (av w (zy p) [] [] T3) (WK w.params) (O3 ds) 350 2000:=
  ph (jg (pg (by rfl) (j0 T (f:=OW) (by rfl)) Yr) (dQ rfl) (dQ rfl)) (ph (jg (Ho T lP (w9 _) DV λt h=>EP h) (dQ rfl) (dQ rfl)) (QC T (gL pe sf)))
 have Ae:=λm=>iE (prog:=prog) (U:=[]) (Pt:=zy p) (Rt:=[]) (tab:=T3) (k:=30) T lP (w9 _) o3 (eA hA hd rfl) (eA hU hu rfl) F m
 refine eQ (Xm (w6.mp kP3 _ md)) λYb jW q9=>?_;refine jQ q9 λKY g1 g2 n5 t5=>?_
 refine bw (JQ KY) λmI dq Yu e5=>?_
 refine bw (JQ Yu) λi7 iK e3 e4=>?_
 refine yp (c:=av w (zy p) [] [] T3) ((Ae AG).1 C4 h3) S4 e3 λgF s4 _ S5=>yp (c:=av w (zy p) [] [] T3) ((Ae AI).1 Af h4) S5 e4 λgc s5 _ S6=>yp (c:=av w (zy p) [] [] T3) ((Ae AJ).1 C5 h5) S6 e5 λiJ s6 _ S7=>?_
 have Zq:(jL p).2<bM:=xg _ DV
 have S8:ax (av w (zy p) [] [] (zp (jL p) [5,2])) A' μ 1 s L iJ (zc 0) uZ s6:=Dd (tab:=T3) (K:=4) (K':=0) n5 t5 ((yo (jL p) _ 0).trans (yo (gY p) [3,2,13,3] 4).symm) ((yn (jL p) _ 0).trans (yn (gY p) [3,2,13,3] 4).symm) (wa _) g1 g2 S7
 let Dg:=fA (jL p) [5,2]
 let T6:=zp (jL p) [5,2]
 have m6:Dg∈fB [5,2]:=uv [5,2] (jL p) λt h=>EM h
 refine oA (mU (w6.mp kMP _ m6)) λRX RW=>?_
 have pp:uy prog w (zy p) (app (Bb (pE Dg)) (rM (nE Dg))) (len (Bb (pE Dg))):=by
  rw[j9,zb]
  exact Jy T p (w6.mp (w6.mp M3 _ (Hm RX)) _ (Hm RW)) (w6.mp (w6.mp kXP _ (Hm RX)) _ (Hm RW))
 have o6:cG prog (av w (zy p) [] [] T6) (WK w.params) (O6 Dg) 350 2000:=
  ph (jg (Ho T lP (w9 _) Zq λt h=>EM h) (dQ rfl) (dQ rfl)) (QC T (gL pp sf))
 have GJ:=λm=>iE (prog:=prog) (U:=[]) (Pt:=zy p) (Rt:=[]) (tab:=T6) (k:=30) T lP (w9 _) o6 (eA hA hd rfl) (eA hU hu rfl) F m
 refine zpk (w6.mp kP6 _ m6) λKt CE QV CF e6 e7 n7 t7=>?_
 refine yp (c:=av w (zy p) [] [] T6) ((GJ rI).1 st6 h6) S8 e6 λCD s7 _ S9=>?_
 refine Kh (c:=av w (zy p) [] [] T6) ((GJ rJ).1 st7 h7) S9 e7 λv QT s8 Kx hv=>hQ cF (.ok (.ret (.bool true)) [] (zc 2)) _ _ ⟨rfl,[],rfl⟩ ⟨.ret (.bool true),[],zc 2,QT,rfl,?_,v,rfl,yc (.refl _) rfl hv⟩
 refine ax.cut (σ:=CF) (.refl _) n7 (wa _) (λl hl o ho r=>?_) (kj λy hy=>nomatch hy) Kx
 have hl:l<1:=hl
 obtain rfl:l=0:=jP hl
 rw[t7] at r
 exact lK rfl rfl r
end
abbrev z9: Nat:=128026154263411
noncomputable abbrev dc: Nat:=107
abbrev yf: Nat:=1819043171
noncomputable abbrev y0: Nat:=499850244711
abbrev xt: Nat:=431199119725
noncomputable section
def qY: MS:=cp.body
def Sh: MS:=dW qY
def nN: MS:=dW (cE qY)
def yQ: MS:=dW (cE (cE qY))
def yS: MS:=dW (cE (cE (cE qY)))
noncomputable def oz: MS->ME | .asg _ e=>e | .ret e=>e | _=>.cN
end
theorem zmd: cp.body = .seq Sh (.seq nN (.seq yQ (.seq yS .nil))):=by rfl
theorem yO: Sh = .asg yf (.ite (.cmp (.loc dc) 2 (.call (.glob 7234924 (.bi 0)) (.cons (.loc z9) .nil))) (.idx (.loc z9) (.loc dc)) (.cI (.ofNat 0))):=by rfl
noncomputable def Ff(x:Int):Nat:=if x < -1 - x then (-1 - x).toNat else x.toNat
noncomputable def pn(g:Nat):Nat:=(g % 2147483629+0+0+17) * 48271 % 2147483647
noncomputable def BG(g:Nat):Nat:=if 1000000000000000000<=g then g else 0
section
variable(C:Call)
theorem Mb(x:Int)(v:Value)(σ:AH):(ev (gU []) C (oz nN) [(z9,.con v),(dc,.int 0 (.ofNat 0)),(yf,.int 0 x)]).v σ = .ok (.int 0 (.ofNat (Ff x))) σ:=by
 have e0:(ev (gU []) C (oz nN) [(z9,.con v),(dc,.int 0 (.ofNat 0)),(yf,.int 0 x)]).v σ = B8 [.int 0 x,.int 0 (-1 - x)] σ:=rfl
 have e1:B8 [.int 0 x,.int 0 (-1 - x)] σ = opt (ltQ 0 x 0 (-1 - x)) .stuck (λr=>Res.ok (AV.int (ak r 0 0) (ak r (-1 - x) x)) σ):=rfl
 have e2:ltQ 0 x 0 (-1 - x)=some (ltI x (-1 - x)):=rfl
 rw[e0,e1,e2,JU]
 unfold Ff
 by_cases h:x < -1 - x
 ·rw[if_pos h,decide_eq_true h]
  show Res.ok (AV.int 0 (-1 - x)) σ = _
  rw[show Int.ofNat (-1 - x).toNat = -1 - x from Int.toNat_of_nonneg (by lia)]
 ·rw[if_neg h,decide_eq_false h]
  show Res.ok (AV.int 0 x) σ = _
  rw[show Int.ofNat x.toNat=x from Int.toNat_of_nonneg (by lia)]
def L5: ME:=.bin 4 (.loc y0) (.cI (.ofNat 2147483629))
def Rg: ME:=.bin 2 (.bin 0 (.bin 0 (.bin 0 L5 (.bin 2 (.bin 2 (.cI (.ofNat 7919)) (.loc dc)) (.loc dc))) (.bin 2 (.cI (.ofNat 31)) (.loc dc))) (.cI (.ofNat 17))) (.cI (.ofNat 48271))
theorem Md(g:Nat)(x:Int)(v:Value)(σ:AH):(ev (gU []) C (oz yQ) [(z9,.con v),(dc,.int 0 (.ofNat 0)),(yf,.int 0 x),(y0,.int 0 (.ofNat g))]).v σ = .ok (.int 0 (.ofNat (pn g))) σ:=by
 generalize kU:[(z9,AV.con v),(dc,.int 0 (.ofNat 0)),(yf,.int 0 x),(y0,.int 0 (.ofNat g))] = ρ
 have e1:(ev (gU []) C L5 ρ).v σ = .ok (.int 0 (.ofNat (g % 2147483629))) σ:=by
  subst kU
  show Res.ok (AV.int 0 (Int.fmod (Int.ofNat g) (Int.ofNat 2147483629))) σ = _
  rw[show Int.fmod (Int.ofNat g) (Int.ofNat 2147483629)=Int.ofNat (g % 2147483629) from(Int.ofNat_fmod _ _).symm]
 have e2:(ev (gU []) C Rg ρ).v σ = .ok (.int 0 (.ofNat ((g % 2147483629+0+0+17) * 48271))) σ:=by
  show(((((((ev (gU []) C L5 ρ).v σ).bind λv σ=>((ev (gU []) C (.bin 2 (.bin 2 (.cI (.ofNat 7919)) (.loc dc)) (.loc dc)) ρ).v σ).bind λw σ=>bh 0 v w σ).bind
   λv σ=>((ev (gU []) C (.bin 2 (.cI (.ofNat 31)) (.loc dc)) ρ).v σ).bind λw σ=>bh 0 v w σ).bind λv σ=>(Res.ok (AV.int 0 (.ofNat 17)) σ).bind λw σ=>bh 0 v w σ).bind
   λv σ=>(Res.ok (AV.int 0 (.ofNat 48271)) σ).bind λw σ=>bh 2 v w σ))=_
  rw[e1]
  subst kU
  rfl
 show((ev (gU []) C Rg ρ).v σ).bind (λv σ=>(Res.ok (AV.int 0 (.ofNat 2147483647)) σ).bind λw σ=>bh 4 v w σ)=_
 rw[e2]
 show Res.ok (AV.int 0 (Int.fmod (Int.ofNat ((g % 2147483629+0+0+17) * 48271)) (Int.ofNat 2147483647))) σ = _
 rw[show Int.fmod (Int.ofNat ((g % 2147483629+0+0+17) * 48271)) (Int.ofNat 2147483647)=Int.ofNat ((g % 2147483629+0+0+17) * 48271 % 2147483647) from(Int.ofNat_fmod _ _).symm]
 rfl
noncomputable def Ie: ME:=.bin 5 (.cI (.ofNat 10)) (.cI (.ofNat 18))
def L4: ME:=.cmp (.loc y0) 5 Ie
def Ic: ME:=.call (.glob 7630441 (.bi 8)) (.cons L4 .nil)
def Rh: ME:=.bin 2 (.loc y0) Ic
theorem Lb(g:Nat)(ρ:az)(h:aC ρ y0=some (.int 0 (.ofNat g)))(σ:AH):(ev (gU []) C Rh ρ).v σ = .ok (.int 0 (.ofNat (BG g))) σ:=by
 have e1:(ev (gU []) C (.loc y0) ρ).v σ = .ok (.int 0 (.ofNat g)) σ:=by
  show opt (aC ρ y0) Res.stuck (λv=>.ok v σ)=_
  rw[h];rfl
 have ep:(ev (gU []) C Ie ρ).v σ = .ok (.int 0 (.ofNat 1000000000000000000)) σ:=by rfl
 have e2:(ev (gU []) C L4 ρ).v σ = .ok (.bool (!Nat.blt g 1000000000000000000)) σ:=by
  show(((ev (gU []) C (.loc y0) ρ).v σ).bind λv σ=>((ev (gU []) C Ie ρ).v σ).bind λw σ=>a_ [] 5 v w σ).bind (λx σ=>Res.ok (AV.bool x) σ)=_
  rw[e1]
  show(((ev (gU []) C Ie ρ).v σ).bind λw σ=>a_ [] 5 (.int 0 (.ofNat g)) w σ).bind (λx σ=>Res.ok (AV.bool x) σ)=_
  rw[ep];rfl
 have e3:(ev (gU []) C Ic ρ).v σ = vt (.bool (!Nat.blt g 1000000000000000000)) σ:=by
  show((((ev (gU []) C L4 ρ).v σ).bind λv σ=>(Res.ok [] σ).bind λl σ=>Res.ok (v::l) σ).bind λargs σ=>yX true 8 args σ)=_
  rw[e2];rfl
 show((ev (gU []) C (.loc y0) ρ).v σ).bind (λv σ=>((ev (gU []) C Ic ρ).v σ).bind λw σ=>bh 2 v w σ)=_
 rw[e1]
 show((ev (gU []) C Ic ρ).v σ).bind (λw σ=>bh 2 (.int 0 (.ofNat g)) w σ)=_
 rw[e3]
 unfold BG
 induction hb:Nat.blt g 1000000000000000000 with
 |true=>
  have hl:g<1000000000000000000:=w5 hb
  rw[if_neg (QR (Nat.le_of_lt_succ hl) rfl)]
  show Res.ok (AV.int 0 (Int.ofNat (g * 0))) σ = _
  rw[Nat.mul_zero]
 |false=>
  have hl:1000000000000000000<=g:=by
   apply Nat.le_of_not_lt
   intro z
   rw[show Nat.blt g 1000000000000000000=true from Nat.ble_eq_true_of_le z] at hb
   exact TF hb
  rw[if_pos hl]
  show Res.ok (AV.int 0 (Int.ofNat (g * 1))) σ = _
  rw[Nat.mul_one]
theorem Oz(g b:Nat)(x:Int)(v:Value):(ev (gU []) C (oz yS) [(z9,.con v),(dc,.int 0 (.ofNat 0)),(yf,.int 0 x),(y0,.int 0 (.ofNat g)),(xt,.int 0 (.ofNat b))]).v ⟨0,.leaf⟩ = .ok (.obj 0) ⟨1,.node (Cq (BG g) b) .leaf .leaf⟩:=by
 generalize kU:[(z9,AV.con v),(dc,.int 0 (.ofNat 0)),(yf,.int 0 x),(y0,.int 0 (.ofNat g)),(xt,.int 0 (.ofNat b))] = ρ
 have e1:=Lb C g ρ (by subst kU;rfl) ⟨0,.leaf⟩
 show(((ev (gU []) C Rh ρ).v ⟨0,.leaf⟩).bind λv σ=>(((ev (gU []) C (.loc xt) ρ).v σ).bind λv σ=>(Res.ok [] σ).bind λl σ=>Res.ok (v::l) σ).bind λl σ=>Res.ok (v::l) σ).bind (λl σ=>ye (.list l) σ)=_
 rw[e1]
 subst kU
 rfl
end
noncomputable def cellOf(items:Array Value):Int:=match (items[0]?:Option Value) with
 |some (Value.int x _)=>x
 |_=>0
def rP(items:Array Value):Nat×Nat:=(BG (Ff (cellOf items)),pn (Ff (cellOf items)))
theorem zig(items:Array Value):(rP items).2<bM:=Nat.mod_lt _ (by decide)
section
variable{w:Wo}{q:Program}{tab eK:Nat->Int}
theorem vN(T:TopRead q loose mg mb w.B){C:Call}{n:En}(a:At prog (av w [] [] [] tab) A (WK w.params) (gU []) C false)(EN:dE env L n){la:Addr}{items:Array Value}{y:Expr}(h:bg (WK w.params) false (.ite (.cmp (.loc dc) 2 (.call (.glob 7234924 (.bi 0)) (.cons (.loc z9) .nil))) (.idx (.loc z9) (.loc dc)) (.cI (.ofNat 0))) n (.one y)=true)(hl:∀h':Heap,(∀b o,w.B.get? b=some o->h'.get? b=some o)->h'.IsList la items)(hint:∀(i:Nat) (v:Value),items[i]? = some v->∃x t,v=Value.int x t)(dk:items.size<1000){m:Str->Option Value}(H:HR (av w [] [] [] tab) μ ⟨0,.leaf⟩ s.heap)(FR:cm (av w [] [] [] tab) A μ 0 s.heap L m [(z9,.con (.ref la)),(dc,.int 0 (.ofNat 0))]):
  wpAny (model prog w.toWorld) A (eval y env) (PQ (av w [] [] [] tab) (RV (av w [] [] [] tab)) (.ok (.int 0 (cellOf items)) ⟨0,.leaf⟩) μ ⟨0,.leaf⟩ s) (λ_ _=>False) s:=by
 have w0:=i5 (prog:=prog) (w:=w) (U:=[]) (Pt:=[]) (Rt:=[]) (tab:=tab) T
 generalize kU:([(z9,.con (.ref la)),(dc,.int 0 (.ofNat 0))]:az) = ρ at FR
 refine Ha (zi h) λtt ya yb pos h=>n3 h λhT hA hB=>?_
 refine wpAny_IfExp ?_
 revert hT
 refine λhT=>Y4 (zi (show zu (.one tt) _=true from hT)) λk' op lc p1 hT=>n4 hT λo1 o2 hK hC=>?_
 obtain rfl:CmpOp.Lt=op:=wl (show decide (CmpOp.Lt=op)=true from o1)
 refine wpAny_isTrue_Compare1 ?_ (yr o2)
 refine((bA w0 a EN hK).v μ ⟨0,.leaf⟩ s ρ m H FR).run (b:=.int 0 (.ofNat 0)) (by rw[<-kU];rfl) λv1 s1 cq QZ X1 r1 C3 _=>?_
 refine r1.kI λt1=>?_
 have F1:=FR.on H X1
 refine sF w0 a EN QZ F1 hC (.inl ⟨_,rfl⟩) (l:=[.con (.ref la)]) (ai:=⟨0,.leaf⟩) (by rw[<-kU];rfl) λvs gF s3 H3 X3 rs t_ _=>?_
 refine rs.k1 λv rv=>rv.kC λ_=>?_
 show wpAny _ _ (call (.builtin "len") [.ref la]) _ _ s3
 have F3:=F1.on QZ X3
 refine Calls.call_len_list (items:=items) (hl _ H3.keep) (by simp only[Int.reducePow];lia) ?_
 have ek:(av w [] [] [] tab).off 0+Int.ofNat 0=0:=rfl
 rw[ek]
 refine P.lt_int (wpAny_truthy_bool ?_)
 induction e0:items[0]? with
 |none=>
  have hz:items.size=0:=by rw[Array.getElem?_eq_none_iff] at e0;exact jP (mP e0 rfl)
  rw[decide_eq_false (by lia)]
  show wpAny _ _ (eval yb env) _ _ _
  have ec:cellOf items=0:=by unfold cellOf;rw[e0]
  rw[ec]
  exact((bA w0 a EN hB).v gF ⟨0,.leaf⟩ { s3 with toks:=s3.toks+1+1 } ρ m H3 F3).run rfl λv s4 gc H4 X4 r4 GG _=>PQ.fin (aw:=s4) H4 (X1.trans (X3.trans X4)) (C3.trans (t_.trans (b9.trans (b:={ s3 with toks:=s3.toks+1+1 }) ⟨rfl,rfl,rfl⟩ GG))) rfl r4
 |some v0=>
  refine eQ (hint 0 v0 e0) ?_;rintro x tx rfl
  have hz:0<items.size:=(Array.getElem?_eq_some_iff.mp e0).1
  rw[decide_eq_true (by lia)]
  show wpAny _ _ (eval ya env) _ _ _
  refine HV (zi (show zu (.one ya) _=true from hA)) λys yk py hA=>n3 hA λi1 i2 i3=>?_
  rw[eval_Subscript]
  refine wg (((bA w0 a EN i2).v gF ⟨0,.leaf⟩ { s3 with toks:=s3.toks+1+1 } ρ m H3 F3).run (b:=.con (.ref la)) (by rw[<-kU];rfl) λv5 s5 iJ H5 X5 r5 GH _=>?_)
  refine wg (wi (((bA w0 a EN i3).v iJ ⟨0,.leaf⟩ s5 ρ m H5 (F3.on H3 X5)).run (b:=.int 0 (.ofNat 0)) (by rw[<-kU];rfl) λv6 s6 CD H6 X6 r6 Ac _=>?_))
  refine r5.kC λ_=>r6.kI λt6=>?_
  refine wg (wk ?_)
  rw[ek]
  have qC:=hl _ H6.keep
  have ec:cellOf items=x:=by unfold cellOf;rw[e0]
  have fin:PQ (av w [] [] [] tab) (RV (av w [] [] [] tab)) (.ok (.int 0 (cellOf items)) ⟨0,.leaf⟩) μ ⟨0,.leaf⟩ s (.int x tx) s6:=
   PQ.fin (aw:=s6) H6 (X1.trans (X3.trans (X5.trans X6))) (C3.trans (t_.trans (b9.trans (b:={ s3 with toks:=s3.toks+1+1 }) ⟨rfl,rfl,rfl⟩ (GH.trans Ac)))) rfl (by rw[ec];exact VR.plain x tx)
  have get:=Ht (prog:=prog) (c:=av w [] [] [] tab) (A:=A) (s:=s6) (w:=.int 0 t6) (E:=λ_ _=>False) qC.typeIs slot_list_getitem.lookup (wpAny_getItem_list qC (Int.le_refl 0) (by decide) (x:=.int x tx) e0 fin)
  have e1:(do let ip<-getitemInPython (.ref la);subscripted yk ip (.ref la) (.int 0 t6))=(do let ip<-getitemInPython (.ref la);if ip then runValue (.builtin "lifetime.subscript" ⟨[.ref la,.int 0 t6],[]⟩) else operate [.ref la,.int 0 t6] (getItem (.ref la) (.int 0 t6))):=by
   congr 1;funext ip;exact Vl i1 ip (.ref la) (.int 0 t6)
  rw[<-e1] at get
  have e2:(do
   let r<-subscripted yk (<-getitemInPython (.ref la)) (.ref la) (.int 0 t6)
   letTemporaryGo ys (.ref la) r
   pure r)=((do let ip<-getitemInPython (.ref la);subscripted yk ip (.ref la) (.int 0 t6)) >>= λr=>do letTemporaryGo ys (.ref la) r;pure r):=by
   rw[bind_assoc] at ⊢
  rw[e2]
  exact wg (wj get (λw bQ q=>wg (wpAny_letTemporaryGo (wh q))) λ_ _ q=>q)
end
theorem yP: nN = .asg y0 (oz nN):=by rfl
theorem yR: yQ = .asg xt (oz yQ):=by rfl
theorem yT: yS = .ret (oz yS):=by rfl
section
variable{w:Wo}{q:Program}{tab:Nat->Int}
theorem zlp(T:TopRead q loose mg mb w.B){la:Addr}{items:Array Value}(hl:∀h':Heap,(∀b o,w.B.get? b=some o->h'.get? b=some o)->h'.IsList la items)(hint:∀(i:Nat) (v:Value),items[i]? = some v->∃x t,v=Value.int x t)(dk:items.size<1000)(t1:tab (0+0)=((rP items).1:Int))(t2:tab (0+0+1)=((rP items).2:Int))(hd:A.depth+200<recursionLimit)(hu:A.units+1000<cLine)(hh:A.handled=none){tk:Tok}(H:HR (av w [] [] [] tab) μ ⟨0,.leaf⟩ s.heap)(sk:cX (av w [] [] [] tab) A μ 0 s.heap):
  codeAny (model prog w.toWorld) A (.call (.ref 1770) ⟨[.ref la,.int 0 tk],[]⟩) (RR (av w [] [] [] tab) (.ok (.obj 0) (zc 0)) μ ⟨0,.leaf⟩ s) s:=by
 let c:=av w [] [] [] tab
 refine wo (Hg (ρ:=[(z9,.con (.ref la)),(dc,.int 0 (.ofNat 0))]) (good:=gd c (.obj 0) (zc 0)) T (w9 _) (w9 _) (f:=cp) (by rfl) (gN hd) hh H sk (args:=[.con (.ref la),.int 0 (.ofNat 0)])
  (.cons (.con _ rfl) (.cons (VR.plain 0 tk) .nil)) (by rfl) λA' env L n body s1 hA hU F eH St Q E hQ hE=>?_) λx s' qq=>?_
 case refine_2=>
  refine cps λ_ κ=>?_;refine bw qq ?_;clear qq;rintro c' X ⟨rfl,aI,rfl⟩ qq
  refine κ ?_;clear κ;exact qq
 rw[zmd] at eH
 refine fH eH λu4 b1 h1 ny=>fH ny λu5 b2 h2 nz=>fH nz λC4 b3 h3 pY=>fH pY λAf b4 h4 wJ=>n9 wJ ?_
 refine cps λ_ κ=>?_
 have a:=pI (prog:=prog) (w:=w) (U:=[]) (Pt:=[]) (Rt:=[]) (tab:=tab) (A:=A') (k:=30) T (w9 _) (w9 _) (none_or (prog:=prog)) (eA hA hd rfl) (eA hU hu rfl) F.hh
 have st:=λm=>iE (prog:=prog) (w:=w) (U:=[]) (Pt:=[]) (Rt:=[]) (tab:=tab) (k:=30) T (w9 _) (w9 _) (none_or (prog:=prog)) (eA hA hd rfl) (eA hU hu rfl) F m
 refine κ ?_;clear κ
 rw[yO] at h1
 refine QI (a:=.int 0 (cellOf items)) (ai:=⟨0,.leaf⟩) F.E h1 rfl St (λy m hy F1=>vN (prog:=prog) T a F.E hy hl hint dk St.hr F1) λbV s3 S3=>?_
 let x:=cellOf items
 let g:=Ff x
 let v0:Value:=.ref la
 have e2:ex (gU []) (zn (gU []) O0 30) (y9 (gU []) 3) nN [(z9,.con v0),(dc,.int 0 (.ofNat 0)),(yf,.int 0 x)] ⟨0,.leaf⟩ = .ok .next [(z9,.con v0),(dc,.int 0 (.ofNat 0)),(yf,.int 0 x),(y0,.int 0 (.ofNat g))] ⟨0,.leaf⟩:=by
  rw[yP]
  show((ev (gU []) (zn (gU []) O0 30) (oz nN) [(z9,.con v0),(dc,.int 0 (.ofNat 0)),(yf,.int 0 x)]).v ⟨0,.leaf⟩).bO [(z9,.con v0),(dc,.int 0 (.ofNat 0)),(yf,.int 0 x)] (λv σ=>.ok .next (zd [(z9,.con v0),(dc,.int 0 (.ofNat 0)),(yf,.int 0 x)] y0 v) σ)=_
  rw[Mb];rfl
 have e3:ex (gU []) (zn (gU []) O0 30) (y9 (gU []) 3) yQ [(z9,.con v0),(dc,.int 0 (.ofNat 0)),(yf,.int 0 x),(y0,.int 0 (.ofNat g))] ⟨0,.leaf⟩ = .ok .next [(z9,.con v0),(dc,.int 0 (.ofNat 0)),(yf,.int 0 x),(y0,.int 0 (.ofNat g)),(xt,.int 0 (.ofNat (pn g)))] ⟨0,.leaf⟩:=by
  rw[yR]
  show((ev (gU []) (zn (gU []) O0 30) (oz yQ) [(z9,.con v0),(dc,.int 0 (.ofNat 0)),(yf,.int 0 x),(y0,.int 0 (.ofNat g))]).v ⟨0,.leaf⟩).bO [(z9,.con v0),(dc,.int 0 (.ofNat 0)),(yf,.int 0 x),(y0,.int 0 (.ofNat g))] (λv σ=>.ok .next (zd [(z9,.con v0),(dc,.int 0 (.ofNat 0)),(yf,.int 0 x),(y0,.int 0 (.ofNat g))] xt v) σ)=_
  rw[Md];rfl
 have e4:ex (gU []) (zn (gU []) O0 30) (y9 (gU []) 3) yS [(z9,.con v0),(dc,.int 0 (.ofNat 0)),(yf,.int 0 x),(y0,.int 0 (.ofNat g)),(xt,.int 0 (.ofNat (pn g)))] ⟨0,.leaf⟩ = .ok (.ret (.obj 0)) [(z9,.con v0),(dc,.int 0 (.ofNat 0)),(yf,.int 0 x),(y0,.int 0 (.ofNat g)),(xt,.int 0 (.ofNat (pn g)))] ⟨1,.node (Cq (BG g) (pn g)) .leaf .leaf⟩:=by
  rw[yT]
  show((ev (gU []) (zn (gU []) O0 30) (oz yS) [(z9,.con v0),(dc,.int 0 (.ofNat 0)),(yf,.int 0 x),(y0,.int 0 (.ofNat g)),(xt,.int 0 (.ofNat (pn g)))]).v ⟨0,.leaf⟩).bO [(z9,.con v0),(dc,.int 0 (.ofNat 0)),(yf,.int 0 x),(y0,.int 0 (.ofNat g)),(xt,.int 0 (.ofNat (pn g)))] (λv σ=>.ok (.ret v) [(z9,.con v0),(dc,.int 0 (.ofNat 0)),(yf,.int 0 x),(y0,.int 0 (.ofNat g)),(xt,.int 0 (.ofNat (pn g)))] σ)=_
  rw[Oz];rfl
 refine yp (c:=c) ((st nN).1 u5 h2) S3 e2 λgc s4 _ S4=>yp (c:=c) ((st yQ).1 C4 h3) S4 e3 λiJ s5 _ S5=>?_
 refine Kh (c:=c) ((st yS).1 Af h4) S5 e4 λv CD s6 S6 hv=>hQ c (.ok (.ret (.obj 0)) [] (zc 0)) _ _ ⟨rfl,[],rfl⟩ ⟨.ret (.obj 0),[],zc 0,CD,rfl,?_,v,rfl,hv⟩
 refine ax.cut (σ:=⟨1,.node (Cq (BG g) (pn g)) .leaf .leaf⟩) (.refl _) (wa _) (w9 _) (λl hl o ho r=>?_) (kj λy hy=>nomatch hy) S6
 have hl:l<1:=hl
 obtain rfl:l=0:=jP hl
 exact Wn (c:=c) (c':=c) (k:=0) t1 t2 r
end
noncomputable section
def Ei: MS:=pV.body
def Ef: MS:=dW Ei
def Eg: MS:=dW (cE Ei)
def RQ: MS:=dW (cE (cE Ei))
def ID: MS:=dW (cE (cE (cE Ei)))
def IE: MS:=dW (cE (cE (cE (cE Ei))))
def yV(args:List AV)(σ:AH):Res AV:=Fg 0 [(OL,33),(OM,kB)] args σ
def sd: ia:=λa args σ=>ak (Nat.beq a 1791) (some (yV args σ)) none
def oM: ia:=l6 (l3 1819 0 1 (.bool true)) (l6 (l3 1826 1 2 (.bool true)) (l6 (l3 1831 2 3 (.bool true)) (l6 (l3 1819 3 4 (.bool true)) (l6 (l3 1826 4 5 (.bool true)) (l3 1831 5 6 (.bool true))))))
def lwQ: Bool:=Bi (dI oM ID [(zj,.obj 0)] (zc 0)) λρ σ=>QM (dI oM IE ρ σ) (.bool true) λ_ σ=>Nat.ble 1 σ.n&&jo 6 (σ.get 0)
theorem ZZ: lwQ=true:=by decide +kernel
end
noncomputable def mX(d:Nat):Bool:=(fB [2,3]).all λr=>qR (.bool true) 3 (zn (gU []) (dM ((8,d)::r)) 30 1826 [.obj 0] (zc 0))
set_option maxHeartbeats 20000000
theorem Z_: mX 0=true:=by
 delta mX
 iterate 6 refine jj (by decide +kernel) ?_
 rfl
theorem Z': mX 1=true:=by
 delta mX
 iterate 6 refine jj (by decide +kernel) ?_
 rfl
theorem aS: mX 2=true:=by
 delta mX
 iterate 6 refine jj (by decide +kernel) ?_
 rfl
theorem QX: mX 3=true:=by
 delta mX
 iterate 6 refine jj (by decide +kernel) ?_
 rfl
theorem Yd: mX 4=true:=by
 delta mX
 iterate 6 refine jj (by decide +kernel) ?_
 rfl
theorem M9: mX 5=true:=by
 delta mX
 iterate 6 refine jj (by decide +kernel) ?_
 rfl
theorem kM6: mX 6=true:=by
 delta mX
 iterate 6 refine jj (by decide +kernel) ?_
 rfl
theorem kM7: mX 7=true:=by
 delta mX
 iterate 6 refine jj (by decide +kernel) ?_
 rfl
theorem LS: ((fB [2,3,3]).all λds=>qR (.bool true) 3 (zn (gU []) (dM ds) 30 1831 [.obj 0] (zc 0)))=true:=by decide +kernel
noncomputable section
def HH(v:Value):XR:=(dI sd Ef [(z9,.con v)] ⟨0,.leaf⟩).seq (dI sd Eg)
noncomputable def tn: XR->Bool
 |.ok .next _ σ=>Nat.beq σ.n 0
 |_=>false
def tY: XR->Option AV
 |.ok .next ρ _=>aC ρ z9
 |_=>none
theorem ZW: (λv=>tn (HH v)) = λ_=>true:=by kernel_rfl
theorem ZX: (λv=>tY (HH v)) = λv=>some (.con v):=by kernel_rfl
noncomputable def dS(p:Nat×Nat):Nat->Nat×Nat
 |0=>p
 |k+1=>if k % 3=0 then rK (dS p k) else if k % 3=1 then bN (dS p k) [8,2,3] else bN (dS p k) [2,3,3]
def yz(p:Nat×Nat)(j:Nat):Int:=if j % 2=0 then ((dS p (j / 2)).1:Int) else ((dS p (j / 2)).2:Int)
end
theorem B2(p:Nat×Nat)(k:Nat):yz p (k+k)=((dS p k).1:Int):=by
 unfold yz
 rw[if_pos (by lia),show(k+k) / 2=k by lia]
theorem AZ(p:Nat×Nat)(k:Nat):yz p (k+k+1)=((dS p k).2:Int):=by
 unfold yz
 rw[if_neg (by lia),show(k+k+1) / 2=k by lia]
theorem zn0{p:Nat×Nat}(h:p.2<bM):(rK p).2<bM:=xg _ (xg _ (xg _ (WS h)))
theorem JZ{p:Nat×Nat}(h:p.2<bM):∀k,(dS p k).2<bM
 |0=>h
 |k+1=>by
  have:=JZ h k
  unfold dS
  split
  ·exact zn0 this
  ·split
   ·exact xg _ this
   ·exact xg _ this
theorem Ej: pV.body = .seq Ef (.seq Eg (.seq RQ (.seq ID (.seq IE .nil)))):=by rfl
theorem xC: RQ = .asg zj (.call (.glob 2000278120176583535711 (.con (.ref 1770))) (.cons (.loc z9) (.cons (.cI (.ofNat 0)) .nil))):=by rfl
theorem zkg{t:Nat}{ts:List Nat}{ds:List (Nat×Nat)}(h:ds∈fB (t::ts)):∃d r,d<t/\r∈fB ts/\ds=(t,d)::r:=by
 unfold fB at h
 refine au (List.mem_flatMap.mp h) λd hd hm=>?_
 refine au (List.mem_map.mp hm) λr hr e=>?_
 exact Bq d r (List.mem_range.mp hd) hr e.symm
theorem vO{d:Nat}(h:mX d=true){r:List (Nat×Nat)}(hr:r∈fB [2,3]):qR (.bool true) 3 (zn (gU []) (dM ((8,d)::r)) 30 1826 [.obj 0] (zc 0))=true:=by
 unfold mX at h
 exact w6.mp h r hr
theorem zlq{d:Nat}(h:d<8):mX d=true:=by
 match d,h with
 |0,_=>exact Z_
 |1,_=>exact Z'
 |2,_=>exact aS
 |3,_=>exact QX
 |4,_=>exact Yd
 |5,_=>exact M9
 |6,_=>exact kM6
 |7,_=>exact kM7
theorem LR: ((fB [8,2,3]).all λds=>qR (.bool true) 3 (zn (gU []) (dM ds) 30 1826 [.obj 0] (zc 0)))=true:=by
 refine w6.mpr λds Bz=>?_
 refine dC (zkg Bz) ?_;rintro d r hd hr rfl
 exact vO (zlq hd) hr
theorem Mm{t:Nat}(h:t∈[8,2,3]):cB t:=by
 simp at h
 rcases h with rfl | rfl | rfl
 ·exact .inr (.inr (.inr (.inr (.inl rfl))))
 ·exact .inl rfl
 ·exact .inr (.inl rfl)
theorem Mn{t:Nat}(h:t∈[2,3,3]):cB t:=by
 simp at h
 rcases h with rfl | rfl
 ·exact .inl rfl
 ·exact .inr (.inl rfl)
section
variable{w:Wo}{q:Program}{p:Nat×Nat}
theorem tf(T:TopRead q loose mg mb w.B)(hp:p.2<bM){k:Nat}(hk:k % 3=0):rQ prog (av w [] [] [] (yz p)) 1819 k (k+1) (.bool true) 500 3000:=λA hd hu hh μ s H sk=>by
 have hm:=JZ hp k
 have e1:dS p (k+1)=rK (dS p k):=by
  show(if k % 3=0 then rK (dS p k) else _)=_
  rw[if_pos hk]
 have H':HR (av w [] [] [] (rX (dS p k) (xk (dS p k)))) μ (zc 0) s.heap:=HR.cut (σ:=zc k) (ai:=zc 0) (z7 ..) (wa _) (λl hl o ho ro=>by
  have hl:l<1:=hl
  obtain rfl:l=0:=jP hl
  exact lK (c:=av w [] [] [] (yz p)) (c':=av w [] [] [] (rX (dS p k) (xk (dS p k)))) (k:=k) (k':=0) (B2 p k).symm (AZ p k).symm ro) H
 refine wo (zjp (prog:=prog) T hm hd hu hh H' (sk.cut (z7 ..) (wa _))) λz s' qq=>RR.fp (c:=av w (zy (dS p k)) [] [] (zp (jL (dS p k)) [5,2])) (σ:=zc 0) (aE:=zc 2) (v:=.bool true) (λa=>PQ.cut (z7 ..) rfl (wa _) (wa _) (λaj l hl o ho ro=>?_) λaj x hx=>yc (z7 ..) rfl hx) qq
 have hl:l<1:=hl
 obtain rfl:l=0:=jP hl
 refine lK (c:=av w (zy (dS p k)) [] [] (zp (jL (dS p k)) [5,2])) (c':=av w [] [] [] (yz p)) (k:=2) (k':=k+1) ?_ ?_ ro
 ·exact(B2 p (k+1)).trans (by rw[e1];exact(yo (jL (dS p k)) [5,2] 2).symm)
 ·exact(AZ p (k+1)).trans (by rw[e1];exact(yn (jL (dS p k)) [5,2] 2).symm)
theorem tc(T:TopRead q loose mg mb w.B)(hp:p.2<bM){k:Nat}(hk:k % 3=1):rQ prog (av w [] [] [] (yz p)) 1826 k (k+1) (.bool true) 150 1000:=by
 have e1:dS p (k+1)=bN (dS p k) [8,2,3]:=by
  show(if k % 3=0 then _ else if k % 3=1 then bN (dS p k) [8,2,3] else _)=_
  rw[if_neg (Kr (uX hk.symm (Nat.le_refl _))),if_pos hk]
 exact Hk (prog:=prog) (us:=[8,2,3]) (f:=λ_=>.bool true) T (λt h=>Mm h) LR (JZ hp k) (B2 p k) (AZ p k) (by rw[B2,e1]) (by rw[AZ,e1])
theorem td(T:TopRead q loose mg mb w.B)(hp:p.2<bM){k:Nat}(hk:k % 3=2):rQ prog (av w [] [] [] (yz p)) 1831 k (k+1) (.bool true) 150 1000:=by
 have e1:dS p (k+1)=bN (dS p k) [2,3,3]:=by
  show(if k % 3=0 then _ else if k % 3=1 then _ else bN (dS p k) [2,3,3])=_
  rw[if_neg (Kr (uW hk (Nat.succ_pos _))),if_neg (Nat.ne_of_gt (uX hk.symm (Nat.le_refl _)))]
 exact Hk (prog:=prog) (us:=[2,3,3]) (f:=λ_=>.bool true) T (λt h=>Mn h) LS (JZ hp k) (B2 p k) (AZ p k) (by rw[B2,e1]) (by rw[AZ,e1])
theorem EG(T:TopRead q loose mg mb w.B)(hp:p.2<bM):cG prog (av w [] [] [] (yz p)) (WK w.params) oM 500 3000:=by
 have kT:=j0 T (f:=aW) (a:=1819) (by rfl)
 have kM:=j0 T (f:=Vg) (a:=1826) (by rfl)
 have kN:=j0 T (f:=Vh) (a:=1831) (by rfl)
 exact ph (pg (by rfl) kT (tf T hp (k:=0) rfl)) (ph (jg (pg (by rfl) kM (tc T hp (k:=1) rfl)) (dQ rfl) (dQ rfl)) (ph (jg (pg (by rfl) kN (td T hp (k:=2) rfl)) (dQ rfl) (dQ rfl))
  (ph (pg (by rfl) kT (tf T hp (k:=3) rfl)) (ph (jg (pg (by rfl) kM (tc T hp (k:=4) rfl)) (dQ rfl) (dQ rfl)) (jg (pg (by rfl) kN (td T hp (k:=5) rfl)) (dQ rfl) (dQ rfl))))))
theorem zm5(h:yV args σ≠.stuck):∃t k,args=[.str 0 t]/\(∀l,l < σ.n->∃x,σ.get l = .list x)/\(t,k)∈[(OL,33),(OM,kB)]/\yV args σ = .ok (.int 0 (.ofNat k)) σ:=Y1 h
theorem yN(T:TopRead q loose mg mb w.B):cG prog (av w [] [] [] (yz p)) (WK w.params) sd 350 2000 where
 keep a args σ r e:=by
  unfold sd at e
  refine oA (zg e) λea e=>?_
  rw[Nat.eq_of_beq_eq_true ea]
  exact j0 T (f:=OZ) (by rfl)
 call A hd hu hh μ σ s a args vs r e H sk rv ns:=by
  unfold sd at e
  refine oA (zg e) λea e=>?_
  obtain rfl:=w3 e
  obtain rfl:=w4 ea
  refine sr (zm5 ns) ?_;rintro t k rfl hl hm er
  rw[er]
  cases rv with
  |cons r0 rr=>
  cases rr
  cases r0 with
  |str _ _ tok=>
  have H0:HR (av w [] [] (UU 3) t0) μ ⟨0,.leaf⟩ s.heap:=HR.cut (σ:=σ) (ai:=⟨0,.leaf⟩) (z7 ..) (w9 _) (λl hl=>w1 hl (Nat.not_lt_zero _)) H
  have pk:uy prog w [] t k:=by
   rcases w8.mp hm with z | hm
   ·cases z
    exact PD (bF:=[]) T L_ (by decide) ⟨_,rfl⟩ (λ_ h=>nomatch h) (w9 _) rfl
   rcases w8.mp hm with z | hm
   ·cases z
    exact PD (bF:=[]) T M0 (by decide) ⟨_,rfl⟩ (λ_ h=>nomatch h) (w9 _) rfl
   ·cases hm
  refine oE (pk A hd hu hh μ s tok H0 (sk.cut (z7 ..) (w9 _))) λaE vS=>?_
  exact wo vS λz s' qq=>RR.fp (c':=av w [] [] [] (yz p)) (iL:=σ) (dZ:=σ) (v':=.int 0 (.ofNat k)) (λa=>PQ.widen (z7 ..) rfl H hl λaj x hx=>by
   cases hx with
   |int _ _ tt=>exact VR.int (c:=av w [] [] [] (yz p)) 0 (.ofNat k) tt) qq
end
theorem xD(v:Value):∃fe ff jV i8,dI sd Ef [(z9,.con v)] ⟨0,.leaf⟩ = .ok .next fe ff/\dI sd Eg fe ff = .ok .next jV i8/\aC jV z9=some (.con v)/\i8.n=0:=by
 have h1:tn (HH v)=true:=congrFun ZW v
 have h2:tY (HH v)=some (.con v):=congrFun ZX v
 refine cps λ_ κ=>?_;induction e:HH v with
 |ok fl ρ σ=>
  rw[e] at h1 h2
  induction fl with
  |next=>
   refine bw (JQ (show(dI sd Ef [(z9,.con v)] ⟨0,.leaf⟩).seq (dI sd Eg) = .ok .next ρ σ from e)) λfe ff ea eb=>?_
   refine κ ?_;clear κ;exact⟨fe,ff,ρ,σ,ea,eb,h2,w4 h1⟩
  |cont=>exact FT h1
  |ret _=>exact FT h1
 |exc l ρ σ=>rw[e] at h1;exact FT h1
 |stuck=>rw[e] at h1;exact FT h1
theorem zlu: ∃fe ff jV i8,dI oM ID [(zj,.obj 0)] (zc 0) = .ok .next fe ff/\dI oM IE fe ff = .ok (.ret (.bool true)) jV i8/\1<=i8.n/\i8.get 0=xi 6:=by
 refine bw (Cz ZZ) λfe ff ea h=>?_
 refine bw (XM h) λjV i8 eb h=>?_
 exact n2 h λk1 k2=>⟨fe,ff,jV,i8,ea,eb,w5 k1,AX k2⟩
section
variable{w:Wo}{q:Program}
theorem xA(T:TopRead q loose mg mb w.B){la:Addr}{items:Array Value}(hl:∀h':Heap,(∀b o,w.B.get? b=some o->h'.get? b=some o)->h'.IsList la items)(hint:∀(i:Nat) (v:Value),items[i]? = some v->∃x t,v=Value.int x t)(dk:items.size<1000)(hd:A.depth+610<recursionLimit)(hu:A.units+4000<cLine)(hh:A.handled=none)(H:HR (av w [] [] [] (yz (rP items))) μ ⟨0,.leaf⟩ s.heap)(sk:cX (av w [] [] [] (yz (rP items))) A μ 0 s.heap):
  codeAny (model prog w.toWorld) A (.call (.ref 1838) ⟨[.ref la],[]⟩) (RR (av w [] [] [] (yz (rP items))) (.ok (.bool true) (zc 6)) μ ⟨0,.leaf⟩ s) s:=by
 let p:=rP items
 have hp:p.2<bM:=zig items
 let c:=av w [] [] [] (yz p)
 refine wo (Hg (ρ:=[(z9,.con (.ref la))]) (good:=gd c (.bool true) (zc 6)) T (w9 _) (w9 _) (f:=pV) (by rfl) (gN hd) hh H sk (args:=[.con (.ref la)])
  (.cons (.con _ rfl) .nil) (by rfl) λA' env L n body s1 hA hU F eH St Q E hQ hE=>?_) λx s' qq=>?_
 case refine_2=>
  refine cps λ_ κ=>?_;refine bw qq ?_;clear qq;rintro c' X ⟨rfl,aI,rfl⟩ qq
  refine κ ?_;clear κ;exact qq
 rw[Ej] at eH
 refine fH eH λu4 b1 h1 ny=>fH ny λu5 b2 h2 nz=>fH nz λC4 b3 h3 pY=>fH pY λAf b4 h4 wJ=>fH wJ λC5 b5 h5 Dw=>n9 Dw ?_
 refine cps λ_ κ=>?_
 have w0:=i5 (prog:=prog) (w:=w) (U:=[]) (Pt:=[]) (Rt:=[]) (tab:=yz p) T
 have o0:=yN (prog:=prog) (w:=w) (p:=p) T
 have Vb:=λm=>iE (prog:=prog) (w:=w) (U:=[]) (Pt:=[]) (Rt:=[]) (tab:=yz p) (k:=30) T (w9 _) (w9 _) o0 (eA hA hd rfl) (eA hU hu rfl) F m
 refine eQ (xD (.ref la)) λfe ff q9=>?_;refine sr q9 λjV i8 ea eb gs nb=>?_
 refine κ ?_;clear κ;refine yp (c:=c) ((Vb Ef).1 u4 h1) St ea λbV s2 _ S2=>yp (c:=c) ((Vb Eg).1 u5 h2) S2 eb λgF s3 _ S3=>?_
 have S4:ax c A' μ 0 s L gF ⟨0,.leaf⟩ [(z9,.con (.ref la))] s3:=by
  refine ax.cut (σ:=i8) (ρ:=jV) (.refl _) (w9 _) (wa _) (λl hl o ho r=>w1 hl (Nat.not_lt_zero _)) (kj (gL ⟨_,gs,λx r=>yc (.refl _) rfl r⟩ sf)) S3
 have a:=pI (prog:=prog) (w:=w) (U:=[]) (Pt:=[]) (Rt:=[]) (tab:=yz p) (A:=A') (k:=30) T (w9 _) (w9 _) (none_or (prog:=prog)) (eA hA hd rfl) (eA hU hu rfl) F.hh
 rw[xC] at h3
 refine QI (a:=.obj 0) (ai:=zc 0) F.E h3 rfl S4 (λy m hy F4=>?_) λiJ s6 S6=>?_
 ·refine D4 w0 a F.E S4.hr F4 hy (j0 T (f:=cp) (by rfl)) (l:=[.con (.ref la),.int 0 (.ofNat 0)]) (ai:=⟨0,.leaf⟩) rfl λvs CD s6 H6 F6 X6 rs Ac=>?_
  refine rs.k2 λv1 v2 rv OA=>rv.kC λ_=>OA.kI λtk=>?_
  have vS:=zlp (prog:=prog) (w:=w) (tab:=yz p) T hl hint dk (B2 p 0) (AZ p 0) (A:=A') (Bo hA hd rfl) (Bo hU hu rfl) F.hh (tk:=tk) H6 F6.fG
  refine wpAny_call (wo vS λx s7 qq=>?_)
  induction x with
  |error e=>refine dY qq λl _ _ z _=>?_;contradiction
  |ok f=>induction f with
   |ret v=>exact PQ.later X6 Ac qq
   |_=>exact qq.elim
 have S7:ax c A' μ 0 s L iJ (zc 0) [(zj,.obj 0)] s6:=by
  refine ax.cut (σ:=zc 0) (.refl _) (wa _) (w9 _) (λl hl o ho r=>r) (kj (gL ⟨.obj 0,rfl,λx r=>r⟩ sf)) S6
 have oMM:=EG (prog:=prog) (w:=w) (p:=p) T hp
 have stM:=λm=>iE (prog:=prog) (w:=w) (U:=[]) (Pt:=[]) (Rt:=[]) (tab:=yz p) (k:=30) T (w9 _) (w9 _) oMM (eA hA hd rfl) (eA hU hu rfl) F m
 refine cps λ_ κ=>?_;refine eQ zlu λmI dq q9=>?_;refine sr q9 λYb jW e4 e5 n5 t5=>?_
 refine κ ?_;clear κ;refine yp (c:=c) ((stM ID).1 Af h4) S7 e4 λμ7 s7 _ S8=>?_
 refine Kh (c:=c) ((stM IE).1 C5 h5) S8 e5 λv QT s8 Kx hv=>hQ c (.ok (.ret (.bool true)) [] (zc 6)) _ _ ⟨rfl,[],rfl⟩ ⟨.ret (.bool true),[],zc 6,QT,rfl,?_,v,rfl,yc (.refl _) rfl hv⟩
 refine ax.cut (σ:=jW) (.refl _) n5 (w9 _) (λl hl o ho r=>?_) (kj λy hy=>nomatch hy) Kx
 have hl:l<1:=hl
 obtain rfl:l=0:=jP hl
 rw[t5] at r
 exact lK rfl rfl r
end
theorem zju{args:List WData}(h:rw0.row.toRowW.claim.pre args=true):∃xs,args=[.list xs]/\xs.length<=63/\WShape.hasItems [] xs .int=true:=by
 have h:(WShape.hasAll [] args [.list .int]&&WTm.holds [] (.and (.not (.lt (.lit (.int 63)) (.len (.arg 0)))) (.lit (.bool true))) { args:=args })=true:=h
 refine n2 h λh1 h2=>?_
 induction args using lC with
 |nil=>exact FT h1
 |cons d ds=>
  refine n2 (show(WShape.has [] d (.list .int)&&WShape.hasAll [] ds [])=true from h1) λh3 h4=>?_
  induction ds using lC with
  |cons _ _=>exact FT h4
  |nil=>
   induction d using WData.casesOn with
   |list xs=>
    refine mH xs rfl ?_ ((Bool.or_false _).symm.trans h3)
    by_cases q:(63:Int)<(xs.length:Int)
    ·have h2:WTm.holds [] (.and (.not (.lit (.bool (decide ((63:Int)<(xs.length:Int)))))) (.lit (.bool true))) { args:=[.list xs] } = true:=h2
     rw[decide_eq_true q] at h2
     exact FT h2
    ·omega
   |_=>exact FT h3
theorem zf4{R:WRecords}{cl:Str->Option Addr}{xs:List WData}{as:List Addr}(hh:WShape.hasItems [] xs .int=true)(r:ReadsAllW R cl h vs xs as):vs.length=xs.length/\∀v∈vs,∃x t,v=Value.int x t:=by
 induction xs generalizing vs as with
 |nil=>cases r;exact⟨rfl,λ_ h=>nomatch h⟩
 |cons x xs ih=>
  refine n2 (show(WShape.has [] x .int&&WShape.hasItems [] xs .int)=true from hh) λh1 h2=>?_
  cases r with
  |cons r0 rr=>
   refine oA (ih h2 rr) λi1 i2=>?_
   refine⟨congrArg (·+ 1) i1,λv hv=>(w8.mp hv).elim (λe=>?_) (i2 v)⟩
   induction x using WData.casesOn with
   |int i=>cases r0 with | int _ t=>exact⟨i,t,e⟩
   |_=>exact FT h1
theorem trim(h:Heap):∀n:Nat,(∀b:Nat,n<=b->h.get? b=none)->(∃b o,h.get? b=some o)->∃B:Heap,(∀b,B.get? b=h.get? b)/\∃o,B.get? (B.objs.size - 1)=some o
 |0,hn,⟨b,o,e⟩=>by rw[hn b (Nat.zero_le _)] at e;exact NS e
 |n+1,hn,he=>by
  induction q:h.get? n with
  |none=>
   refine trim h n (λb hb=>?_) he
   rcases Nat.eq_or_lt_of_le hb with e | e
   ·rw[<-e];exact q
   ·exact hn b e
  |some o=>
   have iZ:n<h.objs.size:=Heap.lt_size q
   generalize dk:h.objs.size=sz at iZ
   have key:∀b,(⟨(h.objs.toList.take (n+1)).toArray,h.life⟩:Heap).get? b=h.get? b:=λb=>by
    rcases Nat.lt_or_ge b (n+1) with e | e
    ·unfold Heap.get?
     rw[List.getElem?_toArray,List.getElem?_take_of_lt e,Array.getElem?_toList]
    ·rw[hn b e]
     unfold Heap.get?
     rw[List.getElem?_toArray,List.getElem?_eq_none (Nat.le_trans (by rw[List.length_take];exact Nat.min_le_left _ _) e)]
   refine⟨_,key,o,?_⟩
   have hs:(⟨(h.objs.toList.take (n+1)).toArray,h.life⟩:Heap).objs.size - 1=n:=by
    show((h.objs.toList.take (n+1)).toArray).size - 1=n
    rw[List.size_toArray,List.length_take,Array.length_toList,dk,Nat.min_eq_left iZ];rfl
   rw[hs,key];exact q
theorem LQ: (λ(P:Params)=>nsIn (KP P) mainGlobals "law"==some (some (.ref 1838))) = λ_=>true:=by kernel_rfl
theorem GB: same (.bool true) (.bool true)=true:=by decide +kernel
theorem walk0(d:DefRec)(kwd:List (Str×Expr))(hd:defOf q0 ("law":Str)=some (d,kwd)):WalkO q0 HA (λ_ _=>True) sy rw0.row.toRowW d kwd λf vs=>PySem.call f vs:=by
 intro w aa aw mg mb G Y a o pm cd doc dV kV ho Rp Rn hdf Lv DJ args vals as nG Zk wO RG Zl
 refine dR (zju nG) ?_;rintro xs rfl hlen hint
 cases wO with
 |@cons v vs _ _ as1 as2 r1 r2=>
 cases r2 with
 |nil=>
 cases r1 with
 |@list la ol items n _ asl e1 e2 e3 r3=>
 refine oA (zf4 hint r3) λhl hints=>?_
 refine au (trim aw.heap aw.heap.objs.size (λb hb=>by
  unfold Heap.get?
  rw[Array.getElem?_eq_none hb]) ⟨a,o,ho⟩) λB hB dK=>?_
 have k1:∀b o,aw.heap.get? b=some o->B.get? b=some o:=λb o e=>(hB b).trans e
 have k2:∀b o,B.get? b=some o->aw.heap.get? b=some o:=λb o e=>(hB b).symm.trans e
 let w':Wo:={ toWorld:=w,B:=B,sub:=λb o e=>k1 b o (Y b o e),top:=dK }
 have T:TopRead q0 _ mg mb w'.B:=(topRead_of G.T).keeps k1
 have hn:d.name = "law":=defOf_name hd
 rw[hn] at Lv
 have YN:mg "law" = some (.ref 1838):=mg_of ((RM w.params).keeps Y) (topRead_of G.T).g (by simpa using congrFun LQ w.params)
 rw[YN] at Lv
 cases Lv
 have H:HR (av w' [] [] [] (yz (rP items))) (λ_=>0) ⟨0,.leaf⟩ aw.heap:=⟨k2,λl hl=>w1 hl (Nat.not_lt_zero _),λi j hi=>w1 hi (Nat.not_lt_zero _),λi hi=>w1 hi (Nat.not_lt_zero _)⟩
 have sk:cX (av w' [] [] [] (yz (rP items))) callerA (λ_=>0) 0 aw.heap:=⟨[],rfl,trivial,λe he=>nomatch he⟩
 have vS:=xA (prog:=rw0.row.toRowW.prog) (w:=w') T (la:=la) (items:=items) (λh' k=>⟨ol,k _ _ (k1 _ _ e1),e2,n,e3⟩)
  (λi v e=>hints v (List.mem_of_getElem? (by rw[Array.getElem?_toList];exact e)))
  (by have:items.size=xs.length:=by rw[<-hl,Array.length_toList]
      exact mP (uX this hlen) rfl)
  (A:=callerA) (by decide) (by decide) rfl H sk
 refine wpAny_call (wo vS λx s' qq=>?_)
 induction x with
 |error e=>refine dY qq λl _ _ z _=>?_;contradiction
 |ok f=>induction f with
  |ret v=>
   refine lN qq λb ai aj z H' X' r' sm=>?_
   cases z
   cases r'
   refine nH (.inl ⟨.bool true,.bool true,[],rfl,λcls=>rfl,.bool true,?_,λ_=>⟨.nil,λa h=>nomatch h⟩⟩) (.of_keep λb o e=>H'.keep b o (k1 b o e)) sm.2.2 (.of_eq (sm.1.trans DJ))
   exact(congrArg (λb=>WTm.holds [] (.lit (.bool b)) { args:=[] }) GB:_)
  |_=>exact qq.elim
end
theorem holds0(said:rw0.row.wellSaid=true):rw0.row.Holds:=head0 said fun d kwd h=>walk0 d kwd h
set_option maxHeartbeats 8000000 in
open PySem.W in
theorem said0:rw0.wellSaid=true:=by
 delta OpenLaw.wellSaid OpenRow.wellSaid OpenRow.partSaid looksOpen
 repeat' with_reducible refine look_both ?_ ?_
 all_goals decide +kernel
end
end Mine
theorem PySem.Challenge.cw_zu0054_01_holds : PySem.Challenge.rw_zu0054_01.Holds := by
  exact PySem.W.holds_law (l := Mine.rw0) Mine.said0 Mine.holds0
