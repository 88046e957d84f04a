import PyProof.Rows.All
import Wide.All
import OpenK.AllK
import Wide.FinOn
import Lean
import PySem.Challenge.RW_pb0463_01
set_option Elab.async false
set_option linter.all false
set_option maxRecDepth 100000
set_option maxHeartbeats 4000000
set_option genSizeOf false
set_option genInjectivity false
set_option compiler.extract_closed false
local macro_rules (kind := Lean.Parser.Command.declaration)
  | s => do
    if s.getPos?.isNone then Lean.Macro.throwUnsupported
    let s := s.rewriteBottomUp (·.setInfo .none)
    if (s[1].isOfKind `Lean.Parser.Command.definition || s[1].isOfKind `Lean.Parser.Command.abbrev) && s[0][4].getNumArgs == 0 then
      return s.setArg 0 (s[0].setArg 4 (Lean.mkNullNode #[.node .none `Lean.Parser.Command.noncomputable #[Lean.mkAtom "noncomputable"]]))
    return s
local macro_rules
  | `(⋯) => `(by kernel_rfl)
  | `(∅) => `(by decide)
namespace Mo
universe u
@[elab_as_elim] theorem as7 {d:Sort u} {a b:d} {motive:d->Prop} (h:a=b) (m:motive b):motive a:=h▸m
@[elab_as_elim] theorem as8 {d:Sort u} {b a:d} {motive:d->Prop} (h:b=a) (m:motive b):motive a:=h▸m
@[elab_as_elim] theorem as9 {a b:Prop} {motive:Prop->Prop} (h:a<->b) (m:motive b):motive a:=propext h▸m
@[elab_as_elim] theorem ata {b a:Prop} {motive:Prop->Prop} (h:b<->a) (m:motive b):motive a:=propext h▸m
section
variable {G A B C D E F H I J K L M:Prop}
theorem fp (h:A/\B) (f:A->B->G):G:=f h.1 h.2
theorem DX (N:A) (a:B):A/\B:=⟨N,a⟩
theorem dp (h:A/\B/\C) (f:A->B->C->G):G:=fp h.2 (f h.1)
theorem bv (N:A) (a:B) (b:C):A/\B/\C:=⟨N,DX a b⟩
theorem jE (h:A/\B/\C/\D) (f:A->B->C->D->G):G:=dp h.2 (f h.1)
theorem dd (N:A) (a:B) (b:C) (c:D):A/\B/\C/\D:=⟨N,bv a b c⟩
theorem n5 (h:A/\B/\C/\D/\E) (f:A->B->C->D->E->G):G:=jE h.2 (f h.1)
theorem i8 (N:A) (a:B) (b:C) (c:D) (d:E):A/\B/\C/\D/\E:=⟨N,dd a b c d⟩
theorem lR (h:A/\B/\C/\D/\E/\F) (f:A->B->C->D->E->F->G):G:=n5 h.2 (f h.1)
theorem gu (N:A) (a:B) (b:C) (c:D) (d:E) (e:F):A/\B/\C/\D/\E/\F:=⟨N,i8 a b c d e⟩
theorem uw (h:A/\B/\C/\D/\E/\F/\H) (f:A->B->C->D->E->F->H->G):G:=lR h.2 (f h.1)
theorem ux (N:A) (a:B) (b:C) (c:D) (d:E) (e:F) (G:H):A/\B/\C/\D/\E/\F/\H:=⟨N,gu a b c d e G⟩
theorem Pg (h:A/\B/\C/\D/\E/\F/\H/\I) (f:A->B->C->D->E->F->H->I->G):G:=uw h.2 (f h.1)
theorem Ph (N:A) (a:B) (b:C) (c:D) (d:E) (e:F) (G:H) (O:I):A/\B/\C/\D/\E/\F/\H/\I:=⟨N,ux a b c d e G O⟩
theorem DY (h:A/\B/\C/\D/\E/\F/\H/\I/\J) (f:A->B->C->D->E->F->H->I->J->G):G:=Pg h.2 (f h.1)
theorem uy (N:A) (a:B) (b:C) (c:D) (d:E) (e:F) (G:H) (O:I) (g:J):A/\B/\C/\D/\E/\F/\H/\I/\J:=⟨N,Ph a b c d e G O g⟩
theorem Pi (h:A/\B/\C/\D/\E/\F/\H/\I/\J/\K) (f:A->B->C->D->E->F->H->I->J->K->G):G:=DY h.2 (f h.1)
theorem rO (N:A) (a:B) (b:C) (c:D) (d:E) (e:F) (G:H) (O:I) (g:J) (f:K):A/\B/\C/\D/\E/\F/\H/\I/\J/\K:=⟨N,uy a b c d e G O g f⟩
theorem Pj (N:A) (b:B) (c:C) (d:D) (e:E) (h:F) (G:H) (O:I) (g:J) (f:K) (a:L):A/\B/\C/\D/\E/\F/\H/\I/\J/\K/\L:=⟨N,rO b c d e h G O g f a⟩
theorem xU (N:A) (c:B) (d:C) (e:D) (h:E) (i:F) (G:H) (O:I) (g:J) (f:K) (a:L) (b:M):A/\B/\C/\D/\E/\F/\H/\I/\J/\K/\L/\M:=⟨N,Pj c d e h i G O g f a b⟩
end
section
variable {G:Prop} {a:Type} {A B C D E F H I J K:a->Prop}
theorem jF (h:∃x,A x) (f:∀x,A x->G):G:=h.elim f
theorem Pk (x) (N:A x):∃x,A x:=⟨x,N⟩
theorem aw (h:∃x,A x/\B x) (f:∀x,A x->B x->G):G:=h.elim λx h=>fp h (f x)
theorem aJ (x) (N:A x) (a:B x):∃x,A x/\B x:=⟨x,DX N a⟩
theorem cU (h:∃x,A x/\B x/\C x) (f:∀x,A x->B x->C x->G):G:=h.elim λx h=>dp h (f x)
theorem cJ (x) (N:A x) (a:B x) (b:C x):∃x,A x/\B x/\C x:=⟨x,bv N a b⟩
theorem iG (h:∃x,A x/\B x/\C x/\D x) (f:∀x,A x->B x->C x->D x->G):G:=h.elim λx h=>jE h (f x)
theorem lS (x) (N:A x) (a:B x) (b:C x) (c:D x):∃x,A x/\B x/\C x/\D x:=⟨x,dd N a b c⟩
theorem xV (h:∃x,A x/\B x/\C x/\D x/\E x) (f:∀x,A x->B x->C x->D x->E x->G):G:=h.elim λx h=>n5 h (f x)
theorem Pl (x) (N:A x) (a:B x) (b:C x) (c:D x) (d:E x):∃x,A x/\B x/\C x/\D x/\E x:=⟨x,i8 N a b c d⟩
theorem pT (h:∃x,A x/\B x/\C x/\D x/\E x/\F x) (f:∀x,A x->B x->C x->D x->E x->F x->G):G:=h.elim λx h=>lR h (f x)
theorem DZ (x) (N:A x) (a:B x) (b:C x) (c:D x) (d:E x) (e:F x):∃x,A x/\B x/\C x/\D x/\E x/\F x:=⟨x,gu N a b c d e⟩
theorem Pm (h:∃x,A x/\B x/\C x/\D x/\E x/\F x/\H x) (f:∀x,A x->B x->C x->D x->E x->F x->H x->G):G:=h.elim λx h=>uw h (f x)
theorem Pn (x) (N:A x) (a:B x) (b:C x) (c:D x) (d:E x) (e:F x) (G:H x):∃x,A x/\B x/\C x/\D x/\E x/\F x/\H x:=⟨x,ux N a b c d e G⟩
theorem Po (h:∃x,A x/\B x/\C x/\D x/\E x/\F x/\H x/\I x/\J x) (f:∀x,A x->B x->C x->D x->E x->F x->H x->I x->J x->G):G:=h.elim λx h=>DY h (f x)
theorem Pp (x) (N:A x) (a:B x) (b:C x) (c:D x) (d:E x) (e:F x) (G:H x) (O:I x) (g:J x):∃x,A x/\B x/\C x/\D x/\E x/\F x/\H x/\I x/\J x:=⟨x,uy N a b c d e G O g⟩
theorem Pq (h:∃x,A x/\B x/\C x/\D x/\E x/\F x/\H x/\I x/\J x/\K x) (f:∀x,A x->B x->C x->D x->E x->F x->H x->I x->J x->K x->G):G:=h.elim λx h=>Pi h (f x)
end
section
variable {G:Prop} {a f:Type} {A B C D E F H I J K:a->f->Prop}
theorem pU (h:∃x y,A x y) (f:∀x y,A x y->G):G:=h.elim λx h=>jF h (f x)
theorem n6 (x y) (N:A x y):∃x y,A x y:=⟨x,Pk y N⟩
theorem cV (h:∃x y,A x y/\B x y) (f:∀x y,A x y->B x y->G):G:=h.elim λx h=>aw h (f x)
theorem c7 (x y) (N:A x y) (a:B x y):∃x y,A x y/\B x y:=⟨x,aJ y N a⟩
theorem dN (h:∃x y,A x y/\B x y/\C x y) (f:∀x y,A x y->B x y->C x y->G):G:=h.elim λx h=>cU h (f x)
theorem dt (x y) (N:A x y) (a:B x y) (b:C x y):∃x y,A x y/\B x y/\C x y:=⟨x,cJ y N a b⟩
theorem f9 (h:∃x y,A x y/\B x y/\C x y/\D x y) (f:∀x y,A x y->B x y->C x y->D x y->G):G:=h.elim λx h=>iG h (f x)
theorem iH (x y) (N:A x y) (a:B x y) (b:C x y) (c:D x y):∃x y,A x y/\B x y/\C x y/\D x y:=⟨x,lS y N a b c⟩
theorem Pr (h:∃x y,A x y/\B x y/\C x y/\D x y/\E x y) (f:∀x y,A x y->B x y->C x y->D x y->E x y->G):G:=h.elim λx h=>xV h (f x)
theorem Ps (x y) (N:A x y) (a:B x y) (b:C x y) (c:D x y) (d:E x y):∃x y,A x y/\B x y/\C x y/\D x y/\E x y:=⟨x,Pl y N a b c d⟩
theorem uz (h:∃x y,A x y/\B x y/\C x y/\D x y/\E x y/\F x y) (f:∀x y,A x y->B x y->C x y->D x y->E x y->F x y->G):G:=h.elim λx h=>pT h (f x)
theorem lT (x y) (N:A x y) (a:B x y) (b:C x y) (c:D x y) (d:E x y) (e:F x y):∃x y,A x y/\B x y/\C x y/\D x y/\E x y/\F x y:=⟨x,DZ y N a b c d e⟩
theorem Pt (h:∃x y,A x y/\B x y/\C x y/\D x y/\E x y/\F x y/\H x y) (f:∀x y,A x y->B x y->C x y->D x y->E x y->F x y->H x y->G):G:=h.elim λx h=>Pm h (f x)
theorem Pu (x y) (N:A x y) (a:B x y) (b:C x y) (c:D x y) (d:E x y) (e:F x y) (G:H x y):∃x y,A x y/\B x y/\C x y/\D x y/\E x y/\F x y/\H x y:=⟨x,Pn y N a b c d e G⟩
theorem Pv (h:∃x y,A x y/\B x y/\C x y/\D x y/\E x y/\F x y/\H x y/\I x y/\J x y) (f:∀x y,A x y->B x y->C x y->D x y->E x y->F x y->H x y->I x y->J x y->G):G:=h.elim λx h=>Po h (f x)
theorem Pw (x y) (N:A x y) (a:B x y) (b:C x y) (c:D x y) (d:E x y) (e:F x y) (G:H x y) (O:I x y) (g:J x y):∃x y,A x y/\B x y/\C x y/\D x y/\E x y/\F x y/\H x y/\I x y/\J x y:=⟨x,Pp y N a b c d e G O g⟩
theorem Px (h:∃x y,A x y/\B x y/\C x y/\D x y/\E x y/\F x y/\H x y/\I x y/\J x y/\K x y) (f:∀x y,A x y->B x y->C x y->D x y->E x y->F x y->H x y->I x y->J x y->K x y->G):G:=h.elim λx h=>Pq h (f x)
end
section
variable {G:Prop} {a f j:Type} {A B C D E F H I J K:a->f->j->Prop}
theorem D0 (h:∃x y z,A x y z) (f:∀x y z,A x y z->G):G:=h.elim λx h=>pU h (f x)
theorem uA (x y z) (N:A x y z):∃x y z,A x y z:=⟨x,n6 y z N⟩
theorem m6 (h:∃x y z,A x y z/\B x y z) (f:∀x y z,A x y z->B x y z->G):G:=h.elim λx h=>cV h (f x)
theorem rP (x y z) (N:A x y z) (a:B x y z):∃x y z,A x y z/\B x y z:=⟨x,c7 y z N a⟩
theorem ff (h:∃x y z,A x y z/\B x y z/\C x y z) (f:∀x y z,A x y z->B x y z->C x y z->G):G:=h.elim λx h=>dN h (f x)
theorem gv (x y z) (N:A x y z) (a:B x y z) (b:C x y z):∃x y z,A x y z/\B x y z/\C x y z:=⟨x,dt y z N a b⟩
theorem k6 (h:∃x y z,A x y z/\B x y z/\C x y z/\D x y z) (f:∀x y z,A x y z->B x y z->C x y z->D x y z->G):G:=h.elim λx h=>f9 h (f x)
theorem k7 (x y z) (N:A x y z) (a:B x y z) (b:C x y z) (c:D x y z):∃x y z,A x y z/\B x y z/\C x y z/\D x y z:=⟨x,iH y z N a b c⟩
theorem xW (h:∃x y z,A x y z/\B x y z/\C x y z/\D x y z/\E x y z) (f:∀x y z,A x y z->B x y z->C x y z->D x y z->E x y z->G):G:=h.elim λx h=>Pr h (f x)
theorem xX (x y z) (N:A x y z) (a:B x y z) (b:C x y z) (c:D x y z) (d:E x y z):∃x y z,A x y z/\B x y z/\C x y z/\D x y z/\E x y z:=⟨x,Ps y z N a b c d⟩
theorem D1 (h:∃x y z,A x y z/\B x y z/\C x y z/\D x y z/\E x y z/\F x y z) (f:∀x y z,A x y z->B x y z->C x y z->D x y z->E x y z->F x y z->G):G:=h.elim λx h=>uz h (f x)
theorem D2 (x y z) (N:A x y z) (a:B x y z) (b:C x y z) (c:D x y z) (d:E x y z) (e:F x y z):∃x y z,A x y z/\B x y z/\C x y z/\D x y z/\E x y z/\F x y z:=⟨x,lT y z N a b c d e⟩
theorem Py (h:∃x y z,A x y z/\B x y z/\C x y z/\D x y z/\E x y z/\F x y z/\H x y z) (f:∀x y z,A x y z->B x y z->C x y z->D x y z->E x y z->F x y z->H x y z->G):G:=h.elim λx h=>Pt h (f x)
theorem D3 (x y z) (N:A x y z) (a:B x y z) (b:C x y z) (c:D x y z) (d:E x y z) (e:F x y z) (G:H x y z):∃x y z,A x y z/\B x y z/\C x y z/\D x y z/\E x y z/\F x y z/\H x y z:=⟨x,Pu y z N a b c d e G⟩
theorem Pz (h:∃x y z,A x y z/\B x y z/\C x y z/\D x y z/\E x y z/\F x y z/\H x y z/\I x y z/\J x y z) (f:∀x y z,A x y z->B x y z->C x y z->D x y z->E x y z->F x y z->H x y z->I x y z->J x y z->G):G:=h.elim λx h=>Pv h (f x)
theorem PA (x y z) (N:A x y z) (a:B x y z) (b:C x y z) (c:D x y z) (d:E x y z) (e:F x y z) (G:H x y z) (O:I x y z) (g:J x y z):∃x y z,A x y z/\B x y z/\C x y z/\D x y z/\E x y z/\F x y z/\H x y z/\I x y z/\J x y z:=⟨x,Pw y z N a b c d e G O g⟩
theorem PB (h:∃x y z,A x y z/\B x y z/\C x y z/\D x y z/\E x y z/\F x y z/\H x y z/\I x y z/\J x y z/\K x y z) (f:∀x y z,A x y z->B x y z->C x y z->D x y z->E x y z->F x y z->H x y z->I x y z->J x y z->K x y z->G):G:=h.elim λx h=>Px h (f x)
end
section
variable {G:Prop} {a f j t:Type} {A B C D E F H I J K:a->f->j->t->Prop}
theorem jG (h:∃x y z u,A x y z u) (f:∀x y z u,A x y z u->G):G:=h.elim λx h=>D0 h (f x)
theorem xY (x y z u) (N:A x y z u):∃x y z u,A x y z u:=⟨x,uA y z u N⟩
theorem PC (h:∃x y z u,A x y z u/\B x y z u) (f:∀x y z u,A x y z u->B x y z u->G):G:=h.elim λx h=>m6 h (f x)
theorem PD (h:∃x y z u,A x y z u/\B x y z u/\C x y z u) (f:∀x y z u,A x y z u->B x y z u->C x y z u->G):G:=h.elim λx h=>ff h (f x)
theorem PE (x y z u) (N:A x y z u) (a:B x y z u) (b:C x y z u):∃x y z u,A x y z u/\B x y z u/\C x y z u:=⟨x,gv y z u N a b⟩
theorem rQ (h:∃x y z u,A x y z u/\B x y z u/\C x y z u/\D x y z u) (f:∀x y z u,A x y z u->B x y z u->C x y z u->D x y z u->G):G:=h.elim λx h=>k6 h (f x)
theorem xZ (x y z u) (N:A x y z u) (a:B x y z u) (b:C x y z u) (c:D x y z u):∃x y z u,A x y z u/\B x y z u/\C x y z u/\D x y z u:=⟨x,k7 y z u N a b c⟩
theorem uB (h:∃x y z u,A x y z u/\B x y z u/\C x y z u/\D x y z u/\E x y z u) (f:∀x y z u,A x y z u->B x y z u->C x y z u->D x y z u->E x y z u->G):G:=h.elim λx h=>xW h (f x)
theorem D4 (x y z u) (N:A x y z u) (a:B x y z u) (b:C x y z u) (c:D x y z u) (d:E x y z u):∃x y z u,A x y z u/\B x y z u/\C x y z u/\D x y z u/\E x y z u:=⟨x,xX y z u N a b c d⟩
theorem rR (h:∃x y z u,A x y z u/\B x y z u/\C x y z u/\D x y z u/\E x y z u/\F x y z u) (f:∀x y z u,A x y z u->B x y z u->C x y z u->D x y z u->E x y z u->F x y z u->G):G:=h.elim λx h=>D1 h (f x)
theorem m7 (x y z u) (N:A x y z u) (a:B x y z u) (b:C x y z u) (c:D x y z u) (d:E x y z u) (e:F x y z u):∃x y z u,A x y z u/\B x y z u/\C x y z u/\D x y z u/\E x y z u/\F x y z u:=⟨x,D2 y z u N a b c d e⟩
theorem PF (h:∃x y z u,A x y z u/\B x y z u/\C x y z u/\D x y z u/\E x y z u/\F x y z u/\H x y z u) (f:∀x y z u,A x y z u->B x y z u->C x y z u->D x y z u->E x y z u->F x y z u->H x y z u->G):G:=h.elim λx h=>Py h (f x)
theorem PG (x y z u) (N:A x y z u) (a:B x y z u) (b:C x y z u) (c:D x y z u) (d:E x y z u) (e:F x y z u) (G:H x y z u):∃x y z u,A x y z u/\B x y z u/\C x y z u/\D x y z u/\E x y z u/\F x y z u/\H x y z u:=⟨x,D3 y z u N a b c d e G⟩
theorem PH (h:∃x y z u,A x y z u/\B x y z u/\C x y z u/\D x y z u/\E x y z u/\F x y z u/\H x y z u/\I x y z u/\J x y z u) (f:∀x y z u,A x y z u->B x y z u->C x y z u->D x y z u->E x y z u->F x y z u->H x y z u->I x y z u->J x y z u->G):G:=h.elim λx h=>Pz h (f x)
theorem PI (x y z u) (N:A x y z u) (a:B x y z u) (b:C x y z u) (c:D x y z u) (d:E x y z u) (e:F x y z u) (G:H x y z u) (O:I x y z u) (g:J x y z u):∃x y z u,A x y z u/\B x y z u/\C x y z u/\D x y z u/\E x y z u/\F x y z u/\H x y z u/\I x y z u/\J x y z u:=⟨x,PA y z u N a b c d e G O g⟩
theorem PJ (h:∃x y z u,A x y z u/\B x y z u/\C x y z u/\D x y z u/\E x y z u/\F x y z u/\H x y z u/\I x y z u/\J x y z u/\K x y z u) (f:∀x y z u,A x y z u->B x y z u->C x y z u->D x y z u->E x y z u->F x y z u->H x y z u->I x y z u->J x y z u->K x y z u->G):G:=h.elim λx h=>PB h (f x)
end
section
variable {G:Prop} {a f j t u:Type} {A B C D E F H I J K:a->f->j->t->u->Prop}
theorem PK (h:∃x y z u v,A x y z u v) (f:∀x y z u v,A x y z u v->G):G:=h.elim λx h=>jG h (f x)
theorem PL (x y z u v) (N:A x y z u v):∃x y z u v,A x y z u v:=⟨x,xY y z u v N⟩
theorem PM (h:∃x y z u v,A x y z u v/\B x y z u v) (f:∀x y z u v,A x y z u v->B x y z u v->G):G:=h.elim λx h=>PC h (f x)
theorem D5 (h:∃x y z u v,A x y z u v/\B x y z u v/\C x y z u v) (f:∀x y z u v,A x y z u v->B x y z u v->C x y z u v->G):G:=h.elim λx h=>PD h (f x)
theorem D6 (x y z u v) (N:A x y z u v) (a:B x y z u v) (b:C x y z u v):∃x y z u v,A x y z u v/\B x y z u v/\C x y z u v:=⟨x,PE y z u v N a b⟩
theorem ya (h:∃x y z u v,A x y z u v/\B x y z u v/\C x y z u v/\D x y z u v) (f:∀x y z u v,A x y z u v->B x y z u v->C x y z u v->D x y z u v->G):G:=h.elim λx h=>rQ h (f x)
theorem D7 (x y z u v) (N:A x y z u v) (a:B x y z u v) (b:C x y z u v) (c:D x y z u v):∃x y z u v,A x y z u v/\B x y z u v/\C x y z u v/\D x y z u v:=⟨x,xZ y z u v N a b c⟩
theorem PN (x y z u v) (N:A x y z u v) (a:B x y z u v) (b:C x y z u v) (c:D x y z u v) (d:E x y z u v):∃x y z u v,A x y z u v/\B x y z u v/\C x y z u v/\D x y z u v/\E x y z u v:=⟨x,D4 y z u v N a b c d⟩
theorem PO (h:∃x y z u v,A x y z u v/\B x y z u v/\C x y z u v/\D x y z u v/\E x y z u v/\F x y z u v) (f:∀x y z u v,A x y z u v->B x y z u v->C x y z u v->D x y z u v->E x y z u v->F x y z u v->G):G:=h.elim λx h=>rR h (f x)
theorem PP (x y z u v) (N:A x y z u v) (a:B x y z u v) (b:C x y z u v) (c:D x y z u v) (d:E x y z u v) (e:F x y z u v):∃x y z u v,A x y z u v/\B x y z u v/\C x y z u v/\D x y z u v/\E x y z u v/\F x y z u v:=⟨x,m7 y z u v N a b c d e⟩
theorem D8 (h:∃x y z u v,A x y z u v/\B x y z u v/\C x y z u v/\D x y z u v/\E x y z u v/\F x y z u v/\H x y z u v) (f:∀x y z u v,A x y z u v->B x y z u v->C x y z u v->D x y z u v->E x y z u v->F x y z u v->H x y z u v->G):G:=h.elim λx h=>PF h (f x)
theorem D9 (x y z u v) (N:A x y z u v) (a:B x y z u v) (b:C x y z u v) (c:D x y z u v) (d:E x y z u v) (e:F x y z u v) (G:H x y z u v):∃x y z u v,A x y z u v/\B x y z u v/\C x y z u v/\D x y z u v/\E x y z u v/\F x y z u v/\H x y z u v:=⟨x,PG y z u v N a b c d e G⟩
theorem pV (h:∃x y z u v,A x y z u v/\B x y z u v/\C x y z u v/\D x y z u v/\E x y z u v/\F x y z u v/\H x y z u v/\I x y z u v/\J x y z u v) (f:∀x y z u v,A x y z u v->B x y z u v->C x y z u v->D x y z u v->E x y z u v->F x y z u v->H x y z u v->I x y z u v->J x y z u v->G):G:=h.elim λx h=>PH h (f x)
theorem rS (x y z u v) (N:A x y z u v) (a:B x y z u v) (b:C x y z u v) (c:D x y z u v) (d:E x y z u v) (e:F x y z u v) (G:H x y z u v) (O:I x y z u v) (g:J x y z u v):∃x y z u v,A x y z u v/\B x y z u v/\C x y z u v/\D x y z u v/\E x y z u v/\F x y z u v/\H x y z u v/\I x y z u v/\J x y z u v:=⟨x,PI y z u v N a b c d e G O g⟩
theorem uC (h:∃x y z u v,A x y z u v/\B x y z u v/\C x y z u v/\D x y z u v/\E x y z u v/\F x y z u v/\H x y z u v/\I x y z u v/\J x y z u v/\K x y z u v) (f:∀x y z u v,A x y z u v->B x y z u v->C x y z u v->D x y z u v->E x y z u v->F x y z u v->H x y z u v->I x y z u v->J x y z u v->K x y z u v->G):G:=h.elim λx h=>PJ h (f x)
end
section
variable {G:Prop} {a f j t u y:Type} {A B C D E F H I J:a->f->j->t->u->y->Prop}
theorem PQ (h:∃x y z u v w,A x y z u v w) (f:∀x y z u v w,A x y z u v w->G):G:=h.elim λx h=>PK h (f x)
theorem PR (x y z u v w) (N:A x y z u v w):∃x y z u v w,A x y z u v w:=⟨x,PL y z u v w N⟩
theorem PS (h:∃x y z u v w,A x y z u v w/\B x y z u v w) (f:∀x y z u v w,A x y z u v w->B x y z u v w->G):G:=h.elim λx h=>PM h (f x)
theorem Ea (h:∃x y z u v w,A x y z u v w/\B x y z u v w/\C x y z u v w/\D x y z u v w/\E x y z u v w/\F x y z u v w) (f:∀x y z u v w,A x y z u v w->B x y z u v w->C x y z u v w->D x y z u v w->E x y z u v w->F x y z u v w->G):G:=h.elim λx h=>PO h (f x)
theorem Eb (x y z u v w) (N:A x y z u v w) (a:B x y z u v w) (b:C x y z u v w) (c:D x y z u v w) (d:E x y z u v w) (e:F x y z u v w):∃x y z u v w,A x y z u v w/\B x y z u v w/\C x y z u v w/\D x y z u v w/\E x y z u v w/\F x y z u v w:=⟨x,PP y z u v w N a b c d e⟩
theorem Ec (h:∃x y z u v w,A x y z u v w/\B x y z u v w/\C x y z u v w/\D x y z u v w/\E x y z u v w/\F x y z u v w/\H x y z u v w/\I x y z u v w/\J x y z u v w) (f:∀x y z u v w,A x y z u v w->B x y z u v w->C x y z u v w->D x y z u v w->E x y z u v w->F x y z u v w->H x y z u v w->I x y z u v w->J x y z u v w->G):G:=h.elim λx h=>pV h (f x)
theorem Ed (x y z u v w) (N:A x y z u v w) (a:B x y z u v w) (b:C x y z u v w) (c:D x y z u v w) (d:E x y z u v w) (e:F x y z u v w) (G:H x y z u v w) (O:I x y z u v w) (g:J x y z u v w):∃x y z u v w,A x y z u v w/\B x y z u v w/\C x y z u v w/\D x y z u v w/\E x y z u v w/\F x y z u v w/\H x y z u v w/\I x y z u v w/\J x y z u v w:=⟨x,rS y z u v w N a b c d e G O g⟩
end
section
variable {G:Prop} {a f j t u y z:Type} {A B:a->f->j->t->u->y->z->Prop}
theorem PT (h:∃x y z u v w r,A x y z u v w r) (f:∀x y z u v w r,A x y z u v w r->G):G:=h.elim λx h=>PQ h (f x)
theorem PU (x y z u v w r) (N:A x y z u v w r):∃x y z u v w r,A x y z u v w r:=⟨x,PR y z u v w r N⟩
theorem Ee (h:∃x y z u v w r,A x y z u v w r/\B x y z u v w r) (f:∀x y z u v w r,A x y z u v w r->B x y z u v w r->G):G:=h.elim λx h=>PS h (f x)
end
section
variable {G:Prop} {a f j t u y z H:Type} {A B:a->f->j->t->u->y->z->H->Prop}
theorem n7 (h:∃x y z u v w r s,A x y z u v w r s) (f:∀x y z u v w r s,A x y z u v w r s->G):G:=h.elim λx h=>PT h (f x)
theorem PV (x y z u v w r s) (N:A x y z u v w r s):∃x y z u v w r s,A x y z u v w r s:=⟨x,PU y z u v w r s N⟩
theorem yb (h:∃x y z u v w r s,A x y z u v w r s/\B x y z u v w r s) (f:∀x y z u v w r s,A x y z u v w r s->B x y z u v w r s->G):G:=h.elim λx h=>Ee h (f x)
end
section
variable {G:Prop} {a f j t u y z H I:Type} {A:a->f->j->t->u->y->z->H->I->Prop}
theorem PW (h:∃x y z u v w r s t,A x y z u v w r s t) (f:∀x y z u v w r s t,A x y z u v w r s t->G):G:=h.elim λx h=>n7 h (f x)
theorem PX (x y z u v w r s t) (N:A x y z u v w r s t):∃x y z u v w r s t,A x y z u v w r s t:=⟨x,PV y z u v w r s t N⟩
end
section
variable {G:Prop} {a f j t u y z H I t9:Type} {A:a->f->j->t->u->y->z->H->I->t9->Prop}
theorem PY (h:∃x y z u v w r s t p,A x y z u v w r s t p) (f:∀x y z u v w r s t p,A x y z u v w r s t p->G):G:=h.elim λx h=>PW h (f x)
theorem PZ (x y z u v w r s t p) (N:A x y z u v w r s t p):∃x y z u v w r s t p,A x y z u v w r s t p:=⟨x,PX y z u v w r s t p N⟩
end
section
variable {G:Prop} {a f j t u y z H I t9 i:Type} {A:a->f->j->t->u->y->z->H->I->t9->i->Prop}
theorem P0 (h:∃x y z u v w r s t p q,A x y z u v w r s t p q) (f:∀x y z u v w r s t p q,A x y z u v w r s t p q->G):G:=h.elim λx h=>PY h (f x)
theorem P1 (x y z u v w r s t p q) (N:A x y z u v w r s t p q):∃x y z u v w r s t p q,A x y z u v w r s t p q:=⟨x,PZ y z u v w r s t p q N⟩
end
section
variable {G:Prop} {a f j t u y z H I t9 i b:Type} {A:a->f->j->t->u->y->z->H->I->t9->i->b->Prop}
theorem P3 (h:∃x y z u v w r s t p q o,A x y z u v w r s t p q o) (f:∀x y z u v w r s t p q o,A x y z u v w r s t p q o->G):G:=h.elim λx h=>P0 h (f x)
theorem P4 (x y z u v w r s t p q o) (N:A x y z u v w r s t p q o):∃x y z u v w r s t p q o,A x y z u v w r s t p q o:=⟨x,P1 y z u v w r s t p q o N⟩
end
def P5 {d:Type _} (P:d->Prop):List d->Prop:=List.rec True λa _ B=>P a/\B
theorem am {d:Type _} {P:d->Prop} {l:List d} (h:P5 P l):∀a∈l,P a:=by
 induction l with
 |nil=>exact λ_ h=>nomatch h
 |cons b l B=>exact λa m=>(List.mem_cons.1 m).elim (λe=>e▸h.1) (B h.2 a)
def yc {d:Type _} (P:Nat->d->Prop) (l:List d):Nat->Prop:=List.rec (λ_=>True) (λa _ B k=>P k a/\B (k+1)) l
theorem P6 {d:Type _} {P:Nat->d->Prop} {l:List d} {k:Nat} (h:yc P l k) (i:Nat) (a:d) (e:l[i]? =some a):P (k+i) a:=by
 induction l generalizing k i with
 |nil=>cases e
 |cons b l B=>cases i with
  |zero=>exact Option.some.inj e▸h.1
  |succ i=>exact Nat.add_right_comm k 1 i▸B h.2 i e
theorem rT {d:Type _} {P:Nat->d->Prop} {l:List d} (h:yc P l 0) (i:Nat) (a:d) (e:l[i]? =some a):P i a:=Nat.zero_add i▸P6 h i a e
theorem P7 {P:Nat->Prop} {i:Nat} (h:i<2) (N:P 0) (a:P 1):P i:=by
 cases i with
 |zero=>exact N
 |succ i=>cases i with
  |zero=>exact a
  |succ i=>exact absurd h (Nat.not_lt.mpr (Nat.le_add_left 2 i))
theorem rU {p:Prop} [Decidable p] {a b:Int} (c:0 <= a) (d:0 <= b):0 <= if p then a else b:=by split;exact c;exact d
end Mo
namespace Mk
noncomputable section
inductive T where
 |v (i:Nat)|n (k:Nat)|a (x y:T)|q (k:Nat) (x:T)|r (x:T) (k:Nat)|m (x y:T)|g (x:T)|c (x:T)
inductive Q where
 |l (x y:T)|t (x y:T)|e (x y:T)|L (x y:T)|uD (x y:T)|E (x y:T)|n (f:Q)|a (f g:Q)|o (f g:Q)|i (f g:Q)
section
variable (c:List Nat) (d:List Int)
def i9:T->Nat×Int:=T.rec (λi=>(c.getD i 0,d.getD i 0)) (λk=>(k,k)) (λ_ _ x y=>(x.1+y.1,x.2+y.2)) (λk _ x=>(k*x.1,k*x.2)) (λ_ k x=>(x.1*k,x.2*k)) (λ_ _ x y=>(0,x.2-y.2)) (λ_ x=>(0,-x.2)) (λ_ x=>(0,x.1))
def iI:Q->Prop:=Q.rec (λx y=>(i9 c d x).1 <= (i9 c d y).1) (λx y=>(i9 c d x).1<(i9 c d y).1) (λx y=>(i9 c d x).1=(i9 c d y).1)
 (λx y=>(i9 c d x).2 <= (i9 c d y).2) (λx y=>(i9 c d x).2<(i9 c d y).2) (λx y=>(i9 c d x).2=(i9 c d y).2) (λ_ p=>¬p) (λ_ _ p q=>p/\q) (λ_ _ p q=>p\/q) (λ_ _ p q=>p->q)
def pW:Nat->Int:=Nat.rec 1 λj _=>bif j%2==0 then c.getD (j/2) 0 else d.getD (j/2) 0
end
def ad:List Int->List Int->List Int:=List.rec (λs=>s) λa r d9=>List.rec (a::r) λb s _=>(a+b)::d9 s
def sc (k:Int):List Int->List Int:=List.map (k* ·)
def un:Nat->List Int:=Nat.rec [1] λ_ x=>0::x
def ev (f:Nat->Int):List Int->Nat->Int:=List.rec (λ_=>0) λa _ d9 j=>a*f j+d9 (j+1)
section
variable {f:Nat->Int}
theorem P8 (a b c d:Int):a+b+(c+d)=a+c+(b+d):=(Int.add_assoc ..).trans ((congrArg (a+ ·) (Int.add_left_comm ..)).trans (Int.add_assoc ..).symm)
theorem yd {a b:Int} (h:0 <= a) (e:a=b):0 <= b:=e▸h
theorem pX (r s:List Int) (j:Nat):ev f (ad r s) j=ev f r j+ev f s j:=by
 induction r generalizing s j with
 |nil=>exact(Int.zero_add _).symm
 |cons a r d9=>cases s with
  |nil=>exact(Int.add_zero _).symm
  |cons b s=>exact(congr (congrArg _ (Int.add_mul ..)) (d9 s _)).trans (P8 ..)
theorem lU (k:Int) (r:List Int) (j:Nat):ev f (sc k r) j=k*ev f r j:=by
 induction r generalizing j with
 |nil=>exact(Int.mul_zero k).symm
 |cons a r d9=>exact(congr (congrArg _ (Int.mul_assoc ..)) (d9 _)).trans (Int.mul_add ..).symm
theorem ye (i j:Nat):ev f (un i) j=f (j+i):=by
 induction i generalizing j with
 |zero=>exact(Int.add_zero _).trans (Int.one_mul _)
 |succ i d9=>exact(congr (congrArg _ (Int.zero_mul _)) (d9 _)).trans ((Int.zero_add _).trans (congrArg f (Nat.succ_add ..)))
end
def ja:T->List Int×List Int:=T.rec (λi=>(un (2*i+1),un (2*i+2))) (λk=>([k],[k])) (λ_ _ x y=>(ad x.1 y.1,ad x.2 y.2)) (λk _ x=>(sc k x.1,sc k x.2)) (λ_ k x=>(sc k x.1,sc k x.2))
 (λ_ _ x y=>([],ad x.2 (sc (-1) y.2))) (λ_ x=>([],sc (-1) x.2)) (λ_ x=>([],x.1))
theorem yf (c:List Nat) (d:List Int) (i:Nat):pW c d (2*i+1)=c.getD i 0/\pW c d (2*i+2)=d.getD i 0:=by
 constructor
 ·show(bif 2*i%2==0 then((c.getD (2*i/2) 0:Nat):Int) else _)=_
  rw [Nat.mul_mod_right 2 i,Nat.mul_div_cancel_left i ∅];rfl
 ·show(bif (2*i+1)%2==0 then _ else d.getD ((2*i+1)/2) 0)=_
  rw [Nat.mul_add_mod,Nat.mul_add_div ∅];rfl
theorem j9 {c:List Nat} {d:List Int} (t:T):ev (pW c d) (ja t).1 0=((i9 c d t).1:Nat)/\ev (pW c d) (ja t).2 0=(i9 c d t).2:=by
 induction t with
 |v i=>exact⟨(ye ..).trans ((congrArg _ (Nat.zero_add _)).trans (yf c d i).1),(ye ..).trans ((congrArg _ (Nat.zero_add _)).trans (yf c d i).2)⟩
 |n k=>
  have:ev (pW c d) [(k:Int)] 0=k:=(Int.add_zero _).trans (Int.mul_one _);exact⟨this,this⟩
 |a x y h g=>exact⟨(pX ..).trans (congr (congrArg _ h.1) g.1),(pX ..).trans (congr (congrArg _ h.2) g.2)⟩
 |q k x h=>exact⟨(lU ..).trans ((congrArg _ h.1).trans (Int.natCast_mul ..).symm),(lU ..).trans (congrArg _ h.2)⟩
 |r x k h=>exact⟨(lU ..).trans ((Int.mul_comm ..).trans ((congrArg (· *(k:Int)) h.1).trans (Int.natCast_mul ..).symm)),(lU ..).trans ((Int.mul_comm ..).trans (congrArg (· *(k:Int)) h.2))⟩
 |m x y h g=>exact⟨rfl,(pX ..).trans (congr (congrArg _ h.2) ((lU ..).trans ((Int.neg_one_mul _).trans (congrArg _ g.2))))⟩
 |g x h=>exact⟨rfl,(lU ..).trans ((Int.neg_one_mul _).trans (congrArg _ h.2))⟩
 |c x h=>exact⟨rfl,h.1⟩
abbrev Rs:=List (List Int)
def Ok (f:Nat->Int) (R:Rs):Prop:=∀r∈R,0 <= ev f r 0
abbrev G:=Bool->(Rs->Bool)->Rs->Bool
def s1 (r s:List Int):List Int:=ad r (sc (-1) s)
def pY (r:List Int):List Int:=ad r [1]
def rV (X Y:List Int):G:=λb k R=>k (cond b (s1 Y X) (s1 X (pY Y))::R)
def geq (X Y:List Int):G:=λb k R=>bif b then k (s1 Y X::s1 X Y::R) else k (s1 Y (pY X)::R)&&k (s1 X (pY Y)::R)
def uE (p q:G) (b lV:Bool):(Rs->Bool)->Rs->Bool:=λk=>p b (q lV k)
def go2 (p q:G) (b lV:Bool):(Rs->Bool)->Rs->Bool:=λk R=>p b k R&&q lV k R
def go:Q->G:=Q.rec (λx y=>rV (ja x).1 (ja y).1) (λx y=>rV (pY (ja x).1) (ja y).1) (λx y=>geq (ja x).1 (ja y).1) (λx y=>rV (ja x).2 (ja y).2) (λx y=>rV (pY (ja x).2) (ja y).2) (λx y=>geq (ja x).2 (ja y).2)
 (λ_ p b=>p !b) (λ_ _ p q b=>bif b then uE p q true true else go2 p q false false) (λ_ _ p q b=>bif b then go2 p q true true else uE p q false false) (λ_ _ p q b=>bif b then go2 p q false true else uE p q true false)
def m8 (f:Nat->Int) (g:(Rs->Bool)->Rs->Bool) (P:Prop):Prop:=∀k R,g k R=true->P->Ok f R->∃Ef,Ok f Ef/\k Ef=true
abbrev yg (f:Nat->Int) (g:G) (P:Prop):Prop:=m8 f (g true) P/\m8 f (g false) (¬P)
section
variable {f:Nat->Int} {X Y:List Int} {A B:Int} {P W:Prop}
theorem pZ {r:List Int} {R:Rs} (h:0 <= ev f r 0) (g:Ok f R):Ok f (r::R):=λs m=>(List.mem_cons.1 m).elim (λe=>e▸h) (g s)
theorem p0 (x:ev f X 0=A) (y:ev f Y 0=B) (h:A <= B):0 <= ev f (s1 Y X) 0:=yd (Int.sub_nonneg_of_le h) ((congr (congrArg _ y.symm) ((congrArg _ x.symm).trans ((Int.neg_one_mul _).symm.trans (lU ..).symm))).trans (pX ..).symm)
theorem rW (h0:f 0=1) (x:ev f X 0=A):ev f (pY X) 0=A+1:=(pX ..).trans (congr (congrArg _ x) ((Int.add_zero _).trans ((Int.one_mul _).trans h0)))
theorem uF (h0:f 0=1) (x:ev f X 0=A) (y:ev f Y 0=B) (h:P<->A <= B):yg f (rV X Y) P:=
 ⟨λk R g p o=>⟨_,pZ (p0 x y (h.1 p)) o,g⟩,λk R g p o=>⟨_,pZ (p0 (rW h0 y) x (Int.lt_of_not_ge λq=>p (h.2 q))) o,g⟩⟩
theorem Eg (h0:f 0=1) (x:ev f X 0=A) (y:ev f Y 0=B) (h:P<->A=B):yg f (geq X Y) P:=
 ⟨λk R g p o=>⟨_,pZ (p0 x y (Int.le_of_eq (h.1 p))) (pZ (p0 y x (Int.le_of_eq (h.1 p).symm)) o),g⟩,
  λk R g p o=>have g:=Bool.and_eq_true_iff.1 g
   (Int.lt_or_gt_of_ne λq=>p (h.2 q)).elim (λl=>⟨_,pZ (p0 (rW h0 x) y l) o,g.1⟩) λl=>⟨_,pZ (p0 (rW h0 y) x l) o,g.2⟩⟩
theorem yh {p q:G} {b lV:Bool} (hp:m8 f (p b) P) (yi:m8 f (q lV) ka) {Z:Prop} (h:Z->P/\ka):m8 f (uE p q b lV) Z:=λk R g z o=>(hp _ _ g (h z).1 o).elim λ_ a=>yi _ _ a.2 (h z).2 a.1
theorem yj {p q:G} {b lV:Bool} (hp:m8 f (p b) P) (yi:m8 f (q lV) ka) {Z:Prop} (h:Z->P\/ka):m8 f (go2 p q b lV) Z:=λk R g z o=>
 have g:=Bool.and_eq_true_iff.1 g
 (h z).elim (λa=>hp _ _ g.1 a o) λa=>yi _ _ g.2 a o
theorem P9 {c:List Nat} {d:List Int} (p:Q):yg (pW c d) (go p) (iI c d p):=by
 induction p with
 |l x y=>exact uF rfl (j9 x).1 (j9 y).1 Int.ofNat_le.symm
 |t x y=>exact uF rfl (rW rfl (j9 x).1) (j9 y).1 Int.ofNat_lt.symm
 |e x y=>exact Eg rfl (j9 x).1 (j9 y).1 Int.ofNat_inj.symm
 |L x y=>exact uF rfl (j9 x).2 (j9 y).2 .rfl
 |uD x y=>exact uF rfl (rW rfl (j9 x).2) (j9 y).2 .rfl
 |E x y=>exact Eg rfl (j9 x).2 (j9 y).2 .rfl
 |n p h=>exact⟨h.2,λk R g a=>h.1 k R g (Classical.not_not.1 a)⟩
 |a p q h g=>exact⟨yh h.1 g.1 id,yj h.2 g.2 Classical.not_and_iff_not_or_not.1⟩
 |o p q h g=>exact⟨yj h.1 g.1 id,yh h.2 g.2 not_or.1⟩
 |i p q h g=>exact⟨yj h.2 g.1 λa=>(Classical.em _).elim (λh=>.inr (a h)) .inl,yh h.1 g.2 Classical.not_imp.1⟩
end
def uG:Int->Bool:=Int.rec (λ_=>false) λ_=>true
def yk:Int->Bool:=Int.rec (λn=>n.rec false λ_ _=>true) λ_=>false
def uH (x:Int):Bool:= !uG x&& !yk x
def Eh (j:Nat) (R:Rs):Rs:=
 R.filter (λr=>uH (r.getD j 0))++(R.filter λr=>yk (r.getD j 0)).flatMap λp=>(R.filter λr=>uG (r.getD j 0)).map λn=>ad (sc (-n.getD j 0) p) (sc (p.getD j 0) n)
def Ei:Nat->Rs->Bool:=Nat.rec (λR=>R.any λr=>uG (r.getD 0 0)&&r.tail.all uH) λj d9 R=>d9 (Eh (j+1) R)
def uI (n m:Nat) (p:Q):Bool:=go p false (Ei (n+n+(m+m))) ((List.range n).map λi=>un (2*i+1))
section
variable {f:Nat->Int}
theorem Ej {x:Int} (h:uG x=true):x<0:=by
 cases x with
 |ofNat _=>cases h
 |negSucc n=>exact Int.negSucc_lt_zero n
theorem Qa {x:Int} (h:yk x=true):0 <= x:=by
 cases x with
 |ofNat _=>exact Int.natCast_nonneg _
 |negSucc n=>cases h
theorem Qb {x:Int} (h:uH x=true):x=0:=by
 cases x with
 |negSucc _=>cases h
 |ofNat n=>cases n with
  |zero=>rfl
  |succ _=>cases h
theorem Qc {j:Nat} {R:Rs} (o:Ok f R):Ok f (Eh j R):=λr m=>(List.mem_append.1 m).elim (λm=>o r (List.mem_filter.1 m).1) λm=>
 (List.mem_flatMap.1 m).elim λp m=>(List.mem_map.1 m.2).elim λn e=>
  e.2▸yd (Int.add_nonneg (Int.mul_nonneg (Int.neg_nonneg_of_nonpos (Int.le_of_lt (Ej (List.mem_filter.1 e.1).2))) (o _ (List.mem_filter.1 m.1).1)) (Int.mul_nonneg (Qa (List.mem_filter.1 m.1).2) (o _ (List.mem_filter.1 e.1).1))) ((congr (congrArg _ (lU ..).symm) (lU ..).symm).trans (pX ..).symm)
theorem Qd (r:List Int) (j:Nat) (h:r.all uH=true):ev f r j=0:=by
 induction r generalizing j with
 |nil=>rfl
 |cons a r d9=>
  have h:=Bool.and_eq_true_iff.1 h;exact(congr (congrArg _ ((congrArg (· *f j) (Qb h.1)).trans (Int.zero_mul _))) (d9 _ h.2)).trans (Int.add_zero 0)
theorem Qe (h0:f 0=1) (j:Nat) {R:Rs} (o:Ok f R) (h:Ei j R=true):False:=by
 induction j generalizing R with
 |zero=>
  obtain⟨r,m,h⟩:=List.any_eq_true.1 h;have h:=Bool.and_eq_true_iff.1 h;have k:=o r m;cases r with
  |nil=>cases h.1
  |cons a r=>exact absurd k (Int.not_le.2 (Int.lt_of_le_of_lt (Int.le_of_eq ((congr (congrArg _ ((congrArg _ h0).trans (Int.mul_one _))) (Qd r 1 h.2)).trans (Int.add_zero _))) (Ej h.1)))
 |succ j d9=>exact d9 (Qc o) h
end
def Ek:Nat->(List Nat->Prop)->Prop:=Nat.rec (λf=>f []) (λ_ d9 f=>∀{x:Nat},d9 λl=>f (x::l))
def El:Nat->(List Int->Prop)->Prop:=Nat.rec (λf=>f []) (λ_ d9 f=>∀{x:Int},d9 λl=>f (x::l))
theorem Qf (n:Nat):∀{f:List Nat->Prop},(∀l,f l)->Ek n f:=by
 induction n with
 |zero=>exact λh=>h []
 |succ n d9=>intro f h x;exact d9 λl=>h (x::l)
theorem Qg (n:Nat):∀{f:List Int->Prop},(∀l,f l)->El n f:=by
 induction n with
 |zero=>exact λh=>h []
 |succ n d9=>intro f h x;exact d9 λl=>h (x::l)
theorem yl (n m:Nat) (p:Q) (e:uI n m p=true) (c:List Nat) (d:List Int):iI c d p:=Classical.byContradiction λh=>
 ((P9 p).2 _ _ e h λr Qh=>(List.mem_map.1 Qh).elim λi a=>a.2▸yd (Int.natCast_nonneg (c.getD i 0)) ((yf c d i).1.symm.trans ((congrArg _ (Nat.zero_add _).symm).trans (ye ..).symm))).elim λ_ a=>Qe rfl _ a.1 a.2
theorem bO (n m:Nat) (p:Q) (e:uI n m p=true):Ek n λc=>El m λd=>iI c d p:=Qf n λc=>Qg m λd=>yl n m p e c d
def ym:Nat->(List Nat->Prop)->Prop:=Nat.rec (λf=>f []) (λ_ d9 f=>∀ ⦃x:Nat⦄,d9 λl=>f (x::l))
def yn:Nat->(List Int->Prop)->Prop:=Nat.rec (λf=>f []) (λ_ d9 f=>∀ ⦃x:Int⦄,d9 λl=>f (x::l))
theorem Em (n:Nat):∀{f:List Nat->Prop},(∀l,f l)->ym n f:=by
 induction n with
 |zero=>exact λh=>h []
 |succ n d9=>intro f h x;exact d9 λl=>h (x::l)
theorem En (n:Nat):∀{f:List Int->Prop},(∀l,f l)->yn n f:=by
 induction n with
 |zero=>exact λh=>h []
 |succ n d9=>intro f h x;exact d9 λl=>h (x::l)
theorem K (n m:Nat) (p:Q) (e:uI n m p=true:=by kernel_rfl):ym n λc=>yn m λd=>iI c d p:=Em n λc=>En m λd=>yl n m p e c d
def Eo (E:Prop) (c:List Nat) (d:List Int):Q->Prop:=Q.rec (λx y=>E->iI c d (.l x y)) (λx y=>E->iI c d (.t x y)) (λx y=>E->iI c d (.e x y)) (λx y=>E->iI c d (.L x y)) (λx y=>E->iI c d (.uD x y)) (λx y=>E->iI c d (.E x y))
 (λp _=>E->iI c d (.n p)) (λp q _ _=>E->iI c d (.a p q)) (λp q _ _=>E->iI c d (.o p q)) λp _ _ g=>iI c d p->g
theorem Qi {E:Prop} {c:List Nat} {d:List Int} (p:Q) (h:E->iI c d p):Eo E c d p:=by
 induction p with
 |i _ _ _ d9=>exact λq=>d9 λe=>h e q
 |_=>exact h
theorem bP (n m:Nat) (p:Q):ym n λc=>yn m λd=>Eo (uI n m p=true) c d p:=Em n λc=>En m λd=>Qi p λe=>yl n m p e c d
end
def A:T:=.v 0
def B:T:=.v 1
def af:T:=.v 2
def D:T:=.v 3
def E:T:=.v 4
def F:T:=.v 5
def H:T:=.v 6
def ea:T:=.v 7
def uD:T:=.v 8
def M:T:=.v 9
abbrev N:=T.n
abbrev P:=T.a
abbrev X:=T.q
abbrev Y:=T.r
abbrev W:=T.m
abbrev Z:=T.g
abbrev ag:=T.c
abbrev l:=Q.l
abbrev t:=Q.t
abbrev e:=Q.e
abbrev p:=Q.L
abbrev q:=Q.uD
abbrev r:=Q.E
abbrev n:=Q.n
abbrev a:=Q.a
abbrev o:=Q.o
abbrev i:=Q.i
abbrev f:Q:=.t (.n 0) (.n 0)
abbrev b:=N 1
abbrev c:=N 0
abbrev d:=N 2
abbrev h:=N 64
abbrev j:=N 4
abbrev k:=N 16
abbrev s:=N 1000
abbrev u:=N 2305843009213693952
abbrev v:=N 16777216
abbrev w:=N 8
abbrev x:=N 12
abbrev y:=N 3
abbrev z:=N 60
abbrev S (x y z:T):Q:=o (a (l y x) (e (P z y) x)) (a (t x y) (e z (N 0)))
abbrev V (x y:T):Q:=o (a (p (N 0) x) (r (ag y) x)) (a (q x (N 0)) (e y (N 0)))
abbrev g (x y z:T):Q:=o (a (l x y) (e z x)) (a (t y x) (e z y))
abbrev L (x y z:T):Q:=o (a (p x y) (r z x)) (a (q y x) (r z y))
abbrev R (x y z:T):Q:=o (a (p x y) (r z y)) (a (q y x) (r z x))
abbrev O (x y z:T):Q:=o (a (l x y) (e z y)) (a (t y x) (e z x))
end Mk
namespace Mo
open Mk
noncomputable section
theorem ay (a b:Nat):(b <= a/\a-b+b=a)\/(a<b/\a-b=0):=(Nat.lt_or_ge a b).elim (λh=>.inr ⟨h,Nat.sub_eq_zero_of_le (Nat.le_of_lt h)⟩) λh=>.inl ⟨h,Nat.sub_add_cancel h⟩
theorem bp (x:Int):(0 <= x/\(x.toNat:Int)=x)\/(x<0/\x.toNat=0):=(Int.lt_or_le x 0).elim (λh=>.inr ⟨h,Int.toNat_of_nonpos (Int.le_of_lt h)⟩) λh=>.inl ⟨h,Int.toNat_of_nonneg h⟩
theorem ew (a b:Nat):(a <= b/\min a b=a)\/(b<a/\min a b=b):=(Nat.lt_or_ge b a).elim (λh=>.inr ⟨h,Nat.min_eq_right (Nat.le_of_lt h)⟩) λh=>.inl ⟨h,Nat.min_eq_left h⟩
theorem yo (a b:Int):(a <= b/\min a b=a)\/(b<a/\min a b=b):=(Int.lt_or_le b a).elim (λh=>.inr ⟨h,Int.min_eq_right (Int.le_of_lt h)⟩) λh=>.inl ⟨h,Int.min_eq_left h⟩
theorem fg (a b:Int):(a <= b/\max a b=b)\/(b<a/\max a b=a):=(Int.lt_or_le b a).elim (λh=>.inr ⟨h,Int.max_eq_left (Int.le_of_lt h)⟩) λh=>.inl ⟨h,Int.max_eq_right h⟩
theorem fh (x k:Int) (h:0<k):k*(x/k)+x%k=x/\0 <= x%k/\x%k<k:=⟨Int.mul_ediv_add_emod x k,Int.emod_nonneg x (Int.ne_of_gt h),Int.emod_lt_of_pos x h⟩
theorem ab:true=true:=rfl
def aM {m0 aN:Nat}:=bP 2 0<|i (S A b B)<|i (l (N m0) A)<|l (N aN) B
def aQ {m0 aN:Nat}:=bP 1 0<|i (l (N m0) A)<|l (N aN) A
def gR:=@bO 1 0 (p c (ag A)) (⋯)
def gw {m0 aN:Nat}:=bP 0 1<|i (p (N m0) A)<|p (N aN) A
def jH:=K 2 0<|i (n (t B A))<|l A B
def kb:=@bO 2 0 (l A (P A B)) (⋯)
def bE {m0 aN:Nat}:=bP 1 0<|i (l A (N m0))<|l A<|N aN
def iq {m0:Nat}:=bP 0 1<|i (p c A)<|p c<|P A<|N m0
def lW:=K 0 1<|i (p d A)<|n<|r A b
def m9:=K 0 1<|i (p c A)<|n<|q A c
def eG {m0 aN:Nat}:=bP 2 0<|i (e A B)<|i (l B (N m0))<|l A<|N aN
def jb {m0:Nat}:=bP 1 1<|i (a (p d A) (p A (ag A)))<|p (N m0) A
def Ep:=K 1 2<|i (p (P (P A B) j) (ag A))<|n<|q (ag A)<|P (P A B) j
def lX {m0:Nat}:=bP 1 0<|l A<|P A<|N m0
def nb {m0:Nat}:=bP 1 0<|i (r (ag A) h)<|l A<|N m0
def nc {m0:Nat}:=bP 1 1<|i (a (p d A) (p A (ag A)))<|i (t A s)<|q A<|N m0
def p5:=K 2 0<|i (l j B)<|i (e A B)<|l j A
def p6:=K 1 0<|i (l b A)<|p d<|ag<|P A b
def iJ {m0 aN:Nat}:=bP 1 0<|p (N m0)<|ag<|P A<|N aN
def rY:=K 0 2<|i (q B A)<|p c<|W (W A B) b
def rZ:=@bO 2 0 (p c (ag (P (P A B) b))) (⋯)
def r1:=K 3 0<|i (e (P A (P af b)) B)<|t A B
def r2:=K 3 0<|i (e (P A (P B b)) af)<|e (P (P A b) B) af
def r3:=K 2 0<|i (l x B)<|i (e A B)<|o (e A d)<|l x A
def r4:=K 1 1<|i (q (P A b) (ag A))<|q A<|ag A
def r5:=K 4 0<|i (e (P (P A b) af) D)<|i (e B D)<|p (ag (P A b))<|ag B
def uJ:=@bO 1 0 (e (P c A) A) (⋯)
def uK:=K 0 1<|i (q c A)<|p c A
def uL:=K 2 0<|i (e (P B c) A)<|l A B
def uM:=K 2 0<|i (t A B)<|t A<|P B b
def n8 {m0 aN:Nat}:=bP 3 0<|i (S A b B)<|i (S B b af)<|i (l (N m0) A)<|l (N aN) af
def uN:=K 0 1<|i (p A v)<|p A v
def uO:=K 1 0<|i (l b A)<|p d<|P (ag A) b
def uP:=K 1 0<|i (r (ag A) h)<|q c<|ag A
def uQ:=K 1 1<|i (V A A)<|i (p c A)<|r (ag A) A
def uR:=K 2 0<|i (e B A)<|i (l B (N 16777000))<|l A v
def uS:=K 1 1<|i (q (P A y) (ag A))<|q (P A b)<|ag A
def Qj:=K 1 2<|i (r (ag A) B)<|i (p c A)<|p c<|P A B
def uT:=K 2 1<|i (e A B)<|i (p A (ag B))<|p A<|ag A
def uU:=K 1 1<|i (q (P A y) (ag A))<|q (P (P A d) b)<|ag A
def uV:=K 2 1<|i (V (W A b) B)<|i (p b A)<|i (p A (ag A))<|t B A
def Qk:=K 1 2<|i (p (P (P A B) c) (ag A))<|n<|q (ag A)<|P A B
def Ql:=K 1 2<|i (p (P (P A B) j) (ag A))<|q (P (P A B) y)<|ag A
def yp:=@bO 0 0 (p c c) (⋯)
def uW {m0:Nat}:=bP 1 0<|t (N m0)<|P d A
def yq:=@bO 1 0 (n (e A (P A b))) (⋯)
def n9 {m0 aN:Nat}:=bP 1 0<|p (N m0)<|P (ag A)<|N aN
def oa {m0 aN:Nat}:=bP 1 0<|l (N m0)<|P (N aN)<|X 2 A
def yr:=K 0 1<|i (n (p c A))<|q A c
def ys:=@bO 1 0 (l (P d A) (P (P d A) b)) (⋯)
def Er:=K 0 1<|i (p c A)<|q (W h A)<|N 65536
def r6 {m0 aN:Nat}:=bP 1 0<|i (l A (N m0))<|q (ag A)<|N aN
def yt:=K 2 0<|i (S A b B)<|i (l b A)<|e A<|P B b
def r7 {m0:Nat}:=bP 1 0<|i (l A (N m0))<|p (ag A)<|N m0
def yu:=@bO 2 0 (e (P (P A b) B) (P A (P B b))) (⋯)
def yv:=K 1 0<|i (n (l A z))<|q z<|ag A
def yw:=K 2 0<|i (t A B)<|t (P d A)<|P d B
def Es:=K 4 0<|i (S A b af)<|i (S af B D)<|i (t B A)<|t D A
def p7 {m0:Nat}:=bP 1 0<|i (r (ag A) h)<|p (N m0)<|ag A
def yx:=K 2 0<|i (q (ag A) (ag B))<|t A B
def yy:=K 3 0<|i (t A af)<|i (l af B)<|t A B
def yz:=K 0 1<|i (a (p c A) (q A (N 256)))<|q A<|N 18446744073709551616
def yA:=@bO 1 0 (p (P (ag A) b) (ag (P A b))) (⋯)
def uX {m0 aN:Nat}:=bP 2 0<|i (l B (N m0))<|i (l A B)<|t A<|N aN
def yB:=K 0 1<|i (a (p c A) (q A (N 256)))<|q (Z (N 18446744073709551616)) A
def yC:=K 2 0<|i (a (l A s) (l B s))<|l A v
def yD:=K 3 0<|i (t c B)<|i (l A af)<|l (P A b)<|P B af
def r8 {m0:Nat}:=bP 1 0<|i (t A (N 900))<|q (ag (P A (N m0)))<|N 4294967296
def uY {m0:Nat}:=bP 3 0<|i (a (l A (N 900)) (a (l (P B af) (N 100)) (l af y)))<|l A<|N m0
def yE:=K 2 1<|i (p A (ag B))<|i (l B A)<|p A<|ag A
def yF:=K 3 0<|i (e af (P (P k (X 2 A)) B))<|l (P (P k (X 2 A)) B) af
def yG:=K 3 0<|i (a (l B s) (l af s))<|i (e A B)<|l A v
def yH:=K 2 1<|i (e A B)<|i (p A (ag B))<|n<|q (ag A) A
def yI:=K 3 0<|i (l (P A (X 1000 (P af b))) (N 1000000))<|i (l B s)<|l (P A B) v
def yJ:=K 3 0<|i (l (P A (X 1000 (P af b))) (N 1000000))<|i (l B s)<|l (P (P A B) (X 1000 af))<|N 1000000
def lY {m0 aN:Nat}:=bP 1 0<|t (N m0)<|P A<|N aN
def yK {m0 aN:Nat}:=bP 1 0<|l (P A (N m0))<|P A<|N aN
def Et:=K 1 0<|i (t b A)<|t c A
def Eu:=K 0 1<|i (r A (N 56))<|q (N 52) A
def uZ {m0 aN:Nat}:=bP 1 0<|i (l A (N m0))<|t A<|N aN
def Ev:=K 2 0<|i (t A B)<|l A B
def nf {m0 aN:Nat}:=bP 1 0<|i (e A (N m0))<|l A<|N aN
def Ew:=K 0 1<|i (p b A)<|n<|q A b
def Ex:=K 0 1<|i (p d A)<|n<|q A d
def Ey:=K 0 1<|i (p d A)<|n<|r A b
def r9 {m0 aN:Nat}:=bP 1 0<|i (t A (N m0))<|t A<|N aN
def Ez:=@bO 1 0 (e (P d (P A b)) (P A y)) (⋯)
def EA:=K 0 1<|i (p b A)<|p c<|W A b
def EB:=K 0 1<|i (q (N 56) A)<|n<|p A<|N 56
def EC:=K 0 1<|i (n (p A (N 56)))<|q (N 56) A
def p8 {m0:Nat}:=bP 1 0<|i (t A s)<|l A<|N m0
def ED:=K 1 0<|i (n (l A z))<|l z A
def EE:=@bO 1 0 (p c (P (X 3 (ag A)) b)) (⋯)
def EF:=K 3 0<|i (V w B)<|i (g B A af)<|l af h
def EG:=K 1 0<|i (l b A)<|p b<|ag A
def Qm:=K 2 0<|i (l (P A b) B)<|t A B
def EH:=K 2 0<|i (l (P A b) B)<|l A B
def EI:=K 3 0<|i (S A B af)<|i (e af c)<|l A B
def EJ:=K 3 0<|i (S B b af)<|i (t A af)<|t A B
def u0 {m0 aN:Nat}:=bP 2 0<|i (e A (P B (N m0)))<|l (N aN) A
def EK:=K 0 1<|i (p c A)<|p (Z (N 9223372036854775808)) A
def EL:=K 3 0<|i (l A af)<|l A<|P B af
def EM:=K 3 0<|i (e B A)<|l A<|P B af
def u8 {m0:Nat}:=bP 0 1<|i (p c A)<|p c<|P (P A (N m0)) b
def EN:=@bO 1 0 (n (e (P k (X 2 A)) (P (N 17) (X 2 A)))) (⋯)
def EO:=K 2 0<|i (n (t B A))<|l (P c A) B
def EP:=@bO 2 0 (e (P A (P B b)) (P (P A B) b)) (⋯)
def EQ:=K 1 0<|i (e A d)<|o (e A d)<|l x A
def kE {m0 aN lZ:Nat}:=bP 1 0<|i (l A (N m0))<|l (P A (N aN))<|N lZ
def yL {m0 aN:Nat}:=bP 1 0<|i (t A (N m0))<|t (P A b)<|N aN
def Qn:=K 2 0<|i (t A B)<|n<|e B c
def ER:=@bO 1 0 (l (P k (X 2 (P A b))) (P (N 18) (X 2 A))) (⋯)
def ES:=K 2 0<|i (V (W (P (ag A) b) b) B)<|e B A
def ET:=K 3 0<|i (t A af)<|i (e B af)<|t A B
def EU:=K 3 0<|i (e A af)<|i (e B af)<|e A B
def EV:=K 3 0<|i (e A af)<|i (l af B)<|l A B
def EW:=K 1 1<|i (V A A)<|i (q A (N 128))<|t A<|N 128
def EX:=K 2 0<|i (t A B)<|t (P A (N 7))<|P (P B b)<|N 7
def EY:=@bO 2 0 (l (P k (X 2 A)) (P (P k (X 2 A)) B)) (⋯)
def EZ:=K 0 1<|i (q A (N 128))<|q A<|N 18446744073709551616
def yM {m0 aN:Nat}:=bP 1 0<|i (l (N m0) A)<|q (P c (N aN))<|ag A
def E0:=K 3 0<|i (e A af)<|i (n (t B af))<|l A B
def E1:=K 0 1<|i (a (p c A) (q A (N 65536)))<|q A<|N 18446744073709551616
def E2:=K 1 0<|i (t A (N 10))<|q (P (X 3 (ag A)) b)<|N 128
def E4:=K 0 1<|i (a (p c A) (q A (N 1000000)))<|p c<|P A b
def E5:=K 3 0<|i (t (P (P A (X 16 af)) h) B)<|t A B
def E6:=K 5 0<|i (S B A E)<|i (e E (P (P b af) D))<|l A B
def E7:=K 0 1<|i (a (p c A) (q A (N 65536)))<|q (Z (N 18446744073709551616)) A
def E8:=K 4 0<|i (S A B af)<|i (S af b D)<|i (t B A)<|e af<|P D b
def E9:=K 4 0<|i (e B D)<|i (l A D)<|l A<|P B af
def Fa:=K 2 0<|i (a (l B s) (l A s))<|l A v
def Fb:=K 3 0<|i (S B b af)<|i (t A af)<|t (P (P d A) (N 7))<|P B<|N 10
def yN {m0:Nat}:=bP 2 0<|i (t A B)<|t (P (N m0) (X 2 A))<|P k<|X 2 B
def Fc:=K 3 0<|i (V x B)<|i (S A B af)<|i (r (ag A) h)<|l af h
def Fd:=K 2 1<|i (V A B)<|i (t B A)<|q A<|ag A
def Fe:=K 2 1<|i (V A B)<|i (r A (ag A))<|e B A
def Ff:=K 2 1<|i (V A B)<|i (p A (ag A))<|l B A
def Fg:=K 1 1<|i (q A (ag A))<|n<|p (ag A) A
def Fh:=K 1 1<|i (p A (ag A))<|n<|q (ag A) A
def Fi:=K 2 0<|i (l b A)<|p d<|ag<|P (P A B) b
def Fj:=K 1 1<|i (p d A)<|i (p A (ag A))<|l b A
def Fk:=K 0 1<|i (a (p c A) (q A (N 1000000)))<|q (P A b)<|N 4294967296
def u9 {m0 aN lZ:Nat}:=bP 2 0<|i (l B (N m0))<|i (l A (N aN))<|l (P A B)<|N lZ
def Fl:=K 3 0<|i (t (P (P A (P (X 8 (P af b)) j)) w) B)<|t A B
def Fm:=@bO 2 0 (e (P (P (P A d) (X 2 B)) b) (P (P A (X 2 (P B b))) b)) (⋯)
def Fn:=K 3 0<|i (l (P (P k (X 2 A)) af) B)<|l (P k (X 2 A)) B
def Fo:=K 2 0<|i (l A h)<|i (l B h)<|l (P (P A j) B) v
def Fp:=K 3 0<|i (t (P A af) s)<|i (e B af)<|t (P A B)<|N 1000000
def Fq:=K 3 0<|i (V (W (ag (P (P A B) b)) b) af)<|e af<|P A B
def Fs:=K 2 1<|i (V (W A b) B)<|i (r A (P (ag A) b))<|e B A
def Ft:=K 3 0<|i (l (P A (P B af)) (N 16000000))<|l (P (P A B) af)<|N 16000000
def Fu:=K 2 1<|i (V A B)<|i (p c A)<|i (q A (ag A))<|t B A
def Fv:=K 2 0<|i (l A (P B b))<|i (n (e A (P B b)))<|l (P A b)<|P B b
def Fw:=@bO 2 0 (r (ag (P (P A B) b)) (P (P (ag A) (ag B)) b)) (⋯)
def Fx:=K 1 0<|i (t A (N 10))<|a (p c (P (N 65) (ag A)))<|q (P (N 65) (ag A))<|N 256
def Qo:=K 1 2<|i (R j (ag A) B)<|i (p c A)<|p (P (W h (P A B)) j) h
def Fy:=K 1 1<|i (q A (ag A))<|i (l A v)<|q A<|N 9223372036854775808
def Qp:=K 2 0<|i (e B A)<|i (l B v)<|q (ag A)<|N 9223372036854775808
def Fz:=K 3 0<|i (t af h)<|i (e B af)<|i (l A s)<|l (P A B) v
def FA:=K 0 1<|i (p c A)<|i (p A v)<|a (p (Z (N 9223372036854775808)) A)<|q A<|N 9223372036854775808
def FC:=K 2 1<|i (V (W A b) B)<|i (p d A)<|i (p A (ag A))<|t B A
def FD:=K 2 1<|i (a (p d A) (p A (ag B)))<|i (e A B)<|p A<|ag A
def FE:=K 4 0<|i (a (l B (N 900)) (a (l (P af D) (N 100)) (l D y)))<|i (l A B)<|l A s
def FF:=K 4 0<|i (t A af)<|i (e B (P (P k (X 2 af)) D))<|t (P k (X 2 A))<|P B b
def FG:=K 0 1<|i (p (Z (N 9223372036854775808)) A)<|i (q A (N 9223372036854775808))<|a (p (Z (N 9223372036854775808)) A)<|q A<|N 9223372036854775808
def FH:=K 3 0<|i (t (P (P A (P (X 8 (P B b)) j)) w) af)<|t (P (P (P A b) (P (X 8 B) w)) w) af
def yO {m0:Nat}:=bP 3 0<|i (t (P A af) (N m0))<|i (t B af)<|q (ag (P (P A B) b))<|N 4294967296
def FI:=K 2 1<|i (V A B)<|i (t A (P B b))<|i (n (e A B))<|q (ag A) A
def vb {m0:Nat}:=bP 1 2<|i (p (P (X 2 (ag A)) B) (W h (N m0)))<|i (p A B)<|p c<|W h A
def FJ:=K 3 0<|i (t (P (P A (X 16 (P (X 8 (P B b)) j))) h) af)<|t (P (P (P A y) (X 16 (P (X 8 B) w))) h) af
def FK:=K 2 1<|i (a (q (ag (P A b)) A) (p A (P (ag (P A b)) (ag B))))<|p b A
def FL:=K 4 0<|i (t A af)<|i (e B (P (P k (X 2 af)) D))<|a (a (n (e (P k (X 2 A)) B)) (a (n (e (P k (X 2 A)) x)) (a (n (e (P k (X 2 A)) (N 6))) (n (e (P k (X 2 A)) y)))))<|a (a (n (e (P (N 17) (X 2 A)) B)) (a (n (e (P (N 17) (X 2 A)) x)) (a (n (e (P (N 17) (X 2 A)) (N 6))) (n (e (P (N 17) (X 2 A)) y)))))<|a (n (e B c))<|a (n (e B x))<|a (n (e B (N 6)))<|n<|e B y
def FM:=K 5 0<|i (t A D)<|i (t af D)<|i (e B (P (P k (X 2 D)) E))<|i (n (e af A))<|a (a (n (e (P k (X 2 A)) B)) (a (n (e (X 2 A) (X 2 af))) (a (n (e (P k (X 2 A)) (P (N 17) (X 2 af)))) (n (e (P k (X 2 A)) x)))))<|a (a (n (e (P (N 17) (X 2 A)) B)) (a (n (e (P (N 17) (X 2 A)) (P k (X 2 af)))) (a (n (e (X 2 A) (X 2 af))) (n (e (P (N 17) (X 2 A)) x)))))<|a (a (n (e B (P k (X 2 af)))) (a (n (e B (P (N 17) (X 2 af)))) (a (n (e B c)) (n (e B x)))))<|a (n (e (P k (X 2 af)) x))<|n<|e (P (N 17) (X 2 af)) x
def FN:=K 6 0<|i (t A E)<|i (t af E)<|i (t D E)<|i (e B (P (P k (X 2 E)) F))<|i (n (e af A))<|i (n (e D A))<|i (n (e af D))<|a (a (n (e (P k (X 2 A)) B)) (a (n (e (X 2 A) (X 2 af))) (a (n (e (P k (X 2 A)) (P (N 17) (X 2 af)))) (a (n (e (X 2 A) (X 2 D))) (n (e (P k (X 2 A)) (P (N 17) (X 2 D))))))))<|a (a (n (e (P (N 17) (X 2 A)) B)) (a (n (e (P (N 17) (X 2 A)) (P k (X 2 af)))) (a (n (e (X 2 A) (X 2 af))) (a (n (e (P (N 17) (X 2 A)) (P k (X 2 D)))) (n (e (X 2 A) (X 2 D)))))))<|a (a (n (e B (P k (X 2 af)))) (a (n (e B (P (N 17) (X 2 af)))) (a (n (e B (P k (X 2 D)))) (n (e B (P (N 17) (X 2 D)))))))<|a (a (n (e (X 2 af) (X 2 D))) (n (e (P k (X 2 af)) (P (N 17) (X 2 D)))))<|a (n (e (P (N 17) (X 2 af)) (P k (X 2 D))))<|n<|e (X 2 af)<|X 2 D
def yP {m0 aN:Nat}:=bP 0 0<|l (N m0)<|N aN
def Qq:=@bO 0 0 (n (t b b)) (⋯)
def Qr:=@bO 0 1 (p A A) (⋯)
def Qs:=@bO 1 0 (l c A) (⋯)
def Qt:=K 0 0<|n<|e b d
def ob {m0 aN:Nat}:=bP 1 0<|l (N m0)<|P A<|N aN
def vc {m0 aN:Nat}:=bP 1 0<|l (N m0)<|P (N aN) A
def Qu:=@bO 1 0 (t A (P A b)) (⋯)
def Qv:=K 0 3<|i (a (r (P (X 60 B) af) A) (a (p c af) (q af z)))<|p c af
def Qw:=K 0 3<|i (a (r (P (X 256 B) af) A) (a (p c af) (q af (N 256))))<|p c af
def Qx:=@bO 0 0 (l (P c b) (P v b)) (⋯)
def Qy:=K 0 3<|i (a (r (P (X 256 B) af) A) (a (p c af) (q af (N 256))))<|q af<|N 256
def Qz:=K 0 3<|i (a (r (P (X 65536 B) af) A) (a (p c af) (q af (N 65536))))<|p c af
def QA:=@bO 0 1 (n (p (P A b) A)) (⋯)
def QB:=K 2 0<|i (g z A B)<|l B z
def QC:=@bO 1 0 (n (t (P d A) b)) (⋯)
def QD:=@bO 1 0 (t (P A (N 7)) (P A (N 9))) (⋯)
def QE:=@bO 1 0 (n (e (P A (N 9)) (P A w))) (⋯)
def vd {m0:Nat}:=bP 1 0<|t (N m0)<|P (P A b)<|N 7
def QF:=@bO 1 0 (t d (P d (P A b))) (⋯)
def QG:=@bO 1 0 (l y (P d (P A b))) (⋯)
def QH:=@bO 1 0 (t (P c (N 7)) (P A (N 10))) (⋯)
def sa {m0:Nat}:=bP 1 0<|t (N m0)<|P (N 18)<|X 2 A
def QI:=K 0 1<|i (q c A)<|n<|r A c
def QJ:=K 0 3<|i (a (r (P (X 65536 B) af) A) (a (p c af) (q af (N 65536))))<|q af<|N 65536
def FO {m0:Nat}:=bP 1 0<|i (e A (N m0))<|l j A
def QK:=K 1 0<|i (t c A)<|n<|e A c
def QL:=@bO 1 0 (n (r (P (ag A) b) c)) (⋯)
def FP {m0:Nat}:=bP 0 1<|i (r A (N m0))<|p A<|N 52
def ve {m0:Nat}:=bP 1 0<|i (l (N 13) A)<|t (N m0) A
def QM:=K 2 0<|i (g A (N 20) B)<|l B<|N 1000000
def QN:=@bO 1 0 (n (t (P s A) s)) (⋯)
def QO:=K 0 2<|i (q A B)<|n<|r A B
def QP:=K 0 2<|i (q A B)<|p A B
def QQ:=K 0 2<|i (q A B)<|p A B
def QR:=K 2 0<|i (e A B)<|l A B
def QS:=K 2 0<|i (l A B)<|l A B
def QT:=K 0 1<|i (p d A)<|n<|q A b
def QU:=K 0 1<|i (r A (N 5))<|n<|n<|r A<|N 5
def QV:=K 0 1<|i (n (q A c))<|p c A
def QW:=K 1 0<|i (l b A)<|n<|e A c
def FQ {m0:Nat}:=bP 1 0<|l (P (P A (N m0)) b)<|P A d
def QX:=@bO 1 0 (e (P c (P A b)) (P b A)) (⋯)
def QY:=@bO 1 0 (t (P A (N 7)) (P (P A b) (N 7))) (⋯)
def FR {m0 aN:Nat}:=bP 1 0<|l (P A (N m0))<|P (P A (N aN))<|N 7
def QZ:=@bO 0 0 (a (p w w) (p w x)) (⋯)
def FS {m0:Nat}:=bP 0 1<|i (p c A)<|p c<|P (N m0) A
def Q0:=K 0 1<|i (q A c)<|p c<|W c A
def Q1:=K 2 0<|i (S A b B)<|i (t c A)<|t B A
def Q2:=K 1 0<|n<|e b<|P d A
def Q3:=K 1 0<|i (l b A)<|t d<|P d A
def Q4:=K 1 0<|i (l b A)<|l y<|P d A
def yQ {m0 aN:Nat}:=bP 1 0<|i (l (N m0) A)<|l (N m0)<|P A<|N aN
def Q5:=K 2 0<|i (S A b B)<|i (l A w)<|l B<|N 7
def Q6:=K 2 0<|i (V (ag A) B)<|e A B
def Q7:=K 0 2<|i (q B A)<|n<|p A B
def Q8:=K 0 2<|i (p B A)<|n<|q A B
def Q9:=K 0 2<|i (n (q B A))<|p A B
def Ra:=K 0 2<|i (n (q B A))<|p A B
def Rb:=@bO 0 0 (a (p w x) (p x x)) (⋯)
def Rc:=K 0 1<|i (n (p c A))<|p c<|Z A
def Rd:=K 1 0<|i (e A (N 13))<|l j<|P A b
def Re:=K 0 3<|i (a (r (P (X 256 B) af) A) (a (p c af) (q af (N 256))))<|i (p c A)<|p c B
def Rf:=K 0 3<|i (a (r (P (X 2147483629 B) af) A) (a (p c af) (q af (N 2147483629))))<|p c<|P af<|N 17
def Rg:=K 1 0<|i (q (ag A) (N 6))<|t A<|N 6
def Rh:=K 1 0<|i (r (ag A) c)<|e A c
def FT {m0:Nat}:=bP 1 0<|i (p (ag A) (N m0))<|l A<|N m0
def Ri:=K 1 0<|i (q c (ag A))<|t c A
def Rj:=K 1 0<|i (l d A)<|q c<|ag A
def Rk:=@bO 1 0 (p (W z (ag A)) v) (⋯)
def Rl:=@bO 1 0 (r (ag A) (P (ag A) c)) (⋯)
def Rm:=K 1 1<|i (R j (ag A) A)<|p c<|P d A
def Rn:=K 1 1<|i (R c (W j (ag A)) A)<|p c A
def Ro:=@bO 1 0 (n (t (P (P d A) b) (P d A))) (⋯)
def Rp:=K 0 2<|i (p c B)<|p A<|P A B
def Rq:=K 3 0<|i (S B b af)<|i (t af A)<|t c A
def Rr:=K 2 0<|i (t A B)<|l (P A b) B
def Rt:=K 2 0<|i (t A B)<|t A<|P c B
def Ru:=K 2 0<|i (e A B)<|e (P c A) B
def Rv:=K 2 0<|i (l A B)<|l A<|P B b
def Rw:=K 2 0<|i (e B (P A b))<|t A B
def Rx:=K 3 0<|i (S A B af)<|i (l A B)<|e af c
def FU {m0:Nat}:=bP 2 0<|l (N m0)<|P (P k (X 2 A)) B
def Ry:=@bO 2 0 (t (N 15) (P (P k (X 2 A)) B)) (⋯)
def Rz:=K 1 0<|i (r (ag A) h)<|l j A
def RA:=K 0 3<|i (a (r (P (X 65536 B) af) A) (a (p c af) (q af (N 65536))))<|i (p c A)<|p c B
def RB:=K 2 0<|i (S A z B)<|i (l A (N 120))<|l B z
def RC:=K 2 0<|i (S (P (P d A) b) (P d A) B)<|e B b
def RD:=@bO 1 0 (e (P (X 2 A) d) (X 2 (P A b))) (⋯)
def RE:=@bO 1 0 (e (P w (P b A)) (P (P d A) (N 7))) (⋯)
def RF:=@bO 2 0 (p c (ag (P A B))) (⋯)
def RG:=K 3 0<|i (l (P af A) B)<|l A B
def RH:=K 3 0<|i (t A B)<|t A<|P B af
def RI:=K 3 0<|i (e A B)<|l A<|P B af
def RJ:=@bO 0 0 (a (p c c) (p c (N 4611686018427387904))) (⋯)
def RK:=K 0 1<|i (n (p c A))<|q A<|N 9223372036854775808
def RL:=K 3 0<|i (g B (N 20) af)<|i (t A af)<|t A B
theorem RM {a:Int}:(a%256)=((a%65536)%256):=(Int.emod_emod_of_dvd a ⟨256,rfl⟩).symm
def RN:=@bO 2 0 (e (P (P A B) b) (P A (P B b))) (⋯)
def RO:=K 1 0<|i (l k (P A (N 7)))<|t (N 7)<|P A<|N 7
def RP:=K 2 0<|i (S A (N 7) B)<|i (l k A)<|e A<|P B<|N 7
def RQ:=K 0 3<|i (a (r (P (X 256 B) af) A) (a (p c af) (q af (N 256))))<|i (q A (N 65536))<|q B<|N 256
def RR:=K 1 0<|i (t c A)<|p (Z (ag A))<|Z b
def RS:=K 1 0<|i (l k (P A (N 7)))<|l (N 14)<|P A<|N 7
def yR {m0 aN:Nat}:=bP 1 0<|i (l A (N m0))<|l (P (N aN) A) v
def RT:=K 1 0<|i (l A (N 32))<|l (X 2 A) v
def RU:=@bO 1 0 (r (P c (X 1 (ag A))) (ag A)) (⋯)
def FV {m0 aN lZ:Nat}:=bP 1 0<|p (N m0)<|ag<|P (P A (N aN))<|N lZ
def RV:=K 2 0<|i (t A B)<|t (P A (N 7))<|P B<|N 9
def RW:=K 2 0<|i (e A (P B w))<|l j<|P A b
def RX:=@bO 3 0 (e (P (P A B) af) (P A (P B af))) (⋯)
def RY:=K 1 0<|i (q (ag A) (N 10))<|l A<|N 1000000
def RZ:=K 2 0<|i (S A (N 15) B)<|i (l (N 15) A)<|e A<|P B<|N 15
def R0:=K 1 0<|i (l A (N 7))<|p (X 7 (ag A))<|N 52
def R1:=K 1 0<|i (n (p c (Z (ag A))))<|l b A
def R2:=K 1 1<|i (R c (W j (ag A)) A)<|p A v
def R3:=K 1 1<|i (V A A)<|i (n (q c A))<|e A c
def FW {m0:Nat}:=bP 1 0<|i (r (ag A) (N m0))<|p (ag A) j
def R4:=K 1 0<|i (l x A)<|n<|t A x
def R5:=K 1 0<|i (l A (N 40))<|l (P (P b A) b) s
def R6:=K 1 0<|i (l A z)<|p c<|W z<|ag A
def R7:=@bO 1 0 (e (P (P (X 2 A) b) b) (X 2 (P A b))) (⋯)
def R8:=@bO 1 0 (e (P (P (P A b) b) b) (P d (P A b))) (⋯)
def R9:=K 2 0<|i (l b B)<|i (e A B)<|t c A
def Sa:=K 2 0<|i (l b B)<|i (l B A)<|l b A
def Sb:=K 2 0<|i (t A B)<|n<|e A B
def Sc:=K 4 0<|i (g A B af)<|i (S A af D)<|i (t A B)<|e D c
def Sd:=K 2 0<|i (l A B)<|i (l B A)<|e A B
def Se:=K 2 0<|i (e B (N 9))<|i (e A B)<|e A<|N 9
def yS {m0 aN:Nat}:=bP 3 0<|i (g A B af)<|i (l B (N m0))<|l af<|N aN
def sb {m0 aN:Nat}:=bP 2 0<|i (l B (N m0))<|i (l A B)<|l A<|N aN
def Sf:=K 4 0<|i (S B A D)<|i (e D (P af b))<|t A B
def Sg:=K 4 0<|i (g A B D)<|i (n (t af A))<|l D af
def Sh:=K 0 3<|i (a (r (P (X 2147483629 B) af) A) (a (p c af) (q af (N 2147483629))))<|q (P af (N 17))<|N 2147483647
def Si:=K 1 0<|i (t A s)<|q (ag A)<|N 1000000
def Sj:=K 0 1<|i (p c A)<|p c<|P (P (P A j) b) b
def Sk:=K 1 0<|i (l A v)<|n<|t v A
def Sl:=K 1 0<|i (l A (N 9))<|i (n (l A w))<|e A<|N 9
def Sm:=@bO 1 0 (e (P (P k (X 2 A)) b) (P (N 17) (X 2 A))) (⋯)
def Sn:=@bO 1 0 (e (P k (X 2 (P A b))) (P (N 18) (X 2 A))) (⋯)
def So:=@bO 1 0 (e (P (N 17) (X 2 A)) (P k (P (X 2 A) b))) (⋯)
def Sp:=K 0 2<|i (p B (N 56))<|i (p A B)<|p A<|N 56
def Sq:=K 3 0<|i (S A B af)<|i (l A s)<|l af v
def FX {m0:Nat}:=bP 2 0<|i (t B (N m0))<|i (e A B)<|t A<|N m0
def Sr:=K 3 0<|i (S A B af)<|i (n (t A B))<|e A<|P B af
def Ss:=K 0 3<|i (p af B)<|i (p A af)<|p A B
def Su:=K 3 0<|i (t A af)<|i (e af B)<|t A B
def Sv:=K 3 0<|i (t A af)<|i (l af B)<|n<|e A B
def Sw:=K 3 0<|i (e af A)<|i (l af B)<|l A B
def Sx:=K 0 1<|i (a (p c A) (p A (N 75)))<|p A<|N 1048576
def Sy:=K 1 0<|i (l A d)<|l (P (P A b) b) v
def Sz:=@bO 0 1 (r (W (P A (W h j)) b) (P A (N 59))) (⋯)
theorem SA {a:Int}:((a/256)%256)=((a%65536)/256):=by rw [Int.emod_def (a/256) 256,Int.ediv_ediv_of_nonneg ∅,Int.emod_def a 65536,show(65536:Int)=256*256 from rfl,Int.mul_assoc,Int.sub_eq_add_neg (a:=a),<-Int.mul_neg,Int.add_mul_ediv_left _ _ ∅];rfl
def SB:=K 1 0<|i (q (ag A) y)<|l (P A b)<|N 1000000
def SC:=K 1 0<|i (l A (N 100))<|a (l A s)<|l A<|N 1001
def SD:=@bO 1 0 (p (P (P (ag A) b) b) (P (ag A) d)) (⋯)
def SE:=@bO 1 0 (r (P b (P (ag A) b)) (P (ag A) d)) (⋯)
def SF:=K 2 0<|i (t A B)<|t (P (P d A) (N 7))<|P B<|N 9
def SG:=K 2 0<|i (e A (P d B))<|l A<|P (P d B) b
def SH:=K 2 0<|i (e A (P B d))<|l A<|P (P B b) b
def SI:=K 0 3<|i (p (P B af) A)<|n<|q A<|P B af
def SJ:=K 0 3<|i (n (q af (P A B)))<|p (P A B) af
def SK:=K 3 0<|i (V (P (Z b) (ag A)) B)<|i (S A b af)<|e B af
def SM:=K 0 1<|i (a (p c A) (p A (N 75)))<|p (Z (N 1048576)) A
def SN:=K 1 0<|i (r (ag A) h)<|n<|n<|r (ag A) h
def SO:=@bO 1 0 (r (ag (P A b)) (P (ag A) b)) (⋯)
def SP:=@bO 1 0 (r (P b (ag A)) (ag (P A b))) (⋯)
def SQ:=K 0 2<|i (p c A)<|i (p c B)<|p c<|P A B
def SR:=K 0 2<|i (p c B)<|i (p c A)<|p c<|P A B
def SS:=K 2 0<|i (l (P A B) (N 16000000))<|l A<|N 16000000
def SU:=K 2 0<|i (l b B)<|i (t A y)<|t A<|P d B
def SV:=K 3 0<|i (S B b af)<|i (e A af)<|i (e B (N 9))<|e A w
def SW:=K 2 0<|i (e B (P A b))<|i (l B y)<|l A d
def SX:=K 3 0<|i (l (P (P A B) af) s)<|l A s
def SY:=K 3 0<|i (t (P (P A af) w) B)<|t (P A b) B
def SZ:=K 0 3<|i (a (r (P (X 65536 B) af) A) (a (p c af) (q af (N 65536))))<|i (q A (N 4294967296))<|q B<|N 65536
def S0:=K 2 0<|i (l A (X 2 B))<|i (l B (N 9))<|l A<|N 18
def vf {m0 aN:Nat}:=bP 2 0<|i (t B (N m0))<|i (e A B)<|l A<|N aN
def S6:=K 1 0<|i (e (P d A) d)<|n<|n<|e A c
def S7:=K 1 1<|i (R j (ag A) A)<|i (l A (N 35))<|p (P d A)<|N 56
def S8:=K 1 1<|i (R j (ag A) A)<|i (l A (N 40))<|p (P d A)<|N 56
def S9:=K 2 0<|i (V c B)<|i (n (q c (ag A)))<|e B A
def Ta:=K 2 0<|i (S (P k A) x B)<|e B<|P (P (P (P A b) b) b) b
def Tb:=K 2 0<|i (l (P A (P B b)) s)<|l A<|N 16777000
def Tc:=K 2 0<|i (t B A)<|q c<|W (ag A)<|ag B
def Td:=@bO 2 0 (e (P (P A (P B b)) b) (P (P (P A b) B) b)) (⋯)
def Te:=K 0 3<|i (p c B)<|i (p A af)<|p A<|P B af
def Tf:=K 0 3<|i (p c af)<|i (r B (P A af))<|p A B
def Tg:=K 3 0<|i (l (P (P k (X 2 B)) af) A)<|l (N 15) A
def Th:=K 4 0<|i (S af B D)<|i (e D c)<|i (e af A)<|l A B
def Ti:=K 3 0<|i (e B (P af b))<|i (l A af)<|t A B
def Tj:=K 3 0<|i (e B (P af A))<|i (e af B)<|e A c
def Tk:=K 5 0<|i (g A B D)<|i (S af A E)<|i (e B af)<|e (P D E) af
def FY {m0:Nat}:=bP 2 0<|i (q (ag B) (N 10))<|i (e A B)<|l A<|N m0
def Tl:=K 1 0<|i (t A s)<|q (P (ag A) d)<|N 4294967296
def Tm:=K 1 0<|i (l A v)<|n<|p (N 9223372036854775808)<|ag A
def Tn:=K 2 0<|i (q (ag B) (N 10))<|i (t A B)<|t A<|N 10
def To:=K 2 0<|i (t A (P B b))<|i (n (t A B))<|e A B
def sd {m0 aN lZ:Nat}:=bP 2 0<|i (e A (P B (N m0)))<|i (l B (N aN))<|l A<|N lZ
def Tp:=K 2 0<|i (l A B)<|i (n (e A B))<|l (P A b) B
def Tq:=K 4 0<|i (S A B af)<|i (S A (P B b) D)<|i (t B A)<|e af<|P D b
def Tr:=K 4 0<|i (S A B af)<|i (S af b D)<|i (t B A)<|e A<|P B<|P D b
def Ts:=K 3 0<|i (g (P A b) B af)<|i (l B (N 100000))<|l af<|N 100000
def Tt:=K 5 0<|i (S A B af)<|i (V (Z (Z (ag B))) D)<|i (S A D E)<|e af E
def Tu:=@bO 3 0 (e (P (P A (P B af)) b) (P (P (P A B) af) b)) (⋯)
def Tv:=K 4 0<|i (t A D)<|i (e B D)<|t A<|P B af
def Tw:=K 2 0<|i (l (P A B) (N 1000000))<|l (P A B)<|N 16000000
def Tx:=K 2 0<|i (l A (N 40))<|i (l B (N 40))<|l (P A B) s
def Tz:=K 1 1<|i (V A A)<|i (p c A)<|r A<|ag A
def TA:=K 0 1<|i (p A v)<|n<|r A<|W (N 9223372036854775808) b
def yT {m0 aN:Nat}:=bP 1 0<|i (r (ag A) (P (P b (N m0)) (N aN)))<|l A<|N 5
def TB:=K 1 0<|i (l A z)<|n<|q (P c z)<|ag A
def TC:=K 1 0<|i (n (l A z))<|q (P c z)<|ag A
def TF:=@bO 1 0 (r (P (ag (P A b)) b) (P (ag A) d)) (⋯)
def TG:=K 2 1<|i (L (ag A) (N 20) A)<|i (g A (N 20) B)<|r A<|ag B
def TH:=K 2 0<|i (e (P d A) (P d B))<|n<|t A B
def TJ:=K 2 0<|i (l B (N 2000))<|i (l A B)<|t (P A b)<|N 4096
def TK:=K 2 0<|i (n (t B A))<|p (W (ag A) (ag B)) c
def TL:=K 3 0<|i (e (P (P A b) af) B)<|l (P A b)<|P B d
def TM:=K 3 0<|i (l (P A (X 2 (P af b))) B)<|t (P A b) B
def TN:=K 3 0<|i (l (P A (P B b)) af)<|l (P (P A b) B) af
def TO:=K 5 0<|i (S A B D)<|i (S A (P B b) E)<|i (e D (P af b))<|e E af
def TP:=K 5 0<|i (S B af D)<|i (S B (P af b) E)<|i (e D (P A b))<|e A E
def TQ:=K 3 0<|i (t A (P B (P af b)))<|t A<|P (P B b) af
def TR:=K 1 0<|i (l A (N 1000000))<|q (P (ag A) b)<|N 4294967296
def TS:=K 1 1<|i (R j (ag A) A)<|i (l A (N 5))<|p (P (P d A) c)<|N 56
def TT:=K 2 0<|i (S A b B)<|i (l A w)<|p (X 7 (ag B))<|N 52
def TU:=K 2 0<|i (e A B)<|i (l B (N 32))<|q (ag A)<|N 65536
def TV:=K 1 1<|i (V c A)<|i (p b A)<|i (n (q c A))<|e A b
def TW:=K 1 1<|i (a (p d A) (p A (ag A)))<|n<|r A b
def TX:=K 1 1<|i (R j (ag A) A)<|i (p (P d A) (N 52))<|l A v
def TY:=K 1 0<|i (l A (N 120))<|n<|q (P z z)<|ag A
def TZ:=K 1 0<|i (n (q (ag (N 63)) (ag A)))<|l A<|N 63
def T1:=K 2 2<|i (a (r (P (X 1 A) B) (W (W (ag A) c) b)) (a (p c B) (q B b)))<|i (V (P A b) B)<|e B A
def T2:=K 1 1<|i (r (ag A) A)<|n<|q (ag A) A
def FZ {m0:Nat}:=bP 1 1<|i (p c A)<|p c<|P (ag A)<|P (N m0) A
def T3:=K 2 0<|i (q (ag B) y)<|i (e A (P B b))<|l A y
def T4:=K 2 0<|i (t A (N 900))<|i (e B w)<|t (P A B)<|N 1000000
def T5:=K 3 0<|i (l (P A (P B b)) af)<|n<|e A af
def T6:=K 3 0<|i (e (P A b) af)<|i (e af (P B b))<|e A B
def T7:=K 3 0<|i (e (P B A) af)<|i (l af s)<|l A s
def F0 {m0:Nat}:=bP 3 0<|i (e A (P (P k (X 2 B)) af))<|l (N m0)<|P A b
def T8:=K 3 0<|i (e A (P (P k (X 2 B)) af))<|t (N 15)<|P A b
def T9:=K 1 1<|i (V c A)<|i (q z A)<|i (n (q c A))<|e A d
def F3 {m0 aN:Nat}:=bP 1 0<|i (r (ag A) h)<|q (P (N m0) (N aN))<|ag A
def Ua:=K 3 1<|i (V A B)<|i (S A B af)<|i (l A (N 75))<|l af<|N 120
def Ub:=K 2 0<|i (l B (N 11))<|i (l A (N 18))<|l (P (P b A) B)<|N 40
def Uc:=K 1 1<|i (r (Z A) (ag A))<|r A<|Z<|ag A
def Ud:=K 1 1<|i (p (P A b) (ag A))<|q A<|ag A
def Ue:=K 4 0<|i (S A B af)<|i (S A (P B b) D)<|i (l (P B b) A)<|e af<|P D b
def Uf:=@bO 2 0 (r (ag (P A B)) (P (ag A) (ag B))) (⋯)
def Ug:=@bO 2 0 (r (P (ag A) (ag B)) (ag (P A B))) (⋯)
def Uh:=K 3 0<|i (t A B)<|i (e A af)<|n<|l B af
def Ui:=K 3 0<|i (t A B)<|i (e af A)<|n<|l B af
def Uj:=K 5 0<|i (g A B D)<|i (S A D E)<|i (t A af)<|i (e B af)<|e E c
def Uk:=K 6 0<|i (S A D E)<|i (S A B F)<|i (t E af)<|i (e B D)<|t F af
def Ul:=K 0 1<|i (p A v)<|n<|q (W (N 9223372036854775808) (N 34)) A
def Um:=K 2 0<|i (V c B)<|i (n (q (Z b) (W (ag A) b)))<|e B A
def Un:=K 3 0<|i (S B b af)<|i (t A (N 900))<|i (l B w)<|t (P A af) s
def Uo:=K 0 4<|i (a (r (P (X 60 af) D) A) (a (p c D) (q D z)))<|i (p D B)<|i (n (p A B))<|p D A
def Up:=K 3 0<|i (S B b af)<|i (e af (P (P A b) b))<|i (e B (N 9))<|e A<|N 6
def Uq:=K 3 0<|i (S B b af)<|i (e af (P (P A b) b))<|i (e B (N 9))<|l A<|N 7
def Ur:=K 1 1<|i (p (Z (ag A)) A)<|p c<|P A<|ag A
def Us:=K 1 1<|i (p c A)<|q (W (W h A) (ag A))<|N 65536
def Ut:=K 1 1<|i (n (p c A))<|q (P A (ag A))<|ag A
def Uu:=@bO 1 1 (r (P (P A (ag A)) b) (P (P A (ag A)) b)) (⋯)
def yU {m0 aN:Nat}:=bP 1 0<|i (l A (N m0))<|q (ag (P A (N aN)))<|N 4294967296
def Uv:=@bO 1 0 (r (P (P (ag A) (ag c)) b) (P (ag A) b)) (⋯)
def Uw:=@bO 1 0 (e (P x (P (P (P (P (X 2 A) b) b) b) b)) (P k (X 2 A))) (⋯)
def Ux:=K 2 0<|i (V (W (W (W (W (ag A) b) (Z b)) (Z b)) b) B)<|e B A
def Uy:=K 2 0<|i (l x B)<|i (e A (P B b))<|o (e A d)<|l x A
def Uz:=K 6 0<|i (S A B af)<|i (S af b D)<|i (S (P B (P D b)) B E)<|i (S E b F)<|e D F
def UA:=K 3 0<|i (l (P A B) af)<|i (l af s)<|l (P A B) s
def UB:=K 3 0<|i (l (P A af) s)<|i (l B af)<|l (P A B) s
def UC:=K 3 0<|i (l (P B (P af A)) (N 16000000))<|l (P A b) v
def UD:=K 4 0<|i (g B af D)<|i (l A D)<|i (l af s)<|l A<|N 16777000
def UE:=K 1 2<|i (a (r (P (X 60 A) B) (P (ag A) (N 59))) (a (p c B) (q B z)))<|i (l b A)<|i (l A z)<|r A b
def UF:=K 2 0<|i (q (ag B) y)<|i (l A (P b (P B b)))<|l A<|N 10
def UG:=K 2 0<|i (l A x)<|i (l B (N 32))<|l (P A (X 2 B)) v
def UH:=K 3 0<|i (l (P B af) (N 1000000))<|i (t A af)<|l A<|N 16777000
def UI:=K 0 1<|i (p c A)<|i (q A (N 256))<|a (n (q A c))<|n<|p (N 256) A
def UJ:=K 1 1<|i (p (P (P A b) b) (ag A))<|q A<|ag A
def UK:=K 1 1<|i (p c A)<|p (W (W h A) (ag A)) v
def UL:=K 1 1<|i (R j (ag (P j A)) A)<|i (l A (N 40))<|p (P d A)<|N 52
def UM:=K 2 0<|i (V (W (P (ag (P A b)) b) b) B)<|e B<|P A b
def UN:=K 2 1<|i (V A B)<|i (n (e A B))<|n<|r (ag A) A
def UO:=K 0 2<|i (q B (N 128))<|i (r A (N 72057594037927936))<|n<|p A B
def UP:=K 3 0<|i (S B j af)<|i (e A j)<|i (l B s)<|l (P A af) v
def yV {m0 aN:Nat}:=bP 2 0<|i (e B (P A (N m0)))<|p (ag (P A (N aN)))<|ag B
def UQ:=K 0 3<|i (q A (P B af))<|i (r B c)<|n<|p af A
def UR:=K 4 0<|i (g B af D)<|i (l (P A af) (N 16000000))<|l (P A D)<|N 16000000
def US:=K 1 1<|i (p A (ag A))<|n<|r A<|ag<|P A b
def UT:=K 1 1<|i (p A (ag A))<|p A<|ag<|P A d
def UU:=K 1 1<|i (q (ag A) A)<|n<|p A<|ag A
def UV:=K 3 0<|i (S B b af)<|i (e B (P af b))<|i (e A B)<|e A<|P af b
def F4 {m0:Nat}:=bP 0 3<|i (p c B)<|i (r af (P A B))<|i (p af (N m0))<|p A<|N m0
def UW:=K 3 0<|i (l (P A (X 2 (P B b))) af)<|l (P (P A d) (X 2 B)) af
def UX:=K 4 0<|i (e (P B af) D)<|i (l b B)<|i (e A D)<|l b A
def UY:=K 1 1<|i (V A A)<|i (a (p c A) (p A (N 75)))<|r (ag A) A
def UZ:=K 0 3<|i (a (r (P (X 2 B) af) (N 18446744073709551616)) (a (p c af) (q af d)))<|i (q A (N 65536))<|n<|p B A
def U0:=K 0 2<|i (a (p w A) (p A x))<|i (p c B)<|p c<|P A<|X 2 B
def F6 {m0:Nat}:=bP 3 0<|i (a (l B (N 900)) (a (l (P A af) (N 100)) (l af y)))<|l A<|N m0
def U1:=@bO 1 1 (r (P (P (P A (ag A)) b) b) (P (P A (ag A)) d)) (⋯)
def U2:=K 2 1<|i (q A (ag B))<|i (e B A)<|q A<|ag A
def U3:=K 2 1<|i (p A (ag A))<|p A<|ag<|P A B
def U4:=K 1 0<|i (l A (N 800000))<|q (ag (P (P A (N 9)) d))<|N 4294967296
def U5:=K 3 0<|i (t A (P d af))<|i (e af (P B b))<|t A<|P d<|P B b
def U6:=K 3 0<|i (l A (X 2 af))<|i (l B d)<|l (P A B)<|X 2<|P af b
def U7:=K 4 0<|i (g A B D)<|i (l A (P af b))<|i (l af s)<|l D<|N 16777000
def U8:=K 5 0<|i (S A B D)<|i (S A (P B b) E)<|i (t B af)<|i (e af A)<|e D<|P E b
def U9:=K 3 0<|i (l af (P b B))<|i (l A (P af b))<|l A<|P b<|P B b
def Va:=K 5 0<|i (S A B E)<|i (e A (P (P (P B b) af) D))<|e E<|P (P b af) D
def Vb:=K 1 2<|i (a (r (P (X 60 A) B) (P (ag A) (N 59))) (a (p c B) (q B z)))<|i (l A (N 120))<|i (n (l A z))<|r A d
def Vc:=K 1 1<|i (R j (ag (P j A)) A)<|i (l A (N 5))<|p (P (P d A) c)<|N 52
def Vd:=K 0 2<|i (a (p w B) (p B x))<|i (p (P B (X 2 A)) h)<|p A<|N 99
def Ve:=K 5 0<|i (V (P (W (ag A) b) (Z (ag B))) af)<|i (S A b D)<|i (S D B E)<|e af E
def Vf:=K 3 0<|i (l (P A af) (N 1000000))<|i (t B af)<|l (P A B)<|N 16000000
def yW {m0 aN:Nat}:=bP 1 1<|i (p (P (P A (N m0)) b) (ag A))<|q (P A (N aN))<|ag A
def F7 {m0:Nat}:=bP 1 1<|i (r (ag A) (P (P d A) (N m0)))<|i (p c A)<|l d A
def Vg:=K 2 1<|i (V A B)<|i (p c A)<|i (e A B)<|r (ag A) A
def Vh:=K 2 2<|i (V (P A B) B)<|i (p (P A B) (ag A))<|l B A
def Vi:=@bO 2 0 (r (P (P (ag A) (ag B)) b) (P (ag A) (P (ag B) b))) (⋯)
def Vj:=K 3 0<|i (e (P (P B b) af) A)<|p d<|ag<|P (P A c) b
def Vk:=K 3 0<|i (l (P k (X 2 af)) B)<|i (t A af)<|t (P k (X 2 A)) B
def Vl:=K 2 0<|i (q (ag B) y)<|i (l A (P b (X 30 (P B b))))<|l A<|N 100
def Vm:=K 0 1<|i (a (p c A) (q A (N 100000)))<|a (p (Z (N 9223372036854775808)) A)<|q A<|N 9223372036854775808
def Vn:=K 1 1<|i (r A (ag A))<|r (P A b)<|ag<|P A b
def Vo:=K 1 1<|i (a (p c A) (p A (N 75)))<|i (r (ag A) A)<|l A<|N 75
def F8 {m0:Nat}:=bP 1 1<|i (r (ag A) (P (P d A) (N m0)))<|i (p A (N 29))<|l A<|N 35
def Vp:=K 0 2<|i (p c B)<|i (q B (N 128))<|i (r A B)<|a (p c A)<|q A<|N 256
def F9 {m0:Nat}:=bP 1 2<|i (p (P (P A B) (N m0)) (ag A))<|p (P A B)<|ag A
def Vq:=K 0 3<|i (a (p (P B (X 2 af)) A) (p (P A j) h))<|n<|q h<|P A j
def Vr:=K 3 0<|i (l (P (P A (P B b)) af) s)<|l (P (P (P A b) B) af) s
def Vs:=K 4 0<|i (e (P (P af b) D) A)<|p d<|ag<|P (P A B) b
def Vt:=K 4 0<|i (e (P B af) D)<|i (l D s)<|i (l A B)<|l A s
def Vu:=K 2 0<|i (V (W z (ag A)) B)<|i (l A z)<|l (P (P j A) B) v
def Vv:=K 4 1<|i (V A af)<|i (S B af D)<|i (e A D)<|i (l B (N 75))<|l A<|N 120
def Ga {m0:Nat}:=bP 3 0<|i (a (l A (N 900)) (a (l (P B af) (N 100)) (l af y)))<|l (P A b)<|N m0
def Vw:=K 2 1<|i (p A (ag A))<|p A<|ag<|P (P A b) B
def Vx:=K 2 1<|i (e A B)<|i (p A (ag B))<|q (W A b)<|ag A
def Vy:=K 2 1<|i (R c (W j (ag A)) A)<|i (V A B)<|i (l A h)<|l (P A B) v
def Vz:=K 1 1<|i (p (P (P A j) b) (ag A))<|n<|q (ag A)<|P A j
def VA:=K 3 0<|i (e af (P (P k (X 2 A)) B))<|l (P (P k (X 2 A)) B)<|P af b
def VB:=K 2 1<|i (e A (P B (N 11)))<|i (p A (ag B))<|p A<|ag A
def VC:=K 1 0<|i (t c A)<|i (l A y)<|a (q c (ag A))<|q (ag A)<|N 18446744073709551616
def VD:=K 4 0<|i (S af b D)<|i (t A (N 900))<|i (e B D)<|i (e af (N 9))<|t (P A B) s
def VE:=K 4 0<|i (S af b D)<|i (t A (N 900))<|i (e B D)<|i (l af w)<|t (P A B) s
def VF:=K 2 1<|i (V A B)<|i (t B A)<|i (l A v)<|q A<|N 9223372036854775808
def VG:=K 2 1<|i (V A B)<|i (p c (W (W h A) (ag A)))<|l B v
def VH:=K 3 1<|i (V A B)<|i (S A B af)<|i (p c A)<|i (q A (ag A))<|l b af
def VI:=K 2 1<|i (r (ag B) A)<|i (t A B)<|q (ag A) A
def VJ:=@bO 2 0 (r (P (P (ag A) b) (X 1 (ag B))) (ag (P (P A B) b))) (⋯)
def VK:=@bO 2 0 (r (P (P c (P c (ag A))) (P c (ag B))) (ag (P A B))) (⋯)
def VL:=K 2 0<|i (e A c)<|i (l B (N 100))<|l (P A (X 1000 (P (P B b) b)))<|N 1000000
def VM:=K 0 3<|i (a (p (P B (X 2 af)) A) (p (P A j) h))<|n<|q A<|P B<|X 2 af
def VN:=K 1 3<|i (a (r (P (X 60 B) af) (W (W A c) b)) (a (p c af) (q af z)))<|i (V (P B b) A)<|i (p b A)<|i (p A z)<|e A b
def VO:=K 1 1<|i (p (Z (ag A)) A)<|i (l A v)<|p (Z (N 9223372036854775808)) A
def VP:=K 1 2<|i (r (ag A) (W A B))<|i (p c B)<|n<|q A c
def p9 {m0 aN lZ:Nat}:=bP 1 1<|i (r (ag A) (P (P (N m0) A) (N aN)))<|i (p c A)<|q (N lZ)<|ag A
def VQ:=K 1 1<|i (p c (W (W h A) (ag A)))<|i (p c A)<|l A v
def VR:=K 1 2<|i (r (ag A) (P (P A B) j))<|q (P (P A B) y)<|ag A
def VS:=K 2 0<|i (l B w)<|i (l A (N 800000))<|q (ag (P A B))<|N 4294967296
def VT:=K 4 0<|i (V c af)<|i (S A B D)<|i (n (q (P (ag B) b) (P (ag A) b)))<|e af D
def VU:=@bO 2 0 (r (W (W (ag A) (ag B)) b) (W (ag A) (ag (P B b)))) (⋯)
def VV:=K 3 0<|i (t (P (P A (P (X 8 B) w)) w) af)<|t (P (P A (P (X 8 B) j)) w) af
def VW:=K 5 0<|i (g af D E)<|i (l (P A (P B D)) (N 16000000))<|l (P (P A B) E)<|N 16000000
def VX:=K 1 0<|i (o (e A (N 10)) (o (e A (N 11)) (o (e A (N 13)) (e A (N 17)))))<|a (l w A)<|t A<|N 20
def VY:=K 3 0<|i (q (ag B) y)<|i (t af (P B b))<|i (e A af)<|l A<|N 16777000
def VZ:=K 1 3<|i (a (r (P (X 60 B) af) (W (W A c) b)) (a (p c af) (q af z)))<|i (V (P B b) A)<|i (q z A)<|i (p A (N 120))<|e A d
def V0:=K 2 1<|i (a (q (ag A) A) (p A (P (ag A) (ag B))))<|p b A
def Wa:=K 2 1<|i (q (P A b) (ag B))<|i (e A B)<|q (P A b)<|ag A
def Wb:=K 1 0<|i (l x A)<|a (n (e (N 5) A))<|a (n (e j A))<|a (n (e (N 11) A))<|n<|e (N 7) A
def Wc:=K 1 2<|i (r (ag A) (W h A))<|r (P (W h A) B)<|P (ag A) B
def Wd:=K 3 0<|i (t B af)<|p (ag (P (P A B) b))<|ag<|P A af
def We:=K 3 0<|i (e (P B b) af)<|i (l A s)<|i (l af (N 40))<|l (P A B)<|N 16000000
def Wf:=K 3 0<|i (q (ag B) y)<|i (t af (P B b))<|i (l A (P b af))<|l A s
theorem Wg {a:Int} (gx:(0 <= a)) (l0:(a<65536)):((((a/256)%256)*256)+(a%256))=a:=by rw [Int.emod_eq_of_lt (Int.ediv_nonneg gx ∅) (Int.ediv_lt_of_lt_mul ∅ l0),Int.mul_comm];exact Int.mul_ediv_add_emod a 256
def Wh:=K 2 1<|i (V A A)<|i (V (ag A) B)<|i (p c A)<|r (ag B) A
def Wi:=K 2 1<|i (p (Z (ag B)) A)<|i (e B A)<|p (Z (ag A)) A
def Wj:=K 4 0<|i (V (W (ag (P (P A B) b)) b) D)<|i (e af A)<|e D<|P af B
def Wk:=K 2 0<|i (V (W z (ag A)) B)<|i (l A z)<|r (ag (P (P j A) B)) h
def Wl:=K 1 1<|i (p A (X 7 (ag A)))<|i (l A (N 9))<|i (n (p A (N 56)))<|e A<|N 9
def Wm:=K 3 0<|i (l af (P b (X 30 B)))<|i (l A (P af (N 30)))<|l A<|P b<|X 30<|P B b
def Wn:=K 2 2<|i (R c (W j (ag A)) A)<|i (V A B)<|i (R j (ag A) B)<|r (ag (P A B)) B
def Wo:=K 4 2<|i (a (r (P (X 1 A) B) (W (W (P (ag A) b) (P (ag B) b)) b)) (a (p c B) (q B b)))<|i (V (P A b) af)<|i (S A B D)<|e af D
def Wp:=@bO 3 0 (r (ag (P (P A (P B af)) b)) (ag (P (P (P A B) af) b))) (⋯)
def Wq:=K 5 0<|i (l (P (P af (P D b)) B) s)<|i (l (P E A) D)<|l (P A B) s
def Wr:=K 4 0<|i (a (l B s) (l af s))<|i (t D af)<|i (e A D)<|l A<|N 16777000
def Ws:=K 2 2<|i (V A B)<|i (p (P A B) (ag A))<|i (p c B)<|l B A
def Wt:=K 1 2<|i (r A (P (ag A) B))<|r (P A b)<|P (ag A)<|P B b
def Wu:=K 1 2<|i (r A (P (ag A) B))<|r (P A d)<|P (ag A)<|P B d
def Wv:=@bO 1 3 (r (P (P (P A (ag A)) B) af) (P A (P (ag A) (P B af)))) (⋯)
def Ww:=K 3 0<|i (t B d)<|i (e af (P A d))<|p (ag (P (P A B) b))<|ag af
def Wx:=K 3 0<|i (t B af)<|q (ag (P (P A B) b))<|ag<|P (P A af) b
def Wy:=K 3 0<|i (q (ag B) y)<|i (t af (P B b))<|i (l A (P b (X 30 af)))<|l A<|N 400
def Wz:=K 1 2<|i (r B (P A (ag A)))<|r (W (W h A) (ag A))<|W h B
def WA:=K 3 1<|i (V A af)<|i (e af B)<|i (t A B)<|n<|e A af
def WB:=K 4 0<|i (e (P (P A b) D) B)<|p (ag (P A b))<|ag<|P B af
def WC:=K 4 0<|i (t B af)<|p (ag (P (P A B) b))<|ag<|P A<|P af D
def WD:=K 3 1<|i (V (W A b) af)<|i (r A (P (P (ag A) (ag B)) b))<|e af<|P A B
def WE:=K 1 1<|i (R j (ag A) A)<|i (l A s)<|a (p c (P d A))<|q (P d A)<|N 100000
def WF:=K 1 1<|i (R j (ag (N 5)) A)<|r (P (P d A) (X 7 (ag A)))<|X 7<|ag<|P A b
def WG:=K 0 2<|i (a (p c A) (q A (N 65536)))<|i (a (p c B) (q B (N 65536)))<|p c<|P (Y A 65536) B
def WH:=K 6 0<|i (S E A F)<|i (a (l A B) (t B (P A F)))<|i (e af E)<|a (l A B)<|t B<|P af D
def WJ:=K 2 2<|i (R j (ag B) B)<|i (r (ag A) B)<|i (q A (ag B))<|q A<|ag A
def WK:=K 2 2<|i (V (W A b) A)<|i (V (W B b) B)<|i (p b B)<|i (p b A)<|i (n (r B A))<|n<|e A B
def WL:=K 5 0<|i (l (P A D) (N 16000000))<|i (e D (P (P B af) E))<|l (P A (P B af))<|N 16000000
def WM:=K 1 0<|i (t A (N 900))<|a (p c (ag (P A (N 9))))<|q (ag (P A (N 9)))<|N 4294967296
def WN:=K 4 1<|i (V A af)<|i (g af B D)<|i (l A d)<|i (l B (N 75))<|l (P A D) v
def WP:=K 0 2<|i (a (p c B) (q B (N 256)))<|i (o (r A B) (o (r A c) (r A c)))<|a (p c A)<|q A<|N 256
def WQ:=K 2 0<|i (l x A)<|i (l x B)<|i (n (e A B))<|a (a (n (e d A)) (n (e d B)))<|n<|e A B
def WR:=K 3 0<|i (t (P (P A (X 16 (P (X 8 B) w))) h) af)<|t (P (P A (X 16 (P (X 8 B) j))) h) af
def WS:=K 4 0<|i (e (P B b) af)<|i (e B (P D A))<|i (l af (N 40))<|l (P (P c (P A b)) c) s
def WT:=K 1 0<|i (t A (N 900))<|a (p c (ag (P A (N 11))))<|q (ag (P A (N 11)))<|N 4294967296
def WU:=K 3 0<|i (l B (N 10))<|i (l A (N 100))<|i (l af y)<|a (l A (N 900))<|a (l (P B af) (N 100))<|l af y
def WV:=K 4 0<|i (e (P (P A b) af) D)<|i (e B (P D (N 11)))<|p (ag (P A b))<|ag B
def WW:=K 3 2<|i (V A af)<|i (r (ag B) (W B A))<|i (p B (ag A))<|l af A
def Gb {m0:Nat}:=bP 1 1<|i (p (P (X 2 (ag A)) A) (W h (N m0)))<|p (P (N m0) (X 2 (ag A)))<|W h A
def WX:=K 0 2<|i (a (p c A) (q A (N 65536)))<|i (a (p c B) (q B (N 65536)))<|q (P (Y A 65536) B)<|N 4294967296
def WY:=K 4 1<|i (V A af)<|i (S B af D)<|i (p c A)<|i (q A (ag B))<|i (e A D)<|l b A
def WZ:=K 4 1<|i (V A af)<|i (g af B D)<|i (l A d)<|i (l B (N 75))<|l (P (P A D) j) v
def W0:=K 4 0<|i (t (P (P D (P (X 8 B) w)) w) af)<|i (e A (P D b))<|t (P (P A (P (X 8 B) j)) w) af
def Xa:=K 6 0<|i (S af A F)<|i (a (l A B) (t B (P A F)))<|i (e D E)<|i (e B D)<|n<|l af E
def Xb:=K 6 0<|i (l (P A (P D E)) (N 16000000))<|i (e D (P (P B af) F))<|l (P A (P B af))<|N 16000000
def Xc:=K 1 1<|i (a (p c A) (q A (N 128)))<|i (l A (N 75))<|a (q (ag A) (N 256))<|a (p c A)<|q A<|N 256
def vg {m0 aN:Nat}:=bP 2 1<|i (r (ag B) (P (P (N m0) A) (N aN)))<|i (p c A)<|q (ag A)<|P (ag A)<|ag B
def Xd:=K 0 3<|i (a (p (P B (X 2 af)) A) (p (P A j) h))<|i (a (p w B) (p B x))<|i (p c af)<|p c A
def Xe:=K 3 2<|i (V A B)<|i (V B af)<|i (p c B)<|i (r A (P (ag A) B))<|e B<|P A af
def Xf:=K 4 0<|i (q (ag af) (N 10))<|i (e D af)<|i (l B (X 2 D))<|i (l A (N 400))<|t (P (P A b) B)<|N 900
def Xg:=K 1 1<|i (p (P (X 2 (ag A)) A) (W h w))<|i (p c A)<|p (P w (X 2 (ag A))) h
def Xh:=K 3 1<|i (V A B)<|i (S A B af)<|i (p c A)<|i (q A (ag A))<|r (W (ag A) A)<|ag af
def Xi:=K 1 3<|i (r af (P (X 2 (ag A)) A))<|i (p af (W h B))<|p (P (X 2 (ag A)) A)<|W h B
def Gc {m0:Nat}:=bP 2 1<|i (r (ag B) (P (P d A) (N m0)))<|i (p c A)<|q (P (ag A) b)<|P (ag A)<|ag B
def Xj:=K 5 0<|i (t B (N 10))<|i (e A (P af D))<|i (e E B)<|i (l D (X 2 E))<|i (l af (N 500))<|t A s
def Xk:=K 1 0<|i (l A (N 1000000))<|a (p c (P (ag (P A b)) b))<|q (P (ag (P A b)) b)<|N 4294967296
def Xl:=K 4 0<|i (l (P A af) (N 1000000))<|i (t B D)<|i (l D af)<|q (ag (P (P A B) b))<|N 4294967296
def Xm:=K 5 0<|i (e (P D b) E)<|i (e D (P B af))<|i (l A s)<|i (l E (N 40))<|l (P A (P B af))<|N 16000000
def Xn:=K 5 0<|i (t B (N 10))<|i (e A (P af D))<|i (e E B)<|i (l D (X 2 E))<|i (l af (N 500))<|l A<|N 1000000
def Xo:=K 3 1<|i (V (W (W A (ag A)) b) af)<|i (a (q (ag A) A) (p A (P (ag A) (ag B))))<|t af B
def Xp:=K 1 1<|i (a (p d A) (p A (ag A)))<|a (q (ag c) A)<|p A<|P (ag c)<|ag A
def Xq:=K 0 2<|i (a (p c A) (q A (N 256)))<|i (a (p c B) (q B (N 256)))<|a (p c (P (Y A 256) B))<|q (P (Y A 256) B)<|N 65536
def Xr:=K 3 2<|i (V B B)<|i (g B A af)<|i (p c B)<|i (q B (ag A))<|r (P A B)<|P (P A (ag af)) c
def Xs:=K 1 1<|i (a (p c A) (p A (X 100000 (ag A))))<|i (l A (N 100000))<|a (p (Z (N 9223372036854775808)) A)<|q A<|N 9223372036854775808
def Xu:=K 1 3<|i (a (p (P B (X 2 af)) A) (p (P A j) h))<|i (r (ag A) h)<|q (P A y)<|ag A
def Xv:=K 2 2<|i (r (ag B) (P (P A B) j))<|q (P (P (ag A) (P A B)) y)<|P (ag A)<|ag B
def Xw:=K 4 0<|i (t (P (P D (X 16 (P (X 8 B) w))) h) af)<|i (e A (P D b))<|t (P (P A (X 16 (P (X 8 B) j))) h) af
def Xx:=K 2 1<|i (V (W (W h A) (ag A)) B)<|i (p c (W (W h A) (ag A)))<|i (p c A)<|l (P A B) v
def Xy:=K 3 1<|i (V A B)<|i (g B A af)<|i (p c A)<|i (q A (ag A))<|r (P (P (ag af) j) b)<|P (P b A) j
def Xz:=K 3 1<|i (V A B)<|i (g B A af)<|i (p A (ag A))<|i (n (q A (ag A)))<|r (P (ag af) b)<|P b A
def XA:=K 5 0<|i (S D b E)<|i (t B af)<|i (e af E)<|i (l A (N 800000))<|i (l D (N 9))<|q (ag (P (P A B) b))<|N 4294967296
def XB:=K 3 1<|i (V A B)<|i (g B A af)<|i (p c A)<|i (q A (ag A))<|r (P (P (P (ag af) j) b) b)<|P (P d A) j
def XC:=K 3 1<|i (V A B)<|i (g B A af)<|i (p A (ag A))<|i (n (q A (ag A)))<|r (P (P (ag af) b) b)<|P d A
def XD:=K 1 3<|i (p (P A (X 2 af)) h)<|i (r (ag A) h)<|i (q B af)<|q (P (P A (X 2 B)) b)<|ag A
def XE:=K 6 0<|i (S D A F)<|i (o (a (l A B) (t B (P A F))) (e B E))<|i (t E af)<|i (l A D)<|i (l D E)<|a (l A B)<|t B af
def XF:=K 4 1<|i (a (q (ag B) A) (p A (P (ag B) (ag af))))<|i (e (P B af) D)<|i (e A D)<|p A<|ag A
def XG:=K 2 2<|i (r (ag A) (W A B))<|i (p c B)<|i (p A (ag B))<|i (l B v)<|l A v
def XH:=@bO 0 4 (r (P (Y (P (Y (P (Y (P (Y c 256) A) 256) B) 256) af) 256) D) (P (Y (P (Y A 256) B) 65536) (P (Y af 256) D))) (⋯)
def XI:=K 0 7<|i (a (r (P (X 65536 B) af) A) (a (p c af) (q af (N 65536))))<|i (a (r (P (X 256 D) E) B) (a (p c E) (q E (N 256))))<|i (a (r (P (X 256 F) H) af) (a (p c H) (q H (N 256))))<|r (P (Y (P (Y D 256) E) 65536) (P (Y F 256) H)) A
def XJ:=K 3 1<|i (V A af)<|i (t af A)<|i (p c A)<|i (e B A)<|i (l B (N 16777000))<|a (p (Z (N 9223372036854775808)) A)<|q A<|N 9223372036854775808
def XK:=K 3 0<|i (t B af)<|a (q (ag A) (ag (P (P A B) b)))<|p (ag (P (P A B) b))<|P (ag A)<|ag af
def XM:=K 2 1<|i (a (q (ag (P A b)) A) (p A (P (ag (P A b)) (ag B))))<|n<|r A<|ag<|P A b
def XN:=K 2 2<|i (R j (ag A) B)<|i (p A (X 7 (ag B)))<|i (l A (N 5))<|p (P (P d B) A)<|X 7<|ag<|P B b
def Gd {m0:Nat}:=bP 2 2<|i (p (P (P A B) (N m0)) (ag B))<|i (r (ag A) B)<|i (p c A)<|i (l B v)<|l A v
def XO:=K 0 3<|i (p (Z u) B)<|i (p c A)<|i (q af u)<|i (p A (W (W af B) b))<|a (p c (P A b))<|p (P A b)<|N 4611686018427387904
def XQ:=K 3 0<|i (S B b af)<|i (t A (N 900))<|i (l B w)<|a (p c (ag (P A (P af b))))<|q (ag (P A (P af b)))<|N 4294967296
def XR:=K 7 0<|i (S A B H)<|i (e H (P (P b af) D))<|i (q (ag E) (N 10))<|i (e F E)<|i (l af (X 2 F))<|i (l D (N 11))<|l A<|P B<|N 30
def XS:=K 3 1<|i (V (W (W h A) (ag A)) B)<|i (V A af)<|i (p c (W (W h A) (ag A)))<|i (p c A)<|l (P (P A B) af) v
def XT:=K 1 0<|i (o (t A j) (o (e A (N 6)) (l x A)))<|n<|o (e A (N 5))<|o (e A j)<|o (e A (N 11))<|o (e A (N 7))<|o (e A (N 9))<|o (e A w)<|e A<|N 10
def Ge {m0:Nat}:=bP 3 1<|i (r (ag B) (P (P (N m0) A) c))<|i (p (ag A) j)<|i (p A (ag af))<|i (l af (N 75))<|l (P A B) v
def Gf {m0:Nat}:=bP 3 1<|i (r (ag B) (P (P (N m0) A) j))<|i (p (ag A) j)<|i (q A (ag af))<|i (l af (N 75))<|l (P A B) v
def XU:=K 3 2<|i (V B af)<|i (a (p w A) (p A x))<|i (p (P A (X 2 B)) h)<|i (e af B)<|i (t A (P B b))<|l A<|N 16777000
def XV:=K 5 0<|i (a (l A (N 900)) (a (l (P D E) (N 100)) (l E y)))<|i (e E (P af b))<|i (l B (P D b))<|a (l A (N 900))<|a (l (P B af) (N 100))<|l af y
def XW:=K 7 0<|i (S A B H)<|i (e H (P (P b af) D))<|i (q (ag E) (N 10))<|i (e F E)<|i (l af (X 2 F))<|i (l D (N 11))<|i (l B (N 400))<|l A s
def XY:=K 3 1<|i (V (W (W A (ag A)) b) af)<|i (a (q (ag A) A) (p A (P (ag A) (ag B))))<|r (ag (P (P A af) b)) A
def XZ:=K 2 4<|i (r A (P (X 2 (ag A)) af))<|i (r B (P (X 2 (ag B)) D))<|i (p af D)<|i (l A B)<|p A B
def X0:=K 6 2<|i (V (P A B) B)<|i (V A af)<|i (S B af D)<|i (S A af E)<|i (g D E F)<|i (p (P A B) (ag A))<|i (p c A)<|i (p c B)<|r (ag F) B
def X1:=K 1 2<|i (a (p c A) (q A (N 100000)))<|i (p c B)<|i (p B (X 100000 (ag A)))<|a (p c (P A B))<|p (P A B)<|X 100000<|ag<|P A b
def X2:=K 4 1<|i (a (q (ag (P B b)) A) (p A (P (ag (P B b)) (ag af))))<|i (e (P (P B b) af) D)<|i (e A D)<|p A<|ag A
def X4:=K 2 6<|i (L A (ag A) af)<|i (R c af D)<|i (L B (ag A) E)<|i (R c E F)<|i (r (ag B) (W B A))<|i (p c A)<|i (p B (ag A))<|a (r D A)<|r F B
def X5:=K 4 1<|i (R j (ag A) A)<|i (r (ag D) A)<|r (P (P d A) (P (X 2 (ag B)) (ag af)))<|P (X 2 (ag (P B b)))<|ag<|P D af
def X6:=K 4 1<|i (e (P (P af b) D) A)<|i (a (q (ag af) A) (p A (P (ag af) (ag (P (P b D) B)))))<|i (l b af)<|a (p d A)<|p A<|ag<|P A B
def X7:=K 1 0<|i (l A s)<|a (p (Z u) c)<|a (q c u)<|a (p (Z u) (ag A))<|a (q (ag A) u)<|a (q c b)<|q b u
def X8:=K 1 0<|i (l A (N 1000000))<|a (p (Z u) c)<|a (q c u)<|a (p (Z u) (ag A))<|a (q (ag A) u)<|a (q c b)<|q b u
def X9:=K 0 8<|i (a (r (P (X 65536 af) D) B) (a (p c D) (q D (N 65536))))<|i (a (r (P (X 256 E) F) af) (a (p c F) (q F (N 256))))<|i (a (r (P (X 256 H) ea) D) (a (p c ea) (q ea (N 256))))<|i (o (r A E) (o (r A F) (o (r A H) (r A ea))))<|i (p c B)<|i (q B (N 4294967296))<|a (p c A)<|q A<|N 256
def Ya:=K 2 0<|i (l (P B A) (N 1000000))<|a (p (Z u) c)<|a (q c u)<|a (p (Z u) (ag A))<|a (q (ag A) u)<|a (q c b)<|q b u
def Yb:=K 1 0<|i (l A (N 120))<|a (p (Z u) c)<|a (q c u)<|a (p (Z u) (ag A))<|a (q (ag A) u)<|a (q c (W h j))<|q (W h j) u
def Yc:=K 5 0<|i (o (e A (P k (X 2 B))) (o (e A (P (N 17) (X 2 B))) (o (e A af) (o (e A c) (o (e A x) (o (e A (N 6)) (e A y)))))))<|i (e af (P (P k (X 2 D)) E))<|o (t A j)<|o (e A (N 6))<|l x A
def Yd:=K 4 1<|i (V (W (W h A) (ag A)) D)<|i (p (P (X 2 (ag af)) A) (W h w))<|i (r (ag B) A)<|i (e A (P w (X 2 af)))<|r (ag (P (P A D) B)) h
def Ye:=K 4 1<|i (V (W (W h A) (ag A)) D)<|i (p (P (X 2 (ag af)) A) (W h x))<|i (r (ag B) A)<|i (e A (P x (X 2 af)))<|r (ag (P (P A D) B)) h
def Yf:=K 2 0<|i (a (l A s) (l B s))<|a (p (Z u) c)<|a (q c u)<|a (p (Z u) (ag A))<|a (q (ag A) u)<|a (q c b)<|q b u
def Yg:=K 2 0<|i (a (l B s) (l A s))<|a (p (Z u) c)<|a (q c u)<|a (p (Z u) (ag A))<|a (q (ag A) u)<|a (q c b)<|q b u
def Yh:=K 8 3<|i (V A af)<|i (g af A D)<|i (S D c E)<|i (g A A F)<|i (R A B af)<|i (V af H)<|i (S F H ea)<|i (r (ag B) (W B A))<|i (p c A)<|i (p B (ag A))<|i (l A v)<|l (P (P E B) ea) v
def Yi:=K 2 0<|i (l B s)<|i (l A B)<|a (p (Z u) (P (ag A) b))<|a (q (P (ag A) b) u)<|a (p (Z u) (P (ag B) b))<|a (q (P (ag B) b) u)<|a (q c b)<|q b u
def Yj:=K 6 0<|i (o (e A (P k (X 2 B))) (o (e A (P (N 17) (X 2 B))) (o (e A af) (o (e A (P k (X 2 D))) (o (e A (P (N 17) (X 2 D))) (o (e A c) (e A x)))))))<|i (e af (P (P k (X 2 E)) F))<|o (t A j)<|o (e A (N 6))<|l x A
def Yk:=K 5 2<|i (r (P (P (ag A) (ag B)) (P (P (ag af) (ag D)) (ag E))) h)<|i (r (ag E) B)<|i (r A (P B (ag D)))<|r (P (P (ag A) (ag B)) (ag af))<|W h A
def Yl:=K 3 0<|i (l x A)<|i (l x B)<|i (t A af)<|i (t B af)<|i (n (e A B))<|a (a (n (e d A)) (a (n (e d B)) (a (n (e d af)) (n (e af b)))))<|a (a (n (e A B)) (a (n (e A af)) (n (e A (P af b)))))<|a (n (e B af))<|n<|e B<|P af b
def Ym:=K 3 4<|i (R j (ag B) D)<|i (p (P (X 2 (ag A)) B) (W h w))<|i (r (ag af) D)<|i (r af (P A (ag af)))<|i (p af B)<|p (P w (X 2 (ag A)))<|W h<|P A D
def Yn:=K 3 7<|i (R j (ag (P A B)) H)<|i (r (ag B) (P (P B af) D))<|i (r (ag af) H)<|i (p c E)<|i (r A (W h F))<|i (r F (P E (ag af)))<|p (P (P (P (P A (ag A)) B) af) D) h
def Yo:=K 7 0<|i (o (e A (P k (X 2 B))) (o (e A (P (N 17) (X 2 B))) (o (e A af) (o (e A (P k (X 2 D))) (o (e A (P (N 17) (X 2 D))) (o (e A (P k (X 2 E))) (e A (P (N 17) (X 2 E)))))))))<|i (e af (P (P k (X 2 F)) H))<|o (t A j)<|o (e A (N 6))<|l x A
def Yp:=K 1 2<|i (a (p w A) (p A x))<|i (p (P A (X 2 B)) h)<|i (r (ag A) B)<|a (p (Z u) c)<|a (q c u)<|a (p (Z u) (ag A))<|a (q (ag A) u)<|a (q c b)<|q b u
def Yq:=K 2 2<|i (V B B)<|i (a (p w A) (p A x))<|i (p (P A (X 2 B)) h)<|i (e B A)<|a (p (Z u) c)<|a (q c u)<|a (p (Z u) (ag (P A b)))<|a (q (ag (P A b)) u)<|a (q c b)<|q b u
def Yr:=K 0 4<|i (p (Z u) A)<|i (p (Z u) B)<|i (a (p c D) (p D (N 4611686018427387904)))<|i (q c af)<|i (q A u)<|i (q B u)<|i (q af u)<|a (a (a (a (a (p (Z (N 9223372036854775808)) A) (q A (N 9223372036854775808))) (a (p (Z (N 9223372036854775808)) B) (q B (N 9223372036854775808)))) (a (p (Z (N 9223372036854775808)) af) (q af (N 9223372036854775808)))) (a (p (Z (N 9223372036854775808)) D) (q D (N 9223372036854775808))))<|o (r D c)<|a (p (Z (N 9223372036854775808)) (P B (W af b)))<|q (P B (W af b))<|N 9223372036854775808
def yX:=K 1 4<|i (p (P (P A B) af) (ag A))<|i (p c B)<|i (p c af)<|i (r A D)<|p D<|ag A
def Ys:=K 4 2<|i (R j (ag D) B)<|i (p (P (X 2 (ag A)) (ag B)) (W h A))<|i (l af B)<|i (r (ag af) B)<|i (p c A)<|l D h
def Yt:=K 1 2<|i (p (P (X 2 (ag A)) A) (W h B))<|i (p c A)<|i (p c B)<|l A<|N 32
def Yu:=K 2 1<|i (R j (ag B) A)<|i (r (ag A) A)<|i (l B h)<|l A v
def Yv:=K 2 4<|i (p w D)<|i (p (P (X 2 (ag A)) af) (W h D))<|i (p B af)<|i (r B (P A (ag B)))<|p c<|W (W h A)<|ag B
def Gg:=K 2 0<|i (t A B)<|i (l B (N 32))<|l A<|N 16777000
def Gh:=K 3 0<|i (g A B af)<|i (l B (N 32))<|l af<|N 16777000
def Yw:=K 1 2<|i (p w B)<|i (p (P (X 2 (ag A)) A) (W h B))<|p c<|W h A
def Yx:=K 3 0<|i (e B (P A d))<|i (t B af)<|n<|e af<|P A d
def Yy:=K 2 0<|i (l B (P A b))<|n<|e B<|P A d
def Yz:=K 2 0<|i (l (P (P k (X 2 A)) d) B)<|t (P k (X 2 A)) B
def YA:=K 2 0<|i (l (P (P k (X 2 A)) d) B)<|t (P (P k (X 2 A)) b) B
theorem YB {a:Int}:(((a/256)/256)%256)=((a/65536)%256):=congrArg (· %256) (Int.ediv_ediv_of_nonneg ∅)
theorem YC {a:Int} (gx:(0 <= a)) (l0:(a<4294967296)):((((a/256)/256)/256)%256)=((a/65536)/256):=(congrArg (· /256%256) (Int.ediv_ediv_of_nonneg ∅)).trans (Int.emod_eq_of_lt (Int.ediv_nonneg (Int.ediv_nonneg gx ∅) ∅) (Int.ediv_lt_of_lt_mul ∅ (Int.ediv_lt_of_lt_mul ∅ l0)))
def qC:=K 2 3<|i (r (ag A) A)<|i (p (P (P B A) af) (ag B))<|i (r (ag B) h)<|i (p c B)<|i (p c af)<|l A v
def YD:=K 4 2<|i (V A af)<|i (V B D)<|i (p c A)<|i (p c B)<|i (e (P B A) (P af D))<|r (W (P A B) (ag A))<|ag B
theorem YE {a b:Int} {c d:Nat} {e:Prop} (gx:((0 <= a)/\((0 <= b)/\e))) (l0:((d+c)=((Int.toNat a)+(Int.toNat b)))):((a+b)-(c:Int))=(d:Int):=YD (bp a) (bp b) gx.1 gx.2.1 l0
end
end Mo
namespace MineK
end MineK
namespace Mine
end Mine
open PySem renaming Value → ai, Shared → al, Addr → aq, Str → ax, model → aG, Expr → aH, Pos → aX, Env → be, Heap → bk, eval → bM, Obj → cj, Sem → ck, Around → cy, World → dU, Program → d4, mainGlobals → eU, Tok → e0, Stmt → eT, Scope → fe, Params → fW, Builtin → f6, Flow → f7, call → hG, starEach → ij, NameKind → hH, rawInt → iC, Model → jz, typeLookup → jA, isTrue → jB, backTo → j6, noteFrame → j7, standAt → j4, swapsWith → kz, Comprehension → kB, wpAny_loadPart' → kW, Code → kX, holding → ky, exec → kY, argsOk → lL, wpAny_field → lM, Result → lN, entryFor → mN, table → mO, wpAny_specialOf → mP, foldedSetIterable → mY, seqIndex? → nP, execs → nR, sysModules → nS, Operator → nU, bootBuiltins → nZ, wpAny_load → pD, storeName → pE, allTrue → pG, keeperOf → pH, DictEntry → pI, intKind → pJ, builtinsNs → pK, bindL → pL, excClassObj → pQ, Meets → rv, sizeLine → rx, behindInMarks → ry, truthy → pF, spliced → rz, bindArgs → rC, Arguments → rD, swappedStores → rH, wpAny_loadPart_at → rJ, call_meets → tZ, wpAny_truthy_bool → t3, compareOp → t4, recursionLimit → t6, wpAny_Name → ub, assignInOrder → um, callerA → uv, entryFor_of_tree → xl, signature?_of → xm, bm_if_false → xo, setItem → xp, operate → xr, wpAny_loadName_local → xy, attributeBase → xA, subscripted → xD, bindName → xG, wpAny_isSubtype_exc → xK, closureFor → xM, pyIter → xP, wpAny_mkInt → Dc, sliceBounds → De, wpAny_newObj_type → Dg, plainId_quiet → Di, callWith → Dm, evalPart → Dn, getAttr → Do, letTemporaryGo → Dp, wpAny_Constant_str → Ds, getItem → DD, sizeLine_eq → DE, getMethod_builtin → DG, swapsWithSole → DL, assignEach → DM, raiseStmt → DO, ExceptHandler → DP, codeAmong → DQ, wpAny_typeOf → Oe, wpAny_sequenceKey → Of, isSubtype → Og, checkBuiltinCall → Oh, wpAny_mkBytes → Oj, interactive → On, inplaceOp → Op, newFunctionEnv → Oq, wpAny_newFunctionEnv_cells → Oz, list_getitem_lookup → OA, getItem_meets → OB, slicePick → OC, theTreesLotGoes → OK, bindSpecial → ON, wpAny_seqItems → OR, unpackItems → OS, ExcBaseFacts → OT, joinParts → OW, strLen_append → OX, comprehension → OY, isCodeTable → Pf, slice_no_index → arx, sliceIndices_raw → ary, wpAny_lookBehind → arz, wpAny_isInstance → arB, richCompare_meets_room → arG, slot_list_setitem → arH, markedBehindIn_of_false → arM, wpAny_letTemporaryGo → arN, wpAny_enterFrame → arO, methodCallForm → arX, wpAny_noteFrame_againW → arY, wpAny_storeName_local → ar2, wpAny_getItem_list_slice → asa, plainObj_exec_Assign_Attribute → ash, wpAny_pyIter_list → asm, wpAny_pyIter_range → asn, entry_typeCall → aso, wpAny_newFunctionEnv → asz, wpAny_comp_letGo → asC, constantsAlone → asE
open List renaming range → aI, length_append → a9, length_map → bz, getElem?_eq_getElem → bV, append_assoc → bX, mem_cons → cb, getElem?_map → cm, mem_of_getElem? → cq, map_cons → cB, getElem?_eq_some_iff → cF, append_nil → cO, mem_append_left → cQ, mem_append → cR, not_mem_nil → c6, getD_eq_getElem?_getD → da, map_append → db, mem_singleton → dj, all_eq_true → dc, mem_append_right → dn, mem_map → dz, replicate → eg, nodup_append → eq, nodup_cons → eD, getElem?_append_right → eE, length_set → e3, getElem?_cons_succ → fA, getElem?_cons_zero → fM, nodup_nil → f8, mem_range → gr, map_congr_left → gQ, getElem?_eq_none → hJ, all_cons → ii, getElem?_append_left → im, mem_map_of_mem → io, length_take → iD, map_map → iE, getElem?_range → i5, flatten_cons → i6, length_range → jC, range' → jD, set_append_right → i7, take_length → kA, flatten_append → kD, length_cons → kZ, length_pos_iff → k4, range_eq_range' → lP, length_drop → lQ, getElem?_set_ne → mS, getElem_inj → mT, getElem_mem → mX, take_append_drop → m3, range_succ → m4, getElem_of_mem → nT, take_of_length_le → n3, mem_flatten → n4, length_replicate → pS, ext_getElem? → rF, contains_cons → rI, set_cons_succ → rM, set_cons_zero → rN, getElem?_set_self → ua, cons_append → uf, pairwise_map → uh, perm_middle → ul, map_reverse → uo, mem_reverse → up, length_flatten → ur, contains_iff_mem → xt, prefix_rfl → xx, lookup_cons → xC, dropLast_eq_take → xE, lookup → xL, mem_filter → xN, set_append_left → xO, eq_nil_of_length_eq_zero → xQ, take_zero → xR, find?_cons → Dt, nodup_range → DH, flatten_nil → DS, sum_cons → DT, perm_append_comm → DU, map_nil → DV, drop_eq_getElem_cons → Ol, getElem?_zip_eq_some → Oy, take_add_one → OE, mem_of_mem_take → OF, eraseIdx_eq_take_drop_succ → OG, all_map → OI, sublist_cons_self → OL, range'_succ → OZ, all_append → O2, sum_reverse → O4, length_take_le → O5, mem_range'_1 → O6, take_left' → O7, dropLast_subset → O8, length_dropLast → O9, mem_of_getLast? → Pa, getLastD_eq_getLast? → Pb, length_singleton → Pd, all_nil → Pe, any_cons → arK, reverse_cons → arP, getLast?_eq_getElem? → asb, size_toArray → asc, filterMap_cons → asi, map_set → asj, filterMap → asp, foldl_cons → asr, forIn_cons → asu, filter_cons → asv, filter → asw, set_set → asy, map_take → asA, map_drop → asB, mem_of_mem_drop → asD, range'_append_1 → asP, nodup_range' → asQ, replicate_zero → asR, pairwise_lt_range → asS, getElem_cons_drop → asT, mem_replicate → asU, nil_append → asV, sublist_append_left → asW, append_inj' → asX, filter_nil → as0, length_filter_le → as1, filter_cons_of_neg → as2, pairwise_append → as5, concat_eq_append → as6
open Nat renaming le_of_ble_eq_true → bg, blt → bD, blt_eq → bS, le_refl → dA, zero_le → eF, le_trans → gq, lt_of_lt_of_le → i4, add_sub_cancel_left → ip, sub_self → iF, min_eq_left → k1, le_succ → mR, beq → mV, lt_irrefl → mW, ne_of_lt → nY, eq_of_beq_eq_true → ug, le_of_lt → ui, beq_refl → uk, zero_add → xJ, add_comm → xS, le_add_right → rK, lt_trans → Dr, not_lt → DA, ne_of_gt → DB, log2_lt → Ot, mod_eq_of_lt → OJ, lt_of_le_of_lt → arR, lt_of_succ_lt_succ → asf, lt_or_ge → asq, lt_succ_of_lt → ass, and_two_pow_sub_one_eq_mod → asJ, add_assoc → asM, min_eq_right → asO
open Option.some renaming inj → bl
open PySem.W.KBw renaming bInts → dI, ints_length → ar3
open Exists renaming imp → dV
open PySem.W renaming hideAll → ei, nsIn → fL, Looks → ik, hideAll_none → lO, typeIs_bytes → mQ, keepIn → mU, findIn → nW, hideAll_get → nX, mroIn → pR, instObj → t7, nameG_K → uc, dictOf → xv, tabObj → xw, of_hideAll → xB, emptyDict → xI, takerIn → Du, keeps_K → Dv, hideAll_size → Dz, codeRec_of → Ox, looks_findIn → OQ, cellsFrom_some → Ow
open Bool renaming and_eq_true → eC, false_eq_true → xz, or_true → DN, and_self → OH, or_eq_false_iff → arA, not_eq_false' → arC, eq_iff_iff → asd, eq_false_iff → asx, not_eq_true' → asG
open PySem.Heap renaming lt_size → fz, get?_push_of_some → j8, SameBut → kx, get?_push_size → rE, dictOf_iff → uj, get?_update_self → xn, get?_update_other → Dx, size_push → OP, get?_none_of_le → OU, IsList → ar8, ExtBut → asl
open And renaming imp_right → fK, imp → t8, imp_left → Dq
open PySem.Builtin.Range renaming rangeSize → gt, rangeFitsLong → auc
open Option renaming map_eq_some_iff → gP, bind_eq_some_iff → n0, map_some → pM, getD_some → pO, some_ne_none → Df, any_eq_true → asI
open PySem.Str renaming ofString → il, empty → OV
open PySem.Sem renaming wp_mono → j2, wp_bind' → xq, wp_holding → Dj, wp_operate → Dk, wp_cmd_standAt → Dl, wp_bindName → Oo, wp_pure' → arL
open Int renaming toNat → kC, eq_ofNat_of_zero_le → nQ, le_of_lt → nV, ne_of_gt → ud, emod_nonneg → us, emod_lt_of_pos → ut, le_trans → uu, ediv_nonneg → xH, le_refl → xT, natCast_add → DI, add_assoc → DJ, fdiv_eq_ediv_of_nonneg → Os, ofNat_inj → Ou, max_eq_right → OD, lt_trans → OM, zero_add → O0, add_zero → O3, ofNat_lt → arT, natAbs_of_nonneg → arU, natAbs_ne_zero → arV, pow_pos → arW, natCast_nonneg → asK, lt_of_sub_pos → asL, emod_eq_of_lt → asN, le_antisymm → as4
open Nat.succ renaming inj → mZ
open PyProof.Rows renaming IntsAre → pN, notin_tuple_ints → asg
open PySem.Value renaming type → pP, isStr → ue, isInt → xF
open PySem.Keeper renaming machine → rA, boundFrame → rB
open PySem.W.KFB renaming bound → rG
open PySem.Builtin.Bytes renaming fitsIndex → t2, subscript? → Dd, payload → arv, tooLong → arD, decodersThatHold → arJ, write → at2, bindOptional → at3, slotIsOwn → at4, ownRelease → at5, buffer? → at6, exported → at8, sameRef → aua, sliceParts → aue
open PySem.PyData renaming keyHash → xu
open PySem.Heap.SameBut renaming update → Dh
open Array renaming getElem?_eq_some_iff → Dw, replicate → Oi, getElem?_eq_getElem → arI
open PySem.Obj renaming data_mapFields → Dy, mapSeq → Om, mapFields → Ov, isFreed_of_fields → arZ
open PySem.W.FB renaming slot_bytes_getitem → DC, entry_bytes_getitem → ar4, args_bytes_getitem_2 → ar5
open PySem.Code renaming quiet_builtin → DF
open PySem.NameKind renaming globalImplicit → DK
open Or renaming inl → uq, imp_right → arQ
open List.Sublist renaming cons_cons → DW
open PySem.W.Looks renaming ld → OO
open List.Nodup renaming sublist → Pc, length_le_of_subset → asZ
open PySem.Manifest renaming owners → art
open String renaming ofList → aru
open PySem.W.KBy renaming picked → arw
open PySem.Around renaming under_plainId → arE
open PySem.AutoSeq1 renaming sub_list_list → arF
open PyProof renaming noPylong_of_log2 → arS
open PySem.W.KBc renaming size_picked_le → ar6, ints_picked → ar7
open PySem.Heap.IsList renaming typeIs → ar9
open PySem.SeqAt renaming EqAt → ase
open ForInStep renaming yield → ast
open PySem.Env renaming blockKind → asF
open PySem.ScopeKind renaming function → asH
open List.cons renaming inj → asY
open List.Perm renaming eq_of_pairwise → as3
open PySem.Builtin.List renaming listSubscript? → at7, listFitsIndex → aub
open PySem.Builtin.Bytes.exported renaming match_1 → at9
open Std.Legacy.Range renaming forIn_eq_forIn_range' → aud
open PySem PySem.W PySem.Calls PyProof.Rows MineK Mo
local macro_rules
 | `(tactic|rw [$rs,*])=>do
  let mut acc:Array (Lean.TSyntax `tactic):= #[]
  for r in rs.getElems do
   let k:=r.raw[0].getNumArgs==0;let a:=Lean.mkIdent (if k then `Mo.as7 else `Mo.as8);let b:=Lean.mkIdent (if k then `Mo.as9 else `Mo.ata);let t:Lean.Term:=⟨r.raw[1]⟩
   acc:=acc.push (← `(tactic| ((fail_if_success fail_if_success rewrite [$r]);first|refine $a $t ?_ |refine $a ($t _) ?_ |refine $a ($t _ _) ?_ |refine $b $t ?_ |rewrite [$r])))
  `(tactic| ($[$acc]*;try (with_reducible rfl)))
local macro_rules
 | `(tactic|show $t:term)=> `(tactic|first|refine(?_: $t)|change $t)
namespace MineK
namespace BA
open Builtin
theorem owner:art.lookup (aru ['y','a','r','r','a','e','t','y','b'].reverse)=some Manifest.sig_bytearray:= ⋯
theorem Gi:Slot "bytearray" "__len__" "bytearray.__len__" :=
 .of (owner:="bytearray") (n:="__len__") (⋯) (by decide+kernel) (by decide+kernel) (by decide+kernel)
  (by first|exact .inl (by decide+kernel)|exact .inr (by decide+kernel)) (⋯)
theorem entry_len:mN mO "bytearray.__len__" =some f6.«bytearray.__len__» :=xl (⋯)
theorem YF (a:ai):lL "bytearray.__len__" ⟨[a],[]⟩:=by
 unfold lL;rw [xm (n:=['_','_','n','e','l','_','_']) (⋯) owner];kernel_rfl
theorem slot_get:Slot "bytearray" "__getitem__" "bytearray.__getitem__" :=
 .of (owner:="bytearray") (n:="__getitem__") (⋯) (by decide+kernel) (by decide+kernel) (by decide+kernel)
  (by first|exact .inl (by decide+kernel)|exact .inr (by decide+kernel)) (⋯)
theorem entry_get:mN mO "bytearray.__getitem__" =some f6.«bytearray.__getitem__» :=xl (⋯)
theorem args_get (a b:ai):lL "bytearray.__getitem__" ⟨[a,b],[]⟩:=by
 unfold lL;rw [xm (n:=['_','_','m','e','t','i','t','e','g','_','_']) (⋯) owner];kernel_rfl
theorem slot_set:Slot "bytearray" "__setitem__" "bytearray.__setitem__" :=
 .of (owner:="bytearray") (n:="__setitem__") (⋯) (by decide+kernel) (by decide+kernel) (by decide+kernel)
  (by first|exact .inl (by decide+kernel)|exact .inr (by decide+kernel)) (⋯)
theorem Gj:mN mO "bytearray.__setitem__" =some f6.«bytearray.__setitem__» :=xl (⋯)
theorem Gk (a b c:ai):lL "bytearray.__setitem__" ⟨[a,b,c],[]⟩:=by
 unfold lL;rw [xm (n:=['_','_','m','e','t','i','t','e','s','_','_']) (⋯) owner];kernel_rfl
end BA
def baObj (b:Array UInt8):cj:={cls:=.type "bytearray",data:=.bytearray b 0}
section
variable {L:Program} {w:World} {A:Around} {E:Value->Shared->Prop} {s:Shared} {a:Addr} {b:Array UInt8}
theorem jc (h:s.heap.get? a=some (baObj b)):s.TypeIs (.ref a) "bytearray" :=(aJ _ h rfl)
theorem oe (h:s.heap.get? a=some (baObj b)) {M:jz} {Q:Array UInt8->al->Prop} (hq:Q b s):wpAny M A (arv (.ref a)) Q E s:=by
 exact wpAny_bind (wpAny_bind (pD h (wpAny_pure (wpAny_pure hq))))
theorem YG (a:aq) (b:Array UInt8):rv (f6.«bytearray.__len__» ⟨[.ref a],[]⟩) (λ_ R s=>s.heap.get? a=some (baObj b)/\R (.ok (.ret (.int b.size s.toks))) {s with toks:=s.toks+1}):=by
 refine .of_wp λL w A R s p=> ?_;obtain⟨h,c⟩:=p;show wpAny _ _ (arv (.ref a)>>=λr=>_) _ _ s
 exact wpAny_bind (oe h (wpAny_bind (Dc (wpAny_pure (aJ _ rfl c)))))
theorem YH {Q:ai->al->Prop} (h:s.heap.get? a=some (baObj b)) (c:b.size <= 16777216) (hq:Q (.int b.size (s.toks+1)) {s with toks:=s.toks+1+1}):wpAny (aG L w) A (hG (.builtin "len") [.ref a]) Q E s:=by
 refine Calls.call_function_entry kind_len plain_len entry_len (args_len1 _) (wpAny_bind (wpAny_pure (wpAny_bind (wpAny_callSpecial?_slot (jc h) BA.Gi (tZ BA.Gi (jc h) BA.entry_len (BA.YF _) (YG a b) ⟨h,?_⟩)))));show wpAny _ _ (if(b.size:Int) >= 2^63 then _ else _) ..
 rw [if_neg (by exact Tm c)];exact wpAny_bind (Dc (wpAny_pure (aJ _ rfl hq)))
theorem Gl {M:jz} {i:Int} {u:e0} {Q:Option Int->al->Prop} (N: -(2^63) <= i) (a:i<2^63) (h:Q (some i) s):wpAny M A (Dd (.int i u)) Q E s:=by
 show wpAny M A (if(!t2 i)=true then _ else pure (some i)) _ E s
 haveI:t2 i=true:=by simp only [t2,eC,decide_eq_true_eq];exact FG N a
 rw [this];exact wpAny_pure h
theorem YI (a:aq) (b:Array UInt8) (i:Int) (u:e0) (j:Nat) (c:UInt8) (N: -(2^63) <= i) (e:i<2^63) (f:nP i b.size=some j) (g:b[j]? =some c):
  rv (f6.«bytearray.__getitem__» ⟨[.ref a,.int i u],[]⟩) (λ_ R s=>s.heap.get? a=some (baObj b)/\R (.ok (.ret (.int c.toNat s.toks))) {s with toks:=s.toks+1}):=by
 refine .of_wp λL w A R s p=> ?_;obtain⟨h,d⟩:=p;show wpAny _ _ (Dd (.int i u)>>=λr=>_) _ _ s
 refine wpAny_bind (Gl N e (wpAny_bind (oe h ?_)));rw [f];show wpAny _ _ (match b[j]? with|some x=>_ |none=>_) _ _ s
 rw [g]
 first
  |exact wpAny_bind (Dc (wpAny_pure (aJ _ rfl d)))
  |exact wpAny_bind (wpAny_bind (Dc (wpAny_pure (wpAny_pure ⟨_,rfl,d⟩))))
theorem YJ (b:Array UInt8) (x:aq) (a:aq) {l u:ai} {z d:Option Int} (i:IsPart l z) (j:IsPart u d):
  rv (f6.«bytearray.__getitem__» ⟨[.ref x,.ref a],[]⟩) (λ_ R s=>s.heap.get? x=some (baObj b)/\s.heap.IsSliceOf a l u .none/\(arw b z d).size <= rx/\R (.ok (.ret (.ref s.heap.objs.size))) {s with heap:=s.heap.push (baObj (arw b z d))}):=by
 refine .of_wp λL w A R s p=> ?_;refine jE p λk g n h=> ?_;clear p;refine cU g λo c q hd=> ?_;clear g;have y:s.TypeIs (.ref a) "slice" :=(aJ o c q)
 show wpAny _ _ (Dd (.ref a)>>=λr=>_) _ _ s
 refine wpAny_bind ?_;refine wpAny_bind (mP y arx (wpAny_pure ?_));refine wpAny_bind (Oe y ?_);refine wpAny_bind ?_;refine wpAny_bind (lM (x:=.none) c hd rfl ?_)
 kby_none
 refine wpAny_bind (lM (x:=l) c hd rfl ?_)
 have m:wpAny (aG L w) A.in1 (sliceIndices (rawPart z) (rawPart d) (rawPart none) b.size) (λr K=>r=De z d none b.size/\K=s) (λ_ _=>False) s:=
  wpAny_of_eq (ary z d none b.size (λe=>(Df _ e.symm).elim)) ⟨rfl,rfl⟩
 cases i<;>cases j<;>(first
  | (kby_none;(refine wpAny_bind (lM (x:=.none) c hd rfl ?_)))
  | (kby_none;(refine wpAny_bind (lM (x:=.int ..) c hd rfl ?_)))
  | (kby_int;(refine wpAny_bind (lM (x:=.none) c hd rfl ?_)))
  | (kby_int;(refine wpAny_bind (lM (x:=.int ..) c hd rfl ?_))))<;>refine wpAny_pure ?_
 all_goals
  refine wpAny_bind (oe k ?_);refine wpAny_bind (wpAny_mono m (λr K t=> ?_) λ_ _ e=>e.elim);obtain⟨v,f⟩:=t;subst v f;exact wpAny_bind (Dg (wpAny_pure (aJ _ rfl h)) n)
theorem qa {M:jz} {f:Array UInt8->Array UInt8} {Q:Unit->al->Prop} (h:s.heap.get? a=some (baObj b)) (e:(f b).size <= 16777216) (hq:∀c,c.get? a=some (baObj (f b))->kx a s.heap c->Q () {s with heap:=c}):
  wpAny M A (at2 (.ref a) f) Q E s:=by
 refine wpAny_bind (pD h (wpAny_bind (wpAny_update h ?_)));haveI d:=xn (Obj.mapBytearray f) h rfl;refine arz d ?_ (hq _ d (Dh ..));show(if(f b).size>rx then some "bytearray:memory" else none)=none
 rw [if_neg];exact Sk e
theorem YK (a:aq) (b:Array UInt8) (i v:Int) (u t:e0) (j:Nat) (N: -(2^63) <= i) (k:i<2^63) (l:nP i b.size=some j) (m:0 <= v) (c:v<256) (n:b.size <= 16777216):
  rv (f6.«bytearray.__setitem__» ⟨[.ref a,.int i u,.int v t],[]⟩) (λ_ R s=>s.heap.get? a=some (baObj b)/\ ∀d,d.get? a=some (baObj (b.setIfInBounds j v.toNat.toUInt8))->kx a s.heap d->R (.ok (.ret .none)) {s with heap:=d}):=by
 refine .of_wp λL w A R s p=> ?_;obtain⟨h,e⟩:=p;refine wpAny_bind (Gl N k (wpAny_bind (xo (by simp only [arA,decide_eq_false_iff_not];exact UI m c) (wpAny_pure (wpAny_bind (oe h ?_))))));rw [l];refine wpAny_bind (qa h (by simpa using n) λd f g=> ?_)
 first
  |exact wpAny_pure (aJ _ rfl (e d f g))
  |exact wpAny_bind (wpAny_pure (wpAny_pure ⟨_,rfl,e d f g⟩))
  |exact wpAny_bind (wpAny_pure ⟨_,rfl,e d f g⟩)
theorem YL {i v:Int} {u t:e0} {j:Nat} {Q:Unit->al->Prop} (h:s.heap.get? a=some (baObj b)) (N: -(2^63) <= i) (e:i<2^63) (f:nP i b.size=some j) (g:0 <= v) (c:v<256) (k:b.size <= 16777216)
  (hq:∀d,d.get? a=some (baObj (b.setIfInBounds j v.toNat.toUInt8))->kx a s.heap d->Q () {s with heap:=d}):
  wpAny (aG L w) A (xp (.ref a) (.int i u) (.int v t)) Q E s:=by
 refine wpAny_holding (wpAny_bind (Of (jc h) (rfl) ?_))
 refine wpAny_bind (wpAny_callSpecial?_slot (jc h) BA.slot_set
  (tZ BA.slot_set (jc h) BA.Gj (BA.Gk ..) (YK a b i v u t j N e f g c k) ⟨h,λd l m=> ?_⟩))
 exact wpAny_pure (hq d l m)
end
namespace BA
open Builtin
theorem YM:jA (.type "bytes") "__bytes__" =pure (some (.builtin "bytes.__bytes__")):= ⋯
theorem atl:jA (.type "int") "__bytes__" =pure none:= ⋯
theorem YN:jA (.type "bytearray") "__bytes__" =pure none:= ⋯
theorem YO:jA (.type "bytearray") "__index__" =pure none:= ⋯
theorem Gm:jA (.type "bytes") "__index__" =pure none:= ⋯
theorem yY:jA (.type "bytearray") "__buffer__" =pure (some (.builtin "bytearray.__buffer__")):= ⋯
theorem YP:jA (.type "bytearray") "__release_buffer__" =pure (some (.builtin "bytearray.__release_buffer__")):= ⋯
theorem ba_sub:Og (.type "bytearray") (.type "bytearray")=pure true:= ⋯
theorem Gn:mroOf (.type "bytearray")=pure [.type "bytearray",.type "object"]:= ⋯
theorem YQ:jA (.type "bytearray") "__new__" =pure (some (.builtin "bytearray.__new__")):= ⋯
theorem YR:Slot "bytearray" "__init__" "bytearray.__init__" :=
 .of (owner:="bytearray") (n:="__init__") (⋯) (by decide+kernel) (by decide+kernel) (by decide+kernel)
  (by first|exact .inl (by decide+kernel)|exact .inr (by decide+kernel)) (⋯)
theorem called:TypeCalled "bytearray" "bytearray.__new__" "bytearray.__init__" :=
 ⟨by decide+kernel,by decide+kernel,(n6 _ _ Gn),madeBy_type Gn YQ (by decide+kernel),by decide+kernel,⋯,YR⟩
theorem typeCall (a:ai):checkTypeCall "bytearray" ⟨[a],[]⟩=pure ():= ⋯
theorem newCall (a:ai):Oh "bytearray.__new__" ⟨[.type "bytearray",a],[]⟩=pure ():= ⋯
theorem entry_new:mN mO "bytearray.__new__" =some f6.«list.__new__» :=
 entryFor_alias (id':="list.__new__") (⋯) (by first|rfl|decide+kernel) (by decide+kernel) (⋯)
theorem plain_new:plainId "bytearray.__new__" =true:=by decide+kernel
theorem Go:mN mO "bytearray.__init__" =some f6.«bytearray.__init__» :=xl (⋯)
theorem Gp (a b:ai):lL "bytearray.__init__" ⟨[a,b],[]⟩:=by
 unfold lL;rw [xm (n:=['_','_','t','i','n','i','_','_']) (⋯) owner];kernel_rfl
theorem Gq (v:ai):at3 "bytearray.__init__" "bytearray" ["source","encoding","errors"] [v] []=pure [some v,none,none]:= ⋯
set_option maxHeartbeats 4000000 in
theorem owner_new:("bytearray.__new__".splitOn ".__new__").headD "" ="bytearray" :=by simp+decide [String.splitOn,String.splitOnAux]
end BA
section
variable {L:Program} {w:World} {A:Around} {E:Value->Shared->Prop} {s:Shared} {a:Addr} {b:Array UInt8}
theorem sf {M:jz} {c:ax} {r:Option ai} {Q:Option ai->al->Prop} (h:s.heap.get? a=some (baObj b)) (d:jA (.type "bytearray") c=pure r) (hq:Q r s):wpAny M A (specialOf (.ref a) c) Q E s:=
 mP (jc h) d hq
theorem Gr {c:String} {j:String} {M:jz} {Q:Bool->al->Prop} (h:s.heap.get? a=some (baObj b)) (d:jA (.type "bytearray") (c:ax)=pure (some (.builtin j))) (e:j.endsWith ("." ++c)=true) (f:j.dropRight (c.length+1)="bytearray")
  (hq:Q true s):wpAny (aG L w) A (at4 (.ref a) c) Q E s:=by
 refine wpAny_bind (sf h d (xo (by rw [e];rfl) ?_));rw [f];exact arB (jc h) BA.ba_sub hq
theorem yZ {Q:Bool->al->Prop} (h:s.heap.get? a=some (baObj b)) (hq:Q false s):wpAny (aG L w) A (at5 (.ref a)) Q E s:=by
 exact wpAny_bind (Gr (M:=aG L w) h BA.YP (by decide+kernel) (by decide+kernel) (wpAny_pure hq))
theorem YS {j:String} {c:Bool} {Q:Option (Array UInt8)->al->Prop} (h:s.heap.get? a=some (baObj b)) (hq:Q (some b) s):wpAny (aG L w) A (at6 j (.ref a) c) Q E s:=by
 exact wpAny_bind (sf h BA.yY (wpAny_bind (Gr (M:=aG L w) h BA.yY (by decide+kernel) (by decide+kernel) (wpAny_bind (sf h BA.yY (wpAny_bind (yZ h (wpAny_bind (oe h (wpAny_pure hq))))))))))
theorem YT {v:ai} {Q:ai->al->Prop}
  (h:wpAny (aG L w) A.in1 (f6.«bytes.__new__» ⟨[.type "bytes",v],[]⟩) (λa K=>match a with| .done f=>wants Q E (.ok f) K| .again G=>G.quiet=true/\codeAny (aG L w) A G (wants Q E) K) (λe K=>wants Q E (.error e) K) s):
  codeAny (aG L w) A (.call (.builtin "bytes.__new__") ⟨[.type "bytes",v],[]⟩) (wants Q E) s:=by
 exact codeAny_of_tree (wpAny_bind (wpAny_of_eq (F.bm_newCall _) (wpAny_pure ⟨Di F.bm_plain _,codeAny_builtin F.bm_entry h⟩)))
theorem y0 {v:ai} {Q:ai->al->Prop}
  (h:wpAny (aG L w) A.in1.in1 (f6.«bytes.__new__» ⟨[.type "bytes",v],[]⟩) (λf K=>∃b t,f= .done (.ret (.bytes b t))/\Q (.bytes b t) K) (λe K=>E e K) s):
  wpAny (aG L w) A (hG (.type "bytes") [v]) Q E s:=by
 refine callType_codes (Q₁:=λa c=>c.TypeIs a "bytes" /\Q a c) F.bm_called (F.bm_typeCall _) F.entry_object_init
  (YT (wpAny_mono h (λf K g=> ?_) λ_ _ x=>x)) λa c d=>(bv d.1 (F.args_object_init_2 a _) (object_init_meets F.bm_called.init.lookup F.bm_called.made (rfl) L w A.in1 _ c (bv d.1 rfl d.2)))
 ·refine cV g λb t i hq=> ?_;obtain rfl:=i;exact⟨PySem.W.typeIs_bytes ..,hq⟩
theorem YU {n:Int} {t:e0} {Q:ai->al->Prop} (N:0 <= n) (a:n <= 16777216) (hq:∀b k,Q (.bytes (Oi n.toNat 0) b) {s with toks:=k}):wpAny (aG L w) A (hG (.type "bytes") [.int n t]) Q E s:=by
 refine y0 (wpAny_bind (wpAny_of_eq rfl (wpAny_bind (wpAny_of_eq rfl (wpAny_bind (wpAny_bind (wpAny_of_eq rfl (wpAny_pure (xo (by simp only [t2,arC,eC,decide_eq_true_eq];exact FA N a) ?_)))))))));rw [if_neg (by exact m9 N),if_neg (by exact Ul a)];refine xo (by unfold arD;simp;exact uN a) (wpAny_bind (wpAny_rule (wpAny_bind (Oj ?_ (by simp;exact uN a)))))
 first
  |exact wpAny_pure (c7 _ _ rfl (hq ..))
  |exact wpAny_bind (wpAny_pure (wpAny_pure ⟨_,_,rfl,hq ..⟩))
theorem YV {t:e0} {Q:ai->al->Prop} (hq:Q (.bytes b t) s):wpAny (aG L w) A (hG (.type "bytes") [.bytes b t]) Q E s:=by
 refine y0 (wpAny_bind (wpAny_of_eq rfl (wpAny_bind (wpAny_of_eq F.bm_sub (wpAny_bind (wpAny_of_eq (F.bm_bind _) (wpAny_bind (wpAny_of_eq rfl (wpAny_bind (wpAny_of_eq rfl (wpAny_bind (mP (mQ s b t) BA.YM (wpAny_bind (wpAny_rule ?_))))))))))))))
 first
  |exact wpAny_pure (c7 _ _ rfl hq)
  |exact wpAny_bind (wpAny_pure (wpAny_pure ⟨_,_,rfl,hq⟩))
theorem YW {Q:ai->al->Prop} (h:s.heap.get? a=some (baObj b)) (c:b.size <= 16777216) (hq:∀d k,Q (.bytes b d) {s with toks:=k}):wpAny (aG L w) A (hG (.type "bytes") [.ref a]) Q E s:=by
 refine y0 (wpAny_bind (wpAny_of_eq rfl (wpAny_bind (wpAny_of_eq F.bm_sub (wpAny_bind (wpAny_of_eq (F.bm_bind _) (wpAny_bind (wpAny_of_eq rfl (wpAny_bind (wpAny_of_eq rfl (wpAny_bind (sf h BA.YN (wpAny_bind (wpAny_bind (wpAny_bind (pD h (wpAny_pure (wpAny_pure (wpAny_bind (sf h BA.YO (wpAny_bind (YS h (wpAny_bind (wpAny_rule (wpAny_bind (Oj ?_ (c)))))))))))))))))))))))))))
 first
  |exact wpAny_pure (c7 _ _ rfl (hq ..))
  |exact wpAny_bind (wpAny_pure (wpAny_pure ⟨_,_,rfl,hq ..⟩))
  |exact wpAny_pure (wpAny_pure ⟨_,_,rfl,hq ..⟩)
  |exact wpAny_bind (wpAny_pure (wpAny_pure (wpAny_pure ⟨_,_,rfl,hq ..⟩)))
set_option maxHeartbeats 4000000 in
set_option maxRecDepth 1000000 in
theorem code_ba_new (v:Value) {Q₁:Value->Shared->Prop}
  (h:Q₁ (.ref s.heap.objs.size) {s with heap:=s.heap.push (baObj #[])}):
  codeAny (model L w) A (.call (.builtin "bytearray.__new__") ⟨[.type "bytearray",v],[]⟩) (wants Q₁ E) s:=by
 refine codeAny_of_tree (wpAny_bind (wpAny_of_eq (BA.newCall v) (wpAny_pure ⟨plainId_quiet BA.plain_new _,codeAny_builtin_stack BA.entry_new rfl λp st=> ?_⟩)));haveI hsub:=BA.ba_sub;simp only [BA.owner_new]
 wp_walk
 exact h
end
open Builtin PySem.MeetsSeq PySem.SeqAt PySem.MeetsSeq3
theorem YX (l b:aq) (a c:Array ai) (n x:Nat) (u:a.size=c.size) (e:Nat->Bool) (k:Nat):
  ∀i:Nat,a.size-i=k->rv (f6.«list.__eq__.loop» ⟨[.ref l,.ref b,iC i,iC 3],[]⟩)
   (λA R s=>s.heap.get? l=some (listOf a n)/\s.heap.get? b=some (listOf c x)/\
    (∀j (E:j<a.size) (F:j<c.size),EqAt A.in1 s a[j] c[j] (e j))/\
    R (.ok (.ret (.bool (!((aI a.size).drop i).all e)))) s):=by
 induction k with
 |zero=>
  intro i o L w A R s h;obtain⟨y,g,d,z,os⟩:=s;obtain⟨p,q,v,h⟩:=h
  wp_walk using kW p,kW q
  have f:a[((i:Nat):Int).toNat]? =none:=by simp;exact EI (ay _ _) o
  have r:c[((i:Nat):Int).toNat]? =none:=by simp;exact Th (ay _ _) o u
  have hd:(aI a.size).drop i=[]:=by simp;exact EI (ay _ _) o
  rw [hd] at h;rw [f,r]
  wp_walk using kW p,kW q
  show R (.ok (.ret (.bool (a.size != c.size)))) _
  rw [u]
  simpa using h
 |succ k B=>
  intro i o L w A R s h;obtain⟨y,g,d,z,os⟩:=s;obtain⟨p,q,v,h⟩:=h
  wp_walk using kW p,kW q
  have t:i<a.size:=Sf (ay _ _) o;have m:i<c.size:=Su t u;have f:a[((i:Nat):Int).toNat]? =some a[i]:=by simp [t]
  have r:c[((i:Nat):Int).toNat]? =some c[i]:=by simp [m]
  have hd:(aI a.size).drop i=i::(aI a.size).drop (i+1):=by simp [Ol,t]
  have D:((i:Int)+1)=((i+1:Nat):Int):=by push_cast;rfl
  rw [hd,ii] at h;rw [f,r];refine wpAny_bind (v i t m L w _ _ ?_);induction C:e i with
  |true=>
   rw [C] at h
   wp_walk
   rw [D]
   exact⟨Di plain_eq_loop _,codeAny_builtin entry_eq_loop (by
    rw [arE plain_eq_loop _];exact B (i+1) (TO (ay _ _) (ay _ _) o) L w A R _ ⟨p,q,v,by simpa using h⟩)⟩
  |false=>
   rw [C] at h
   wp_walk using kW p,kW q
   rw [f,r]
   wp_walk
   simpa using h
theorem YY (l b:aq) (a c:Array ai) (n i:Nat) (o:a.size=c.size) (e:Nat->Bool):
  rv (f6.«list.__ne__» ⟨[.ref l,.ref b],[]⟩)
   (λA R s=>s.heap.get? l=some (listOf a n)/\s.heap.get? b=some (listOf c i)/\
    (∀j (q:j<a.size) (r:j<c.size),EqAt A.in1 s a[j] c[j] (e j))/\R (.ok (.ret (.bool (!(aI a.size).all e)))) s):=by
 intro L w A R s h;obtain⟨t,g,d,u,os⟩:=s;refine jE h λk m p h=> ?_;haveI f:=arF
 wp_walk using kW k,kW m
 exact⟨Di plain_eq_loop _,codeAny_builtin entry_eq_loop (by
  exact YX l b a c n i o e _ 0 rfl L w A R _ (dd k m p (by simpa using h)))⟩
theorem YZ (l b:aq) (a c:Array ai) (n i:Nat) (e:(a.size != c.size)=true):
  rv (f6.«list.__ne__» ⟨[.ref l,.ref b],[]⟩)
   (λ_ R s=>s.heap.get? l=some (listOf a n)/\s.heap.get? b=some (listOf c i)/\R (.ok (.ret (.bool true))) s):=
 .of_wp λL w A R s h=>by
  obtain⟨m,g,d,o,os⟩:=s;refine dp h λj k h=> ?_;have f:=arF
  wp_walk using kW j,kW k
  exact aJ _ rfl h
section
variable {L:Program} {w:World} {A:Around} {E:Value->Shared->Prop} {s:Shared}
theorem Y0 (a b:Array UInt8) (t u:e0):EqAt A s (.bytes a t) (.bytes b u) (a.toList==b.toList):=by
 refine λL w E Q hq=>wpAny_holding ?_;by_cases h:(Value.bytes a t==Value.bytes b u)=true
 ·haveI e:a.toList=b.toList:=by
   haveI:=eq_of_beq h;cases this;rfl
  rw [e,beq_self_eq_true] at hq;rw [h];exact wpAny_bind (wpAny_rule (wpAny_pure hq))
 ·rw [Bool.not_eq_true] at h;exact xo h (wpAny_bind (eq_bytes (t3 hq)))
theorem Y1 {l b:aq} {a c:Array ai} {n d:Nat} {e:Nat->Bool} {Q:ai->al->Prop} (f:s.heap.get? l=some (listOf a n)) (g:s.heap.get? b=some (listOf c d)) (i:a.size=c.size) (k:A.units<cLine)
  (m:∀j (o:j<a.size) (p:j<c.size),EqAt A.in1 s a[j] c[j] (e j)) (h:Q (.bool (!(aI a.size).all e)) s):wpAny (aG L w) A (t4 .NotEq (.ref l) (.ref b)) Q E s:=
 arG (op:=.NotEq) (aJ _ f rfl) (aJ _ g rfl) PySem.F.slot_list_ne PySem.F.entry_list_ne (PySem.F.args_list_ne_2 ..) (YY l b a c n d i e) (i8 f g m (λx=>by contradiction) h) k
theorem Y2 {l b:aq} {a c:Array ai} {n d:Nat} {Q:ai->al->Prop} (e:s.heap.get? l=some (listOf a n)) (f:s.heap.get? b=some (listOf c d)) (g:(a.size != c.size)=true) (i:A.units<cLine)
  (h:Q (.bool true) s):wpAny (aG L w) A (t4 .NotEq (.ref l) (.ref b)) Q E s:=
 arG (op:=.NotEq) (aJ _ e rfl) (aJ _ f rfl) PySem.F.slot_list_ne PySem.F.entry_list_ne (PySem.F.args_list_ne_2 ..) (YZ l b a c n d g) (dd e f (λx=>absurd x ∅) h) i
theorem Y3 {l:aq} {a:Array ai} {d:Nat} {k:Int} {t:e0} {v:ai} {Q:Unit->al->Prop} (c:s.heap.get? l=some (listOf a d))
  (N:0 <= k) (b:k<2^63) (e:k<a.size) (D:Q () {s with heap:=s.heap.update l (Om (·.setIfInBounds k.toNat v))}):wpAny (aG L w) A (xp (.ref l) (.int k t) v) Q E s:=by
 haveI y:s.TypeIs (.ref l) "list" :=(aJ _ c rfl)
 refine wpAny_holding (wpAny_bind (Of y (rfl) (wpAny_bind (wpAny_callSpecial?_slot y arH (wpAny_call_entry arH y entry_list_setitem ?_ (args_list_setitem ..))))));show wpAny _ _ (at7 (.int k t)>>=_) _ _ s
 refine wpAny_bind (wpAny_listSubscript_int (fitsIndex_of N b) ?_);obtain⟨j,rfl⟩:=nQ N;refine wpAny_bind (wpAny_bind (wpAny_seqItemAt c rfl (wpAny_pure ?_)));rw [(arI (by exact yx e))];refine wpAny_bind (wpAny_setSeqItemAt c rfl ?_)
 first
  |exact wpAny_bind (wpAny_pure (wpAny_pure (bv .none rfl (wpAny_pure D))))
  |exact wpAny_pure (aJ .none rfl (wpAny_pure D))
end
end MineK
namespace Mine
theorem a6 {G:Prop} (f:∀H:Prop,(G->H)->H):G:=f G id
def sg:List String:=["bytearray.__contains__","bytearray.__mod__","bytearray.__rmod__","_struct.pack_into.held","bytearray.find.held"]++arJ
def gS:kX->Bool
 | .builtin j _=> !sg.contains j
 |_=>true
def mz (g:Ctx):Prop:=gS g.code=true/\ ∀x∈g.below,gS x.1=true
theorem mz.goto {g:Ctx} (h:mz g) {c:kX} (a:gS c=true):mz (g.goto c):=⟨a,h.2⟩
theorem mz.enter {g:Ctx} (h:mz g) {c:kX} (b:gS c=true) (m:Option ai) (p:aX):mz (g.enter c m p):=
 ⟨b,λx a=>by
  rcases cb.mp a with rfl|a
  ·exact h.1
  ·exact h.2 x a⟩
def av {d:Type} (M:jz) (A:cy) (t:ck d) (Q:d->al->Prop) (E:ai->al->Prop) (s:al):Prop:=
 ∀g p,g.In A/\mz g->Sem.wp M g t (λa _ K=>Q a K) (λe _ K=>E e K) p s
def dS (M:jz) (A:cy) (c:kX) (R:lN->al->Prop) (s:al):Prop:=
 ∀g p,g.code=c->g.Below A/\mz g->wpCode M g R p s
section
variable {d j:Type} {M:Model} {A:Around} {E:Value->Shared->Prop} {s:Shared} {U:Env}
theorem aV {t:ck d} {Q:d->al->Prop} (h:PySem.wpAny M A t Q E s):av M A t Q E s:=λg p i=>h g p i.1
theorem CH {c:kX} {R:lN->al->Prop} (h:PySem.codeAny M A c R s):dS M A c R s:=λg p a i=>h g p a i.1
theorem bt {a:d} {Q:d->al->Prop} (h:Q a s):av M A (pure a) Q E s:=λ_ _ _=>h
theorem b0 {t:ck d} {Q m:d->al->Prop} {z:ai->al->Prop} (h:av M A t Q E s) (D:∀a s,Q a s->m a s) (b:∀e s,E e s->z e s):av M A t m z s:=
 λg p i=>j2 M g t (λa _ s=>D a s) (λe _ s=>b e s) p s (h g p i)
theorem aC {m:ck d} {f:d->ck j} {Q:j->al->Prop} (h:av M A m (λa K=>av M A (f a) Q E K) E s):av M A (m>>=f) Q E s:=λg p i=>by
 rw [xq];exact j2 M g m (λa b K c=>c g b i) (λ_ _ _ c=>c) p s (h g p i)
theorem dO {m:ck d} {f:d->ck j} {Q:j->al->Prop} (h:PySem.wpAny M A m (λa K=>av M A (f a) Q E K) E s):av M A (m>>=f) Q E s:=aC (aV h)
theorem CI {t:ck d} {a:d} {Q:d->al->Prop} (h:t=pure a) (hq:Q a s):av M A t Q E s:=by subst h;exact bt hq
theorem rj {m:ck d} {k:ai->ck Unit} {Q:d->al->Prop} (h:av M A m Q (λe K=>av M A (k e) (λ_ H=>E e H) E K) s):av M A (m.onRaise k) Q E s:=λg p i=>by
 rw [Sem.wp_onRaise];exact j2 M g m (λ_ _ _ a=>a) (λe b K a=>a g b i) p s (h g p i)
theorem CJ {m:ck d} {Q:Except ai d->al->Prop} (h:av M A m (λa=>Q (.ok a)) (λe=>Q (.error e)) s):av M A m.attempt Q E s:=λg p i=>by rw [Sem.wp_attempt];exact h g p i
theorem dJ {a:List ai} {m:ck d} {Q:d->al->Prop} (h:av M A m Q E s):av M A (ky a m) Q E s:=λg p i=>by rw [Dj];exact h g p i
theorem Ny {a:List ai} {m:ck ai} {Q:ai->al->Prop} (h:av M A m Q E s):av M A (xr a m) Q E s:=λg p i=>by rw [Dk];exact h g p i
theorem c9 {a:aX} {Q:Unit->al->Prop} (h:Q () s):av M A (j4 a) Q E s:=λ_ _ _=>h
theorem CK {Q:Unit->al->Prop} (h:Q () s):av M A point Q E s:=λ_ _ _=>h
theorem rk {a:String} {Q:Unit->al->Prop} (h:Q () s):av M A (rule a) Q E s:=λ_ _ _=>h
theorem w9 {c:kX} {R a:lN->al->Prop} (h:dS M A c R s) (b:∀r s,R r s->a r s):dS M A c a s:=λg p d i=>wpCode_mono b (h g p d i)
theorem Nz {c:kX} {h:Option ai} {Q:f7->al->Prop} (b:dS M (A.mark h) c (λr K=>match r with| .ok f=>Q f K| .error e=>E e K) s) (d:gS c=true) (a:h≠some byPass:=by intro x;cases x):av M A (run c h) Q E s:=
 λg p i=>by rw [Sem.wp_run];exact b _ p rfl ⟨i.1.enter c h p a,i.2.enter d h p⟩
theorem aqb {c:kX} {Q:ai->al->Prop} (a:dS M A c (λr K=>match r with| .ok (.ret v)=>Q v K| .ok _=>False| .error e=>E e K) s) (b:gS c=true):av M A (runValue c) Q E s:=
 λg p i=>by rw [Sem.wp_runValue];exact a _ p rfl ⟨i.1.enter c none p (by intro x;contradiction),i.2.enter b none p⟩
theorem kT {f:ai} {b:List ai} {a:List (ax×ai)} {Q:ai->al->Prop} (c:dS M A (.call f ⟨b,a⟩) (λr K=>match r with| .ok (.ret v)=>Q v K| .ok _=>False| .error e=>E e K) s):av M A (hG f b a) Q E s:=aqb c rfl
theorem jW {c:kX} {R:lN->al->Prop}
  (h:av M (A.under c) (M.den c) (λd K=>match d with| .done f=>R (.ok f) K| .again G=>G.quiet=true/\gS G=true/\dS M A G R K) (λe K=>R (.error e) K) s):dS M A c R s:=λg p j i=>by
 rw [wpCode_iff_wp,j];refine j2 M g _ (λd b K a=> ?_) (λ_ _ _ a=>a) p s (h g p ⟨j▸i.1.in,i.2⟩);induction d with
 |done f=>exact a
 |again G=>exact⟨a.1,a.2.2 (g.goto G) b rfl ⟨i.1.goto G,i.2.goto a.2.1⟩⟩
theorem Y4 {f:kX×aX->Bool} (M:∀c q,gS c=true->f (c,q)=false) {l:List (kX×aX)}:(∀x∈l,gS x.1=true)->l.any f=false:=by
 induction l with
 |nil=>
  intro _;exact rfl
 |cons x l B=>
  intro h;rw [arK,M x.1 x.2 (h x (.head _)),B λy a=>h y (.tail _ a)];rfl
theorem qb {j i:String} {H:Args} (a:gS (.builtin j H)=true) (h:sg.contains i=true):¬j=i:=λe=>by
 haveI:(!sg.contains j)=true:=a;replace this:=h▸e▸this;contradiction
theorem Gs {v:ai} {Q:Bool->al->Prop} (h:Q false s):av M A (at8 v) Q E s:=λg p i=>by
 show Q (List.any ((g.code,p)::g.below) _) s
 rewrite [Y4 ?_ λx d=>(cb.mp d).elim (λe=>e▸i.2.1) (i.2.2 x)]
 ·exact h
 intro c q b;induction c with
 |builtin j H=>
  delta at9;obtain⟨f,a⟩:=H;refine(dif_neg (qb b (rfl))).trans ((dif_neg (qb b (rfl))).trans ((dif_neg (qb b (rfl))).trans ((dif_neg (qb b (rfl))).trans ((dif_neg (qb b (rfl))).trans ?_))));induction f with
  |nil=>rfl
  |cons u r=>
   induction e:arJ.contains j with
   |true=>exact absurd rfl (qb b (xt.mpr (dn _ (xt.mp e))))
   |false=>exact(congrArg (aua u v&& ·) e).trans (Bool.and_false _)
 |_=>rfl
end
section
variable {d j:Type} {M:Model} {A:Around} {E:Value->Shared->Prop} {s:Shared} {U:Env}
theorem CL {Q:f7->al->Prop} (h:Q .next s):av M A (nR [] U) Q E s:=aV (PySem.wpAny_execs_nil h)
theorem aqc {st rest} {Q:f7->al->Prop}
  (h:av M A (kY st U) (λf K=>match f with| .next=>av M A (nR rest U) Q E K|f=>Q f K) E s):
  av M A (nR (st::rest) U) Q E s:=by
 refine aC (b0 h (λf K a=> ?_) λ_ _ x=>x);cases f<;>first|exact a|exact bt a
theorem aqd {test body orelse pos} {Q:f7->al->Prop}
  (h:av M A (jB test U (bM test U)) (λb a=>if b then av M A (nR body U) Q E a else av M A (nR orelse U) Q E a) E s):
  av M A (kY (.If test body orelse pos) U) Q E s:=by
 refine aC (c9 (aC (b0 h (λb a c=> ?_) λ_ _ x=>x)));cases b<;>exact c
theorem aqe {e pos} {Q:f7->al->Prop} (h:av M A (bM e U) (λv=>Q (.ret v)) E s):av M A (kY (.Return (some e) pos) U) Q E s:=by
 refine aC (c9 (aC (b0 h (λv b a=> ?_) λ_ _ x=>x)))
 first|exact bt a|exact aC (c9 (bt a))
theorem aqf {pos} {Q:f7->al->Prop} (h:Q (.ret .none) s):av M A (kY (.Return none pos) U) Q E s:=aV (PySem.wpAny_Return_none h)
theorem aqg {e pos} {Q:f7->al->Prop} (h:av M A (bM e U) (λv K=>match v with| .ref _=>False|_=>Q .next K) E s)
  (f:On U=false:=by rfl) (g:kz e none pos.line U=pure false:=by rfl):av M A (kY (.Expr e pos) U) Q E s:=by
 rw [exec_Expr U e pos f g];refine aC (c9 (aC (b0 h (λv K c=> ?_) λ_ _ x=>x)));have d:∀a,v≠ .ref a:=λa b=>by subst b;exact c
 rw [dropValue_plain d];refine bt ?_;cases v<;>first|exact c|exact(d _ rfl).elim
theorem NA {x pos' value pos} {Q:f7->al->Prop}
  (h:av M A (bM value U) (λv a=>av M A (pE U x v) (λ_=>Q .next) E a) E s)
  (b:kz value (some (.Name x pos')) pos.line U=pure false:=by rfl):av M A (kY (.Assign [.Name x pos'] value pos) U) Q E s:=λg p i=>by
 simp only [exec_Assign_Name U x pos' value pos b,xq,Dl,Oo,arL];exact j2 M g _ (λv _ a c=>c g _ i) (λ_ _ _ d=>d) _ _ (h g _ i)
theorem aqh {x pos' op value pos} {Q:f7->al->Prop}
  (h:av M A (loadName U x) (λH b=>av M A (bM value U) (λv c=>av M A (Op op H v) (λr I=>av M A (pE U x r) (λ_=>Q .next) E I) E c) E b) E s):
  av M A (kY (.AugAssign (.Name x pos') op value pos) U) Q E s:=λg p i=>by
 simp only [exec_AugAssign_Name,xq,Dj,Dl,Dk,Oo,arL];exact j2 M g _ (λH d b e=>(j2 M g _ (λv _ c f=>(j2 M g _ (λr _ I X=>X g _ i) (λ_ _ _ a=>a) _ _ (f g _ i))) (λ_ _ _ a=>a) _ _ (e g d i))) (λ_ _ _ a=>a) _ _ (h g _ i)
theorem aqi {l op r pos} {Q:ai->al->Prop}
  (h:av M A (bM l U) (λa c=>av M A (bM r U) (λb d=>av M A (binaryOp op a b) Q E d) E c) E s):
  av M A (bM (.BinOp l op r pos) U) Q E s:=by
 exact aC (b0 h (λa c e=>aC (dJ (b0 e (λb d f=>(aC (c9 (Ny f)))) λ_ _ x=>x))) λ_ _ x=>x)
theorem aqj {op:UnaryOp} {x:aH} {b:aX} {Q:ai->al->Prop} (h:av M A (bM x U) (λv a=>av M A (unaryOp op v) Q E a) E s):av M A (bM (.UnaryOp op x b) U) Q E s:=by
 exact aC (b0 h (λv a c=>aC (c9 (dJ c))) λ_ _ x=>x)
theorem aqk {l op r pos} {Q:ai->al->Prop}
  (h:av M A (bM l U) (λa e=>av M A (bM r U) (λb f=>av M A (t4 op a b) Q E f) E e) E s)
  (j:ry op r=false:=by with_unfolding_all rfl):av M A (bM (.Compare l [op] [r] pos) U) Q E s:=λg p i=>by
 simp only [eval_Compare1,arM j,xq,Dj,Dl,Dk];exact j2 M g _ (λa d e k=>(j2 M g _ (λb _ f m=>m g _ i) (λ_ _ _ c=>c) _ _ (k g d i))) (λ_ _ _ c=>c) _ _ (h g p i)
theorem NB {l op r pos whole} {Q:Bool->al->Prop}
  (h:av M A (bM l U) (λa j=>av M A (bM r U) (λb k=>av M A (t4 op a b) (λc I=>av M A (pF c) Q E I) E k) E j) E s)
  (m:ry op r=false:=by with_unfolding_all rfl):av M A (jB (.Compare l [op] [r] pos) U whole) Q E s:=λg p i=>by
 simp only [isTrue_Compare1,arM m,xq,Dj,Dl,Dk];exact j2 M g _ (λa d j n=>(j2 M g _ (λb _ k o=>(j2 M g _ (λc e I X=>X g e i) (λ_ _ _ f=>f) _ _ (o g _ i))) (λ_ _ _ f=>f) _ _ (n g d i))) (λ_ _ _ f=>f) _ _ (h g p i)
theorem aql {x:aH} {c:aX} {f:ck ai} {Q:Bool->al->Prop} (h:av M A (jB x U (bM x U)) (λb a=>Q (!b) a) E s):av M A (jB (.UnaryOp .Not x c) U f) Q E s:=by
 exact aC (b0 h (λb a d=>bt d) λ_ _ x=>x)
theorem aqm {e:aH} {f:ck ai} {Q:Bool->al->Prop} (h:av M A f (λv a=>av M A (pF v) Q E a) E s)
  (b:jB e U f=(do let v<-f;j4 e.pos;ky [v] (pF v)):=by rfl):av M A (jB e U f) Q E s:=by
 rw [b];exact aC (b0 h (λv a c=>aC (c9 (dJ c))) λ_ _ x=>x)
theorem aqn {op:BoolOp} {a:List aH} {b:aX} {f:ck ai} {Q:Bool->al->Prop} (h:av M A (pG op a U) Q E s):av M A (jB (.BoolOp op a b) U f) Q E s:=h
theorem aqo {Q:Bool->al->Prop} (h:Q true s):av M A (pG .And [] U) Q E s:=aV (PySem.wpAny_allTrue_And_nil h)
theorem aqp {Q:Bool->al->Prop} (h:Q false s):av M A (pG .Or [] U) Q E s:=aV (PySem.wpAny_allTrue_Or_nil h)
theorem NC {x:aH} {c:List aH} {Q:Bool->al->Prop}
  (h:av M A (jB x U (bM x U)) (λb a=>if b then av M A (pG .And c U) Q E a else Q false a) E s):av M A (pG .And (x::c) U) Q E s:=by
 refine aC (b0 h (λb a d=> ?_) λ_ _ x=>x);cases b
 ·exact bt d
 ·exact d
theorem ND {x:aH} {c:List aH} {Q:Bool->al->Prop}
  (h:av M A (jB x U (bM x U)) (λb a=>if b then Q true a else av M A (pG .Or c U) Q E a) E s):av M A (pG .Or (x::c) U) Q E s:=by
 refine aC (b0 h (λb a d=> ?_) λ_ _ x=>x);cases b
 ·exact d
 ·exact bt d
theorem aqq {x y:aH} {d:aX} {Q:ai->al->Prop}
  (h:av M A (bM x U) (λv b=>av M A (pF v) (λt a=>if t then av M A (bM y U) Q E a else Q v a) E b) E s):av M A (bM (.BoolOp .And [x,y] d) U) Q E s:=by
 refine aC (b0 h (λv b e=>aC (c9 (aC (dJ (b0 e (λt a c=> ?_) λ_ _ x=>x))))) λ_ _ x=>x);induction t with
 |false=>exact bt c
 |true=>exact c
theorem aqr {x y:aH} {d:aX} {Q:ai->al->Prop}
  (h:av M A (bM x U) (λv b=>av M A (pF v) (λt a=>if t then Q v a else av M A (bM y U) Q E a) E b) E s):av M A (bM (.BoolOp .Or [x,y] d) U) Q E s:=by
 refine aC (b0 h (λv b e=>aC (c9 (aC (dJ (b0 e (λt a c=> ?_) λ_ _ x=>x))))) λ_ _ x=>x);induction t with
 |false=>exact c
 |true=>exact bt c
theorem aqs {a N c:aH} {e:aX} {Q:ai->al->Prop}
  (h:av M A (jB a U (bM a U)) (λb d=>if b then av M A (bM N U) Q E d else av M A (bM c U) Q E d) E s):av M A (bM (.IfExp a N c e) U) Q E s:=by
 refine aC (b0 h (λb d f=> ?_) λ_ _ x=>x);cases b<;>exact f
theorem xa {a:aX} {Q:List ai->al->Prop} (h:Q [] s):av M A (rz (j6 a (ij [] U))) Q E s:=aV (PySem.wpAny_items_nil h)
theorem CM {c:aX} {e:aH} {b:List aH} {Q:List ai->al->Prop}
  (h:av M A (bM e U) (λv d=>av M A (rz (j6 c (ij b U))) (λf g=>Q (v::f) g) E d) E s)
  (i:ij (e::b) U=(false,bM e U)::ij b U:=by rfl):av M A (rz (j6 c (ij (e::b) U))) Q E s:=by
 rw [i]
 show av M A (do
  let v<-bM e U;let a<-(pure [v])
  return a++(<-ky a (rz (j6 c (ij b U))))) Q E s
 exact aC (b0 h (λv d j=>aC (bt (aC (dJ (b0 j (λf g k=>bt k) λ_ _ x=>x))))) λ_ _ x=>x)
theorem sh {t:ck ai} {Q:ai->al->Prop} (a:av M A t Q E s):av M A (t>>=λr=>ky [r] point>>=λ_=>pure r) Q E s:=
 aC (b0 a (λr c b=>aC (dJ (CK (bt b)))) λ_ _ x=>x)
theorem aqt {a:List ai} {m:ck d} {Q:d->al->Prop} (h:av M A m Q E s):av M A (m.keep a) Q E s:=λg p i=>by rw [Sem.wp_keep];exact h g p i
theorem aqu {P:bk->Prop} {l:aX} {f:ai} {first:List ai} {g:List (Bool×ck ai)} {b:List (Option ax×ck ai)} {Q:ai->al->Prop} (d:(g.any (·.1)||b.any (·.1.isNone))=false)
  (m:∀h,P h->∃k,(k=Keeper.frame\/k=rA\/k=rB)/\ik M h (pH f) k)
  (h:av M A (evalArgs f true g b) (λa j=>P j.heap/\av M A (hG f (first++a.pos) a.kw) Q E j) E s):av M A (Dm l f first g b) Q E s:=by
 refine aC (dJ (b0 h (λa j i=>aC (c9 (aw (m _ i.1) λk n L=> ?_))) λ_ _ x=>x));rw [d];refine dO (L.here ?_);haveI c (e:ai):av M A (callMarked e f (first++a.pos) a.kw) Q E j:=aqt i.2;rcases n with rfl|rfl|rfl
 ·dsimp only;split
  ·exact sh i.2
  ·exact sh (c _)
 ·exact sh i.2
 ·dsimp only;split
  ·exact sh i.2
  ·exact sh (c _)
theorem aqv {f:ai} {x:ck ai} {a:List (Bool×ck ai)} {Q:Args->al->Prop}
  (h:av M A (rz ((false,x)::a)) (λb K=>Q ⟨b,[]⟩ K) E s):av M A (evalArgs f true ((false,x)::a) []) Q E s:=by
 exact aC (b0 h (λb K c=>dJ (aC (bt (aC (bt (bt c)))))) λ_ _ x=>x)
theorem mA {j:ax} {p a:aX} {g:List aH} {b:List Keyword} {Q:ai->al->Prop}
  (h:av M A (bM (.Name j p) U) (λf c=>av M A (Dm a f [] (j6 a (ij g U)) (backToKw a (keywordEach b U))) Q E c) E s):av M A (bM (.Call (.Name j p) g b a) U) Q E s:=by
 exact aC h
theorem CN {a b c:Option aH} {p:aX} {Q:ai->al->Prop}
  (h:av M A (Dn a U) (λl d=>av M A (Dn b U) (λu e=>av M A (Dn c U) (λi I=>
   Q (.ref I.heap.objs.size) {I with heap:=I.heap.push {cls:=.type "slice",data:=.fields #[l,u,i]}}) E e) E d) E s):
  av M A (bM (.Slice a b c p) U) Q E s:=by
 exact aC (b0 h (λl d f=>aC (dJ (b0 f (λu e g=>(aC (dJ (b0 g (λi I X=>aV (Dg X)) λ_ _ x=>x)))) λ_ _ x=>x))) λ_ _ x=>x)
end
section
variable {L:Program} {w:World} {A:Around} {E:Value->Shared->Prop} {s:Shared} {U:Env} {R:Result->Shared->Prop}
theorem aqw {a:aH} {f:ax} {b:aX} {Q:ai->al->Prop}
  (h:av (aG L w) A (bM a U) (λo c=>av (aG L w) A (Do o f true) Q E c) E s)
  (d:bM (.Attribute a f b) U=(do
   let o<-bM a U
   j4 b.atName
   let r<-ky [o] (Do o f true)
   Dp a o r
   pure r):=by with_unfolding_all rfl):av (aG L w) A (bM (.Attribute a f b) U) Q E s:=by
 rw [d];exact aC (b0 h (λo c e=>aC (c9 (aC (dJ (b0 e (λr i g=>(dO (arN (bt g)))) λ_ _ x=>x))))) λ_ _ x=>x)
theorem NE {body}
  (h:av (aG L w) (A.deeper U) (nR body U) (λf K=>R (.ok (.ret (match f with| .ret v=>v|_=>.none))) K)
   (λe K=>av (aG L w) (A.deeper U) (leaving U e) (λ_ H=>R (.error e) H) (λW H=>R (.error W) H) K) s):
  dS (aG L w) A (.func body U) R s:=by
 refine jW (aC (CK (aC (rj (b0 h (λf K a=> ?_) λ_ _ a=>a)))));cases f<;>exact bt a
theorem NF {a:aq} {g:Args} {o:cj} {b:FuncData} {N:List eT} (j:A.depth<t6)
  (v:s.heap.get? a=some o) (d:o.data= .func b) (i:b.scope.isCoroutine=false) (k:b.scope.isGenerator=false) (l:b.body= .stmts N) (m:s.heap.CodeRec b.code b.qualname)
  (h:av (aG L w) A.in1 (rC b g) (λf r=>
   av (aG L w) A.in1 (Oq b.scope b.globals b.closure f (b.qualname++ ".<locals>.") (some a) b.code none b.builtins)
    (λU p=>p.heap.NoLimit/\dS (aG L w) A (.func N U) R p) (λe K=>R (.error e) K) r) (λe K=>R (.error e) K) s):
  dS (aG L w) A (.call (.ref a) g) R s:=by
 refine jW ?_;show av _ A.in1 (callAny (.ref a) g) _ _ s
 refine dO (pD v (a6 λB x=>(rQ m λc C D E t y n hq=>x ?_)));simp only [d,callFunction,i,k,l,t];haveI h:=t▸h;exact dO (lM y n hq (aC (bt (aC (b0 h (λf r z=>aC (b0 z (λU p u=>(dO (arO u.1 j (bt (bv rfl rfl u.2))))) λ_ _ q=>q)) λ_ _ q=>q)))))
theorem CO {j:String} {g:Args} {b:f6} (a:mN mO j=some b)
  (h:av (aG L w) (A.under (.builtin j g)) (b g)
   (λc K=>match c with| .done f=>R (.ok f) K| .again G=>G.quiet=true/\gS G=true/\dS (aG L w) A G R K) (λe K=>R (.error e) K) s):
  dS (aG L w) A (.builtin j g) R s:=by
 refine jW ?_;show av _ _ (match mN mO j with|some b=>b g|none=>unsupported ((withoutEnding? j "#data").getD j)) _ _ s
 rw [a];exact h
end
def jd {d:Type} (o:Option d) (P:d->Prop):Prop:=match o with
 |some v=>P v
 |none=>False
theorem k8 {d:Type} {o:Option d} {P:d->Prop} (h:jd o P):∃v,o=some v/\P v:=by
 induction o with
 |none=>exact h.elim
 |some v=>exact aJ v rfl h
theorem dB {d:Type} {o:Option d} {a:d} {P:d->Prop} (h:o=some a) (b:P a):jd o P:=by subst h;exact b
def jI (c:Bool) (P Q:Prop):Prop:=match c with
 |true=>P
 |false=>Q
theorem eH {c:Bool} {P Q:Prop} (h:c=true) (a:P):jI c P Q:=by subst h;exact a
theorem cn {c:Bool} {P Q:Prop} (h:c=false) (hq:Q):jI c P Q:=by subst h;exact hq
def je {d:Type} (o:Option d) (f:d->Prop) (z:Prop):Prop:=match o with
 |some v=>f v
 |none=>z
inductive aa where
 |aR|none|bool (b:Bool)|int (i:Int)|str (k:Nat)|bytes (l:List Int)|ref (n:Nat)|dW
inductive aB where
 |dead|list (l:List aa)|tup (l:List aa)|cv (l:List Int)|set (l:List Int)|dict (l:List (Int×Int))
 |inst (c d:Nat)|aZ (c:Nat) (qc:List aa)|cell (v:aa)
 |cw (f i:Nat) (l:List (Nat×Nat))|code (j:Nat)|fn (j cd:Nat) (cs:List Nat)
 |fB (l:List Int) (o:cj)
abbrev ae:=List aB
abbrev bn:=Nat->ae->Prop
def vh (o:Option aa) (f:Nat->Prop):Prop:=match o with
 |some (.ref j)=>f j
 |_=>False
def y1 (o:Option aB) (f:aa->Prop):Prop:=match o with
 |some (.cell a)=>f a
 |_=>False
def Gu (o:Option aB) (f:Nat->Nat->List Nat->Prop):Prop:=match o with
 |some (.fn j u a)=>f j u a
 |_=>False
def Gv (o:Option aa) (f:Int->Prop):Prop:=match o with
 |some (.int n)=>f n
 |_=>False
theorem y2 {o:Option aa} {f:Nat->Prop} (h:vh o f):∃j,o=some (.ref j)/\f j:=by
 induction o with
 |none=>exact h.elim
 |some a=>cases a<;>first|exact h.elim|exact⟨_,rfl,h⟩
theorem Gw {o:Option aB} {f:aa->Prop} (h:y1 o f):∃a,o=some (.cell a)/\f a:=by
 induction o with
 |none=>exact h.elim
 |some a=>cases a<;>first|exact h.elim|exact⟨_,rfl,h⟩
theorem Y5 {o:Option aB} {f:Nat->Nat->List Nat->Prop} (h:Gu o f):∃j u b,o=some (.fn j u b)/\f j u b:=by
 induction o with
 |none=>exact h.elim
 |some a=>cases a<;>first|exact h.elim|exact⟨_,_,_,rfl,h⟩
theorem Y6 {o:Option aa} {f:Int->Prop} (h:Gv o f):∃n,o=some (.int n)/\f n:=by
 induction o with
 |none=>exact h.elim
 |some a=>cases a<;>first|exact h.elim|exact⟨_,rfl,h⟩
abbrev a7:=List aa->ae->(aa->ae->Prop)->bn->Prop
abbrev de:=List aa->ae->(Bool->ae->Prop)->bn->Prop
abbrev ST:=List aa->ae->(List aa->ae->Prop)->(aa->ae->Prop)->bn->Prop
section
variable {d j a:Type}
@[reducible] def ek (u:List aa->ae->(j->ae->Prop)->bn->Prop) (Y:List aa) (x:bn) (g:d->j->ae->Prop) (a:d) (J:ae):Prop:=u Y J (g a) x
@[reducible] def ga (B:d->ae->(j->ae->Prop)->Prop) (k:j->ae->Prop) (a:d) (J:ae):Prop:=B a J k
@[reducible] def gb (B:d->ae->(j->ae->Prop)->bn->Prop) (k:j->ae->Prop) (x:bn) (a:d) (J:ae):Prop:=B a J k x
@[reducible] def fN (f:d->d->ae->(j->ae->Prop)->Prop) (k:j->ae->Prop) (a b:d) (J:ae):Prop:=f a b J k
@[reducible] def hK (u:ST) (k:List aa->ae->Prop) (r:aa->ae->Prop) (x:bn) (Y:List aa) (J:ae):Prop:=u Y J k r x
@[reducible] def hM (k:j->ae->Prop) (J:ae) (b:j):Prop:=k b J
@[reducible] def Y7 (k:aa->ae->Prop) (J:ae) (b:Bool):Prop:=k (.bool b) J
@[reducible] def Y8 (k:Bool->ae->Prop) (b:Bool) (J:ae):Prop:=k (!b) J
@[reducible] def vi (k:Bool->ae->Prop) (a:aa) (J:ae):Prop:=match a with
 | .bool b=>k b J
 |_=>False
@[reducible] def Y9 (u:de) (Y:List aa) (k:Bool->ae->Prop) (x:bn) (b:Bool) (J:ae):Prop:=jI b (u Y J k x) (k false J)
@[reducible] def Za (u:de) (Y:List aa) (k:Bool->ae->Prop) (x:bn) (b:Bool) (J:ae):Prop:=jI b (k true J) (u Y J k x)
@[reducible] def Zb (u w:a7) (Y:List aa) (k:aa->ae->Prop) (x:bn) (b:Bool) (J:ae):Prop:=jI b (u Y J k x) (w Y J k x)
@[reducible] def hN (u w:ST) (Y:List aa) (k:List aa->ae->Prop) (r:aa->ae->Prop) (x:bn) (b:Bool) (J:ae):Prop:=jI b (u Y J k r x) (w Y J k r x)
@[reducible] def gc (k:List aa->ae->Prop) (a:aa) (H:List aa) (J:ae):Prop:=k (a::H) J
@[reducible] def gT (k:List aa->ae->Prop) (Y:List aa) (i:Nat) (a:aa) (J:ae):Prop:=k (Y.set i a) J
@[reducible] def k9 (k:List aa->ae->Prop) (Y:List aa) (J:ae):aa->Prop
 | .ref _=>False
 | .dW=>False
 |_=>k Y J
@[reducible] def la (k:List aa->ae->Prop) (Y:List aa) (a:aa) (J:ae):Prop:=k9 k Y J a
@[reducible] def Gx (k:aa->ae->Prop) (J:ae):Option aa->Prop
 |some .dW=>False
 |some .aR=>False
 |some v=>k v J
 |none=>False
@[reducible] def Zc (c j:Nat) (k:aa->ae->Prop) (J:ae):Option aB->Prop
 |some (.aZ g w)=>g=c/\Gx k J w[j]?
 |_=>False
@[reducible] def Zd (c j:Nat) (k:aa->ae->Prop) (J:ae):Option aB->Prop
 |some (.inst G l)=>G=c/\Zc c j k J J[l]?
 |_=>False
@[reducible] def og (c j:Nat) (k:aa->ae->Prop) (a:aa) (J:ae):Prop:=match a with
 | .ref i=>Zd c j k J J[i]?
 |_=>False
theorem y3 {f:Nat->Nat->Prop} {o:Option aB} (h:match(motive:=Option aB->Prop) o with|some (.inst c d)=>f c d|_=>False):∃c d,o=some (.inst c d)/\f c d:=by
 induction o with
 |none=>exact h.elim
 |some o=>cases o<;>first|exact h.elim|exact c7 _ _ rfl h
theorem y4 {f:Nat->List aa->Prop} {o:Option aB} (h:match(motive:=Option aB->Prop) o with|some (.aZ c d)=>f c d|_=>False):∃c d,o=some (.aZ c d)/\f c d:=by
 induction o with
 |none=>exact h.elim
 |some o=>cases o<;>first|exact h.elim|exact c7 _ _ rfl h
theorem Ze {k:aa->ae->Prop} {J:ae} {o:Option aa} (h:Gx k J o):∃v,o=some v/\v≠ .dW/\k v J:=by
 induction o with
 |none=>exact h.elim
 |some o=>cases o<;>first|exact h.elim|exact cJ _ rfl (nomatch ·) h
theorem Zf {c j:Nat} {k:aa->ae->Prop} {a:aa} {J:ae} (h:og c j k a J):∃i l w v,a= .ref i/\J[i]? =some (.inst c l)/\J[l]? =some (.aZ c w)/\w[j]? =some v/\v≠ .dW/\k v J:=by
 cases a<;>try exact h.elim
 refine a6 λp b=>dN (y3 h) λG l d e h=> ?_;obtain rfl:=e;refine dN (y4 h) λg w f m N=> ?_;obtain rfl:=m;exact cU (Ze N) λv X n o=>b (m7 _ _ _ _ rfl d f X n o)
end
def mB:List ax:=[il "",il "rows",il "keys",il "other",il "misuse",il "corrupt",il "big"]
inductive b9 {α β:Type} (R:α->β->Prop):List α->List β->Prop
 |nil:b9 R [] []
 |cons {a b l r}:R a b->b9 R l r->b9 R (a::l) (b::r)
structure hO where
 addr:aq
 fields:List ax
structure lb where
 qual:ax
 params:rD
 body:aH
 scope:fe
 pos:aX
 free:List ax
structure bx where
 prog:d4
 w:dU
 K:Frag
 si:Nat->Option hO
 exc:Nat->Option aq
 lam:Nat->Option lb
 tab:Nat->Option aq
 r:al
def a5 (T:List aq):aa->ai->Prop
 | .aR,_=>False
 | .none,v=>v= .none
 | .bool b,v=>v= .bool b
 | .int i,v=>∃t,v= .int i t
 | .str k,v=>∃t x,mB[k]? =some x/\v= .str x t
 | .bytes l,v=>∃b t,v= .bytes b t/\dI b=l
 | .ref n,v=>∃a,T[n]? =some a/\v= .ref a
 | .dW,_=>True
abbrev cZ (T:List aq) (l:List aa) (a:List ai):Prop:=b9 (a5 T) l a
inductive e7 (Z:bx) (adr:List aq):List ax->List aa->List pI->Prop
 |nil {ns}:e7 Z adr ns [] []
 |cons {n ns a as v t lc}:a5 adr a v->e7 Z adr ns as lc->
   e7 Z adr (n::ns) (a::as) (⟨xu Z.w.params n,.str n t,v⟩::lc)
abbrev lg (l:List (Int×Int)) (m:List (Int×ai)):Prop:=b9 (λp q=>q.1=p.1/\ ∃t,q.2= .int p.2 t) l m
inductive jJ (adr:List aq):List ax->List Nat->List (ax×aq)->Prop
 |nil:jJ adr [] [] []
 |cons {n ns i is a cl}:adr[i]? =some a->jJ adr ns is cl->jJ adr (n::ns) (i::is) ((n,a)::cl)
inductive hP (Z:bx) (adr:List aq):List (Nat×Nat)->List ai->Prop
 |nil:hP Z adr [] []
 |cons {j c ea a l eV}:Z.lam j=some ea->adr[c]? =some a->hP Z adr l eV->hP Z adr ((j,c)::l) (iC ea.pos.line::iC ea.pos.col:: .ref a::eV)
def gy (Z:bx) (T:List aq):aB->cj->Prop
 | .dead,_=>True
 | .list l,o=>∃e n,o=listOf e.toArray n/\cZ T l e
 | .tup l,o=>∃e n,o={cls:=.type "tuple",data:=.seq e.toArray n}/\cZ T l e
 | .cv l,o=>∃b n,o={cls:=.type "bytearray",data:=.bytearray b n}/\dI b=l/\n=0
 | .set l,o=>∃n,o.IntSetOf (λk=>l.contains k) n/\n <= l.length
 | .dict l,o=>∃m:List (Int×ai),o.IsDictOf (pJ Z.prog Z.w) m/\lg l m
 | .inst c d,o=>∃k z,Z.si c=some k/\T[d]? =some z/\o=t7 k.addr z
 | .aZ c w,o=>∃k D n,Z.si c=some k/\o=xv D n/\e7 Z T k.fields w D
 | .cell v,o=>∃x,o.data= .cell x/\(v= .aR\/ ∃y,x=some y/\a5 T v y)
 | .cw f i l,o=>∃P R,Z.tab f=some P/\T[i]? =some P/\o=xw R/\hP Z T l R.toList
 | .code j,o=>∃I e t,Z.lam j=some I/\o.data= .fields e/\e[1]? =some (.str I.qual t)
 | .fB l a,o=>o=a/\ ∃e n,a=listOf e.toArray n/\cZ [] (l.map .int) e
 | .fn j u h,o=>∃I c g p q,Z.lam j=some I/\T[u]? =some c/\jJ T I.free h g/\o=kla_obj "<lambda>" I.qual I.params I.body I.scope g p c q
theorem b9.length {d j:Type} {R:d->j->Prop} {l:List d} {r:List j} (h:b9 R l r):l.length=r.length:=by
 induction h with
 |nil=>rfl
 |cons _ _ B=>simp [B]
theorem b9.mono {d j:Type} {R S:d->j->Prop} {l:List d} {r:List j} (h:b9 R l r) (k:∀a b,R a b->S a b):b9 S l r:=by
 induction h with
 |nil=>exact .nil
 |cons x _ B=>exact .cons (k _ _ x) B
theorem b9.get {d j:Type} {R:d->j->Prop} {l:List d} {r:List j} (h:b9 R l r):∀(i:Nat) (a:d),l[i]? =some a->∃b,r[i]? =some b/\R a b:=by
 induction h with
 |nil=>intro i a e;contradiction
 |cons x _ B=>
  intro i a e;induction i with
  |zero=>simp at e;subst e;exact aJ _ (rfl) x
  |succ i=>exact aw (B i a e) λb c f=>aJ b (by simpa using c) f
theorem b9.append {d j:Type} {R:d->j->Prop} {l m:List d} {r a:List j} (h:b9 R l r) (b:b9 R m a):b9 R (l++m) (r++a):=by
 induction h with
 |nil=>exact b
 |cons x _ B=>exact .cons x B
theorem b9.set {d j:Type} {R:d->j->Prop} {l:List d} {r:List j} (h:b9 R l r) (i:Nat) {a:d} {b:j} (x:R a b):b9 R (l.set i a) (r.set i b):=by
 induction h generalizing i with
 |nil=>exact .nil
 |cons y c B=>induction i with
  |zero=>exact .cons x c
  |succ i=>exact .cons y (B i)
theorem b9.take {d j:Type} {R:d->j->Prop} {l:List d} {r:List j} (h:b9 R l r) (i:Nat):b9 R (l.take i) (r.take i):=by
 induction h generalizing i with
 |nil=>simp;exact .nil
 |cons y a B=>induction i with
  |zero=>exact .nil
  |succ i=>exact .cons y (B i)
theorem b9.drop {d j:Type} {R:d->j->Prop} {l:List d} {r:List j} (h:b9 R l r) (i:Nat):b9 R (l.drop i) (r.drop i):=by
 induction h generalizing i with
 |nil=>simp;exact .nil
 |cons y a B=>induction i with
  |zero=>exact .cons y a
  |succ i=>exact B i
theorem b9.reverse {d j:Type} {R:d->j->Prop} {l:List d} {r:List j} (h:b9 R l r):b9 R l.reverse r.reverse:=by
 induction h with
 |nil=>exact .nil
 |cons x _ B=>simp only [arP];exact B.append (.cons x .nil)
theorem a5.mono {T g:List aq} (b:∀(i:Nat) (a:aq),T[i]? =some a->g[i]? =some a):∀{a:aa} {v:ai},a5 T a v->a5 g a v
 | .aR,_,h=>h
 | .none,_,h=>h
 | .bool _,_,h=>h
 | .int _,_,h=>h
 | .str _,_,h=>h
 | .bytes _,_,h=>h
 | .ref _,_,⟨a,h,e⟩=>(aJ a (b _ _ h) e)
 | .dW,_,h=>h
theorem e7.mono {Z:bx} {T g:List aq} (b:∀(i:Nat) (a:aq),T[i]? =some a->g[i]? =some a) {ns as lc} (h:e7 Z T ns as lc):e7 Z g ns as lc:=by
 induction h with
 |nil=>exact .nil
 |cons x _ B=>exact .cons (a5.mono b x) B
theorem jJ.mono {T g:List aq} (b:∀(i:Nat) (a:aq),T[i]? =some a->g[i]? =some a) {ns is cl} (h:jJ T ns is cl):jJ g ns is cl:=by
 induction h with
 |nil=>exact .nil
 |cons x _ B=>exact .cons (b _ _ x) B
theorem hP.mono {Z:bx} {T g:List aq} (b:∀(i:Nat) (a:aq),T[i]? =some a->g[i]? =some a) {l eV} (h:hP Z T l eV):hP Z g l eV:=by
 induction h with
 |nil=>exact .nil
 |cons x y _ B=>exact .cons x (b _ _ y) B
theorem gy.mono {Z:bx} {T g:List aq} (b:∀(i:Nat) (a:aq),T[i]? =some a->g[i]? =some a):∀{ao:aB} {o:cj},gy Z T ao o->gy Z g ao o:=@λao o h=>by
 induction ao with
 |list=>exact dV (λ_=>dV λ_=>fK λh=>h.mono λ_ _=>a5.mono b) h
 |tup=>exact dV (λ_=>dV λ_=>fK λh=>h.mono λ_ _=>a5.mono b) h
 |inst=>exact dV (λ_=>dV λ_=>fK (Dq (b _ _))) h
 |aZ=>exact dV (λ_=>dV λ_=>dV λ_=>fK (fK λh=>h.mono b)) h
 |cell=>exact dV (λ_=>fK (arQ (dV λ_=>fK (a5.mono b)))) h
 |cw=>exact dV (λ_=>dV λ_=>fK (t8 (b _ _) (fK λh=>h.mono b))) h
 |fn=>exact dV (λ_=>dV λ_=>dV λ_=>dV λ_=>dV λ_=>fK (t8 (b _ _) (Dq λh=>h.mono b))) h
 |_=>exact h
structure bb where
 scope:fe
 slots:List (ax×Bool)
 comp:Bool:=false
 code:Option (ai×ax):=none
structure aP where
 adr:List aq
 pr:List (aq×cj)
 aK:List (aq×cj)
def iK (V:bb) (U:be) (T:List aq) (m:ax->Option ai) (Y:List aa):Prop:=
 ∀(i:Nat) (x:ax) (b:Bool),V.slots[i]? =some (x,b)->match b with
  |false=>∃a:aa,Y[i]? =some a/\(a= .aR\/ ∃v,m x=some v/\a5 T a v)
  |true=>∃(j:Nat) (c:aq),Y[i]? =some (aa.ref j)/\T[j]? =some c/\U.cells.lookup x=some c
def aP.all (c:aP):List aq:=c.adr++(c.pr.map (·.1)++c.aK.map (·.1))
structure St (Z:bx) (bA:bb) (env:be) (h₀:bk) (c:aP) (vj:List aa) (led:ae) (s:al):Prop where
 F:∃m,Fr h₀ env.locals s.heap m/\iK bA env c.adr m vj
 cP:c.all.Nodup
 len:c.adr.length=led.length
 obj:∀(i:Nat) (ao:aB) (a:aq),led[i]? =some ao->c.adr[i]? =some a->∃o,s.heap.get? a=some o/\gy Z c.adr ao o
 own:∀a∈c.all,a≠env.locals/\h₀.get? a=none
 pr:∀p∈c.pr,s.heap.get? p.1=some p.2/\ ∃lc n,p.2.data= .dict lc n
 aK:∀p∈c.aK,s.heap.get? p.1=some p.2
 rest:s.gens=Z.r.gens/\s.drawn=Z.r.drawn/\s.os=Z.r.os
 low:nS<h₀.objs.size/\ ∀a∈c.all,nS<a
def gd (l m:List (aq×cj)):Prop:=b9 (λp q=>q.1=p.1/\ ∃a,q.2={p.2 with slots:=a}) l m
def ir (l m:List (aq×cj)):Prop:=b9 (λp q=>q.1=p.1/\q.2.cls=p.2.cls/\(p.2.cls≠Value.none->q.2=p.2)) l m
theorem ir.refl:∀l,ir l l
 | []=>.nil
 |p::l=>.cons ⟨rfl,rfl,λ_=>rfl⟩ (ir.refl l)
theorem ir.trans {a b c:List (aq×cj)} (x:ir a b) (y:ir b c):ir a c:=by
 induction x generalizing c with
 |nil=>exact y
 |cons h _ B=>
  cases y with
  |cons k r=>
   exact dp h λe d f=>dp k λW g i=>.cons ⟨W.trans e,g.trans d,λq=>by rw [i (by rw [d];exact q),f q]⟩ (B r)
theorem ir.map {a b:List (aq×cj)} (x:ir a b):b.map (·.1)=a.map (·.1):=by
 induction x with
 |nil=>rfl
 |cons h _ B=>simp [h.1,B]
structure cW (c oh:aP):Prop where
 adr:c.adr<+:oh.adr
 pr:gd c.pr oh.pr
 aK:ir c.aK oh.aK
theorem gd.refl:∀l,gd l l
 | []=>.nil
 |p::l=>.cons ⟨rfl,p.2.slots,rfl⟩ (gd.refl l)
theorem gd.trans {a b c:List (aq×cj)} (x:gd a b) (y:gd b c):gd a c:=by
 induction x generalizing c with
 |nil=>exact y
 |cons h _ B=>
  cases y with
  |cons k r=>
   refine .cons ⟨k.1.trans h.1,?_⟩ (B r);obtain⟨_,f,e⟩:=h;obtain⟨_,d,W⟩:=k;exact⟨d,by rw [W,e]⟩
theorem gd.map {a b:List (aq×cj)} (x:gd a b):b.map (·.1)=a.map (·.1):=by
 induction x with
 |nil=>rfl
 |cons h _ B=>simp [h.1,B]
theorem cW.refl (c:aP):cW c c:=⟨xx,.refl _,.refl _⟩
theorem cW.trans {a b c:aP} (x:cW a b) (y:cW b c):cW a c:=⟨x.adr.trans y.adr,x.pr.trans y.pr,x.aK.trans y.aK⟩
theorem fi {l m:List aq} (h:l<+:m):∀(i:Nat) (a:aq),l[i]? =some a->m[i]? =some a:=by
 obtain⟨t,rfl⟩:=h;intro i a e;haveI:=cF.mp e;rw [im this.1];exact e
theorem cW.hQ {c G:aP} (x:cW c G) {a:aa} {v:ai} (h:a5 c.adr a v):a5 G.adr a v:=a5.mono (fi x.adr) h
theorem cW.Zg {c G:aP} (x:cW c G) {a:List aa} {v:List ai} (h:cZ c.adr a v):cZ G.adr a v:=h.mono λ_ _ y=>cW.hQ x y
@[reducible] def no {d:Type} (_:d):Prop:=False
def sj (f:Prop) (H:List aa):Prop:=match H with
 | []=>f
 |_=>False
def oi (f:aa->List aa->Prop) (H:List aa):Prop:=match H with
 |a::H=>f a H
 |_=>False
def lh (i:Int->Prop) (b:List Int->Prop) (s r:Nat->Prop) (a:aa):Prop:=match a with
 | .int n=>i n
 | .bytes l=>b l
 | .str j=>s j
 | .ref n=>r n
 |_=>False
@[reducible] def cp (i:Int->Prop) (b:List Int->Prop) (r:Nat->Prop) (a:aa):Prop:=lh i b no r a
def qd (l t:List aa->Prop) (b:List Int->Prop) (z:List Int->Prop) (o:Option aB):Prop:=match o with
 |some (.list x)=>l x
 |some (.tup x)=>t x
 |some (.cv x)=>b x
 |some (.fB x _)=>z x
 |_=>False
def oj (f:List aa->Prop) (o:Option aB):Prop:=match o with
 |some (.list x)=>f x
 |_=>False
@[elab_as_elim] theorem y5 {T:List aq} {f:Prop} {H:List aa} {a:List ai} {P:List ai->Prop} (b:cZ T H a) (h:sj f H) (K:f->P []):P a:=by
 induction b with
 |nil=>exact K h
 |cons=>exact h.elim
@[elab_as_elim] theorem sk {T:List aq} {f:aa->List aa->Prop} {H:List aa} {b:List ai} {P:List ai->Prop} (c:cZ T H b) (h:oi f H) (K:∀a H v b,a5 T a v->cZ T H b->f a H->P (v::b)):P b:=by
 induction c with
 |nil=>exact h.elim
 |cons d i=>exact K _ _ _ _ d i h
@[reducible] def ng (f:aa->Prop) (H:List aa):Prop:=oi (λa=>sj (f a)) H
@[reducible] def om (f:aa->aa->Prop) (H:List aa):Prop:=oi (λa=>oi λb=>sj (f a b)) H
@[elab_as_elim] theorem nh {T:List aq} {f:aa->Prop} {H:List aa} {b:List ai} {P:List ai->Prop} (c:cZ T H b) (h:ng f H) (K:∀a v,a5 T a v->f a->P [v]):P b:=
 sk c h λ_ _ _ _ v b h=>y5 b h (K _ _ v)
@[elab_as_elim] theorem qe {T:List aq} {f:aa->aa->Prop} {H:List aa} {c:List ai} {P:List ai->Prop} (d:cZ T H c) (h:om f H) (K:∀a b v u,a5 T a v->a5 T b u->f a b->P [v,u]):P c:=
 sk d h λ_ _ _ _ v c h=>nh c h λ_ _ u=>K _ _ _ _ v u
@[elab_as_elim] theorem l1 {T:List aq} {i:Int->Prop} {b:List Int->Prop} {s r:Nat->Prop} {a:aa} {v:ai} {P:ai->Prop} (k:a5 T a v) (h:lh i b s r a) (c:∀n t,i n->P (.int n t))
  (d:∀l y t,dI y=l->b l->P (.bytes y t)) (p:∀j,a5 T (.str j) v->s j->P v) (f:∀n g,T[n]? =some g->r n->P (.ref g)):P v:=by
 induction a with
 |int n=>obtain⟨t,rfl⟩:=k;exact c _ _ h
 |bytes l=>(refine cV k λy t m e=> ?_;obtain rfl:=m);exact d _ _ _ e h
 |str j=>exact p j k h
 |ref n=>obtain⟨g,o,rfl⟩:=k;exact f _ _ o h
 |_=>exact h.elim
@[elab_as_elim] theorem gz {T:List aq} {i:Int->Prop} {b:List Int->Prop} {r:Nat->Prop} {a:aa} {v:ai} {P:ai->Prop} (e:a5 T a v) (h:cp i b r a) (c:∀n t,i n->P (.int n t))
  (d:∀l y t,dI y=l->b l->P (.bytes y t)) (f:∀n g,T[n]? =some g->r n->P (.ref g)):P v:=l1 e h c d (λ_ _ h=>h.elim) f
@[elab_as_elim] theorem er {T:List aq} {i:Int->Prop} {a:aa} {v:ai} {P:ai->Prop} (b:a5 T a v) (h:cp i no no a) (c:∀n t,i n->P (.int n t)):P v:=gz b h c (λ_ _ _ _ h=>h.elim) λ_ _ _ h=>h.elim
@[elab_as_elim] theorem kF {T:List aq} {r:Nat->Prop} {a:aa} {v:ai} {P:ai->Prop} (b:a5 T a v) (h:cp no no r a) (f:∀n g,T[n]? =some g->r n->P (.ref g)):P v:=gz b h (λ_ _ h=>h.elim) (λ_ _ _ _ h=>h.elim) f
@[elab_as_elim] theorem y6 {T:List aq} {k:Bool->ae->Prop} {J:ae} {a:aa} {v:ai} {P:ai->Prop} (c:a5 T a v) (h:vi k a J) (K:∀b,k b J->P (.bool b)):P v:=by
 induction a with
 |bool b=>subst c;exact K b h
 |_=>exact h.elim
@[reducible] def Zh (k:aa->ae->Prop) (J:ae) (n:Int):Prop:=k (.int n) J
@[reducible] def Zi (k:aa->ae->Prop) (a:aa) (J:ae):Prop:=cp (λi=>k (.int (-i)) J) no no a
@[reducible] def Zj (u:a7) (Y:List aa) (k:aa->ae->Prop) (x:bn) (b:Bool) (J:ae):Prop:=jI b (u Y J k x) (k (.bool false) J)
@[reducible] def Zk (u:a7) (Y:List aa) (k:aa->ae->Prop) (x:bn) (b:Bool) (J:ae):Prop:=jI b (k (.bool true) J) (u Y J k x)
def jK (s K:al):Prop:=K.gens=s.gens/\K.drawn=s.drawn/\K.os=s.os
section
variable {Z:bx} {V:bb} {U:Env} {h₀:Heap} {c:aP} {Y:List aa} {J:ae} {s K:Shared}
theorem iK.mono {m:ax->Option ai} {T g:List aq} (l:∀(i:Nat) (a:aq),T[i]? =some a->g[i]? =some a) (e:iK V U T m Y):iK V U g m Y:=by
 intro i x b h;haveI:=e i x b h;induction b with
 |false=>
  exact aw this λa d f=>aJ a d (f.imp id λq=>aw q λv k n=>(aJ v k (a5.mono l n)))
 |true=>
  exact dN this λj c d f k=>dt j c d (l _ _ f) k
theorem St.there (S:St Z V U h₀ c Y J s):∀a∈c.all,∃o,s.heap.get? a=some o:=by
 intro a f;rcases cR.mp f with h|h
 ·obtain⟨i,d,e⟩:=nT h;have g:=S.len▸d;refine aw (S.obj i J[i] a (bV g) (by rw [bV d,e])) λo j _=> ?_;exact⟨o,j⟩
 ·rcases cR.mp h with h|h
  ·obtain⟨p,b,rfl⟩:=dz.mp h;exact⟨_,(S.pr p b).1⟩
  ·obtain⟨p,b,rfl⟩:=dz.mp h;exact⟨_,S.aK p b⟩
theorem St.turn {d:ax->Option ai} {X:List aa} (S:St Z V U h₀ c Y J s) (F:Fr h₀ U.locals K.heap d) (e:iK V U c.adr d X)
  (k:∀a∈c.all,∀o,s.heap.get? a=some o->K.heap.get? a=some o) (r:jK s K):St Z V U h₀ c X J K where
 F:=⟨d,F,e⟩
 cP:=S.cP
 len:=S.len
 obj:=λi ao a g f=>let⟨o,e,q⟩:=S.obj i ao a g f;⟨o,k a (cQ _ (cq f)) _ e,q⟩
 own:=S.own
 pr:=λp b=>let⟨x,y⟩:=S.pr p b;⟨k p.1 (dn _ (cQ _ (io b))) _ x,y⟩
 aK:=λp b=>k p.1 (dn _ (dn _ (io b))) _ (S.aK p b)
 rest:=⟨r.1.trans S.rest.1,r.2.1.trans S.rest.2.1,r.2.2.trans S.rest.2.2⟩
 low:=S.low
theorem St.grow (S:St Z V U h₀ c Y J s) (k:∀b o,s.heap.get? b=some o->K.heap.get? b=some o) (r:jK s K):St Z V U h₀ c Y J K:=
 aw S.F λ_ F e=>S.turn (F.keptAll k) e (λ_ _ o e=>k _ o e) r
theorem St.tok (S:St Z V U h₀ c Y J s) (t:Nat):St Z V U h₀ c Y J {s with toks:=t}:=
 S.grow (λ_ _ e=>e) (bv rfl rfl rfl)
def l3 (h:bk) (l:List aq):List (aq×cj):=l.filterMap λa=>(h.get? a).map (a,·)
theorem l4 {h:bk} {l:List aq} {p:aq×cj}:p∈l3 h l<->p.1∈l/\h.get? p.1=some p.2:=by
 unfold l3;rw [List.mem_filterMap];constructor
 ·intro d;refine aw d λa b e=> ?_;refine aw (gP.mp e) λo c f=> ?_;obtain rfl:=f;exact⟨b,c⟩
 ·intro g;obtain⟨b,c⟩:=g;exact aJ p.1 b (by rw [c];rfl)
theorem St.news (S:St Z V U h₀ c Y J s):News h₀ U.locals s.heap (l3 s.heap c.all):=λp a=>
 fp (l4.mp a) λb d=>⟨d,S.own _ b⟩
theorem St.vk {B:ax->Option ai} (S:St Z V U h₀ c Y J s) {a:aq} {o:cj} {ao:aB} (F:Fr h₀ U.locals K.heap B) (e:iK V U c.adr B Y)
  (k:∀b∈c.all,∀o,s.heap.get? b=some o->K.heap.get? b=some o) (t:a∉c.all) (D:a≠U.locals) (N:h₀.get? a=none) (f:nS<a) (E:K.heap.get? a=some o) (G:gy Z (c.adr++[a]) ao o) (r:jK s K):
  St Z V U h₀ {c with adr:=c.adr++[a]} Y (J++[ao]) K:=by
 have j:=S.turn F e k r;have C:∀(i:Nat) (b:aq),c.adr[i]? =some b->(c.adr++[a])[i]? =some b:=fi ⟨[a],rfl⟩
 have w:∀b,b∈({c with adr:=c.adr++[a]}).all<->b∈c.all\/b=a:=by
  intro b;simp only [aP.all,cR,dj];constructor
  ·rintro((h|h)|h)
   ·exact .inl (.inl h)
   ·exact .inr h
   ·exact .inl (.inr h)
  ·rintro((h|h)|h)
   ·exact .inl (.inl h)
   ·exact .inr h
   ·exact .inl (.inr h)
 refine⟨(aw j.F λm F e=>aJ m F (e.mono C)),?_,?_,?_,?_,j.pr,j.aK,j.rest,j.low.1,λb u=> ?_⟩
 ·haveI v:=S.cP;unfold aP.all at v t⊢;rw [eq] at v⊢;refine dp v λH I O=>bv ?_ I ?_
  ·rw [eq];refine⟨H,by simp,λx z y l=> ?_⟩;rw [dj] at l;subst l;intro L;obtain rfl:=L;exact t (cQ _ z)
  ·intro x z y l;rcases cR.mp z with h|h
   ·exact O x h y l
   ·rw [dj] at h;subst h;intro M;obtain rfl:=M;exact t (dn _ l)
 ·simp [S.len]
 ·intro i d P n p;by_cases A:i<J.length
  ·rw [im A] at n;rw [im (by rw [S.len];exact A)] at p;exact aw (j.obj i d P n p) λo e q=>aJ o e (q.mono C)
  ·haveI g:i=J.length:=by
    haveI:=(cF.mp n).1;simp at this;exact To this A
   subst g;simp at n;subst n;rw [<-S.len] at p;simp at p;subst p;exact aJ o E G
 ·intro b u;rcases(w b).mp u with h|rfl
  ·exact S.own b h
  ·exact⟨D,N⟩
 ·rcases(w b).mp u with h|rfl
  ·exact S.low.2 b h
  ·exact f
theorem St.fresh (S:St Z V U h₀ c Y J s) {a:aq} (b:s.heap.get? a=none) (M:s.heap.objs.size <= a):a∉c.all/\a≠U.locals/\h₀.get? a=none/\nS<a:=by
 refine aw S.F λm F _=>dd (λh=> ?_) ?_ ?_ (i4 (Dr S.low.1 (arR F.above F.ns.lt)) M)
 ·obtain⟨o,d⟩:=S.there a h;rw [b] at d;contradiction
 ·intro e;obtain rfl:=e;refine m6 F.ns λo _ _ d _=> ?_;rw [b] at d;contradiction
 ·induction q:h₀.get? a with
  |none=>rfl
  |some o'=>have:=F.keep _ _ q;rw [b] at this;contradiction
theorem St.alloc (S:St Z V U h₀ c Y J s) {a:aq} {o:cj} {ao:aB} (k:∀b o,s.heap.get? b=some o->K.heap.get? b=some o)
  (d:s.heap.get? a=none) (f:K.heap.get? a=some o) (g:gy Z (c.adr++[a]) ao o) (r:jK s K) (M:s.heap.objs.size <= a:=by first|exact dA _ |exact mR _):
  St Z V U h₀ {c with adr:=c.adr++[a]} Y (J++[ao]) K:=
 aw S.F λ_ F e=>jE (S.fresh d M) λx y z u=>S.vk (F.keptAll k) e (λ_ _ o e=>k _ o e) x y z u f g r
theorem St.more {b:ax->Option ai} (S:St Z V U h₀ c Y J s) {a:aq} {o:cj} {ao:aB} (d:s.heap.get? a=none) (F:Fr h₀ U.locals K.heap b) (e:iK V U c.adr b Y)
  (N:News h₀ U.locals K.heap ((a,o)::l3 s.heap c.all)) (f:gy Z (c.adr++[a]) ao o) (r:jK s K) (M:s.heap.objs.size <= a:=by first|exact dA _ |exact mR _):St Z V U h₀ {c with adr:=c.adr++[a]} Y (J++[ao]) K:=
 jE (S.fresh d M) λx y z u=>S.vk F e (λ_ g _ h=>(N (_,_) (.tail _ (l4.mpr ⟨g,h⟩))).1) x y z u (N (a,o) (.head _)).1 f r
theorem cW.alloc (c:aP) (a:aq):cW c {c with adr:=c.adr++[a]}:=⟨⟨[a],rfl⟩,.refl _,.refl _⟩
theorem a5.last (S:St Z V U h₀ c Y J s) (a:aq):a5 (c.adr++[a]) (.ref J.length) (.ref a):=(aJ a (by rw [<-S.len];simp) rfl)
theorem St.sm {n:ax->Option ai} (S:St Z V U h₀ c Y J s) {i:Nat} {a:aq} {o':cj} {ao:aB} (l:c.adr[i]? =some a) (F:Fr h₀ U.locals K.heap n) (e:iK V U c.adr n Y)
  (k:∀b∈c.all,b≠a->∀o,s.heap.get? b=some o->K.heap.get? b=some o) (w:K.heap.get? a=some o')
  (y:gy Z c.adr ao o') (r:jK s K):St Z V U h₀ c Y (J.set i ao) K:=by
 have T:=cq l;have t:=S.cP;unfold aP.all at t;rw [eq] at t;refine dp t λz C O=>⟨(aJ n F e),S.cP,by simp [S.len],?_,S.own,?_,?_,⟨r.1.trans S.rest.1,r.2.1.trans S.rest.2.1,r.2.2.trans S.rest.2.2⟩,S.low⟩
 ·intro j d b m f;by_cases u:i=j
  ·subst u;rw [l] at f;obtain rfl:=bl f;rw [ua (by rw [<-S.len];exact(cF.mp l).1)] at m;obtain rfl:=bl m;exact aJ o' w y
  ·rw [mS u] at m;refine aw (S.obj j d b m f) λo e q=> ?_
   have A:b≠a:=by
    intro B;obtain rfl:=B;exact u ((mT z).mp (((cF.mp l).2).trans ((cF.mp f).2).symm))
   exact⟨o,k b (cQ _ (cq f)) A _ e,q⟩
 ·intro p g;obtain⟨x,v⟩:=S.pr p g;have h:p.1∈c.pr.map (·.1)++c.aK.map (·.1):=cQ _ (io g);exact⟨k p.1 (dn _ h) (λq=>O a T p.1 h q.symm) _ x,v⟩
 ·intro p g;have h:p.1∈c.pr.map (·.1)++c.aK.map (·.1):=dn _ (io g);exact k p.1 (dn _ h) (λq=>O a T p.1 h q.symm) _ (S.aK p g)
theorem St.upd (S:St Z V U h₀ c Y J s) {i:Nat} {a:aq} {o':cj} {ao:aB} (d:c.adr[i]? =some a) (f:kx a s.heap K.heap) (g:K.heap.get? a=some o')
  (h:gy Z c.adr ao o') (r:jK s K):St Z V U h₀ c Y (J.set i ao) K:=by
 refine aw S.F λm F e=> ?_;refine fp (S.own a (cQ _ (cq d))) λj N=> ?_;exact S.sm d (F.change f j N) e (λb _ k o e=>(f.2 b k).trans e) g h r
theorem St.here (S:St Z V U h₀ c Y J s) {i:Nat} {ao:aB} (h:J[i]? =some ao):∃a,c.adr[i]? =some a/\ ∃o,s.heap.get? a=some o/\gy Z c.adr ao o:=by
 haveI b:i<c.adr.length:=by rw [S.len];exact((cF.mp h).1)
 exact aJ (c.adr[i]) (bV b) (S.obj i ao _ h (bV b))
end
structure c0 (bA:bb) (env:be):Prop where
 scope:env.scope=bA.scope
 kind:bA.scope.kind= .function
 globals:env.globals=eU
 builtins:env.builtins=pK
 fr:bA.comp=false->env.frame=some env.locals
 code:∀q,bA.code=some q->env.code=q.1/\env.qual=q.2
def vm (d:Nat) (A:cy):Prop:=A.depth+d+8<t6/\A.units+16*d+64<cLine/\A.handled=none
structure tP (Z:bx) (h:bk):Prop where
 X:Z.K.In h
 T:∃p loose hS on,TopRead p loose hS on h
 B:∃hS bm kG,h.Ns eU hS/\hS "__builtins__" =some (.ref bm)/\bm≠pK/\h.get? bm=some kG/\kG.cls= .type "module" /\kG.dict=some pK/\kG.data= .plain
theorem tP.keeps {Z:bx} {h c:bk} (b:tP Z h) (k:∀b o,h.get? b=some o->c.get? b=some o):tP Z c:=
 jG b.T λp d e mb T=>xW b.B λa f v g i j l m=>⟨b.X.keeps k,(xY p d e mb (T.keeps k)),(xX a f v (g.keeps k) i j (k _ _ l) m)⟩
structure Ok (Z:bx) (d:Nat) (A:cy) (env:be) (h₀:bk) (c:aP):Prop where
 base:tP Z h₀
 room:vm d A
 frame:∃a,env.frame=some a/\(a=env.locals\/a∈c.pr.map (·.1))
 frames:∃l,A.frames=some l/\ ∀f∈l,f.scope.kind≠ .module/\ ∃a,f.frame=some a/\(a=env.locals\/a∈c.pr.map (·.1))
 head:env.frame=some env.locals->∃l,A.frames=some (env::l)
theorem Ok.ext {Z:bx} {d:Nat} {A:cy} {U:be} {b:bk} {c G:aP} (O:Ok Z d A U b c) (e:cW c G):Ok Z d A U b G:=
 ⟨O.base,O.room,aw O.frame λa y z=>(aJ a y (by rw [e.pr.map];exact z)),aw O.frames λl g h=>(aJ l g (λf M=>fp (h f M) λx q=>aw q λa y z=>⟨x,a,y,by rw [e.pr.map];exact z⟩)),O.head⟩
def Zl (e:aq) (h:bk) (C:aq):Prop:=∃P a,h.get? e=some P/\P.cls= .ref C/\P.data= .fields a/\a[1]? =some .none
def oo (f:bk) (c:aP) (e:aq) (h:bk) (v:ai) (C:aq):Prop:=
 ∃P a T b d,h.get? e=some P/\P.cls= .ref C/\P.data= .fields a/\a[1]? =some (.ref T)/\f.get? T=none/\T∉c.all/\T≠e/\h.get? T=some b/\b.data= .fields d/\d[3]? =some v
def oq (Z:bx) (a:bk) (c:aP) (n:Nat) (e:aq) (h:bk):Prop:=
 ∃C,Z.exc n=some C/\a.get? e=none/\e∉c.all/\(Zl e h C\/oo a c e h .none C)
def vn (Z:bx) (L:aq) (a:bk) (c:aP) (n:Nat) (e:aq) (h:bk):Prop:=
 ∃C,Z.exc n=some C/\a.get? e=none/\e∉c.all/\oo a c e h (iC L) C
def gU (Z:bx) (L:aq) (a:bk) (c:aP) (n:Nat) (e:aq) (h:bk):Prop:=oq Z a c n e h\/vn Z L a c n e h
structure dC (pin:List aq) (c oh:aP):Prop where
 pin:pin<+:oh.adr
 pr:gd c.pr oh.pr
 aK:ir c.aK oh.aK
theorem cW.fwd {a:List aq} {c G:aP} (e:cW c G) (h:a<+:c.adr):dC a c G:=⟨h.trans e.adr,e.pr,e.aK⟩
theorem dC.refl {a:List aq} {c:aP} (h:a<+:c.adr):dC a c c:=⟨h,.refl _,.refl _⟩
theorem dC.trans {d:List aq} {a b c:aP} (x:dC d a b) (y:dC d b c):dC d a c:=⟨y.pin,x.pr.trans y.pr,x.aK.trans y.aK⟩
theorem Ok.fwd {Z:bx} {d:Nat} {A:cy} {U:be} {b:bk} {g:List aq} {c G:aP} (O:Ok Z d A U b c) (e:dC g c G):Ok Z d A U b G:=
 ⟨O.base,O.room,aw O.frame λa y z=>(aJ a y (by rw [e.pr.map];exact z)),aw O.frames λl h i=>(aJ l h (λf M=>fp (i f M) λx q=>aw q λa y z=>⟨x,a,y,by rw [e.pr.map];exact z⟩)),O.head⟩
def bF (Z:bx) (d:Nat) (V:bb) (T:a7) (e:aH):Prop:=
 ∀(A:cy) (U:be) (b:bk) (s:al) (c:aP) (Y:List aa) (J:ae) (k:aa->ae->Prop) (x:bn) (Q:ai->al->Prop) (E:ai->al->Prop),
  Ok Z d A U b c->c0 V U->St Z V U b c Y J s->T Y J k x->
  (∀v a G aj K,k a aj->St Z V U b G Y aj K->cW c G->a5 G.adr a v->Q v K)->
  (∀e n G aj K,x n aj->St Z V U b G Y aj K->cW c G->gU Z U.locals b G n e K.heap->E (.ref e) K)->
  av (aG Z.prog Z.w) A (bM e U) Q E s
def hT (Z:bx) (d:Nat) (V:bb) (T:de) (e:aH):Prop:=
 ∀(A:cy) (U:be) (a:bk) (s:al) (c:aP) (Y:List aa) (J:ae) (k:Bool->ae->Prop) (x:bn) (Q:Bool->al->Prop) (E:ai->al->Prop),
  Ok Z d A U a c->c0 V U->St Z V U a c Y J s->T Y J k x->
  (∀b G aj K,k b aj->St Z V U a G Y aj K->cW c G->Q b K)->
  (∀e n G aj K,x n aj->St Z V U a G Y aj K->cW c G->gU Z U.locals a G n e K.heap->E (.ref e) K)->
  av (aG Z.prog Z.w) A (jB e U (bM e U)) Q E s
def eb (Z:bx) (d:Nat) (V:bb) (T:ST) (j:List eT):Prop:=
 ∀(A:cy) (U:be) (b:bk) (s:al) (c:aP) (f:List aq) (Y:List aa) (J:ae) (k:List aa->ae->Prop) (r:aa->ae->Prop) (x:bn) (Q:f7->al->Prop) (E:ai->al->Prop),
  Ok Z d A U b c->c0 V U->St Z V U b c Y J s->f<+:c.adr->T Y J k r x->
  (∀X G aj K,k X aj->St Z V U b G X aj K->dC f c G->Q .next K)->
  (∀v a X G aj K,r a aj->St Z V U b G X aj K->dC f c G->a5 G.adr a v->Q (.ret v) K)->
  (∀e n X G aj K,x n aj->St Z V U b G X aj K->dC f c G->gU Z U.locals b G n e K.heap->E (.ref e) K)->
  av (aG Z.prog Z.w) A (nR j U) Q E s
def fC (Z:bx) (d:Nat) (V:bb) (T:ST) (j:eT):Prop:=
 ∀(A:cy) (U:be) (b:bk) (s:al) (c:aP) (f:List aq) (Y:List aa) (J:ae) (k:List aa->ae->Prop) (r:aa->ae->Prop) (x:bn) (Q:f7->al->Prop) (E:ai->al->Prop),
  Ok Z d A U b c->c0 V U->St Z V U b c Y J s->f<+:c.adr->T Y J k r x->
  (∀X G aj K,k X aj->St Z V U b G X aj K->dC f c G->Q .next K)->
  (∀v a X G aj K,r a aj->St Z V U b G X aj K->dC f c G->a5 G.adr a v->Q (.ret v) K)->
  (∀e n X G aj K,x n aj->St Z V U b G X aj K->dC f c G->gU Z U.locals b G n e K.heap->E (.ref e) K)->
  av (aG Z.prog Z.w) A (kY j U) Q E s
section
variable {Z:bx} {d:Nat} {V:bb}
def au (i:Int):a7:=λ_ J k _=>k (.int i) J
theorem Zm {i:Int} {n:Nat} {a:aX}:bF Z d V (au i) (.Constant (.int i) n a):=by
 exact λA U e s c Y J k x Q E O L S b hq f=>aV<|wpAny_Constant_int (hq _ (.int i) c J _ b (S.tok _) (.refl c) ⟨_,rfl⟩)
def hU (b:Bool):a7:=λ_ J k _=>k (.bool b) J
theorem Zn {b:Bool} {n:Nat} {a:aX}:bF Z d V (hU b) (.Constant (.bool b) n a):=by
 exact λA U f s c Y J k x Q E O L S e hq g=>aV<|wpAny_Constant_bool (hq _ (.bool b) c J _ e S (.refl c) rfl)
def y7:a7:=λ_ J k _=>k .none J
theorem Zo {n:Nat} {a:aX}:bF Z d V y7 (.Constant .none n a):=by
 exact λA U e s c Y J k x Q E O L S b hq f=>aV<|wpAny_Constant_none (hq _ .none c J _ b S (.refl c) rfl)
def fX (j:Nat):a7:=λ_ J k _=>k (.str j) J
theorem Zp {j:Nat} {y:ax} {n:Nat} {a:aX} (h:mB[j]? =some y):bF Z d V (fX j) (.Constant (.str y) n a):=by
 exact λA U e s c Y J k x Q E O L S b hq f=>aV<|Ds (hq _ (.str j) c J _ b (S.tok _) (.refl c) (c7 _ _ h rfl))
def so (l:List Int):a7:=λ_ J k _=>k (.bytes l) J
theorem Zq {l:List Int} {y:List UInt8} {n:Nat} {a:aX} (h:y.map (λc=>(c.toNat:Int))=l):bF Z d V (so l) (.Constant (.bytes y) n a):=by
 exact λA U e s c Y J k x Q E O L S b hq f=>aV<|Constant_bytes (hq _ (.bytes l) c J _ b (S.tok _) (.refl c) (c7 _ _ rfl h))
def bH (i:Nat):a7:=λY J k _=>match Y[i]? with
 |some .aR=>False
 |some a=>k a J
 |none=>False
theorem iL {U:be} {y:ax} {u:hH} (L:c0 V U) (h:V.scope.names.lookup y=some u):U.kindOf y=some u:=by
 unfold Env.kindOf;rw [L.scope];exact h
theorem c0.iu {U:be} (L:c0 V U):U.scope.kind= .function:=by rw [L.scope];exact L.kind
theorem Zr {i:Nat} {y:ax} {g:aX} (h:V.slots[i]? =some (y,false)) (j:V.scope.names.lookup y=some .local) (l:(y==("__debug__" :ax))=false):bF Z d V (bH i) (.Name y g):=by
 refine λA U q s c Y J k x Q E O L S b hq r=>aw S.F λm F e=>aw (e i y false h) λa n o=> ?_;unfold bH at b;replace b:=n▸b;rcases o with rfl|f
 ·exact b.elim
 ·refine aw f λv X p=> ?_;clear f;refine aV<|ub (xy L.iu (iL L j) F.ns X (hq v a c J s ?_ S (.refl c) p)) l
  cases a<;>first|exact b|exact b.elim
def vo (k:aa->ae->Prop) (J:ae) (o:Option aB):Prop:=match o with
 |some (.cell .aR)=>False
 |some (.cell a)=>k a J
 |_=>False
theorem Zs {k:aa->ae->Prop} {J:ae} {o:Option aB} (h:vo k J o):∃a,o=some (.cell a)/\a≠ .aR/\k a J:=by
 induction o with
 |none=>exact h.elim
 |some o=>induction o with
  |cell a=>cases a<;>first|exact h.elim|exact⟨_,rfl,(nomatch ·),h⟩
  |_=>exact h.elim
def b4 (i:Nat):a7:=λY J k _=>match Y[i]? with
 |some (.ref j)=>vo k J J[j]?
 |_=>False
theorem Zt {i j:Nat} {Y:List aa} {J:ae} {k:aa->ae->Prop} {x:bn} (h:b4 i Y J k x) (e:Y[i]? =some (.ref j)):vo k J J[j]? :=by
 unfold b4 at h;replace h:=e▸h;exact h
theorem Zu {i:Nat} {y:ax} {t:aX} (u:V.slots[i]? =some (y,true)) (b:V.scope.names.lookup y=some .cell\/V.scope.names.lookup y=some .free) (h:(y==("__debug__" :ax))=false) (w:(y==("__classdict__" :ax))=false):bF Z d V (b4 i) (.Name y t):=by
 refine λA U N s c Y J k x Q E O L S f hq P=>a6 λR z=>aw S.F λm F e=>dN (e i y true u) λj r B C X=> ?_;refine z (cU (Zs (Zt f B)) λa D G f=> ?_)
 ·refine aw (S.here D) λT l n=> ?_;rw [C] at l;obtain rfl:=bl l;refine aw n λo H I=> ?_;clear n;refine aw I λp hd g=> ?_;rcases g with rfl|K
  ·exact(G rfl).elim
  ·refine aw K λv M g=> ?_;obtain rfl:=M;haveI q:s.heap.IsCell r (some v):=(aJ o H hd)
   rcases b with b|b
   ·exact aV<|ub (wpAny_loadName_cell L.iu (iL L b) X q (hq v a c J s f S (.refl c) g)) h
   ·exact aV<|ub (wpAny_loadName_free L.iu (iL L b) X q (hq v a c J s f S (.refl c) g) w) h
theorem Zv {i:Int} {a:e0} {y:ax} {b:aX} (f:fL Z.K eU y=some (some (.int i a))) (g:V.scope.names.lookup y=some .globalImplicit) (h:(y==("__debug__" :ax))=false):bF Z d V (au i) (.Name y b):=by
 exact λA U n s c Y J k x Q E O L S j hq o=>a6 λq l=>aw S.F λm F e=>jG O.base.T λp r t mb T=>l (aV<|uc F O.base.X T f (hq _ (.int i) c J s j S (.refl c) ⟨_,rfl⟩) L.globals L.iu (iL L g) h)
def aU (op:nU) (l r:a7) (f:aa->aa->ae->(aa->ae->Prop)->Prop):a7:=λY J k x=>l Y J (ek r Y x (fN f k)) x
def hV (Z:bx) (op:nU) (f:aa->aa->ae->(aa->ae->Prop)->Prop):Prop:=
 ∀(d:Nat) (V:bb) (A:cy) (U:be) (e:bk) (s:al) (c:aP) (Y:List aa) (J:ae) (k:aa->ae->Prop) (Q:ai->al->Prop) (E:ai->al->Prop) (a b:aa) (v u:ai),
  Ok Z d A U e c->c0 V U->St Z V U e c Y J s->a5 c.adr a v->a5 c.adr b u->f a b J k->
  (∀v a G aj K,k a aj->St Z V U e G Y aj K->cW c G->a5 G.adr a v->Q v K)->
  av (aG Z.prog Z.w) A (binaryOp op v u) Q E s
theorem sp {op:nU} {l r:a7} {f:aa->aa->ae->(aa->ae->Prop)->Prop} {q o:aH} {w:aX} (y:bF Z d V l q) (z:bF Z d V r o) (M:hV Z op f):bF Z d V (aU op l r f) (.BinOp q op o w):=by
 exact λA U i s c Y J k x Q E O L S B hq t=>aqi (y A U i s c Y J _ x _ E O L S B (λv a C D F H R P m=>(z A U i F C Y D _ x _ E (O.ext P) L R H (λu b I N T X S₂ j g=>(M d V A U i T I Y N k Q E a b v u ((O.ext P).ext j) L S₂ (j.hQ m) g X (λv a G aj K h p W=>hq v a G aj K h p ((P.trans j).trans W)))) (λe n G aj K h p W=>t e n G aj K h p (P.trans W)))) t)
def fD (g:Int->Int->((Int->Prop)->Prop)):aa->aa->ae->(aa->ae->Prop)->Prop:=λa b J k=>cp (λa=>cp (λb=>g a b (Zh k J)) no no b) no no a
theorem li {op:nU} {g:Int->Int->((Int->Prop)->Prop)} (h:∀(A:cy) (s:al) (Q E:ai->al->Prop) (a b:Int) (t u:e0) (P:Int->Prop),g a b P->
  (∀n,P n->∀e l,Q (.int n e) {s with toks:=l})->av (aG Z.prog Z.w) A (binaryOp op (.int a t) (.int b u)) Q E s):hV Z op (fD g):=by
 exact λd V A U j s c Y J k Q E a b v u O L S f C M hq=>er f M λa t M=>er C M λb m M=>h A s Q E _ _ _ _ _ M λn i e l=>hq _ (.int n) c J _ i (S.tok _) (.refl c) ⟨_,rfl⟩
theorem Zw:hV Z .Add (fD λa b P=>P (a+b)):=li λ_ _ _ _ _ _ _ _ _ h k=>aV<|add_int (k _ h ..)
theorem Zx:hV Z .Sub (fD λa b P=>P (a-b)):=li λ_ _ _ _ _ _ _ _ _ h k=>aV<|sub_int (k _ h ..)
theorem Zy:hV Z .Mod (fD λa b P=>0<b/\P (a%b)):=li λ_ _ _ _ _ _ _ _ _ h k=>aV<|mod_int (ud h.1) (k _ (by rw [Int.fmod_eq_emod_of_nonneg _ (nV h.1)];exact h.2) ..)
theorem Zz:hV Z .FloorDiv (fD λa b P=>0<b/\b<2^64/\P (a/b)):=li λA s Q E a b t u P h k=>by
 haveI e:a.fdiv b=a/b:=Os _ (nV h.1)
 exact aV<|floordiv_int (ud h.1) (by rw [e];exact k _ h.2.2 ..) (.inl (arS (by
  haveI N:b.natAbs<2^64:=arT.mp ((arU (nV h.1)).symm▸h.2.1);haveI:=(Ot (arV.mpr (ud h.1))).mpr N;exact r9 this ab)))
theorem ZA:hV Z .Mult (fD λa b P=>((-(2^64)<a/\a<2^64)\/(-(2^64)<b/\b<2^64))/\P (a*b)):=li λ_ _ _ _ _ _ _ _ _ h k=>
 aV<|mul_int (k _ h.2 ..) (h.1.elim (λx=>IntMulOk.of_left (intBits_le_64 x.1 x.2)) λx=>IntMulOk.of_right (intBits_le_64 x.1 x.2))
theorem ZB:hV Z .Pow (fD λa b P=>0 <= b/\b <= 1000000/\a.natAbs<2^64/\P (a^b.toNat)):=li λ_ _ _ _ _ _ _ _ _ h k=>aV<|pow_int_small h.1 h.2.1 h.2.2.1 (k _ h.2.2.2 ..)
theorem ZC:hV Z .RShift (fD λa b P=>0 <= b/\P (a/2^b.toNat)):=li λA s Q E a b t u P h k=>by
 haveI e:a.fdiv (2^b.toNat)=a/2^b.toNat:=Os _ (nV (arW ∅));exact aV<|rshift_int h.1 (by rw [e];exact k _ h.2 ..)
theorem ZD:hV Z .LShift (fD λa b P=>0 <= b/\b <= 1000000/\a.natAbs<2^64/\P (a*2^b.toNat)):=li λ_ _ _ _ _ _ _ _ _ h k=>aV<|lshift_int_small h.1 h.2.1 h.2.2.1 (k _ h.2.2.2 ..)
theorem ZE:hV Z .BitAnd (fD λa b P=>0 <= a/\0 <= b/\P ((a.toNat&&&b.toNat:Nat):Int)):=li λA s Q E a b t u P h k=>by
 refine aV<|and_int ?_
 rw [bitAnd_pp h.1 h.2.1];exact k _ h.2.2 ..
theorem ZF:hV Z .BitOr (fD λa b P=>0 <= a/\0 <= b/\P ((a.toNat|||b.toNat:Nat):Int)):=li λA s Q E a b t u P h k=>by
 refine aV<|or_int ?_
 haveI e:Builtin.bitOr a b=(a.toNat|||b.toNat):=by
  rw [bitOr_and,bitAnd_pp h.1 h.2.1];haveI:=nat_or_add_and a.toNat b.toNat;exact YE h this
 rw [e];exact k _ h.2.2 ..
def aqx:aa->aa->ae->(aa->ae->Prop)->Prop:=λa b J k=>cp no (λa=>cp no (λb=>a.length+b.length <= 16777216/\k (.bytes (a++b)) J) no b) no a
theorem ZG:hV Z .Add aqx:=by
 refine λd V A U q s c Y J k Q E a b v u O L S f C M hq=>gz f M (λ_ _ h=>h.elim) (λl r t g M=>(gz C M (λ_ _ h=>h.elim) (λm w i n M=> ?_) λ_ _ _ h=>h.elim)) λ_ _ _ h=>h.elim;obtain⟨o,p⟩:=M;exact aV<|KBa.add_K g n o λi j e=>hq _ (.bytes _) c J _ p (S.tok _) (.refl c) (c7 _ _ rfl e)
def one (l:List Int) (f:Int->Prop):Prop:=match l with
 | [x]=>f x
 |_=>False
theorem ZH {b:Array UInt8} {f:Int->Prop} (h:one (dI b) f):∃y:UInt8,b= #[y]/\f (y.toNat:Int):=by
 induction b with
 |mk l=>induction l with
  |nil=>exact h.elim
  |cons y l=>induction l with
   |nil=>exact⟨y,rfl,h⟩
   |cons=>exact h.elim
def ZI:aa->aa->ae->(aa->ae->Prop)->Prop:=λa b J k=>cp no (λl=>cp (λn=>one l λx=> -1048576 <= n/\n <= 1048576/\k (.bytes (eg n.toNat x)) J) no no b) no a
theorem ZJ:hV Z .Mult ZI:=by
 refine λd V A U p s c Y J k Q E a b v u O L S e C M hq=>gz e M (λ_ _ h=>h.elim) (λl r t f M=>er C M λn g M=> ?_) λ_ _ _ h=>h.elim;subst f;refine aw (ZH M) λy q h=> ?_;subst q;exact dp h λi m o=>aV<|bytes_mul_any (b:=[y]) (List.cons_ne_nil _ _) i m (bg rfl) λg j=>hq _ (.bytes _) c J _ o (S.tok _) (.refl c) ⟨_,_,rfl,by simp [dI]⟩
def hW (Z:bx) (op:CmpOp) (f:aa->aa->ae->(Bool->Prop)->Prop):Prop:=
 ∀(d:Nat) (V:bb) (A:cy) (U:be) (e:bk) (s:al) (c:aP) (Y:List aa) (J:ae) (k:Bool->Prop) (Q:ai->al->Prop) (E:ai->al->Prop) (a b:aa) (v u:ai),
  Ok Z d A U e c->c0 V U->St Z V U e c Y J s->a5 c.adr a v->a5 c.adr b u->f a b J k->
  (∀b K,k b->St Z V U e c Y J K->Q (.bool b) K)->
  av (aG Z.prog Z.w) A (t4 op v u) Q E s
@[reducible] def ZK (f:aa->aa->ae->(Bool->Prop)->Prop) (k:aa->ae->Prop) (a b:aa) (J:ae):Prop:=f a b J (Y7 k J)
@[reducible] def hY (f:aa->aa->ae->(Bool->Prop)->Prop) (k:Bool->ae->Prop) (a b:aa) (J:ae):Prop:=f a b J (hM k J)
def jL (l r:a7) (f:aa->aa->ae->(Bool->Prop)->Prop):a7:=λY J k x=>l Y J (ek r Y x (ZK f k)) x
def bi (l r:a7) (f:aa->aa->ae->(Bool->Prop)->Prop):de:=λY J k x=>l Y J (ek r Y x (hY f k)) x
theorem Gy {op:CmpOp} {l r:a7} {f:aa->aa->ae->(Bool->Prop)->Prop} {q o:aH} {z:aX} (B:bF Z d V l q) (C:bF Z d V r o) (M:hW Z op f) (D:ry op o=false:=by with_unfolding_all rfl):
  bF Z d V (jL l r f) (.Compare q [op] [o] z):=by
 exact λA U i s c Y J k x Q E O L S F hq t=>aqk (B A U i s c Y J _ x _ E O L S F (λv a H I N T R P m=>(C A U i N H Y I _ x _ E (O.ext P) L R T (λu b w y X h₂ S₂ j g=>(M d V A U i X w Y y _ Q E a b v u ((O.ext P).ext j) L S₂ (j.hQ m) g h₂ (λb K h p=>hq (.bool b) (.bool b) w y K h p (P.trans j) rfl))) (λe n G aj K h p W=>t e n G aj K h p (P.trans W)))) t) D
theorem vp {op:CmpOp} {l r:a7} {f:aa->aa->ae->(Bool->Prop)->Prop} {q o:aH} {z:aX} (B:bF Z d V l q) (C:bF Z d V r o) (M:hW Z op f) (D:ry op o=false:=by with_unfolding_all rfl):
  hT Z d V (bi l r f) (.Compare q [op] [o] z):=by
 exact λA U i s c Y J k x Q E O L S F hq t=>NB (B A U i s c Y J _ x _ E O L S F (λv a H I N T R P m=>(C A U i N H Y I _ x _ E (O.ext P) L R T (λu b w y X h₂ S₂ j g=>(M d V A U i X w Y y _ _ E a b v u ((O.ext P).ext j) L S₂ (j.hQ m) g h₂ (λb K h p=>aV<|t3 (hq b w y K h p (P.trans j))))) (λe n G aj K h p W=>t e n G aj K h p (P.trans W)))) t) D
def jM (g:Int->Int->Bool):aa->aa->ae->(Bool->Prop)->Prop:=λa b _ k=>cp (λa=>cp (λb=>k (g a b)) no no b) no no a
theorem qf {op:CmpOp} {g:Int->Int->Bool} (h:∀(A:cy) (s:al) (Q E:ai->al->Prop) (a b:Int) (t u:e0),Q (.bool (g a b)) s->av (aG Z.prog Z.w) A (t4 op (.int a t) (.int b u)) Q E s):hW Z op (jM g):=by
 exact λd V A U f s c Y J k Q E a b v u O L S e C M hq=>er e M λa t M=>er C M λb i M=>h A s Q E _ _ _ _ (hq _ s M S)
theorem ZL:hW Z .Lt (jM λa b=>decide (a<b)):=qf λ_ _ _ _ _ _ _ _ h=>aV<|lt_int h
theorem ZM:hW Z .LtE (jM λa b=>decide (a <= b)):=qf λ_ _ _ _ _ _ _ _ h=>aV<|le_int h
theorem ZN:hW Z .Gt (jM λa b=>decide (b<a)):=qf λ_ _ _ _ _ _ _ _ h=>aV<|gt_int h
theorem ZO:hW Z .GtE (jM λa b=>decide (b <= a)):=qf λ_ _ _ _ _ _ _ _ h=>aV<|ge_int h
theorem ZP:hW Z .Eq (jM λa b=>decide (a=b)):=qf λA s Q E a b t u h=>aV<|eq_int (by
 exact h)
theorem ZQ:hW Z .NotEq (jM λa b=>decide (a≠b)):=qf λA s Q E a b t u h=>aV<|ne_int (by
 haveI e:(a != b)=decide (a≠b):=by by_cases q:a=b<;>simp [q]
 rw [e];exact h)
def ZR (g:List Int->List Int->Bool):aa->aa->ae->(Bool->Prop)->Prop:=λa b _ k=>cp no (λa=>cp no (λb=>k (g a b)) no b) no a
theorem y8 {a b:Array UInt8}:dI a=dI b<->a.toList=b.toList:=by
 unfold dI;constructor
 ·exact λh=>(List.map_inj_right (λx y e=>(UInt8.toNat_inj.mp (Ou.mp e)))).mp h
 ·intro h;rw [h]
theorem ZS:hW Z .Eq (ZR λa b=>decide (a=b)):=by
 refine λd V A U o s c Y J k Q E a b v u O L S i C M hq=>gz i M (λ_ _ h=>h.elim) (λl f t j M=>(gz C M (λ_ _ h=>h.elim) (λm g p n M=>(aV<|eq_bytes (hq _ s ?_ S))) λ_ _ _ h=>h.elim)) λ_ _ _ h=>h.elim;subst j n
 haveI e:(f.toList==g.toList)=decide (dI f=dI g):=by
  by_cases q:f.toList=g.toList
  ·rw [decide_eq_true (y8.mpr q)];exact beq_iff_eq.mpr q
  ·rw [decide_eq_false (λw=>q (y8.mp w))];exact beq_false_of_ne q
 rw [e];exact M
def Gz (g:Nat->Nat->Bool):aa->aa->ae->(Bool->Prop)->Prop:=λa b _ k=>lh no no (λa=>lh no no (λb=>k (g a b)) no b) no a
theorem ZT:mB.Nodup:=by decide
theorem sq {i j:Nat} {x y:ax} (d:mB[i]? =some x) (f:mB[j]? =some y):x=y<->i=j:=by
 obtain⟨a,b⟩:=cF.mp d;obtain⟨c,e⟩:=cF.mp f;rw [<-b,<-e];exact mT ZT
theorem ZU:hW Z .Eq (Gz λa b=>decide (a=b)):=by
 refine λd V A U o s c Y J k Q E a b v u O L S f C M hq=>l1 f M (λ_ _ h=>h.elim) (λ_ _ _ _ h=>h.elim) (λi f M=>(l1 C M (λ_ _ h=>h.elim) (λ_ _ _ _ h=>h.elim) (λj C M=>(cV f λt x g m=> ?_)) λ_ _ _ h=>h.elim)) λ_ _ _ h=>h.elim;obtain rfl:=m;refine cV C λp y l n=> ?_;obtain rfl:=n;refine aV<|eq_str (hq _ s ?_ S)
 haveI e:(x==y)=decide (i=j):=by
  by_cases q:i=j
  ·rw [decide_eq_true q];exact beq_iff_eq.mpr ((sq g l).mpr q)
  ·rw [decide_eq_false q];exact beq_false_of_ne λw=>q ((sq g l).mp w)
 rw [e];exact M
theorem ZV:hW Z .NotEq (Gz λa b=>decide (a≠b)):=by
 refine λd V A U o s c Y J k Q E a b v u O L S f C M hq=>l1 f M (λ_ _ h=>h.elim) (λ_ _ _ _ h=>h.elim) (λi f M=>(l1 C M (λ_ _ h=>h.elim) (λ_ _ _ _ h=>h.elim) (λj C M=>(cV f λt x g m=> ?_)) λ_ _ _ h=>h.elim)) λ_ _ _ h=>h.elim;obtain rfl:=m;refine cV C λp y l n=> ?_;obtain rfl:=n;refine aV<|ne_str (hq _ s ?_ S)
 haveI e:(x != y)=decide (i≠j):=by
  by_cases q:i=j
  ·rw [decide_eq_false (λw=>w q),bne,beq_iff_eq.mpr ((sq g l).mpr q)];rfl
  ·rw [decide_eq_true q,bne,beq_false_of_ne λw=>q ((sq g l).mp w)];rfl
 rw [e];exact M
def kH (t:de):de:=λY J k x=>t Y J (Y8 k) x
theorem ZW {t:de} {e:aH} {a:aX} (h:hT Z d V t e):hT Z d V (kH t) (.UnaryOp .Not e a):=by
 exact λA U f s c Y J k x Q E O L S g hq i=>aql (h A U f s c Y J _ x _ E O L S g (λb G aj K h j e=>hq _ G aj K h j e) i)
def gV (t:a7):de:=λY J k x=>t Y J (vi k) x
theorem ZX {t:a7} {e:aH} (h:bF Z d V t e) (g:∀(U:be) (f:ck ai),jB e U f=(do let v<-f;j4 e.pos;ky [v] (pF v)):=by intro _ _;rfl):hT Z d V (gV t) e:=by
 exact λA U i s c Y J k x Q E O L S j hq l=>aqm (h A U i s c Y J _ x _ E O L S j (λv a G aj K h m W n=>(y6 n h λb h=>(aV<|t3 (hq _ G aj K h m W)))) l) (g ..)
def qg (t u:de):de:=λY J k x=>t Y J (Y9 u Y k x) x
def fq (t u:de):de:=λY J k x=>t Y J (Za u Y k x) x
def ni (Z:bx) (d:Nat) (V:bb) (op:BoolOp) (T:de) (D:List aH):Prop:=
 ∀(A:cy) (U:be) (a:bk) (s:al) (c:aP) (Y:List aa) (J:ae) (k:Bool->ae->Prop) (x:bn) (Q:Bool->al->Prop) (E:ai->al->Prop),
  Ok Z d A U a c->c0 V U->St Z V U a c Y J s->T Y J k x->
  (∀b G aj K,k b aj->St Z V U a G Y aj K->cW c G->Q b K)->
  (∀e n G aj K,x n aj->St Z V U a G Y aj K->cW c G->gU Z U.locals a G n e K.heap->E (.ref e) K)->
  av (aG Z.prog Z.w) A (pG op D U) Q E s
theorem ZY {t:de} {e:aH} (h:hT Z d V t e):ni Z d V .And t [e]:=by
 refine λA U f s c Y J k x Q E O L S g hq i=>NC (h A U f s c Y J _ x _ E O L S g (λb G aj K h a e=> ?_) i);cases b
 ·exact hq false G aj K h a e
 ·exact aqo (hq true G aj K h a e)
theorem y9 {t:de} {e:aH} (h:hT Z d V t e):ni Z d V .Or t [e]:=by
 refine λA U f s c Y J k x Q E O L S g hq i=>ND (h A U f s c Y J _ x _ E O L S g (λb G aj K h a e=> ?_) i);cases b
 ·exact aqp (hq false G aj K h a e)
 ·exact hq true G aj K h a e
theorem ZZ {t u:de} {e W:aH} {D:List aH} (h:hT Z d V t e) (o:ni Z d V .And u (W::D)):ni Z d V .And (qg t u) (e::W::D):=by
 refine λA U a s c Y J k x Q E O L S p hq j=>NC (h A U a s c Y J _ x _ E O L S p (λb G aj K h m e=> ?_) j);cases b
 ·exact hq false G aj K h m e
 ·exact o A U a K G Y aj k x Q E (O.ext e) L m h (λb g i H h l f=>hq b g i H h l (e.trans f)) (λq n g i H h l f=>j q n g i H h l (e.trans f))
theorem za {t u:de} {e W:aH} {D:List aH} (h:hT Z d V t e) (o:ni Z d V .Or u (W::D)):ni Z d V .Or (fq t u) (e::W::D):=by
 refine λA U a s c Y J k x Q E O L S p hq j=>ND (h A U a s c Y J _ x _ E O L S p (λb G aj K h m e=> ?_) j);cases b
 ·exact o A U a K G Y aj k x Q E (O.ext e) L m h (λb g i H h l f=>hq b g i H h l (e.trans f)) (λq n g i H h l f=>j q n g i H h l (e.trans f))
 ·exact hq true G aj K h m e
theorem zb {op:BoolOp} {t:de} {D:List aH} {a:aX} (h:ni Z d V op t D):hT Z d V t (.BoolOp op D a):=by
 exact λA U b s c Y J k x Q E O L S e hq f=>aqn (h A U b s c Y J k x Q E O L S e hq f)
def vq (t u:a7):a7:=λY J k x=>t Y J (vi (Zj u Y k x)) x
def vr (t u:a7):a7:=λY J k x=>t Y J (vi (Zk u Y k x)) x
theorem Z0 {t u:a7} {e W:aH} {p:aX} (h:bF Z d V t e) (q:bF Z d V u W):bF Z d V (vq t u) (.BoolOp .And [e,W] p):=by
 refine λA U j s c Y J k x Q E O L S r hq m=>aqq (h A U j s c Y J _ x _ E O L S r (λv a G aj K h o e w=>(y6 w h λb h=>(aV<|t3 ?_))) m);cases b
 ·exact hq _ (.bool false) G aj K h o e rfl
 ·exact q A U j K G Y aj k x Q E (O.ext e) L o h (λv a g i H h l f=>hq v a g i H h l (e.trans f)) (λy n g i H h l f=>m y n g i H h l (e.trans f))
theorem Z1 {t u:a7} {e W:aH} {p:aX} (h:bF Z d V t e) (q:bF Z d V u W):bF Z d V (vr t u) (.BoolOp .Or [e,W] p):=by
 refine λA U j s c Y J k x Q E O L S r hq m=>aqr (h A U j s c Y J _ x _ E O L S r (λv a G aj K h o e w=>(y6 w h λb h=>(aV<|t3 ?_))) m);cases b
 ·exact q A U j K G Y aj k x Q E (O.ext e) L o h (λv a g i H h l f=>hq v a g i H h l (e.trans f)) (λy n g i H h l f=>m y n g i H h l (e.trans f))
 ·exact hq _ (.bool true) G aj K h o e rfl
def l5 (t:de) (a b:a7):a7:=λY J k x=>t Y J (Zb a b Y k x) x
theorem GA {t:de} {u w:a7} {y j m:aH} {z:aX} (h:hT Z d V t y) (B:bF Z d V u j) (C:bF Z d V w m):bF Z d V (l5 t u w) (.IfExp y j m z):=by
 refine λA U o s c Y J k x Q E O L S D hq p=>aqs (h A U o s c Y J _ x _ E O L S D (λb G aj K h r e=> ?_) p);cases b
 ·exact C A U o K G Y aj k x Q E (O.ext e) L r h (λv a g i H h l f=>hq v a g i H h l (e.trans f)) (λq n g i H h l f=>p q n g i H h l (e.trans f))
 ·exact B A U o K G Y aj k x Q E (O.ext e) L r h (λv a g i H h l f=>hq v a g i H h l (e.trans f)) (λq n g i H h l f=>p q n g i H h l (e.trans f))
def gW (t:a7):a7:=λY J k x=>t Y J (Zi k) x
theorem Z2 {t:a7} {e:aH} {b:aX} (h:bF Z d V t e):bF Z d V (gW t) (.UnaryOp .USub e b):=by
 exact λA U f s c Y J k x Q E O L S g hq j=>aqj (h A U f s c Y J _ x _ E O L S g (λv a G aj K h l e m=>(er m h λi n h=>(aV<|neg_int (hq _ (.int _) G aj _ h (l.tok _) e ⟨_,rfl⟩)))) j)
def Z3:a7:=λ_ _ _ _=>False
end
theorem e7.get {Z:bx} {T:List aq} {I:List ax} {H:List aa} {D:List pI} (h:e7 Z T I H D) (i:I.Nodup):
  ∀(j:Nat) (n:ax) (a:aa),I[j]? =some n->H[j]? =some a->∃v,getL n D=some (some v)/\a5 T a v:=by
 induction h with
 |nil=>intro j n a _ f;contradiction
 | @cons b I d H v t D k _ B=>
  intro j n a g f;induction j with
  |zero=>
   simp at g f;subst g f;refine aJ v ?_ k;unfold getL;simp [ue]
  |succ j=>
   rw [eD] at i;refine aw (B i.2 j n a g f) λP e c=>aJ P ?_ c;haveI l:b≠n:=λq=>i.1 (q▸cq g);unfold getL at e⊢;haveI m:ue (.str b t) n=false:=(beq_false_of_ne l)
   rw [Dt];rw [m];split at e
   ·rename_i q;rw [q];exact e
   ·split at e<;>exact nomatch e
theorem e7.none {Z:bx} {T:List aq} {I:List ax} {H:List aa} {D:List pI} (h:e7 Z T I H D) {n:ax} (f:∀i,i<H.length->I[i]? ≠some n):getL n D=some none/\ ∀(e:Int) (a v:ai),putL n e a v D=D++[⟨e,a,v⟩]:=by
 induction h with
 |nil=>exact⟨rfl,λ_ _ _=>rfl⟩
 | @cons b I d H v t D o _ B=>
  haveI j:b≠n:=λq=>f 0 (by simp) (by rw [q];rfl);have g:ue (.str b t) n=false:=(beq_false_of_ne j)
  obtain⟨c,k⟩:=B λi l q=>f (i+1) (by simpa using l) (by simpa using q);refine⟨?_,λe a P=> ?_⟩
  ·unfold getL at c⊢;rw [Dt];rw [g];split at c
   ·exact nomatch c
   ·rename_i q;rw [q];dsimp only;split at c
    ·contradiction
    ·rename_i m;haveI:(DictEntry.refKey ⟨xu Z.w.params b,.str b t,v⟩)=false:=rfl;rw [arK,this,Bool.false_or,if_neg m]
  ·unfold putL;simp only [g,xz,if_false,uf];rw [k]
theorem e7.put {Z:bx} {T:List aq} {I:List ax} {H:List aa} {D:List pI} (h:e7 Z T I H D) (i:I.Nodup):
  ∀(j:Nat) (n:ax) (a:aa) (v:ai) (t:e0),I[j]? =some n->a5 T a v->j<H.length->e7 Z T I (H.set j a) (putL n (xu Z.w.params n) (.str n t) v D):=by
 induction h with
 |nil=>intro j n a v t _ _ g;simp at g
 | @cons b I d H e c D m o B=>
  intro j n a v t f l g;induction j with
  |zero=>
   simp at f;subst f;unfold putL;haveI k:ue (.str b c) b=true:=by simp [ue]
   simp only [k,if_true];exact .cons l o
  |succ j=>
   simp at f g;rw [eD] at i;haveI p:b≠n:=λq=>i.1 (q▸cq f);haveI k:ue (.str b c) n=false:=(beq_false_of_ne p)
   unfold putL;simp only [k,xz,if_false];exact .cons m (B i.2 j n a v t f l g)
theorem e7.snoc {Z:bx} {T:List aq} {I:List ax} {H:List aa} {D:List pI} (h:e7 Z T I H D):
  ∀(n:ax) (a:aa) (v:ai) (t:e0),I[H.length]? =some n->a5 T a v->e7 Z T I (H++[a]) (D++[⟨xu Z.w.params n,.str n t,v⟩]):=by
 induction h with
 | @nil I=>
        intro n a v t f g
        match I,f with
        |p::I,f=>simp at f;subst f;exact .cons g .nil
 | @cons b I d H e c D i j B=>
  exact λn a v t f g=>.cons i (B n a v t f g)
theorem e7.length {Z:bx} {T:List aq} {I:List ax} {H:List aa} {D:List pI} (h:e7 Z T I H D):D.length=H.length:=by
 induction h with
 |nil=>rfl
 |cons _ _ B=>simp [B]
theorem a5.handed {T:List aq} {a:aa} {v:ai} (h:a5 T a v) (b:a≠ .dW):handedIn v=true:=by
 induction a with
 |aR=>exact h.elim
 |none=>subst h;rfl
 |bool=>subst h;rfl
 |int=>obtain⟨_,rfl⟩:=h;rfl
 |str=>(refine cV h λ_ _ _ c=> ?_;obtain rfl:=c);rfl
 |bytes=>(refine cV h λ_ _ d _=> ?_;obtain rfl:=d);rfl
 |ref=>obtain⟨_,_,rfl⟩:=h;rfl
 |dW=>exact(b rfl).elim
structure lj (Z:bx) (c:Nat) (k:hO):Prop where
 is:Z.si c=some k
 cP:k.fields.Nodup
 has:hasDictIn Z.K k.addr=true
 get:∀n,plainGet Z.K k.addr n=true
 own:∀n∈k.fields,∃attr,nW Z.K (.ref k.addr) n=some attr/\noGet Z.K attr=true
 set:nW Z.K (.ref k.addr) "__setattr__" =some (some (.builtin "object.__setattr__"))
 over:plainOver Z.K k.addr=true
 zc:∀n∈k.fields,Du Z.K k.addr n=some none
 small:k.fields.length <= 20
section
variable {Z:bx} {d:Nat} {V:bb}
def br (t:a7) (c j:Nat):a7:=λY J k x=>t Y J (og c j k) x
theorem St.inst {U:be} {q:bk} {c:aP} {Y:List aa} {J:ae} {s:al} (S:St Z V U q c Y J s) {i l e p:Nat} {w:List aa} {d:hO} (g:Z.si e=some d)
  (t:J[i]? =some (.inst e l)) (u:J[l]? =some (.aZ p w)) (v:p=e):
  ∃a z D n,c.adr[i]? =some a/\c.adr[l]? =some z/\InstAt s.heap a (t7 d.addr z) d.addr (some (xv D n))/\s.heap.get? z=some (xv D n)/\e7 Z c.adr d.fields w D:=by
 refine a6 λx f=> ?_;subst v;refine aw (S.here t) λa y A=>aw A λo B C=>dN C λW z h j E=> ?_;obtain rfl:=E;refine f ?_;rw [g] at h;obtain rfl:=bl h;refine a6 λx f=>aw (S.here u) λb r k=>aw k λo' m N=> ?_;clear k;refine ff N λH D n X F G=> ?_;obtain rfl:=F;refine f ?_;rw [g] at X;obtain rfl:=bl X;rw [j] at r;obtain rfl:=bl r;exact D4 a z D n y j ⟨B,rfl,rfl,m⟩ m G
theorem Z4 {t:a7} {B j:Nat} {C:hO} {e:aH} {n:ax} {p:aX} (h:bF Z d V t e) (b:lj Z B C) (G:C.fields[j]? =some n)
  (T:∀U,bM (.Attribute e n p) U=(do
   let o<-bM e U
   j4 p.atName
   let r<-ky [o] (Do o n true)
   Dp e o r
   pure r):=by intro _;rfl):bF Z d V (br t B j) (.Attribute e n p):=by
 refine λA U W s c Y J k x Q E O L S X hq hx=>aqw (h A U W s c Y J _ x _ E O L S X (λv a c₁ ca s₁ q R P H=>(a6 λH_ y=>(uB (Zf q) λi l w v q4 hl fT M q8=> ?_))) hx) (T U);obtain rfl:=q4;obtain⟨q1,q⟩:=q8;refine aw H λg ha q2=> ?_;clear H;obtain rfl:=q2;refine uB (R.inst b.is hl fT rfl) λa' z D nn K e2 I _ hE=>y ?_;rw [ha] at K;obtain rfl:=bl K;exact a6 λH_ y=>aw (b.own n (cq G)) λf g1 g2=>aw R.F λm F _=>aw (hE.get b.cP j n v G M) λu g3 N=>y (aV<|get_own F (O.ext P).base.X I (b.get n) b.has g1 g2 g3 (a5.handed N q1) (hq u v c₁ ca _ q (R.tok _) P N))
abbrev LT:=List aa->ae->(List aa->ae->Prop)->bn->Prop
def iv (Z:bx) (d:Nat) (V:bb) (T:LT) (D:List aH):Prop:=
 ∀(A:cy) (U:be) (a:bk) (s:al) (c:aP) (Y:List aa) (J:ae) (k:List aa->ae->Prop) (x:bn) (Q:List ai->al->Prop) (E:ai->al->Prop) (f:aX),
  Ok Z d A U a c->c0 V U->St Z V U a c Y J s->T Y J k x->
  (∀b H G aj K,k H aj->St Z V U a G Y aj K->cW c G->cZ G.adr H b->Q b K)->
  (∀e n G aj K,x n aj->St Z V U a G Y aj K->cW c G->gU Z U.locals a G n e K.heap->E (.ref e) K)->
  av (aG Z.prog Z.w) A (rz (j6 f (ij D U))) Q E s
def gn:aH->Bool
 | .Starred _ _=>false
 |_=>true
theorem qh {e:aH} {a:List aH} {U:be} (h:gn e=true):ij (e::a) U=(false,bM e U)::ij a U:=by
 cases e<;>first|rfl|contradiction
def bf:LT:=λ_ J k _=>k [] J
def cG (t:a7) (a:LT):LT:=λY J k x=>t Y J (ek a Y x (gc k)) x
theorem gX:iv Z d V bf []:=by
 exact λA U b s c Y J k x Q E e O L S a hq f=>xa (hq [] [] c J s a S (.refl c) .nil)
theorem eW {t:a7} {b:LT} {e:aH} {D:List aH} (h:bF Z d V t e) (j:iv Z d V b D) (l:gn e=true:=by rfl):iv Z d V (cG t b) (e::D):=by
 refine λA U f s c Y J k x Q E m O L S o hq g=>CM (h A U f s c Y J _ x _ E O L S o (λv a p q r u R P w=> ?_) g) (qh l)
 exact j A U f r p Y q _ x _ E m (O.ext P) L R u (λy H z B C F I i M=>hq (v::y) (a::H) z B C F I (P.trans i) (.cons (i.hQ w) M))
  (λe n G aj K h N W=>g e n G aj K h N (P.trans W))
theorem Z5 {D:List aH}:∀{U:be} {a:aX},D.all gn=true->(j6 a (ij D U)).any (·.1)=false:=by
 induction D with
 |nil=>
  intro _ _ _;exact rfl
 |cons e D B=>
  intro U a h;simp only [ii,eC] at h;rw [qh h.1];show(false||(j6 a (ij D U)).any (·.1))=false
  rw [B h.2];rfl
theorem Z6 {D:List aH}:∀{U:be} {a:aX},D.all gn=true->(j6 a (ij D U)).all (λx=> !x.1)=true:=by
 induction D with
 |nil=>
  intro _ _ _;exact rfl
 |cons e D B=>
  intro U a h;simp only [ii,eC] at h;rw [qh h.1];show(!false&&(j6 a (ij D U)).all (λx=> !x.1))=true
  rw [B h.2];rfl
theorem kc {U:be} {A:cy} {E:ai->al->Prop} {s:al} {a:aX} {f:ai} {first:List ai} {D:List aH} {Q:ai->al->Prop} {P:bk->Prop} (b:D.all gn=true)
  (g:∀h,P h->∃k,(k=Keeper.frame\/k=rA\/k=rB)/\ik (aG Z.prog Z.w) h (pH f) k)
  (h:av (aG Z.prog Z.w) A (rz (j6 a (ij D U))) (λd c=>P c.heap/\av (aG Z.prog Z.w) A (hG f (first++d)) Q E c) E s):
  av (aG Z.prog Z.w) A (Dm a f first (j6 a (ij D U)) []) Q E s:=by
 refine aqu (by rw [Z5 b];rfl) g ?_;induction D with
 |nil=>
  exact aC (b0 h (λd c i=>(dJ (aC (bt (aC (bt (bt i))))))) (λ_ _ x=>x))
 |cons e D=>
  simp only [ii,eC] at b;rw [qh b.1] at h⊢;exact aqv h
theorem Z7 (j:String):∀h:bk,True->∃k,(k=Keeper.frame\/k=rA\/k=rB)/\ik (aG Z.prog Z.w) h (pH (.builtin j)) k:=
 λh _=>(aJ .machine (.inr (.inl rfl)) .now)
theorem vt (j:String):∀h:bk,True->∃k,(k=Keeper.frame\/k=rA\/k=rB)/\ik (aG Z.prog Z.w) h (pH (.type j)) k:=
 λh _=>(aJ .machine (.inr (.inl rfl)) .now)
theorem St.keep (S:St Z V env h₀ c vj led s):∀b o,h₀.get? b=some o->s.heap.get? b=some o:=aw S.F λ_ F _=>F.keep
abbrev ak:=Nat->List aa->ae->(aa->ae->Prop)->bn->Prop
def aS (C:ak) (f:Nat) (a:LT):a7:=λY J k x=>a Y J (gb (C f) k x) x
def hZ (Z:bx) (h:Nat->Option aq) (d:Nat) (C:ak):Prop:=
 ∀(f:Nat) (fa:aq),h f=some fa->∀(A:cy) (V:bb) (U:be) (b:bk) (s:al) (c:aP) (Y:List aa) (J:ae) (H:List aa) (g:List ai) (k:aa->ae->Prop) (x:bn) (R:lN->al->Prop),
  Ok Z (8*d+4) A U b c->c0 V U->St Z V U b c Y J s->cZ c.adr H g->C f H J k x->
  (∀v a G aj K,k a aj->St Z V U b G Y aj K->cW c G->a5 G.adr a v->R (.ok (.ret v)) K)->
  (∀e n G aj K,x n aj->St Z V U b G Y aj K->cW c G->oq Z b G n e K.heap->R (.error (.ref e)) K)->
  dS (aG Z.prog Z.w) A (.call (.ref fa) ⟨g,[]⟩) R s
def nj (Z:bx) (d:Nat) (C:ak):Prop:=
 ∀(j:Nat) (A:cy) (V:bb) (U:be) (b:bk) (s:al) (c:aP) (Y:List aa) (J:ae) (n u:Nat) (f:List Nat) (v:ai) (k:aa->ae->Prop) (x:bn) (R:lN->al->Prop),
  Ok Z (8*d+4) A U b c->c0 V U->St Z V U b c Y J s->J[n]? =some (.fn j u f)->J[u]? =some (.code j)->a5 c.adr (.ref n) v->C (1000+j) (f.map .ref) J k x->
  (∀v a G aj K,k a aj->St Z V U b G Y aj K->cW c G->a5 G.adr a v->R (.ok (.ret v)) K)->
  (∀e n G aj K,x n aj->St Z V U b G Y aj K->cW c G->oq Z b G n e K.heap->R (.error (.ref e)) K)->
  dS (aG Z.prog Z.w) A (.call v ⟨[],[]⟩) R s
theorem Ok.less {A:cy} {U:be} {a:bk} {c:aP} (O:Ok Z (8*d+8) A U a c):Ok Z (8*d+4) A U a c:=
 ⟨O.base,⟨by haveI:=O.room.1;exact VV this,by haveI:=O.room.2.1;exact WR this,O.room.2.2⟩,O.frame,O.frames,O.head⟩
theorem qi {g:Nat->Option aq} {C:ak} {f:Nat} {fa:aq} {i:LT} {D:List aH} {y:ax} {p j:aX} (q:hZ Z g d C) (M:g f=some fa) (r:iv Z (8*d+8) V i D)
  (t:mU Z.K (.ref fa)=true) (u:fL Z.K eU y=some (some (.ref fa))) (w:V.scope.names.lookup y=some .globalImplicit) (z:(y==("__debug__" :ax))=false) (B:D.all gn=true:=by rfl):
  bF Z (8*d+8) V (aS C f i) (.Call (.Name y p) D [] j):=by
 exact λA U l s c Y J k x Q E O L S I hq o=>mA (a6 λH_ N=>(aw S.F λm F e=>jG O.base.T λpp jY mg mb T=>(N (aV<|uc F O.base.X T u (kc B (λh X=>Dv t h X) (r A U l s c Y J _ x _ E j O L S I (λvs H c₁ ca s₁ h₁ R P fy=>⟨O.base.X.keeps R.keep,kT (q f fa M A V U l s₁ c₁ Y ca H vs k x _ (O.ext P).less L R fy h₁ (λv a G aj K h b W va=>(hq v a G aj K h b (P.trans W) va)) (λe n G aj K h b W fl=>(o e n G aj K h b (P.trans W) (.inl fl))))⟩) o)) L.globals L.iu (iL L w) z))))
structure vv (Z:bx) (fn:Nat->Option aq) (cl:Nat) (kI:hO) (n:ax) (f:Nat) (kd:aq):Prop where
 fn:fn f=some kd
 find:nW Z.K (.ref kI.addr) n=some (some (.ref kd))
 is:isFn Z.K (.ref kd)=true
 keep:mU Z.K (.ref kd)=true
 not:n∉kI.fields
@[reducible] def GB (C:ak) (f i:Nat) (k:aa->ae->Prop) (x:bn) (H:List aa) (J:ae):Prop:=C f (.ref i::H) J k x
@[reducible] def Z8 (C:ak) (f i:Nat) (a:LT) (Y:List aa) (c:Nat) (k:aa->ae->Prop) (x:bn) (J:ae):Option aB->Prop
 |some (.aZ G _)=>G=c/\a Y J (GB C f i k x) x
 |_=>False
@[reducible] def GC (C:ak) (i l:Nat) (a:LT) (Y:List aa) (c:Nat) (k:aa->ae->Prop) (x:bn) (J:ae):Option Nat->Prop
 |some f=>Z8 C f i a Y c k x J J[l]?
 |none=>False
@[reducible] def Z9 (C:ak) (i:Nat) (b:Nat->Option Nat) (a:LT) (Y:List aa) (k:aa->ae->Prop) (x:bn) (J:ae):Option aB->Prop
 |some (.inst c l)=>GC C i l a Y c k x J (b c)
 |_=>False
@[reducible] def GD (C:ak) (b:Nat->Option Nat) (c:LT) (Y:List aa) (k:aa->ae->Prop) (x:bn) (a:aa) (J:ae):Prop:=match a with
 | .ref i=>Z9 C i b c Y k x J J[i]?
 |_=>False
theorem aaa {C:ak} {b:Nat->Option Nat} {d:LT} {Y:List aa} {k:aa->ae->Prop} {x:bn} {a:aa} {J:ae} (h:GD C b d Y k x a J):
  ∃i c l f w,a= .ref i/\J[i]? =some (.inst c l)/\b c=some f/\J[l]? =some (.aZ c w)/\d Y J (GB C f i k x) x:=by
 cases a<;>try exact h.elim
 rename_i i;refine a6 λj e=> ?_;obtain⟨c,l,m,h⟩:∃c l,J[i]? =some (.inst c l)/\GC C i l d Y c k x J (b c):=y3 h;refine e ?_;induction g:b c with
 |none=>replace h:=g▸h;exact h.elim
 |some f=>
  refine a6 λj e=> ?_;replace h:=g▸h;refine dN (y4 h) λG w X n o=> ?_;obtain rfl:=n;exact e (PN i G l f w rfl m g X o)
def bZ (C:ak) (t:a7) (b:Nat->Option Nat) (a:LT):a7:=λY J k x=>t Y J (GD C b a Y k x) x
theorem zd {o:aH} {c:ax} {N b:aX} {D:List aH} {U:be} (d:xA o c U (bM o U)=bM o U) (e:D.all gn=true) (g:D.length<30) (h:(N.endLine==b.line)=true):
  bM (.Call (.Attribute o c N) D [] b) U=(do
   let y<-bM o U
   j4 N.atName
   let(f,first)<-ky [y] (getMethod y c (do return (<-importBound o U).getD true))
   Dm b f first (j6 b (ij D U)) []):=by
 haveI a:arX (D.length+([]:List Keyword).length) (j6 b (ij D U)) (backToKw b (keywordEach [] U))=true:=by
  unfold arX;rw [Z6 e];show(true&&true&&decide (D.length+0+0<30))=true
  simp;exact g
 haveI p:methodCallPos true o U N b=pure b:=by unfold methodCallPos;(rw [h];rfl)
 rw [arm_eval_Call,d];unfold methodCall;rw [a,p];rfl
theorem aab {fn:Nat->Option aq} {C:ak} {t:a7} {b:Nat->Option Nat} {ts:LT} {o:aH} {D:List aH} {n:ax} {N ap:aX} (hC:hZ Z fn d C) (h:bF Z (8*d+8) V t o) (hs:iv Z (8*d+8) V ts D)
  (hm:∀c f,b c=some f->∃kk fa,lj Z c kk/\vv Z fn c kk n f fa)
  (hb:∀U,xA o n U (bM o U)=bM o U:=by intro _;rfl) (dm:D.all gn=true:=by rfl) (hl:D.length<30:=by decide) (px:(N.endLine==ap.line)=true:=by rfl):
  bF Z (8*d+8) V (bZ C t b ts) (.Call (.Attribute o n N) D [] ap):=by
 intro A U h₀ s c Y J k x Q E O L S ht hq hx;rw [zd (hb U) dm hl px];refine aC (h A U h₀ s c Y J _ x _ E O L S ht (λv a c₁ ca s₁ h₁ R P va=>(aC (c9 (aC (dJ (a6 λH_ e_=>ya (aaa h₁) λi p l f w q5 T M q8=> ?_)))))) hx);obtain rfl:=q5;obtain⟨fT,h₁⟩:=q8;refine aw va λg ha q2=> ?_;obtain rfl:=q2;refine cV (hm p f M) λkk fa u j=>uB (R.inst u.is T fT rfl) λa' z r nn e1 e2 I _ hE=>e_ ?_;rw [ha] at e1;obtain rfl:=bl e1;exact aw R.F λm F _=>aV<|method_inst F O.base.X I (u.get n) j.find j.is ((hE.none (λi _ q=>j.not (cq q))).1) (kc dm (λh X=>Dv j.keep h X) (hs A U h₀ s₁ c₁ Y ca _ x _ E ap (O.ext P) L R h₁ (λvs H c₂ cE s₂ h₂ S₂ B fy=>⟨O.base.X.keeps S₂.keep,kT (hC f fa j.fn A V U h₀ s₂ c₂ Y cE (.ref i::H) (.ref g::vs) k x _ ((O.ext P).ext B).less L S₂ (.cons (aJ g (fi B.adr _ _ ha) rfl) fy) h₂ (λv a G aj K h y W va=>(hq v a G aj K h y ((P.trans B).trans W) va)) (λe n G aj K h y W fl=>(hx e n G aj K h y ((P.trans B).trans W) (.inl fl))))⟩) (λe n G aj K h y W=>hx e n G aj K h y (P.trans W))))
end
def cz (b:Nat->Option Nat):aa->aa
 | .ref j=>(match b j with|some i=>.ref i|none=>.dW)
 |a=>a
def ge (b:Nat->Option Nat):List Nat->Option (List Nat)
 | []=>some []
 |i::a=>match b i with
  |some j=>(match ge b a with
   |some d=>some (j::d)
   |none=>none)
  |none=>none
def gf (b:Nat->Option Nat):List (Nat×Nat)->Option (List (Nat×Nat))
 | []=>some []
 | (j,i)::a=>match b i with
  |some A=>(match gf b a with
   |some d=>some ((j,A)::d)
   |none=>none)
  |none=>none
def mo (b:Nat->Option Nat):aB->aB
 | .list l=>.list (l.map (cz b))
 | .tup l=>.tup (l.map (cz b))
 | .inst c d=>(match b d with|some i=>.inst c i|none=>.dead)
 | .aZ c w=>.aZ c (w.map (cz b))
 | .cell v=>.cell (cz b v)
 | .cw f i l=>(match b i with
  |some A=>(match gf b l with|some m=>.cw f A m|none=>.dead)
  |none=>.dead)
 | .fn j u a=>(match b u with
  |some e=>(match ge b a with|some k=>.fn j e k|none=>.dead)
  |none=>.dead)
 |o=>o
def fO (i:Nat):List Nat->Nat->Option Nat
 | [],_=>none
 |j::u,n=>if mV j i then some n else fO i u (n+1)
theorem sr {i j n:Nat} {u:List Nat}:fO i (j::u) n=if mV j i then some n else fO i u (n+1):=rfl
def dG (u:List Nat) (i:Nat):Option Nat:=fO i u 0
def g8 (u:List Nat) (J:ae):ae:=u.map λi=>mo (dG u) (J.getD i .dead)
def cY (u l:List Nat) (n:Nat) (j:Nat):Option Nat:=if j<u.length then u[j]? else(dG l j).map (n+ ·)
def d1 (f:aB->aB):List Nat->ae->ae->ae
 |i::u,o::l,J=>d1 f u l (J.set i (f o))
 |_,_,J=>J
def c5 (u l:List Nat) (J z:ae):ae:=d1 (mo (cY u l J.length)) u z J++l.map λj=>mo (cY u l J.length) (z.getD j .dead)
def jr:List (ax×Bool)->List aa->Nat->List aa×List aB
 | [],_,_=>([],[])
 | (_,false)::r,H,n=>let e:=jr r H.tail n;(H.headD .aR::e.1,e.2)
 | (_,true)::r,H,n=>let e:=jr r H.tail (n+1);(.ref n::e.1,.cell (H.headD .aR)::e.2)
structure bd where
 bA:bb
 jf:Nat
 T:ak->ST
 lam:Bool:=false
def fE (F:bd) (C:ak) (H:List aa) (J:ae) (k:aa->ae->Prop) (x:bn):Prop:=
 F.T C (jr F.bA.slots H J.length).1 (J++(jr F.bA.slots H J.length).2) (λ_ z=>k .none z) k x
def az (a:Nat->Option bd):Nat->ak
 |0=>λ_ _ _ _ _=>False
 |d+1=>λf H J k x=>match a f with
  |none=>False
  |some F=>if F.lam then F.T (az a d) H J (λ_ _=>False) k x else H.length=F.jf/\ ∃u:List Nat,u.Nodup/\(∀i∈u,i<J.length)/\
   fE F (az a d) (H.map (cz (dG u))) (g8 u J)
    (λr z=>∃l:List Nat,l.Nodup/\(∀j∈l,u.length <= j/\j<z.length)/\k (cz (cY u l J.length) r) (c5 u l J z))
    (λn z=>x n (c5 u [] J z))
theorem a5.turn {T g:List aq} {b:Nat->Option Nat} (h:∀(j i:Nat) (a:aq),b j=some i->T[j]? =some a->g[i]? =some a):∀{a:aa} {v:ai},a5 T a v->a5 g (cz b a) v
 | .aR,_,h=>h
 | .none,_,h=>h
 | .bool _,_,h=>h
 | .int _,_,h=>h
 | .str _,_,h=>h
 | .bytes _,_,h=>h
 | .ref j,_,⟨a,c,e⟩=>by
  show a5 g (match b j with|some i=>.ref i|none=>.dW) _
  induction q:b j with
  |none=>trivial
  |some i=>exact aJ a (h _ _ _ q c) e
 | .dW,_,h=>h
theorem cZ.turn {T g:List aq} {b:Nat->Option Nat} (h:∀(j i:Nat) (a:aq),b j=some i->T[j]? =some a->g[i]? =some a) {H:List aa} {c:List ai} (x:cZ T H c):cZ g (H.map (cz b)) c:=by
 induction x with
 |nil=>exact .nil
 |cons y _ B=>exact .cons (a5.turn h y) B
theorem e7.turn {Z:bx} {T g:List aq} {b:Nat->Option Nat} (h:∀(j i:Nat) (a:aq),b j=some i->T[j]? =some a->g[i]? =some a) {ns as lc} (x:e7 Z T ns as lc):e7 Z g ns (as.map (cz b)) lc:=by
 induction x with
 |nil=>exact .nil
 |cons y _ B=>exact .cons (a5.turn h y) B
theorem jJ.turn {T g:List aq} {b:Nat->Option Nat} (h:∀(j i:Nat) (a:aq),b j=some i->T[j]? =some a->g[i]? =some a) {ns is cl} (x:jJ T ns is cl):∀c,ge b is=some c->jJ g ns c cl:=by
 induction x with
 |nil=>intro c e;obtain rfl:=bl e;exact .nil
 |cons y _ B=>
  intro c e;unfold ge at e;split at e
  ·rename_i j k;split at e
   ·rename_i d f;obtain rfl:=bl e;exact .cons (h _ _ _ k y) (B _ f)
   ·contradiction
  ·contradiction
theorem hP.turn {Z:bx} {T g:List aq} {b:Nat->Option Nat} (h:∀(j i:Nat) (a:aq),b j=some i->T[j]? =some a->g[i]? =some a) {l eV} (x:hP Z T l eV):∀m,gf b l=some m->hP Z g m eV:=by
 induction x with
 |nil=>intro c e;obtain rfl:=bl e;exact .nil
 |cons y z _ B=>
  intro c e;unfold gf at e;split at e
  ·rename_i j k;split at e
   ·rename_i d f;obtain rfl:=bl e;exact .cons y (h _ _ _ k z) (B _ f)
   ·contradiction
  ·contradiction
theorem gy.turn {Z:bx} {T g:List aq} {b:Nat->Option Nat} (h:∀(j i:Nat) (a:aq),b j=some i->T[j]? =some a->g[i]? =some a):∀{ao:aB} {o:cj},gy Z T ao o->gy Z g (mo b ao) o:=@λao o x=>by
 induction ao with
 |list=>exact dV (λ_=>dV λ_=>fK (cZ.turn h)) x
 |tup=>exact dV (λ_=>dV λ_=>fK (cZ.turn h)) x
 |inst c d=>
  refine(?_:gy Z g (match b d with|some i=>.inst c i|none=>.dead) o);induction q:b d with
  |none=>trivial
  |some i=>exact dV (λ_=>dV λ_=>fK (Dq (h _ _ _ q))) x
 |aZ=>exact dV (λ_=>dV λ_=>dV λ_=>fK (fK λx=>x.turn h)) x
 |cell v=>exact dV (λ_=>fK (Or.imp (λq=>by rw [q];rfl) (dV λ_=>fK (a5.turn h)))) x
 |cw f i l=>
  refine(?_:gy Z g (match b i with
   |some A=>(match gf b l with|some m=>.cw f A m|none=>.dead)
   |none=>.dead) o)
  induction q:b i with
  |none=>trivial
  |some A=>
   induction n:gf b l with
   |none=>trivial
   |some m=>exact dV (λ_=>dV λ_=>fK (t8 (h _ _ _ q) (fK λt=>t.turn h _ n))) x
 |fn j u p=>
  refine(?_:gy Z g (match b u with
   |some e=>(match ge b p with|some k=>.fn j e k|none=>.dead)
   |none=>.dead) o)
  induction q:b u with
  |none=>trivial
  |some A=>
   induction n:ge b p with
   |none=>trivial
   |some m=>exact dV (λ_=>dV λ_=>dV λ_=>dV λ_=>dV λ_=>fK (t8 (h _ _ _ q) (Dq λy=>y.turn h _ n))) x
 |_=>exact x
theorem aac {i:Nat} {u:List Nat}:∀{n:Nat} {k:Nat},fO i u n=some k->n <= k/\u[k-n]? =some i:=by
 induction u with
 |nil=>
  intro _ _ h;contradiction
 |cons j u B=>
  intro n k h;rw [sr] at h;split at h
  ·rename_i q;obtain rfl:=bl h;haveI:=ug q;subst this;exact⟨dA _,by simp⟩
  ·obtain⟨a,b⟩:=B h;refine⟨EH a,?_⟩;haveI:k-n=(k-(n+1))+1:=Ue (ay ..) (ay ..) a;rw [this];exact b
theorem vw {u:List Nat} {i k:Nat} (h:dG u i=some k):u[k]? =some i:=by
 haveI:=(aac h).2
 simpa using this
theorem aad {u l:List Nat} {n j i:Nat} (h:cY u l n j=some i):(j<u.length/\u[j]? =some i)\/(u.length <= j/\ ∃t,l[t]? =some j/\i=n+t):=by
 unfold cY at h;split at h
 ·exact .inl ⟨by assumption,h⟩
 ·exact aw (gP.mp h) λt a b=>.inr ⟨jH (by assumption),t,vw a,b.symm⟩
theorem ot {f:aB->aB} {i:Nat} {u:List Nat} {o:aB} {l J:ae}:d1 f (i::u) (o::l) J=d1 f u l (J.set i (f o)):=rfl
theorem ss (f:aB->aB):∀(u:List Nat) (l J:ae),(d1 f u l J).length=J.length
 | [],_,_=>by rfl
 |_::_,[],_=>by rfl
 |i::u,o::l,J=>by rw [ot];rw [ss f u l];simp
theorem ze (f:aB->aB):∀(u:List Nat) (l J:ae) (i:Nat),i∉u->(d1 f u l J)[i]? =J[i]?
 | [],_,_,_,_=>by rfl
 |_::_,[],_,_,_=>by rfl
 |j::u,o::l,J,i,h=>by
  rw [ot];rw [cb,not_or] at h;rw [ze f u l _ i h.2,mS (Ne.symm h.1)]
theorem GE (f:aB->aB):∀(u:List Nat) (l J:ae) (j i:Nat) (o:aB),u.Nodup->(∀i∈u,i<J.length)->u[j]? =some i->l[j]? =some o->(d1 f u l J)[i]? =some (f o)
 | [],_,_,j,i,o,_,_,h,_=>by contradiction
 |_::_,[],_,j,i,o,_,_,_,h=>by contradiction
 |b::u,a::l,J,j,i,o,c,g,d,e=>by
  rw [eD] at c;rw [ot];induction j with
  |zero=>
   simp at d e;subst d e;rw [ze f u l _ _ c.1,ua (g _ (.head _))]
  |succ j=>
   exact GE f u l _ j i o c.2 (λi k=>by rw [e3];exact g i (.tail _ k)) d e
section
variable {Z:bx} {d:Nat} {V:bb}
theorem zf {h b:bk} {a:aq} {m:ax->Option ai} (x:h.Ns a m) (k:∀o,h.get? a=some o->∃c,b.get? a=some {o with slots:=c}):b.Ns a m:=by
 refine m6 x λo D u d r=> ?_;obtain⟨c,e⟩:=k o d;exact rP _ D u e r
theorem aae {b:bk} {l:List (aq×cj)}:(∀p∈l,(∃a,b.get? p.1=some {p.2 with slots:=a})/\ ∃D n,p.2.data= .dict D n)->
  ∃m,gd l m/\ ∀p∈m,b.get? p.1=some p.2/\ ∃D n,p.2.data= .dict D n:=by
 induction l with
 |nil=>
  intro _;exact(aJ ([]) .nil (λ_ c=>(c6 c).elim))
 |cons p l B=>
  intro k;refine aw (B λq hq=>k q (.tail _ hq)) λm d f=> ?_;obtain⟨⟨a,e⟩,D,n,hd⟩:=k p (.head _);refine aJ ((p.1,{p.2 with slots:=a})::m) (.cons ⟨rfl,a,rfl⟩ d) (λq hq=> ?_);rcases cb.mp hq with rfl|hq
  ·exact⟨e,D,n,hd⟩
  ·exact f q hq
theorem aaf {h m:bk} {l:List be}:(∀f∈l,f.scope.kind≠ .module/\ ∃a o,f.frame=some a/\m.get? a=none/\h.get? a=some o/\ ∀b,o.data≠ .fields b)->h.FunFrames m l:=by
 induction l with
 |nil=>
  intro _;exact trivial
 |cons f l B=>
  intro k;obtain⟨c,a,o,d,e,i,j⟩:=k f (.head _);exact⟨c,(iH a o d e i j),B λg n=>k g (.tail _ n)⟩
theorem St.places {U:be} {g:bk} {s:al} {c:aP} {Y:List aa} {J:ae} (S:St Z V U g c Y J s):
  ∀a,(a=U.locals\/a∈c.pr.map (·.1))->∃o D n,s.heap.get? a=some o/\o.data= .dict D n/\g.get? a=none:=by
 refine a6 λe b=>aw S.F λm F em=>ff (id F.ns) λoL f h i j t=>b ?_;rintro a (rfl|d)
 ·refine gv oL f h i j ?_;induction q:g.get? U.locals with
  |none=>rfl
  |some o=>exact absurd (i4 (fz q) F.above) (mW _)
 ·refine a6 λe b=> ?_;obtain⟨p,k,rfl⟩:=dz.mp d;obtain⟨l,D,n,r⟩:=S.pr p k;exact b (gv _ D n l r ((S.own p.1 (dn _ (cQ _ d))).2))
theorem zg {U:be} {g:bk} {s:al} {c:aP} {Y:List aa} {J:ae} {e:aq} {C:aq} {X:bk} {fl:ai} (S:St Z V U g c Y J s) (r:List aq)
  (L:∀a∈r,g.get? a=none/\a∉c.all) (iY:g.get? e=none) (ju:e∉c.all) (B:∃P R,s.heap.get? e=some P/\P.data= .fields R)
  (W:(ei s.heap (U.locals::c.pr.map (·.1)++(e::r))).StaysIn X)
  (k3:∃P R T oT ts,X.get? e=some P/\P.cls= .ref C/\P.data= .fields R/\R[1]? =some (.ref T)/\(ei s.heap (U.locals::c.pr.map (·.1)++(e::r))).get? T=none/\T≠e/\X.get? T=some oT/\oT.data= .fields ts/\ts[3]? =some fl)
  (x:∀b o,s.heap.get? b=some o->(∀R,o.data≠ .fields R)->∃sl,X.get? b=some {o with slots:=sl}):
  ∃G,St Z V U g G Y J {s with heap:=X}/\G.adr=c.adr/\gd c.pr G.pr/\G.aK=c.aK/\e∉G.all/\
   ∃P R T oT ts,X.get? e=some P/\P.cls= .ref C/\P.data= .fields R/\R[1]? =some (.ref T)/\g.get? T=none/\T∉G.all/\T≠e/\X.get? T=some oT/\oT.data= .fields ts/\ts[3]? =some fl:=by
 refine aw S.F λm F em=> ?_;refine ff (id F.ns) λoL kt ku dM iB rL=> ?_;have l:=S.places;refine pV k3 λP R T oT ts f j t u y z H I t9=> ?_
 have h:=λb o Q n1 n2 O d=>
  W b o (nX _ Q (by
   simp only [uf,cb,cR,not_or];exact dd n1 n2 O d))
 have E:∀b o,s.heap.get? b=some o->(∃D n,o.data= .dict D n)->∃sl,X.get? b=some {o with slots:=sl}:=λb o Q qq=>pU qq λD n hd=>x b o Q (λR q=>by rw [hd] at q;contradiction)
 have K:∀b o D n,s.heap.get? b=some o->o.data= .dict D n->b≠T:=by
  intro b o D n Q hd q;obtain⟨sl,N⟩:=E b o Q ⟨D,n,hd⟩;rw [q,H] at N;obtain rfl:=bl N;rw [hd] at I;contradiction
 refine aw (aae λp hp=>⟨E _ _ (S.pr p hp).1 (S.pr p hp).2,(S.pr p hp).2⟩) λk p1 p2=> ?_
 have M:g.StaysIn X:=by
  intro b o N;refine h b o (F.keep b o N) ?_ ?_ ?_ ?_
  ·intro bC;obtain rfl:=bC;exact absurd (i4 (fz N) F.above) (mW _)
  ·intro q;have:=(S.own b (dn _ (cQ _ q))).2;rw [N] at this;contradiction
  ·intro cx;obtain rfl:=cx;rw [iY] at N;contradiction
  ·intro q;rw [(L b q).1] at N;contradiction
 have w:({c with pr:=k}).all=c.all:=by unfold aP.all;rw [p1.map]
 have S':St Z V U g {c with pr:=k} Y J {s with heap:=X}:=by
  refine⟨(aJ m ⟨zf F.ns λo Q=>E _ _ Q ?_,M,F.above⟩ em),by rw [w];exact S.cP,S.len,?_,by rw [w];exact S.own,p2,?_,S.rest,by rw [w];exact S.low⟩
  ·rw [dM] at Q;obtain rfl:=bl Q;exact⟨kt,ku,iB⟩
  ·intro i ao a h1 h2;refine aw (S.obj i ao a h1 h2) λo Q hi=> ?_;have hm:a∈c.all:=cQ _ (cq h2);refine⟨o,h a o Q (S.own a hm).1 ?_ ?_ ?_,hi⟩
   ·intro q;have nd:=S.cP;unfold aP.all at nd;rw [eq] at nd;exact nd.2.2 a (cq h2) a (cQ _ q) rfl
   ·intro eQ;obtain rfl:=eQ;exact ju hm
   ·intro q;exact(L a q).2 hm
  ·intro p hp;have Q:=S.aK p hp;have A:p.1∈c.aK.map (·.1):=io hp;have hm:p.1∈c.all:=dn _ (dn _ A);refine h _ _ Q (S.own _ hm).1 ?_ ?_ ?_
   ·intro q;have nd:=S.cP;unfold aP.all at nd;rw [eq] at nd;have rn:=nd.2.1;rw [eq] at rn;exact rn.2.2 _ q _ A rfl
   ·intro q;exact ju (q▸hm)
   ·intro q;exact(L _ q).2 hm
 have v:∀b o,s.heap.get? b=some o->b∉U.locals::c.pr.map (·.1)++(e::r)->b≠T:=by
  intro b o Q N q;have:=nX _ Q N;rw [q,y] at this;contradiction
 refine⟨{c with pr:=k},S',rfl,p1,rfl,by rw [w];exact ju,P,R,T,oT,ts,f,j,t,u,?_,?_,z,H,I,t9⟩
 ·induction q:g.get? T with
  |none=>rfl
  |some o=>
   have Q:=F.keep _ _ q;exfalso;by_cases N:T∈U.locals::c.pr.map (·.1)++(e::r)
   ·simp only [uf,cb,cR] at N;rcases N with N|N|N|N
    ·refine ff (l T (.inl N)) λo' D n h1 h2 h3=> ?_;rw [q] at h3;contradiction
    ·refine ff (l T (.inr N)) λo' D n h1 h2 h3=> ?_;rw [q] at h3;contradiction
    ·exact z N
    ·rw [(L T N).1] at q;contradiction
   ·exact v T o Q N rfl
 ·rw [w];intro q;obtain⟨o,Q⟩:=S.there T q;by_cases N:T∈U.locals::c.pr.map (·.1)++(e::r)
  ·simp only [uf,cb,cR] at N;rcases N with N|N|N|N
   ·exact(S.own T q).1 N
   ·refine ff (l T (.inr N)) λo' D n h1 h2 h3=> ?_;exact K T o' D n h1 h2 rfl
   ·exact z N
   ·exact(L T N).2 q
  ·exact v T o Q N rfl
theorem St.su {U:be} {g:bk} {s:al} {c:aP} {Y:List aa} {J:ae} {l:List be} {e:aq} (S:St Z V U g c Y J s)
  (h:∀f∈l,f.scope.kind≠ .module/\ ∃a,f.frame=some a/\(a=U.locals\/a∈c.pr.map (·.1))) (r:List aq):s.heap.FunFrames (ei s.heap (U.locals::c.pr.map (·.1)++(e::r))) l:=by
 refine aaf λf b=>a6 λt i=> ?_;obtain⟨j,a,k,d⟩:=h f b;refine ff (S.places a d) λo D n m p _=>i ⟨j,a,o,k,lO _ ?_,m,λu q=>by rw [p] at q;contradiction⟩;rw [uf,cb,cR];rcases d with d|d
 ·exact .inl d
 ·exact .inr (.inl d)
theorem vx {b:Array ai} {x:ai} (h:b[1]? =some x):∃a,b[0]? =some a:=by
 haveI:=(Dw.mp h).1;exact⟨b[0]'(Et this),arI (by exact Et this)⟩
theorem GF {A:cy} {U:be} {g:bk} {s:al} {c:aP} {Y:List aa} {J:ae} {n:Nat} {e:aq} {Q:Unit->al->Prop} {E:ai->al->Prop} {l:List be}
  (S:St Z V U g c Y J s) (hl:A.frames=some (U::l)) (M:U.frame=some U.locals) (ef:∀f∈U::l,f.scope.kind≠ .module/\ ∃a,f.frame=some a/\(a=U.locals\/a∈c.pr.map (·.1)))
  (fl:gU Z U.locals g c n e s.heap)
  (D:∀G K,St Z V U g G Y J K->G.adr=c.adr->gd c.pr G.pr->G.aK=c.aK->oq Z g G n e K.heap->Q () K):
  av (aG Z.prog Z.w) A (leaving U (.ref e)) Q E s:=by
 have i:∀m,(ei s.heap m).StaysIn s.heap:=λm b o e=>xB _ e;rcases fl with jZ|d3
 ·refine iG jZ λC hC X ju hx=> ?_
  have bW:∀(r:List aq),(∀a∈r,g.get? a=none/\a∉c.all)->(∃P O,s.heap.get? e=some P/\P.data= .fields O)->
    ∀R,Heap.Left (ei s.heap (U.locals::c.pr.map (·.1)++(e::r))) (U::l) e (.ref C) s.heap R->Q () {s with heap:=R}:=by
   intro r L B R bC;refine jE bC λW _ k3 x=> ?_;exact pT (zg S r L X ju B W k3 x) λG S' a1 a2 a3 a4 w=>D G _ S' a1 a2 a3 (lS C hC X a4 (.inr w))
  rcases hx with y|d
  ·refine f9 y λP O x1 x2 x3 x4=> ?_;haveI u:(ei s.heap (U.locals::c.pr.map (·.1)++(e::[]))).get? e=none:=lO _ (dn _ (.head _));exact aV<|wpAny_leaving_first hl (S.su ef []) M x1 (i _) u x3 x4 (λR hL=>bW [] (λ_ h=>(c6 h).elim) (c7 P O x1 x3) R (x2▸hL))
  ·refine uC d λP O T oT ts x1 x2 x3 x4 x5 x6 x7 x8 x9 ig=> ?_;have u:(ei s.heap (U.locals::c.pr.map (·.1)++(e::[T]))).get? e=none:=lO _ (dn _ (.head _));have v:(ei s.heap (U.locals::c.pr.map (·.1)++(e::[T]))).get? T=none:=lO _ (by simp);refine aV<|wpAny_leaving_next hl (S.su ef [T]) M (rS P O T oT ts x1 x2 x3 x4 v x7 x8 x9 ig) (i _) u (λR hL=>bW [T] ?_ (c7 P O x1 x3) R hL)
   intro a ha;rw [dj] at ha;subst ha;exact⟨x5,x6⟩
 ·refine iG d3 λC hC X ju hx=> ?_;refine a6 λH_ e_=>pV hx λP O T oT ts x1 x2 x3 x4 x5 x6 x7 x8 mJ=> ?_;obtain⟨x9,ig⟩:=mJ;have v:(ei s.heap (U.locals::c.pr.map (·.1)++(e::[T]))).get? T=none:=lO _ (by simp);obtain⟨k,N⟩:=vx x4;have ht:s.heap.TracedAtW (ei s.heap (U.locals::c.pr.map (·.1)++(e::[T]))) e (.ref C) k (iC U.locals):=(rS P O T oT ts x1 ⟨x2,N⟩ x3 x4 v x7 x8 x9 ig)
  refine e_ (aV (PySem.wpAny_bind (arY M ht (wpAny_setFlight_noneW (i _) (S.su ef [T]) ht λR W k2 k3 x=>a6 λH_ e_=>(D5 k3 λz j H p nN F t I=> ?_)))));obtain⟨q,_⟩:=t;exact pT (zg S [T] (λa ha=>by rw [dj] at ha;subst ha;exact⟨x5,x6⟩) X ju (c7 P O x1 x3) W (D6 z j H p nN F q I) (λb o hb hn=>⟨o.slots,x b o hb hn⟩)) λG S' a1 a2 a3 a4 w=>e_ (D G _ S' a1 a2 a3 (lS C hC X a4 (.inr w)))
theorem zh {A:cy} {U:be} {g:bk} {s:al} {c:aP} {Y:List aa} {J:ae} {n:Nat} {e:aq} {Q:Unit->al->Prop} {E:ai->al->Prop} {l:List be}
  (S:St Z V U g c Y J s) (hl:A.frames=some (U::l)) (M:U.frame=some U.locals) (ef:∀f∈U::l,f.scope.kind≠ .module/\ ∃a,f.frame=some a/\(a=U.locals\/a∈c.pr.map (·.1)))
  (fl:gU Z U.locals g c n e s.heap)
  (D:∀G K,St Z V U g G Y J K->G.adr=c.adr->gd c.pr G.pr->G.aK=c.aK->vn Z U.locals g G n e K.heap->Q () K):
  av (aG Z.prog Z.w) A (j7 (.ref e) U) Q E s:=by
 have i:∀m,(ei s.heap m).StaysIn s.heap:=λm b o e=>xB _ e;rcases fl with jZ|hh
 ·refine iG jZ λC hC X ju hx=> ?_
  have bW:∀(r:List aq) k,(∀a∈r,g.get? a=none/\a∉c.all)->(∃P O,s.heap.get? e=some P/\P.data= .fields O)->
    ∀R,Heap.NotedW (ei s.heap (U.locals::c.pr.map (·.1)++(e::r))) (U::l) e (.ref C) k (iC U.locals) s.heap R->Q () {s with heap:=R}:=by
   intro r k L B R bC;refine jE bC λW _ k3 x=> ?_;refine D5 k3 λz j H p nN F t I=> ?_;refine fp t λq _=> ?_;exact pT (zg S r L X ju B W (D6 z j H p nN F q I) x) λG S' a1 a2 a3 a4 w=>D G _ S' a1 a2 a3 (lS C hC X a4 w)
  rcases hx with y|d3
  ·refine f9 y λP O x1 x2 x3 x4=> ?_;have u:(ei s.heap (U.locals::c.pr.map (·.1)++(e::[]))).get? e=none:=lO _ (dn _ (.head _));refine jF (vx x4) λk N=> ?_;unfold j7;rw [M];exact aV (PySem.wpAny_bind (lM x1 x3 x4 (wpAny_entryW hl (S.su ef []) M x1 (i _) u x3 (Dw.mp x4).1 N λR d=>bW [] k (λ_ h=>(c6 h).elim) (c7 P O x1 x3) R (x2▸d))))
  ·refine uC d3 λP O T oT ts x1 x2 x3 x4 x5 x6 x7 x8 x9 ig=> ?_;have u:(ei s.heap (U.locals::c.pr.map (·.1)++(e::[T]))).get? e=none:=lO _ (dn _ (.head _));have v:(ei s.heap (U.locals::c.pr.map (·.1)++(e::[T]))).get? T=none:=lO _ (by simp);obtain⟨k,N⟩:=vx x4;refine aV (wpAny_noteFrame_onW hl (S.su ef [T]) M (rS P O T oT ts x1 ⟨x2,N⟩ x3 x4 v x7 x8 x9 ig) (i _) u λR d=>bW [T] k ?_ (c7 P O x1 x3) R d);intro a ha;rw [dj] at ha;subst ha;exact⟨x5,x6⟩
 ·refine a6 λH_ e_=> ?_;refine iG (id hh) λC hC X ju q4=> ?_;refine uC q4 λP O T oT ts x1 x2 x3 x4 x5 x6 x7 x8 x9 ig=> ?_;haveI v:(ei s.heap (U.locals::c.pr.map (·.1)++(e::[T]))).get? T=none:=lO _ (by simp);obtain⟨k,N⟩:=vx x4;exact e_ (aV (arY M (rS P O T oT ts x1 ⟨x2,N⟩ x3 x4 v x7 x8 x9 ig) (D c s S rfl (.refl _) rfl hh)))
theorem GG {A:cy} {U:be} {g:bk} {s:al} {c:aP} {Y:List aa} {J:ae} {n:Nat} {e:aq} {E:ai->al->Prop}
  (S:St Z V U g c Y J s) (M:U.frame=some U.locals) (u:vn Z U.locals g c n e s.heap) (D:∀K,St Z V U g c Y J K->vn Z U.locals g c n e K.heap->E (.ref e) K):
  PySem.cameBackBy (aG Z.prog Z.w) A U E (.ref e) s:=by
 refine a6 λN v=>iG u λC w x y z=>pV z λP B T O Q x1 x2 x3 x4 l p r j G=> ?_;obtain⟨i,H⟩:=G;refine v (PySem.wpAny_bind (lM x1 x3 x4 (PySem.wpAny_bind (lM x1 x3 x4 ?_))));rw [M];have a:=(Dw.mp H).1;refine wpAny_setField j i a ?_;haveI d:∀b,b≠T->(s.heap.update T (Ov (·.setIfInBounds 3 ((some U.locals).elim Value.none λf=>iC f)))).get? b=s.heap.get? b:=λb k=>Dx _ _ (Ne.symm k);refine aw S.F λm F em=> ?_
 haveI h:U.locals≠T:=by
  refine ff F.ns λoL R W t I X=> ?_;rintro q;rw [q,j] at t;obtain rfl:=bl t;rw [I] at i;contradiction
 refine D _ (S.turn
  (F.change (Dh ..) (Ne.symm h) l) em (λb k o L=>(d b (λq=>p (q▸k))).trans L) (bv rfl rfl rfl)) ?_
 exact⟨C,w,x,y,P,B,T,_,_,(d e (Ne.symm r)).trans x1,x2,x3,x4,l,p,r,xn _ j (arZ (Dy i _)),Dy i _,by simp [a]⟩
end
theorem aag {a:ax->Option hH} {y:ax} {l:List (ax×ai)}:∀{m:ax->Option ai},y∉l.map (·.1)->pL a l m y=m y:=by
 induction l with
 |nil=>
  intro _ _;exact rfl
 |cons c r B=>
  obtain⟨n,v⟩:=c;intro m h;rw [cB,cb,not_or] at h;unfold pL;rw [B h.2];split
  ·exact if_neg h.1
  ·rfl
theorem GH {a:ax->Option hH} {y:ax} {v:ai} {l:List (ax×ai)}:∀{m:ax->Option ai} (i:Nat),(l.map (·.1)).Nodup->l[i]? =some (y,v)->a y=some .local->pL a l m y=some v:=by
 induction l with
 |nil=>
  intro _ i _ h _;contradiction
 |cons c r B=>
  obtain⟨n,u⟩:=c;intro m i b h d;rw [cB,eD] at b;unfold pL;induction i with
  |zero=>
   simp at h;obtain⟨rfl,rfl⟩:=h;rw [aag b.1,if_pos d,if_pos rfl]
  |succ i=>
   exact B i b.2 h d
theorem aah {a:ax->Option hH} {y:ax} {l:List (ax×ai)}:∀{m:ax->Option ai},y∉l.map (·.1)->bindC a l m y=m y:=by
 induction l with
 |nil=>
  intro _ _;exact rfl
 |cons c r B=>
  obtain⟨n,v⟩:=c;intro m h;rw [cB,cb,not_or] at h;unfold bindC;rw [B h.2];split
  ·rfl
  ·exact if_neg h.1
theorem aai {a:ax->Option hH} {y:ax} {v:ai} {l:List (ax×ai)}:∀{m:ax->Option ai} (i:Nat),(l.map (·.1)).Nodup->l[i]? =some (y,v)->a y=some .cell->bindC a l m y=some v:=by
 induction l with
 |nil=>
  intro _ i _ h _;contradiction
 |cons c r B=>
  obtain⟨n,u⟩:=c;intro m i b h d;rw [cB,eD] at b;unfold bindC;induction i with
  |zero=>
   simp at h;obtain⟨rfl,rfl⟩:=h;rw [aah b.1,if_neg (by rw [d];intro q;contradiction),if_pos rfl]
  |succ i=>
   exact B i b.2 h d
def mC (g:ax->aq):List (ax×Bool)->List aa->List (aq×aB)
 | [],_=>[]
 | (_,false)::r,H=>mC g r H.tail
 | (x,true)::r,H=>(g x,.cell (H.headD .aR))::mC g r H.tail
theorem zi (g:ax->aq):∀(a:List (ax×Bool)) (H:List aa) (n:Nat),(jr a H n).2=(mC g a H).map (·.2)
 | [],_,_=>rfl
 | (_,false)::r,H,n=>zi g r H.tail n
 | (x,true)::r,H,n=>by
  show aB.cell _::(jr r H.tail (n+1)).2=_
  rw [zi g r H.tail (n+1)];rfl
theorem qj {H:List aa} (i:Nat):(H.tail)[i]?.getD .aR=(H[i+1]?).getD .aR:=by cases H<;>rfl
theorem zj {H:List aa}:H.headD .aR=(H[0]?).getD .aR:=by cases H<;>rfl
theorem aaj (g:ax->aq) (a:List (ax×Bool)):∀(H:List aa) (n:Nat) (i:Nat) (x:ax),a[i]? =some (x,false)->(jr a H n).1[i]? =some ((H[i]?).getD .aR):=by
 induction a with
 |nil=>
  intro _ _ i _ h;contradiction
 |cons c r B=>
  obtain⟨y,b⟩:=c;intro H n i x h;induction i with
  |zero=>
   simp at h;obtain⟨rfl,rfl⟩:=h;show some _=_
   rw [zj]
  |succ i=>
   simp at h;induction b with
   |false=>show(jr r H.tail n).1[i]? =_;rw [B H.tail n i x h,qj]
   |true=>show(jr r H.tail (n+1)).1[i]? =_;rw [B H.tail (n+1) i x h,qj]
theorem aak (g:ax->aq) (a:List (ax×Bool)):∀(H:List aa) (n:Nat) (i:Nat) (x:ax),a[i]? =some (x,true)->∃j,(jr a H n).1[i]? =some (.ref (n+j))/\(mC g a H)[j]? =some (g x,.cell ((H[i]?).getD .aR)):=by
 induction a with
 |nil=>
  intro _ _ i _ h;contradiction
 |cons c r B=>
  obtain⟨y,b⟩:=c;intro H n i x h;induction i with
  |zero=>
   simp at h;obtain⟨rfl,rfl⟩:=h;exact aJ 0 rfl (by rw [<-zj];rfl)
  |succ i=>
   simp at h;induction b with
   |false=>
    exact aw (B H.tail n i x h) λj d e=>aJ j d (by rw [<-qj];exact e)
   |true=>
    refine aw (B H.tail (n+1) i x h) λj d e=>aJ (j+1) ?_ (by rw [<-qj];exact e);show(jr r H.tail (n+1)).1[i]? =_
    rw [d,show n+1+j=n+(j+1) by exact yu]
theorem vy (g:ax->aq):∀(c:List (ax×Bool)) (H:List aa) (q:aq×aB),q∈mC g c H->∃(i:Nat) (x:ax),c[i]? =some (x,true)/\q=(g x,.cell ((H[i]?).getD .aR))
 | [],_,_,h=>by contradiction
 | (y,false)::r,H,q,h=>by
  exact cV (vy g r H.tail q h) λi x a b=>c7 (i+1) x (by simpa using a) (by rw [b,qj])
 | (y,true)::r,H,q,h=>by
  rcases cb.mp h with rfl|h
  ·exact c7 0 y (rfl) (by rw [zj])
  ·exact cV (vy g r H.tail q h) λi x a b=>c7 (i+1) x (by simpa using a) (by rw [b,qj])
theorem zk (g:ax->aq):∀(b:List (ax×Bool)) (H:List aa),(b.map (·.1)).Nodup->(∀x y,(x,true)∈b->(y,true)∈b->x≠y->g x≠g y)->((mC g b H).map (·.1)).Nodup
 | [],_,_,_=>f8
 | (y,false)::r,H,a,h=>by
  simp only [cB,eD] at a;exact zk g r H.tail a.2 λx z c d=>h x z (.tail _ c) (.tail _ d)
 | (y,true)::r,H,a,h=>by
  simp only [cB,eD] at a;show(g y::(mC g r H.tail).map (·.1)).Nodup
  rw [eD];refine⟨λq=>(aw (dz.mp q) λp j e=>(cV (vy g r H.tail p j) λi x k l=> ?_)),zk g r H.tail a.2 λx z c d=>h x z (.tail _ c) (.tail _ d)⟩;obtain rfl:=l;haveI f:=cq k;exact h y x (.head _) (.tail _ f) (λw=>a.1 (dz.mpr (aJ (x,true) f w.symm))) e.symm
section
variable {Z:bx} {d:Nat} {V:bb}
theorem St.lay {U:be} {b:bk} {Y:List aa} {s:al} (a:List (aq×aB)):∀(c:aP) (J:ae),St Z V U b c Y J s->(a.map (·.1)).Nodup->
  (∀q∈a,q.1∉c.all/\q.1≠U.locals/\b.get? q.1=none/\nS<q.1/\ ∃o,s.heap.get? q.1=some o/\gy Z c.adr q.2 o)->
  St Z V U b {c with adr:=c.adr++a.map (·.1)} Y (J++a.map (·.2)) s:=by
 induction a with
 |nil=>
  intro c J S _ _
  simpa using S
 |cons q a B=>
  intro c J S d h;simp only [cB,eD] at d;refine n5 (h q (.head _)) λi j k N l=>aw l λo n r=>aw S.F λm F e=> ?_
  haveI g:=B _ _ (S.vk F e (λ_ _ _ e=>e) i j k N n (r.mono (fi ⟨[q.1],rfl⟩)) (bv rfl rfl rfl)) d.2 λp f=>by
   refine n5 (h p (.tail _ f)) λW t u v y=>aw y λo' x z=>⟨?_,t,u,v,o',x,z.mono (fi ⟨[q.1],rfl⟩)⟩
   intro w;simp only [aP.all,cR,dj] at w;rcases w with(w|w)|w
   ·exact W (by rw [aP.all,cR];exact .inl w)
   ·exact d.1 (w▸io f)
   ·exact W (by simp only [aP.all,cR];exact .inr w)
  simpa [bX] using g
theorem St.aal {N:bb} {U:be} {a:bk} {c:aP} {Y X:List aa} {J:ae} {s:al} {m:ax->Option ai} (S:St Z V U a c Y J s) (F:Fr a U.locals s.heap m) (e:iK N U c.adr m X):St Z N U a c X J s:=
 ⟨(aJ m F e),S.cP,S.len,S.obj,S.own,S.pr,S.aK,S.rest,S.low⟩
structure GI (Z:bx) (fn:Nat->Option aq) (F:bd) (kd:aq) (name qual:ax) (params:rD) (body:List eT) (doc pm ll ov sv:ai) (an sw:Option aq) (sx:Array (Option ai)):Prop where
 look:Z.K.lookup kd=some ⟨sv,sw,.func (fnOf name qual params body F.bA.scope .none .none doc pm an ll ov),sx⟩
 code:codeIn Z.K ll qual=true
 bind:∀eV:List ai,eV.length=F.jf->rC (fnOf name qual params body F.bA.scope .none .none doc pm an ll ov) ⟨eV,[]⟩=pure ((F.bA.slots.map (·.1)).zip eV)
 sim:∀n af,hZ Z fn n af->nj Z n af->eb Z (8*n+8) F.bA (F.T af) body
 kind:F.bA.scope.kind= .function
 gen:F.bA.scope.isGenerator=false
 co:F.bA.scope.isCoroutine=false
 slots:∀p∈F.bA.slots,F.bA.scope.names.lookup p.1=some (if p.2 then NameKind.cell else NameKind.local)
 cP:(F.bA.slots.map (·.1)).Nodup
 jf:F.jf <= F.bA.slots.length
 lam:F.lam=false
 GJ:∀q,F.bA.code=some q->q=(ll,qual++ ".<locals>.")
theorem CP {d:Type} {x:ax} {a:d} {l:List (ax×d)}:l.lookup x=some a->(x,a)∈l:=by
 induction l with
 |nil=>
  intro h;contradiction
 |cons c r B=>
  obtain⟨y,b⟩:=c;intro h;rw [xC] at h;by_cases q:x=y
  ·subst q;simp at h;subst h;exact .head _
  ·haveI h:=(beq_false_of_ne q)▸h;exact .tail _ (B h)
theorem aqy {l:List (ax×aq)} (h:l.Pairwise λx y=>x.2≠y.2) {x y:ax} {a:aq} (b:(x,a)∈l) (c:(y,a)∈l):x=y:=by
 induction h with
 |nil=>cases b
 | @cons p r k _ B=>
  rcases cb.mp b with rfl|b
  ·rcases cb.mp c with e|c
   ·cases e;rfl
   ·exact(k _ c rfl).elim
  ·rcases cb.mp c with rfl|c
   ·rcases cb.mp b with e|b
    ·cases e;rfl
    ·exact(k _ b rfl).elim
   ·exact B b c
def cS (c:aP) (u:List Nat) (L:aq) (oL:cj):aP:={adr:=u.map λi=>c.adr.getD i 0,pr:=(L,oL)::c.pr,aK:=c.aK}
theorem sy {c:aP} {u:List Nat} {L:aq} {oL:cj} (E:∀i∈u,i<c.adr.length) {j i:Nat} (h:u[j]? =some i):(cS c u L oL).adr[j]? =c.adr[i]? :=by
 show(u.map _)[j]? =_
 rw [cm,h,pM,da,bV (E i (cq h))];rfl
theorem sz {c:aP} {u:List Nat} {L:aq} {oL:cj} (E:∀i∈u,i<c.adr.length) {a:aq} (h:a∈(cS c u L oL).adr):∃(j i:Nat),u[j]? =some i/\c.adr[i]? =some a:=by
 refine aw (dz.mp h) λi b d=> ?_;obtain rfl:=d;obtain⟨j,f,e⟩:=nT b;have:=E i b;exact c7 j i (by rw [bV f,e]) (by rw [da,bV this];rfl)
theorem GK {c:aP} (b:c.adr.Nodup) {i j:Nat} {a:aq} (d:c.adr[i]? =some a) (e:c.adr[j]? =some a):i=j:=by
 obtain⟨h,f⟩:=cF.mp d;obtain⟨k,g⟩:=cF.mp e;exact(mT b).mp (f.trans g.symm)
theorem aam {U d:be} {h₀:bk} {c:aP} {Y:List aa} {J:ae} {s s1:al} {u:List Nat} {oL:cj} (S:St Z V U h₀ c Y J s) (E:∀i∈u,i<J.length) (nσ:u.Nodup)
  (dM:s.heap.get? U.locals=some oL) (iB:∃D n,oL.data= .dict D n) (N:bb) {m' P:ax->Option ai} (I:InCallC s d.locals m' d.cells P s1) (hl:d.locals=s.heap.objs.size)
  (nd:(N.slots.map (·.1)).Nodup) (hc:∀x,(x,true)∈N.slots->∃a,d.cells.lookup x=some a)
  {H:List aa} (hm:∀(i:Nat) (x:ax),N.slots[i]? =some (x,false)->(H[i]?).getD .aR= .aR\/ ∃v,m' x=some v/\a5 (cS c u U.locals oL).adr ((H[i]?).getD .aR) v)
  (X:∀(i:Nat) (x:ax),N.slots[i]? =some (x,true)->(H[i]?).getD .aR= .aR\/ ∃v,P x=some v/\a5 (cS c u U.locals oL).adr ((H[i]?).getD .aR) v):
  ∃t:List aq,St Z N d (ei s.heap (cS c u U.locals oL).all) {cS c u U.locals oL with adr:=(cS c u U.locals oL).adr++t} (jr N.slots H u.length).1 (g8 u J++(jr N.slots H u.length).2) s1:=by
 refine a6 λH_ e_=> ?_;have B:∀i∈u,i<c.adr.length:=λi hi=>by rw [S.len];exact E i hi
 obtain⟨⟨L,atV,e1⟩,dm,k,Q⟩:=id I.toInCall;haveI py:=S.cP;unfold aP.all at py;rw [eq] at py;refine dp py λn1 n2 O=> ?_;have xd:=λq=>(S.own _ q).1 rfl;have R:=aw S.F λ_ F _=>F.above;have xe:∀a∈(cS c u U.locals oL).adr,a∈c.adr:=λa ha=>cV (sz B ha) λ_ _ _ h=>cq h
 have l:∀a∈(cS c u U.locals oL).all,a∈c.all\/a=U.locals:=by
  intro a ha;simp only [aP.all,cR] at ha⊢;rcases ha with ha|ha|ha
  ·exact .inl (.inl (xe a ha))
  ·rcases cb.mp ha with rfl|ha
   ·exact .inr rfl
   ·exact .inl (.inr (.inl ha))
  ·exact .inl (.inr (.inr ha))
 have m:∀a∈(cS c u U.locals oL).all,a<s.heap.objs.size:=by
  intro a ha;rcases l a ha with h|rfl
  ·obtain⟨o,ho⟩:=S.there a h;exact fz ho
  ·exact fz dM
 haveI T:Fr (ei s.heap (cS c u U.locals oL).all) d.locals s1.heap m':=⟨dm,λb o e=>k b o (xB _ e),by rw [Dz];exact Q⟩
 haveI f:St Z ⟨N.scope,[],false,none⟩ d (ei s.heap (cS c u U.locals oL).all) (cS c u U.locals oL) [] (g8 u J) s1:=by
  refine⟨(aJ m' T (λi x b h=>by contradiction)),?_,by simp [cS,g8],?_,?_,?_,?_,?_,?_,?_⟩
  ·unfold aP.all;rw [eq];refine⟨?_,?_,?_⟩
   ·refine uh.mpr (nσ.imp_of_mem λ{i j} hi hj G q=>G ?_);rw [da,da,bV (B i hi),bV (B j hj)] at q;exact(mT n1).mp q
   ·show(U.locals::c.pr.map (·.1)++c.aK.map (·.1)).Nodup
    rw [uf,eD];exact⟨λq=>xd (dn _ q),n2⟩
   ·intro x hx y hy;haveI ro:=xe x hx;haveI K:=hy;rcases cb.mp K with rfl|K
    ·intro bC;obtain rfl:=bC;exact xd (cQ _ ro)
    ·exact O x ro y K
  ·intro j ao a h1 h2
   have hj:=by
    haveI:=(cF.mp h1).1
    simpa [g8] using this
   haveI e2:=bV hj;rw [sy B e2] at h2;have z:=E u[j] (mX hj)
   have hv:(g8 u J)[j]? =some (mo (dG u) J[u[j]]):=by
    unfold g8;rw [cm,e2,pM,da,bV z];rfl
   rw [hv] at h1;obtain rfl:=bl h1;refine aw (S.obj u[j] _ a (bV z) h2) λo ho hi=> ?_;refine aJ o (k _ _ ho) (hi.turn λr A a' q1 q2=> ?_);rw [sy B (vw q1)];exact q2
  ·exact λa ha=>⟨by rw [hl];exact nY (m a ha),lO _ ha⟩
  ·intro p hp;rcases cb.mp hp with rfl|hp
   ·exact⟨k _ _ dM,iB⟩
   ·exact⟨k _ _ (S.pr p hp).1,(S.pr p hp).2⟩
  ·exact λp hp=>k _ _ (S.aK p hp)
  ·rw [e1];exact S.rest
  ·rw [Dz];exact Dr (i4 S.low.1 R) (fz dM)
  ·intro a ha;rcases l a ha with h|rfl
   ·exact S.low.2 a h
   ·exact i4 S.low.1 R
 refine e_ ?_
 haveI aqG:∀x,(x,true)∈N.slots->∃a,d.cells.lookup x=some a/\ @LT.lt Nat _ d.locals a:=by
  intro x hx;obtain⟨a,ha⟩:=hc x hx;exact aJ a ha (I.above _ _ (CP ha))
 haveI g:∀x,(x,true)∈N.slots->d.cells.lookup x=some ((d.cells.lookup x).getD 0):=λx hx=>by obtain⟨a,ha⟩:=hc x hx;rw [ha];rfl
 haveI S1:=St.lay (mC (λx=>(d.cells.lookup x).getD 0) N.slots H) _ _ f (zk _ _ _ nd λx y hx hy bN q=>by
   haveI h2:=CP (g y hy);haveI h2:=q.symm▸h2;exact bN (aqy I.apart (CP (g x hx)) h2)) λq hq=>by
  refine cV (vy _ _ _ _ hq) λi x h1 q3=> ?_;obtain rfl:=q3;refine aw (aqG x (cq h1)) λa ha W=> ?_;haveI e:(d.cells.lookup x).getD 0=a:=by rw [ha];rfl
  rw [e];haveI M:¬ @LT.lt Nat _ a s.heap.objs.size:=by rw [<-hl];exact DA.mpr (ui W)
  refine i8 (λw=>M (m a w)) (DB W) ?_ (i4 (Dr (i4 S.low.1 R) (fz dM)) (DA.mp M)) ?_
  ·induction w:(ei s.heap (cS c u U.locals oL).all).get? a with
   |none=>rfl
   |some o=>exact absurd (fz (xB _ w)) M
  ·refine aw (I.cell x a ha) λo ho hd=>⟨o,ho,P x,hd,?_⟩
   rcases X i x h1 with w|d3
   ·exact .inl w
   ·refine aw d3 λv w1 w2=> ?_;exact .inr (aJ v w1 w2)
 refine⟨(mC (λx=>(d.cells.lookup x).getD 0) N.slots H).map (·.1),?_⟩;rw [zi (λx=>(d.cells.lookup x).getD 0)];refine S1.aal T λi x b h=> ?_;induction b with
 |false=>
  refine aJ _ (aaj (λx=>(d.cells.lookup x).getD 0) _ _ _ _ _ h) ((hm i x h).imp id λqq=>aw qq λv h1 h2=>(aJ v h1 (a5.mono (fi ⟨_,rfl⟩) h2)))
 |true=>
  refine aw (aak (λx=>(d.cells.lookup x).getD 0) _ H u.length _ _ h) λj h1 h2=>dt (u.length+j) _ h1 ?_ (g x (cq h));haveI C:(cS c u U.locals oL).adr.length=u.length:=by simp [cS]
  rw [eE (by exact RI C),cm,C,ip,h2];rfl
end
section
variable {Z:bx} {d:Nat} {V N:bb}
theorem GL {U d:be} {h₀:bk} {c c2:aP} {Y cX:List aa} {J z:ae} {s s2:al} {u l:List Nat} {oL:cj} (S:St Z V U h₀ c Y J s) (E:∀i∈u,i<J.length) (nσ:u.Nodup)
  (dM:s.heap.get? U.locals=some oL)
  (g:St Z N d (ei s.heap (cS c u U.locals oL).all) c2 cX z s2) (W:dC (cS c u U.locals oL).adr (cS c u U.locals oL) c2)
  (K:∀j∈l,u.length <= j/\j<z.length) (nτ:l.Nodup):
  ∃c3,St Z V U h₀ c3 Y (c5 u l J z) s2/\cW c c3/\(∀r v,a5 c2.adr r v->a5 c3.adr (cz (cY u l J.length) r) v)/\
   ∀n e,oq Z (ei s.heap (cS c u U.locals oL).all) c2 n e s2.heap->oq Z h₀ c3 n e s2.heap:=by
 refine a6 λH_ e_=> ?_;have B:∀i∈u,i<c.adr.length:=λi hi=>by rw [S.len];exact E i hi
 have CV:(cS c u U.locals oL).adr.length=u.length:=by simp [cS]
 refine aw S.F λm F em=> ?_;refine aw g.F λm2 F2 _=> ?_;have py:=S.cP;unfold aP.all at py;rw [eq] at py;refine dp py λn1 n2 O=> ?_;have rn:=g.cP;unfold aP.all at rn;rw [eq] at rn;refine dp rn λp1 p2 p3=> ?_
 obtain⟨q0,k,R,tR,⟨sl,CW⟩,f5⟩:∃q0 k,c2.pr=q0::k/\q0.1=U.locals/\(∃sl,q0.2={oL with slots:=sl})/\gd c.pr k:=by
  have:=W.pr;unfold gd at this;have e:(cS c u U.locals oL).pr=(U.locals,oL)::c.pr:=rfl;rw [e] at this;induction h:c2.pr with
  |nil=>rw [h] at this;contradiction
  |cons q0 k=>
   rw [h] at this;cases this with
   |cons h1 h2=>exact iH q0 k rfl h1.1 h1.2 h2
 have xd:=λq=>(S.own _ q).1 rfl;have aqH:=λq=>p3 _ q _ (cQ _ (dz.mpr (aJ q0 (by rw [R];exact .head _) tR))) rfl;have xe:∀a∈(cS c u U.locals oL).adr,a∈c.adr:=λa ha=>cV (sz B ha) λ_ _ _ h=>cq h;refine e_ ?_
 have g0:∀b o,h₀.get? b=some o->(ei s.heap (cS c u U.locals oL).all).get? b=some o:=by
  intro b o hb;refine nX _ (F.keep _ _ hb) λq=> ?_
  have:b∈c.all\/b=U.locals:=by
   simp only [aP.all,cR] at q⊢;rcases q with q|q|q
   ·exact .inl (.inl (xe b q))
   ·rcases cb.mp q with rfl|q
    ·exact .inr rfl
    ·exact .inl (.inr (.inl q))
   ·exact .inl (.inr (.inr q))
  rcases this with q|rfl
  ·rw [(S.own b q).2] at hb;contradiction
  ·exact absurd (i4 (fz hb) F.above) (mW _)
 have CX:∀b,(ei s.heap (cS c u U.locals oL).all).get? b=none->h₀.get? b=none:=by
  intro b hb;induction q:h₀.get? b with
  |none=>rfl
  |some o=>rw [g0 _ _ q] at hb;contradiction
 have f:∀(i:Nat) (a:aq),c.adr[i]? =some a->i∉u->∀o,s.heap.get? a=some o->(ei s.heap (cS c u U.locals oL).all).get? a=some o:=by
  intro i a ha hi o ho;refine nX _ ho λq=> ?_;have hm:=cq ha;simp only [aP.all,cR] at q;rcases q with q|q|q
  ·refine cV (sz B q) λj A h1 h2=> ?_;exact hi (GK n1 h2 ha▸cq h1)
  ·rcases cb.mp q with rfl|q
   ·exact xd (cQ _ hm)
   ·exact O a hm a (cQ _ q) rfl
  ·exact O a hm a (dn _ q) rfl
 have H:∀(j i:Nat),u[j]? =some i->c2.adr[j]? =c.adr[i]? :=by
  intro j i h;have h1:=sy (L:=U.locals) (oL:=oL) B h;have hj:=(cF.mp h).1;rw [<-h1];have NN:j<(cS c u U.locals oL).adr.length:=by rw [CV];exact hj
  rw [bV NN];exact fi W.pin _ _ (bV NN)
 have CY:∀(t j:Nat),l[t]? =some j->∃a,c2.adr[j]? =some a/\(l.map λj=>c2.adr.getD j 0)[t]? =some a:=by
  intro t j h;have hj:=(K j (cq h)).2;rw [<-g.len] at hj;refine aJ _ (bV hj) ?_;rw [cm,h,pM,da,bV hj];rfl
 have I:∀a∈l.map (λj=>c2.adr.getD j 0),a∈c2.adr/\a∉c.all/\a≠U.locals:=by
  intro a ha;obtain⟨t,ht,e⟩:=nT ha;rw [bz] at ht;refine aw (CY t l[t] (bV ht)) λa' h1 h2=> ?_;rw [bV (by simpa using ht),e] at h2;obtain rfl:=bl h2;have hm:=cq h1;refine⟨hm,λq=> ?_,λq=>aqH (q▸hm)⟩;have aqI:=(g.own a (cQ _ hm)).2;have aqJ:=(K l[t] (mX ht)).1;rcases cR.mp q with q|q
  ·obtain⟨i,hi,D⟩:=nT q;have j0:c.adr[i]? =some a:=by rw [bV hi,D]
   by_cases Q:i∈u
   ·obtain⟨j,hj,ej⟩:=nT Q;have:=H j i (by rw [bV hj,ej]);rw [j0] at this;have:=GK p1 h1 this;exact Ui hj this aqJ
   ·obtain⟨o,ho⟩:=S.there a (cQ _ q);rw [f i a j0 Q o ho] at aqI;contradiction
  ·rcases cR.mp q with q|q
   ·exact p3 a hm a (cQ _ (by rw [R,cB,f5.map];exact .tail _ q)) rfl
   ·exact p3 a hm a (dn _ (by rw [W.aK.map];show _∈c.aK.map (·.1);exact q)) rfl
 have pz:∀t:Nat,(c.adr++l.map λj=>c2.adr.getD j 0)[J.length+t]? =(l.map λj=>c2.adr.getD j 0)[t]? :=by
  intro t;rw [eE (by rw [S.len];exact kb),S.len,ip]
 have pA:∀(j i:Nat) (a:aq),cY u l J.length j=some i->c2.adr[j]? =some a->(c.adr++l.map λj=>c2.adr.getD j 0)[i]? =some a:=by
  intro j i a h1 h2;rcases aad h1 with jZ|d3
  ·obtain⟨h3,h4⟩:=jZ;rw [H j i h4] at h2;exact fi ⟨_,rfl⟩ _ _ h2
  ·obtain⟨h3,t,h4,rfl⟩:=d3;rw [pz];refine aw (CY t j h4) λa' e1 e2=> ?_;rw [h2] at e1;obtain rfl:=bl e1;exact e2
 have CZ:∀a,a∈({adr:=c.adr++l.map λj=>c2.adr.getD j 0,pr:=k,aK:=c2.aK}:aP).all<->a∈c.all\/a∈l.map λj=>c2.adr.getD j 0:=by
  intro a;have iZ:c2.aK.map (·.1)=c.aK.map (·.1):=W.aK.map;simp only [aP.all,cR,f5.map,iZ];constructor
  ·rintro((h|h)|h|h)
   ·exact .inl (.inl h)
   ·exact .inr h
   ·exact .inl (.inr (.inl h))
   ·exact .inl (.inr (.inr h))
  ·rintro((h|h|h)|h)
   ·exact .inl (.inl h)
   ·exact .inr (.inl h)
   ·exact .inr (.inr h)
   ·exact .inl (.inr h)
 refine lS ({adr:=c.adr++l.map λj=>c2.adr.getD j 0,pr:=k,aK:=c2.aK}) ?_ ⟨⟨_,rfl⟩,f5,W.aK⟩ (λr v h=>a5.turn pA h) ?_
 ·have NO:=(g.pr q0 (by rw [R];exact .head _)).1;rw [tR,CW] at NO;refine⟨(aJ m ⟨zf F.ns λo ho=>by rw [dM] at ho;obtain rfl:=bl ho;exact⟨sl,NO⟩,λb o hb=>F2.keep _ _ (g0 _ _ hb),F.above⟩ (em.mono (fi ⟨_,rfl⟩))),?_,?_,?_,?_,?_,?_,g.rest,S.low.1,λa ha=> ?_⟩
  ·show(c.adr++_++(k.map (·.1)++c2.aK.map (·.1))).Nodup
   have iZ:=W.aK.map;rw [f5.map,iZ,eq];refine⟨?_,n2,?_⟩
   ·rw [eq];refine⟨n1,?_,λx hx y hy=> ?_⟩
    ·refine uh.mpr (nτ.imp_of_mem λ{i j} hi hj G q=>G ?_);have w:=(K i hi).2;have l2:=(K j hj).2;rw [<-g.len] at w l2;have q:=q;rw [da,da,bV w,bV l2] at q;exact(mT p1).mp q
    ·intro bC;obtain rfl:=bC;exact(I x hy).2.1 (cQ _ hx)
   ·intro x hx y hy;rcases cR.mp hx with hx|hx
    ·exact O x hx y hy
    ·intro cx;obtain rfl:=cx;exact(I x hx).2.1 (dn _ hy)
  ·show(c.adr++_).length=(c5 u l J z).length
   unfold c5;rw [a9,a9,ss,bz,bz,S.len]
  ·intro i ao a h1 h2;unfold c5 at h1;by_cases hi:i<J.length
   ·rw [im (by rw [ss];exact hi)] at h1;have mH:i<c.adr.length:=by rw [S.len];exact hi
    rw [im mH] at h2;by_cases Q:i∈u
    ·obtain⟨j,hj,ej⟩:=nT Q;have e1:u[j]? =some i:=by rw [bV hj,ej]
     have NP:j<z.length:=by
      rw [<-g.len];have:=H j i e1;rw [h2] at this;exact(cF.mp this).1
     rw [GE _ u z J j i z[j] nσ E e1 (bV NP)] at h1;obtain rfl:=bl h1;have e2:=H j i e1;rw [h2] at e2;refine aw (g.obj j _ a (bV NP) e2) λo ho hi=> ?_;exact⟨o,ho,hi.turn pA⟩
    ·rw [ze _ u z J i Q] at h1;refine aw (S.obj i ao a h1 h2) λo ho hi=> ?_;exact⟨o,F2.keep _ _ (f i a h2 Q o ho),hi.mono (fi ⟨_,rfl⟩)⟩
   ·refine a6 λH_ e_=> ?_;rw [eE (by rw [ss];exact jH hi),ss,cm] at h1;refine aw (gP.mp h1) λj e1 e2=> ?_;have X:i=J.length+(i-J.length):=Sr (ay ..) hi;rw [X,pz] at h2;refine aw (CY _ j e1) λa' e4 e5=> ?_;refine e_ ?_;rw [h2] at e5;obtain rfl:=bl e5;have hj:=(K j (cq e1)).2;refine aw (g.obj j _ a (bV hj) e4) λo ho hi=> ?_;refine⟨o,ho,?_⟩;rw [<-e2,da,bV hj];exact hi.turn pA
  ·intro a ha;rcases(CZ a).mp ha with h|h
   ·exact S.own a h
   ·exact⟨(I a h).2.2,CX _ (g.own a (cQ _ (I a h).1)).2⟩
  ·intro p hp;exact g.pr p (by rw [R];exact .tail _ hp)
  ·intro p hp;exact g.aK p hp
  ·rcases(CZ a).mp ha with h|h
   ·exact S.low.2 a h
   ·exact g.low.2 a (cQ _ (I a h).1)
 ·intro n e eQ;refine iG eQ λC h1 h2 h3 h4=> ?_
  have M:∀b,b∉c2.all->(ei s.heap (cS c u U.locals oL).all).get? b=none->(∃o vs,s2.heap.get? b=some o/\o.data= .fields vs)->b∉({adr:=c.adr++l.map λj=>c2.adr.getD j 0,pr:=k,aK:=c2.aK}:aP).all:=by
   intro b hb aqK _ q;rcases(CZ b).mp q with q|q
   ·rcases cR.mp q with q|q
    ·obtain⟨i,hi,D⟩:=nT q;have j0:c.adr[i]? =some b:=by rw [bV hi,D]
     by_cases Q:i∈u
     ·obtain⟨j,hj,ej⟩:=nT Q;have:=H j i (by rw [bV hj,ej]);rw [j0] at this;exact hb (cQ _ (cq this))
     ·obtain⟨o,ho⟩:=S.there b (cQ _ q);rw [f i b j0 Q o ho] at aqK;contradiction
    ·rcases cR.mp q with q|q
     ·exact hb (dn _ (cQ _ (by rw [R,cB,f5.map];exact .tail _ q)))
     ·exact hb (dn _ (dn _ (by rw [W.aK.map];show _∈c.aK.map (·.1);exact q)))
   ·exact hb (cQ _ (I b q).1)
  refine⟨C,h1,CX _ h2,?_,?_⟩
  ·refine M e h3 h2 ?_;rcases h4 with⟨P,vs,x1,_,x2,_⟩| ⟨P,vs,_,_,_,x1,_,x2,_⟩<;>exact⟨P,vs,x1,x2⟩
  ·refine h4.imp id ?_;intro xf;refine uC xf λP vs T oT ts x1 x2 x3 x4 x5 x6 x7 x8 x9 ig=> ?_;exact⟨P,vs,T,oT,ts,x1,x2,x3,x4,CX _ x5,M T x6 x5 ⟨oT,ts,x8,x9⟩,x7,x8,x9,ig⟩
end
section
variable {Z:bx} {d:Nat} {V:bb}
theorem GM {d j:Type}:∀(l:List d) (r:List j),(l.zip r).map (·.1)=l.take r.length
 | [],r=>by simp
 |a::l,[]=>rfl
 |a::l,b::r=>by simp [GM l r]
theorem aan {fn:Nat->Option aq} {ie:Nat->Option bd}
  (hd:∀f F fa,ie f=some F->fn f=some fa->∃d2 g9 jv N jw pm hA ct oc an od jx,GI Z fn F fa d2 g9 jv N jw pm hA ct oc an od jx):
  ∀n,hZ Z fn n (az ie n)->nj Z n (az ie n)->hZ Z fn (n+1) (az ie (n+1)):=by
  intro n B C0 f fa M A V U h₀ s c Y J H vs k x R O L S va hc hR hX;unfold az at hc;induction hF:ie f with
  |none=>replace hc:=hF▸hc;exact hc.elim
  |some Q=>
   refine a6 λH_ e_=> ?_;rw [hF] at hc;refine n7 (hd f Q fa hF M) λd2 g9 jv N jw pm hA ct q8=> ?_;refine jG q8 λoc an od jx D=> ?_;dsimp only at hc;rw [if_neg (by rw [D.lam];decide)] at hc;obtain⟨bh,u,nσ,E,hb⟩:=hc;refine aw S.F λm F em=> ?_;refine jG O.base.T λpp jY mg mb T=> ?_;refine ff (id F.ns) λoL kt ku dM iB rL=> ?_;have vl:vs.length=Q.jf:=by rw [<-bh];exact(b9.length va).symm
   have X:=O.base.X.keeps F.keep;refine e_ ?_;refine NF (by have:=O.room.1;exact Fl this) (X _ _ D.look) rfl D.co D.gen rfl (Ox X D.code) ?_;rw [D.bind vs vl];refine bt ?_
   have hz:((Q.bA.slots.map (·.1)).zip vs).map (·.1)=(Q.bA.slots.map (·.1)).take vs.length:=by
    exact GM ..
   have W:(((Q.bA.slots.map (·.1)).zip vs).map (·.1)).Nodup:=by rw [hz];exact D.cP.sublist (List.take_sublist ..)
   have aqL:∀(i:Nat) (y:ax) (b:Bool),Q.bA.slots[i]? =some (y,b)->i<vs.length->∃v,vs[i]? =some v/\((Q.bA.slots.map (·.1)).zip vs)[i]? =some (y,v):=by
    intro i y b h1 h2;refine⟨vs[i],bV h2,?_⟩;rw [Oy];exact⟨by rw [cm,h1];rfl,bV h2⟩
   refine aV<|Oz D.kind (λp hp=> ?_) (λd he s1 I=> ?_)
   ·refine a6 λH_ e_=> ?_;obtain⟨i,hi,e⟩:=nT hp;have e:((Q.bA.slots.map (·.1)).zip vs)[i]? =some p:=by rw [bV hi,e]
    rw [Oy,cm] at e;obtain⟨q,q1,q2⟩:=gP.mp e.1;have hk:=D.slots q (cq q1);replace hk:=q2▸hk;refine e_ ?_;induction NQ:q.2 with
    |false=>rw [NQ] at hk;exact .inl hk
    |true=>
     rw [NQ] at hk;exact .inr ⟨hk,Ow _ _ _ (.inl hk)⟩
   ·have rp:=(T.nolimit.keeps F.keep).keeps I.toInCall.keep;refine⟨rp,NE ?_⟩;have tS:d.locals=s.heap.objs.size:=by rw [he];rfl
    have i0:d.scope=Q.bA.scope:=by rw [he];rfl
    have G:d.frame=some d.locals:=by rw [he];rfl
    have xg:∀y,d.kindOf y=Q.bA.scope.names.lookup y:=λy=>by unfold Env.kindOf;rw [i0]
    have fy:cZ (cS c u U.locals oL).adr (H.map (cz (dG u))) vs:=by
     refine cZ.turn (λj i a h1 h2=> ?_) va;rw [sy (λi hi=>by rw [S.len];exact E i hi) (vw h1)];exact h2
    have NR:=b9.length fy
    have NS:∀(i:Nat) (y:ax) (b:Bool),Q.bA.slots[i]? =some (y,b)->((H.map (cz (dG u)))[i]?).getD .aR= .aR\/ ∃v,((Q.bA.slots.map (·.1)).zip vs)[i]? =some (y,v)/\a5 (cS c u U.locals oL).adr (((H.map (cz (dG u)))[i]?).getD .aR) v:=by
     intro i y b h;by_cases hi:i<vs.length
     ·refine aw (aqL i y b h hi) λv h1 h2=> ?_;have mH:i<(H.map (cz (dG u))).length:=by rw [NR];exact hi
      refine aw (fy.get i _ (bV mH)) λP h3 h4=> ?_;rw [h1] at h3;obtain rfl:=bl h3;exact .inr (aJ v h2 (by rw [bV mH];exact h4))
     ·rw [hJ (by rw [NR];exact jH hi)];exact .inl rfl
    obtain⟨t,S1⟩:=aam (N:=Q.bA) S E nσ dM (n6 kt ku iB) I tS D.cP (λy hy=>by
      have hk:=D.slots _ hy;obtain⟨a,ha⟩:=Option.isSome_iff_exists.mp (Ow Q.bA.scope.names (s.heap.objs.size+1) [] (.inl hk));exact⟨a,by rw [he];exact ha⟩)
     (λi y h=>(NS i y false h).imp id λ⟨v,h1,h2⟩=>(aJ v (GH i W h1 (by rw [xg];exact D.slots _ (cq h))) h2))
     (λi y h=>(NS i y true h).imp id λ⟨v,h1,h2⟩=>(aJ v (aai i W h1 (by rw [xg];exact D.slots _ (cq h))) h2))
    refine aw O.frames λlf j1 kv=> ?_
    have tT:∀fr∈d::lf,fr.scope.kind≠ .module/\ ∃a,fr.frame=some a/\(a=d.locals\/a∈(U.locals::c.pr.map (·.1))):=by
     intro fr ef;rcases cb.mp ef with rfl|ef
     ·exact⟨by rw [i0,D.kind];decide,_,G,.inl rfl⟩
     ·obtain⟨h1,a,h2,h3⟩:=kv fr ef;exact⟨h1,a,h2,.inr (h3.elim (λq=>by rw [q];exact .head _) (λq=>.tail _ q))⟩
    have lH:(A.deeper d).frames=some (d::lf):=by show A.frames.map (d:: ·)=_;rw [j1];rfl
    have O1:Ok Z (8*n+8) (A.deeper d) d (ei s.heap (cS c u U.locals oL).all) {cS c u U.locals oL with adr:=(cS c u U.locals oL).adr++t}:=by
     have gk:∀b o,h₀.get? b=some o->(ei s.heap (cS c u U.locals oL).all).get? b=some o:=by
      intro b o hb;refine nX _ (F.keep _ _ hb) λq=> ?_
      have:b∈c.all\/b=U.locals:=by
       simp only [aP.all,cR] at q⊢;rcases q with q|q|q
       ·refine cV (sz (λi hi=>by rw [S.len];exact E i hi) q) λ_ _ _ h=> ?_;exact .inl (.inl (cq h))
       ·rcases cb.mp q with rfl|q
        ·exact .inr rfl
        ·exact .inl (.inr (.inl q))
       ·exact .inl (.inr (.inr q))
      rcases this with q|rfl
      ·rw [(S.own b q).2] at hb;contradiction
      ·exact absurd (i4 (fz hb) F.above) (mW _)
     refine⟨O.base.keeps gk,(bv ?_ ?_ O.room.2.2),(aJ _ G (.inl rfl)),(aJ _ lH tT),λ_=>⟨lf,lH⟩⟩
     ·have:=O.room.1;show A.depth+1+(8*n+8)+8<t6
      exact FH this
     ·have:=O.room.2.1;exact FJ this
    have tU:c0 Q.bA d:=⟨i0,D.kind,by rw [he];rfl,by rw [he];rfl,λ_=>G,λq hq=>by rw [D.GJ q hq,he];exact⟨rfl,rfl⟩⟩
    have CV:(g8 u J).length=u.length:=by simp [g8]
    have C:=hb;unfold fE at C;haveI C:=CV▸C;have aqM:(cS c u U.locals oL).adr<+:(cS c u U.locals oL).adr++t:=⟨t,rfl⟩
    have aqN:∀{c2:aP},dC (cS c u U.locals oL).adr {cS c u U.locals oL with adr:=(cS c u U.locals oL).adr++t} c2->dC (cS c u U.locals oL).adr (cS c u U.locals oL) c2:=λw=>⟨w.pin,w.pr,w.aK⟩
    have bW:∀(r:aa) (v:ai) (cX:List aa) (c2:aP) (z:ae) (s2:al),(∃l:List Nat,l.Nodup/\(∀j∈l,u.length <= j/\j<z.length)/\k (cz (cY u l J.length) r) (c5 u l J z))->
      St Z Q.bA d (ei s.heap (cS c u U.locals oL).all) c2 cX z s2->dC (cS c u U.locals oL).adr {cS c u U.locals oL with adr:=(cS c u U.locals oL).adr++t} c2->a5 c2.adr r v->R (.ok (.ret v)) s2:=by
     intro r v cX c2 z s2 bC g w hv;refine cU bC λl nτ K hk=> ?_;refine iG (GL S E nσ dM g (aqN w) K nτ) λc3 S3 E3 V3 _=> ?_;exact hR v _ c3 _ s2 hk S3 E3 (V3 r v hv)
    refine D.sim n (az ie n) B C0 (A.deeper d) d _ s1 _ (cS c u U.locals oL).adr _ _ _ _ _ _ _ O1 tU S1 aqM C ?_ ?_ ?_
    ·intro cX c2 z s2 hk g w;exact bW .none .none cX c2 z s2 hk g w rfl
    ·intro v r cX c2 z s2 hk g w hv;exact bW r v cX c2 z s2 hk g w hv
    ·intro e en cX c2 z s2 hk g w fl;refine GF g lH G (λfr ef=> ?_) fl (λc4 s4 S4 a1 a2 a3 C1=> ?_)
     ·obtain⟨h1,a,h2,h3⟩:=tT fr ef;exact⟨h1,a,h2,by rw [w.pr.map];exact h3⟩
     ·refine a6 λH_ e_=> ?_;have w4:dC (cS c u U.locals oL).adr (cS c u U.locals oL) c4:=⟨by rw [a1];exact w.pin,w.pr.trans a2,by rw [a3];exact w.aK⟩
      refine iG (GL (l:=[]) S E nσ dM S4 w4 (λ_ h=>(c6 h).elim) f8) λc3 S3 E3 _ X3=> ?_;refine e_ ?_;exact hX e en c3 _ s4 hk S3 E3 (X3 en e C1)
end
section
variable {Z:bx} {d:Nat} {V:bb}
def ar:ST:=λY J k _ _=>k Y J
theorem jg:eb Z d V ar []:=by
 exact λA U f s c g Y J k r x Q E O L S a b e h i=>CL (e Y c J s b S (.refl a))
def ah (t u:ST):ST:=λY J k r x=>t Y J (hK u k r x) r x
theorem ci {t u:ST} {i:eT} {j:List eT} (h:fC Z d V t i) (C:eb Z d V u j):eb Z d V (ah t u) (i::j):=by
 refine λA U w s c y Y J k r x Q E O L S D F G z B=>aqc (h A U w s c y Y J _ r x _ E O L S D F (λX H I K M R m=> ?_) z B)
 exact C A U w K H y X I k r x Q E (O.fwd m) L R m.pin M (λb f g o p q l=>G b f g o p q (m.trans l))
  (λv a b f g o p q l=>z v a b f g o p q (m.trans l)) (λe n b f g o p q l=>B e n b f g o p q (m.trans l))
def gA:ST:=λ_ _ _ _ _=>False
theorem aao {j:eT}:fC Z d V gA j:=by
 exact λA U b s c e Y J k r x Q E O L S f a g h i=>a.elim
def bj (t:a7):ST:=λY J k r x=>t Y J r x
theorem l6 {t:a7} {e:aH} {g:aX} (h:bF Z d V t e):fC Z d V (bj t) (.Return (some e) g):=by
 exact λA U i s c p Y J k r x Q E O L S f j q l m=>aqe (h A U i s c Y J _ x _ E O L S j (λv a G aj K h b W o=>l v a Y G aj K h b (W.fwd f) o) (λe n G aj K h b W=>m e n Y G aj K h b (W.fwd f)))
def zl:ST:=λY J k r x=>r .none J
theorem aap {a:aX}:fC Z d V zl (.Return none a):=by
 exact λA U g s c h Y J k r x Q E O L S b e i f j=>aqf (f .none .none Y c J s e S (.refl b) rfl)
def bY (t:de) (a b:ST):ST:=λY J k r x=>t Y J (hN a b Y k r x) x
theorem ow {t:de} {a b:ST} {e:aH} {j u:List eT} {T:aX} (h:hT Z d V t e) (X:eb Z d V a j) (hb:eb Z d V b u):fC Z d V (bY t a b) (.If e j u T):=by
 refine λA U y s c B Y J k r x Q E O L S C ht D F z=>aqd (h A U y s c Y J _ x _ E O L S ht (λf H I M N R P=> ?_) (λe n G aj K h S' W=>z e n Y G aj K h S' (W.fwd C)));haveI m:=P.fwd C;cases f
 ·exact hb A U y M H B Y I k r x Q E (O.ext P) L R m.pin N (λg i o p q w l=>D g i o p q w (m.trans l))
   (λv a g i o p q w l=>F v a g i o p q w (m.trans l)) (λe n g i o p q w l=>z e n g i o p q w (m.trans l))
 ·exact X A U y M H B Y I k r x Q E (O.ext P) L R m.pin N (λg i o p q w l=>D g i o p q w (m.trans l))
   (λv a g i o p q w l=>F v a g i o p q w (m.trans l)) (λe n g i o p q w l=>z e n g i o p q w (m.trans l))
def cA (t:a7):ST:=λY J k r x=>t Y J (la k Y) x
theorem aaq {U:be} (L:c0 V U):On U=false:=by
 unfold On;rw [L.iu];rfl
theorem GN {t:a7} {e:aH} {j:aX} (h:bF Z d V t e) (l:∀U,kz e none j.line U=pure false:=by intro _;rfl):fC Z d V (cA t) (.Expr e j):=by
 refine λA U m s c q Y J k r x Q E O L S f o i u p=>aqg (h A U m s c Y J _ x _ E O L S o (λv a G aj K h b W g=> ?_) (λe n G aj K h b W=>p e n Y G aj K h b (W.fwd f))) (aaq L) (l U);induction a with
 |aR=>exact g.elim
 |none=>subst g;exact i Y G aj K h b (W.fwd f)
 |bool=>subst g;exact i Y G aj K h b (W.fwd f)
 |int=>obtain⟨_,rfl⟩:=g;exact i Y G aj K h b (W.fwd f)
 |str=>obtain⟨_,_,_,rfl⟩:=g;exact i Y G aj K h b (W.fwd f)
 |bytes=>obtain⟨_,_,rfl,_⟩:=g;exact i Y G aj K h b (W.fwd f)
 |ref=>exact h.elim
 |dW=>exact h.elim
structure att (V:bb):Prop where
 cP:(V.slots.map (·.1)).Nodup
theorem St.sA {U:be} {h:bk} {c:aP} {Y:List aa} {J:ae} {s:al} (S:St Z V U h c Y J s) (L:c0 V U) (n:(V.slots.map (·.1)).Nodup) {A:cy} {i:Nat} {y:ax} {v:ai} {a:aa}
  (f:V.slots[i]? =some (y,false)) (p:V.scope.names.lookup y=some .local) (t:a5 c.adr a v) {Q:Unit->al->Prop} {E:ai->al->Prop}
  (D:∀K,St Z V U h c (Y.set i a) J K->Q () K):av (aG Z.prog Z.w) A (pE U y v) Q E s:=by
 refine aw S.F λm F em=>aV<|ar2 (iL L p) F.ns (λT w l=>D _ (S.turn (F.set w l) ?_ (λb x o B=>(l.2 b (S.own b x).1).trans B) (bv rfl rfl rfl))) (by rw [L.iu];rfl)
 intro j z b d;haveI H:=em j z b d;induction b with
 |false=>
  refine aw H λC e g=> ?_;clear H;by_cases G:i=j
  ·subst G;replace d:=f▸d;cases d;exact aJ a (by rw [ua ((cF.mp e).1)]) (.inr (aJ v (by simp) t))
  ·refine aJ C (by rw [mS G];exact e) (g.imp id λq=>aw q λu X I=>(aJ u ?_ I))
   haveI M:z≠y:=by
    intro N;obtain rfl:=N;haveI O:(V.slots.map (·.1))[i]? =some z:=by rw [cm,f];rfl
    haveI P:(V.slots.map (·.1))[j]? =some z:=by rw [cm,d];rfl
    obtain⟨x1,x2⟩:=cF.mp O;obtain⟨x3,x4⟩:=cF.mp P;exact G ((mT n).mp (x2.trans x4.symm))
   exact(if_neg M).trans X
 |true=>
  refine dN H λk r e g X=> ?_;clear H;refine dt k r ?_ g X;rw [mS (by(intro R;obtain rfl:=R);replace d:=f▸d;cases d)];exact e
def bc (i:Nat) (t:a7):ST:=λY J k r x=>t Y J (gT k Y i) x
theorem sB {i:Nat} {y:ax} {t:a7} {e:aH} {p f:aX} (h:bF Z d V t e) (j:(V.slots.map (·.1)).Nodup) (m:V.slots[i]? =some (y,false)) (o:V.scope.names.lookup y=some .local)
  (q:∀U,kz e (some (.Name y p)) f.line U=pure false:=by intro _;rfl):fC Z d V (bc i t) (.Assign [.Name y p] e f):=by
 exact λA U u s c D Y J k r x Q E O L S g w z F B=>NA (h A U u s c Y J _ x _ E O L S w (λv a G aj K h b W C=>(b.sA L j m o C λH l=>z _ G aj H h l (W.fwd g))) (λe n G aj K h b W=>B e n Y G aj K h b (W.fwd g))) (q U)
theorem St.setCell {U:be} {h:bk} {c:aP} {Y:List aa} {J:ae} {s:al} (S:St Z V U h c Y J s) (L:c0 V U) {A:cy} {i j:Nat} {y:ax} {v:ai} {a b:aa}
  (q:V.slots[i]? =some (y,true)) (t:V.scope.names.lookup y=some .cell) (u:Y[i]? =some (.ref j)) (w:J[j]? =some (.cell b)) (x:a5 c.adr a v) {Q:Unit->al->Prop} {E:ai->al->Prop}
  (D:∀K,St Z V U h c Y (J.set j (.cell a)) K->Q () K):av (aG Z.prog Z.w) A (pE U y v) Q E s:=by
 refine a6 λz f=>aw S.F λm F em=>dN (em i y true q) λk r g l B=>f ?_;replace g:=u▸g;cases g;refine a6 λz f=>aw (S.here w) λH n p=>aw p λo C G=> ?_;clear p;refine aw G λe hd _=>f ?_;rw [l] at n;obtain rfl:=bl n;exact aV<|wpAny_storeName_cell L.iu (iL L t) B (aJ o C hd) λO I M=>D _ (aw I λo' N d=>(S.upd l M N (aJ (some v) d (.inr (aJ v rfl x))) (bv rfl rfl rfl)))
def qk (i:Nat) (t:a7):ST:=λY J k r x=>t Y J (λa J=>vh Y[i]? λj=>y1 J[j]? λ_=>k Y (J.set j (.cell a))) x
theorem aar {i:Nat} {y:ax} {t:a7} {e:aH} {p g:aX} (h:bF Z d V t e) (o:V.slots[i]? =some (y,true)) (q:V.scope.names.lookup y=some .cell)
  (u:∀U,c0 V U->kz e (some (.Name y p)) g.line U=pure false:=by intro _ _;rfl):fC Z d V (qk i t) (.Assign [.Name y p] e g):=by
 refine λA U w s c M Y J k r x Q E O L S m z B N C=>NA (h A U w s c Y J _ x _ E O L S z (λv a G aj K h f W D=> ?_) (λe n G aj K h f W=>C e n Y G aj K h f (W.fwd m))) (u U L);refine aw (y2 h) λj F h=>aw (Gw h) λb I h=> ?_;exact f.setCell L o q F I D λH l=>B _ G _ H h l (W.fwd m)
def ox (i:Nat) (t:a7) (f:aa->aa->ae->(aa->ae->Prop)->Prop):ST:=λY J k r x=>Gv Y[i]? λn=>t Y J (fN f (gT k Y i) (.int n)) x
def sC (Z:bx) (op:nU) (f:aa->aa->ae->(aa->ae->Prop)->Prop):Prop:=
 ∀(d:Nat) (V:bb) (A:cy) (U:be) (e:bk) (s:al) (c:aP) (Y:List aa) (J:ae) (k:aa->ae->Prop) (Q:ai->al->Prop) (E:ai->al->Prop) (a b:aa) (v u:ai),
  Ok Z d A U e c->c0 V U->St Z V U e c Y J s->a5 c.adr a v->a5 c.adr b u->f a b J k->
  (∀v a G aj K,k a aj->St Z V U e G Y aj K->cW c G->a5 G.adr a v->Q v K)->
  av (aG Z.prog Z.w) A (Op op v u) Q E s
theorem GO {op:nU} {g:Int->Int->((Int->Prop)->Prop)} (h:∀(A:cy) (s:al) (Q E:ai->al->Prop) (a b:Int) (t u:e0) (P:Int->Prop),g a b P->
  (∀n,P n->∀e l,Q (.int n e) {s with toks:=l})->av (aG Z.prog Z.w) A (Op op (.int a t) (.int b u)) Q E s):sC Z op (fD g):=by
 exact λd V A U j s c Y J k Q E a b v u O L S f C M hq=>er f M λa t M=>er C M λb m M=>h A s Q E _ _ _ _ _ M λn i e l=>hq _ (.int n) c J _ i (S.tok _) (.refl c) ⟨_,rfl⟩
theorem aas:sC Z .Add (fD λa b P=>P (a+b)):=GO λ_ _ _ _ _ _ _ _ _ h k=>aV<|iadd_int (k _ h ..)
theorem aat:sC Z .RShift (fD λa b P=>0 <= b/\P (a/2^b.toNat)):=GO λA s Q E a b t u P h k=>by
 haveI e:a.fdiv (2^b.toNat)=a/2^b.toNat:=Os _ (nV (arW ∅));exact aV<|irshift_int h.1 (by rw [e];exact k _ h.2 ..)
theorem aau {i:Nat} {y:ax} {t:a7} {f:aa->aa->ae->(aa->ae->Prop)->Prop} {op:nU} {e:aH} {p N:aX} (h:bF Z d V t e) (M:sC Z op f) (T:(V.slots.map (·.1)).Nodup) (q:V.slots[i]? =some (y,false)) (z:V.scope.names.lookup y=some .local):
  fC Z d V (ox i t f) (.AugAssign (.Name y p) op e N):=by
 intro A U B s c bq Y J k r x Q E O L S D j X hr hx;refine aw (Y6 j) λn hn j=> ?_;refine a6 λH_ e_=>aw S.F λm F em=>aw (em i y false q) λa' I g=>e_ ?_;rw [hn] at I;obtain rfl:=bl I;rcases g with g| ⟨v,g,va⟩
 ·contradiction
 exact aqh (aV<|xy L.iu (iL L z) F.ns g (h A U B s c Y J _ x _ E O L S j (λu b c₁ ca s₁ h₁ R P C=>(M d V A U B s₁ c₁ Y ca _ _ E (.int n) b v u (O.ext P) L R (P.hQ va) C h₁ λw a c₂ cE s₂ h₂ S₂ e₂ o=>S₂.sA L T q z o λH l=>X _ c₂ cE H h₂ l ((P.trans e₂).fwd D))) (λe n G aj K h S' W=>hx e n Y G aj K h S' (W.fwd D))))
end
section
variable {Z:bx} {d:Nat} {V:bb}
abbrev e8:=List aa->ae->(aa->ae->Prop)->Prop
def fY (Z:bx) (f:ai) (B:e8):Prop:=
 ∀(d:Nat) (V:bb) (A:cy) (U:be) (b:bk) (s:al) (c:aP) (Y:List aa) (J:ae) (k:aa->ae->Prop) (Q:ai->al->Prop) (E:ai->al->Prop) (H:List aa) (e:List ai),
  Ok Z d A U b c->c0 V U->St Z V U b c Y J s->cZ c.adr H e->B H J k->
  (∀v a G aj K,k a aj->St Z V U b G Y aj K->cW c G->a5 G.adr a v->Q v K)->
  av (aG Z.prog Z.w) A (hG f e) Q E s
def bQ (B:e8) (a:LT):a7:=λY J k x=>a Y J (ga B k) x
theorem ql {A:cy} {U:be} {a:bk} {c:aP} {Y:List aa} {J:ae} {s:al} {y:ax} {p:aX} {v:ai} {Q:ai->al->Prop} {E:ai->al->Prop} (O:Ok Z d A U a c) (L:c0 V U) (S:St Z V U a c Y J s)
  (b:fL Z.K eU y=some none) (f:nZ y=some v) (g:y≠ "__name__") (i:V.scope.names.lookup y=some .globalImplicit) (j:(y==("__debug__" :ax))=false) (h:Q v s):
  av (aG Z.prog Z.w) A (bM (.Name y p) U) Q E s:=by
 exact a6 λl k=>aw S.F λm F e=>jG O.base.T λn o q mb T=>k (aV<|Name_function_global L.iu (iL L i) (loadGlobal_builtin (by rw [L.globals];exact T.g.keeps F.keep) (mg_none_of O.base.X T.g b) (by rw [L.builtins];exact T.b.keeps F.keep) ((T.builtins y g).trans f) h) j)
theorem GP {B:e8} {b:LT} {y:ax} {v:ai} {D:List aH} {p e:aX} (i:iv Z d V b D) (f:fY Z v B)
  (j:fL Z.K eU y=some none) (l:nZ y=some v) (m:V.scope.names.lookup y=some .globalImplicit) (n:y≠ "__name__" :=by decide) (o:(y==("__debug__" :ax))=false:=by decide) (q:D.all gn=true:=by rfl)
  (r:∀h:bk,True->∃k,(k=Keeper.frame\/k=rA\/k=rB)/\ik (aG Z.prog Z.w) h (pH v) k:=by intro _ _;exact⟨.machine,.inr (.inl rfl),.now⟩):
  bF Z d V (bQ B b) (.Call (.Name y p) D [] e):=by
 exact λA U g s c Y J k x Q E O L S t hq u=>mA (ql O L S j l n m o (kc q r (i A U g s c Y J _ x _ E e O L S t (λw H z C F I R P M=>⟨trivial,f d V A U g F z Y C k Q E H w (O.ext P) L R M I (λv a G aj K h N W=>hq v a G aj K h N (P.trans W))⟩) u)))
def eo {d:Type} (l:List d) (i:Int):Option d:=if 0 <= i then l[i.toNat]? else if-(l.length:Int) <= i then l[(i+l.length).toNat]? else none
theorem vz {d:Type} {l:List d} {i:Int} {v:d} (h:eo l i=some v) (c:l.length <= 16777216): -(2^63) <= i/\i<2^63/\ ∃j,nP i l.length=some j/\l[j]? =some v/\j<l.length:=by
 unfold eo at h;unfold nP;split at h
 ·rename_i N;obtain⟨a,e⟩:=cF.mp h;haveI b:¬i<0:=m9 N;refine⟨EK N,VF (bp _) a c,i.toNat,?_,h,a⟩;haveI f:i<l.length:=Fd (bp _) a;simp [b,N,f]
 ·split at h
  ·rename_i N a;obtain⟨e,f⟩:=cF.mp h;haveI b:i<0:=yr N;refine⟨VO a c,RK N,(i+l.length).toNat,?_,h,e⟩;haveI g:0 <= i+l.length:=Ur a;haveI k:i+l.length<l.length:=Ut N;simp [b,g,k]
  ·contradiction
section
variable {U:Env} {h₀:Heap} {c:aP} {Y:List aa} {J:ae} {s:Shared} {n:Nat} {g:Addr} {G:Prop}
theorem vA {l t:List aa->Prop} {b z:List Int->Prop} (S:St Z V U h₀ c Y J s) (v:c.adr[n]? =some g) (h:qd l t b z J[n]?)
  (a:∀x j m,s.heap.get? g=some (listOf j.toArray m)->cZ c.adr x j->l x->G) (f:∀x j m,s.heap.get? g=some {cls:=.type "tuple",data:=.seq j.toArray m}->cZ c.adr x j->t x->G)
  (d:∀y,s.heap.get? g=some (baObj y)->b (dI y)->G) (i:∀x j m,s.heap.get? g=some (listOf j.toArray m)->cZ c.adr (x.map .int) j->z x->G):G:=by
 induction e:J[n]? with
 |none=>rw [e] at h;exact h.elim
 |some o=>
  rw [e] at h;refine aw (S.here e) λC r u=>aw u λo' q k=> ?_;clear u;rw [v] at r;obtain rfl:=bl r;induction o with
  |list x=>obtain⟨j,m,rfl,p⟩:=k;exact a _ _ _ q p h
  |tup x=>obtain⟨j,m,rfl,p⟩:=k;exact f _ _ _ q p h
  |cv x=>(refine dN k λy _ w A B=> ?_;clear k;obtain rfl:=w;obtain rfl:=A;obtain rfl:=B);exact d _ q h
  |fB x _=>obtain⟨rfl,j,m,rfl,p⟩:=k;exact i _ _ _ q (p.mono λ_ _ y=>a5.mono (λ_ _ h=>by contradiction) y) h
  |_=>exact h.elim
theorem sD {f:List aa->Prop} (S:St Z V U h₀ c Y J s) (j:c.adr[n]? =some g) (h:oj f J[n]?) (K:∀x a b,J[n]? =some (.list x)->s.heap.get? g=some (listOf a.toArray b)->cZ c.adr x a->f x->G):G:=by
 induction e:J[n]? with
 |none=>rw [e] at h;exact h.elim
 |some o=>
  rw [e] at h;refine aw (S.here e) λp d i=>aw i λo' l k=> ?_;clear i;rw [j] at d;obtain rfl:=bl d;induction o with
  |list x=>obtain⟨a,b,rfl,m⟩:=k;exact K _ _ _ e l m h
  |_=>exact h.elim
end
def zm (f:List Int->Prop) (o:Option aB):Prop:=match o with
 |some (.set x)=>f x
 |_=>False
def zn (f:List (Int×Int)->Prop) (o:Option aB):Prop:=match o with
 |some (.dict x)=>f x
 |_=>False
theorem GQ {f:List Int->Prop} {o:Option aB} {G:Prop} (h:zm f o) (K:∀x,o=some (.set x)->f x->G):G:=by
 induction o with
 |none=>exact h.elim
 |some o=>cases o<;>first|exact h.elim|exact K _ rfl h
theorem GR {f:List (Int×Int)->Prop} {o:Option aB} {G:Prop} (h:zn f o) (K:∀x,o=some (.dict x)->f x->G):G:=by
 induction o with
 |none=>exact h.elim
 |some o=>cases o<;>first|exact h.elim|exact K _ rfl h
@[reducible] def iM (f:Nat->List aa->Prop) (J:ae) (a:aa):Prop:=cp no no (λn=>oj (f n) J[n]?) a
@[elab_as_elim] theorem jh {U:be} {i:bk} {c:aP} {Y:List aa} {J:ae} {s:al} {f:Nat->List aa->Prop} {a:aa} {v:ai} {P:ai->Prop} (S:St Z V U i c Y J s) (j:a5 c.adr a v) (h:iM f J a)
  (K:∀n g x b d,c.adr[n]? =some g->s.heap.get? g=some (listOf b.toArray d)->cZ c.adr x b->f n x->P (.ref g)):P v:=
 kF j h λn g e h=>sD S e h λx b d _=>K n g x b d e
def vB (f:Prop) (a:aa):Prop:=match a with
 | .str 6=>f
 |_=>False
theorem GS {f:Prop} {a:aa} (h:vB f a):a= .str 6/\f:=by
 unfold vB at h;split at h
 ·exact⟨rfl,h⟩
 ·exact h.elim
abbrev qm:=aa->aa->ae->(aa->ae->Prop)->Prop
def mD (v:aa) (J:ae) (k:aa->ae->Prop):Prop:=match v with
 | .aR=>False
 | .dW=>False
 |v=>k v J
theorem sE {v:aa} {J:ae} {k:aa->ae->Prop} (h:mD v J k):k v J:=by
 cases v<;>first|exact h|exact h.elim
@[reducible] def GU (i:Int) (J:ae) (k:aa->ae->Prop) (l:List Int):Prop:=l.length <= 16777216/\jd (eo l i) λv=>k (.int v) J
@[reducible] def GV (i:Int) (J:ae) (k:aa->ae->Prop) (l:List aa):Prop:=l.length <= 16777216/\jd (eo l i) λv=>mD v J k
def bT:qm:=λa b J k=>cp (λi=>cp no (GU i J k) (λn=>qd (GV i J k) (GV i J k) (GU i J k) (λl=>l.length <= 16777216/\jd (eo (l.map .int) i) λv=>mD v J k) J[n]?) a) no no b
def GW (Z:bx) (f:qm):Prop:=
 ∀(d:Nat) (V:bb) (A:cy) (U:be) (e:bk) (s:al) (c:aP) (Y:List aa) (J:ae) (k:aa->ae->Prop) (Q:ai->al->Prop) (E:ai->al->Prop) (a b:aa) (v u:ai),
  Ok Z d A U e c->c0 V U->St Z V U e c Y J s->a5 c.adr a v->a5 c.adr b u->f a b J k->
  (∀v a G aj K,k a aj->St Z V U e G Y aj K->cW c G->a5 G.adr a v->Q v K)->
  ItemOn (aG Z.prog Z.w) A E v u Q s
theorem GX {b:Array UInt8} {j:Nat} {v:Int} (h:(dI b)[j]? =some v):∃c,b[j]? =some c/\(c.toNat:Int)=v:=by
 unfold dI at h;rw [cm,Array.getElem?_toList] at h;exact gP.mp h
theorem ke (b:Array UInt8):(dI b).length=b.size:=ar3 b
theorem aav:GW Z bT:=by
 intro d V A U h₀ s c Y J k Q E a b v u O L S va C M hq;refine er C M λi f M=> ?_;refine gz va M (λ_ _ h=>h.elim) (λl b t e M=> ?_) λn g ha M=> ?_
 ·refine a6 λH_ P=> ?_;obtain⟨x,M⟩:=M;obtain⟨v,r,M⟩:=k8 M;refine dp (vz r x) λH I q2=> ?_;refine cU q2 λj q hl T=> ?_;clear q2;subst e;obtain⟨W,X,e2⟩:=GX hl;rw [ke] at q x;refine P ?_;refine⟨"bytes",_,DC.lookup,mQ ..,getItem_gives (mQ s _ t) ∅ DC ar4 (ar5 ..) (gives_bytes_getitem _ i t f W ?_ ?_) ?_⟩
  ·simp only [t2,eC,decide_eq_true_eq];exact FG H I
  ·rw [q];exact X
  ·subst e2;exact hq _ (.int _) c J _ M (S.tok _) (.refl c) ⟨_,rfl⟩
 ·have m:∀{l:List aa} {G:List ai} {K:Nat} {v:aa},s.heap.get? g=some (listOf G.toArray K)->cZ c.adr l G->l.length <= 16777216->eo l i=some v->k v J->ItemOn (aG Z.prog Z.w) A E (.ref g) (.int i f) Q s:=λ{l G K v} z B x r M=>by
   refine dp (vz r x) λH I ch=> ?_;refine cU ch λj q p T=> ?_;refine aw (b9.get B j v p) λw R o=> ?_;have bh:=b9.length B;have D:s.heap.IsList g G.toArray:=⟨_,z,rfl,K,rfl⟩
   have bW:=hq w v c J s M S (.refl c) o;refine⟨"list",_,OA,D.typeIs,?_⟩;unfold eo at r;split at r
   ·rename_i N;refine wpAny_getItem_list D N I ?_ bW
    have:j=i.toNat:=by
     unfold nP at q;have hn:¬i<0:=m9 N;simp only [hn,if_false] at q;split at q
     ·obtain rfl:=bl q;rfl
     ·contradiction
    subst this;simpa using R
   ·rename_i N;refine wpAny_getItem_list_neg D (yr N) ?_ H ?_ bW
    ·split at r
     ·simp;exact Wi (by assumption) bh
     ·contradiction
    ·have:j=(i+G.length).toNat:=by
      unfold nP at q;have hn:i<0:=yr N;simp only [hn,if_true] at q;split at q
      ·obtain rfl:=bl q;rw [bh]
      ·contradiction
     subst this;simpa using R
  refine vA S ha M (λl G K z B M=> ?_) (λl G K z B M=> ?_) (λy z M=> ?_) λl G K z B M=> ?_
  ·obtain⟨x,M⟩:=M;obtain⟨v,r,M⟩:=k8 M;exact m z B x r (sE M)
  ·refine a6 λH_ P=> ?_;obtain⟨x,M⟩:=M;obtain⟨v,r,M⟩:=k8 M;refine dp (vz r x) λH I ee=> ?_;refine cU ee λj q p T=> ?_;refine aw (b9.get B j v p) λw R o=> ?_;have it:IsTup s.heap g G.toArray:=⟨_,z,rfl,K,rfl⟩
   refine P ?_;refine⟨"tuple",_,F.slot_tuple_getitem.lookup,it.typeIs,getItem_tuple it H I ?_ (by simpa using R) (hq w v c J s (sE M) S (.refl c) o)⟩;rw [b9.length B] at q;simpa using q
  ·refine a6 λH_ P=> ?_;obtain⟨x,M⟩:=M;obtain⟨v,r,M⟩:=k8 M;obtain⟨H,I,j,q,p,T⟩:=vz r x;obtain⟨W,X,e2⟩:=GX p;rw [ke] at q x;refine P ?_;refine⟨"bytearray",_,BA.slot_get.lookup,jc z,OB (jc z) ∅ BA.slot_get BA.entry_get (BA.args_get ..) (YI g _ i f j W H I q X) ⟨z,?_⟩⟩;subst e2;exact hq _ (.int _) c J _ M (S.tok _) (.refl c) ⟨_,rfl⟩
  ·obtain⟨x,M⟩:=M;obtain⟨v,r,M⟩:=k8 M;exact m z B (by rw [bz];exact x) r (sE M)
def bu (t u:a7) (f:qm):a7:=λY J k x=>t Y J (ek u Y x (fN f k)) x
theorem zo {M:d4} {w:dU} {A:cy} {E:ai->al->Prop} {s:al} {U:be} {a b:aH} {g:aX} {Q:ai->al->Prop} {c:ai->ai->List ai}
  (h:av (aG M w) A (bM a U) (λo f=>av (aG M w) A (bM b U) (λi d=>ItemOn (aG M w) A E o i Q d) E f) E s)
  (k:∀o i,xD b false o i=xr (c o i) (DD o i)):
  av (aG M w) A (bM (.Subscript a b g) U) Q E s:=by
 refine aC (b0 h (λo f l=>aC (dJ (b0 l (λi d m=>aC (c9 ?_)) λ_ _ x=>x)))
  λ_ _ x=>x)
 refine a6 λt n=>dN m λT j p y q=>n (aC (dO (mP y p ?_)))
 haveI e:av (aG M w) A (xD b false o i) (λr I=>av (aG M w) A (Dp a o r>>=λ_=>pure r) Q E I) E d:=by
  rw [k];exact Ny (b0 (aV q) (λr I X=>dO (arN (bt X))) λ_ _ x=>x)
 first
  |exact bt (aC e)
  |exact aC (bt (aC e))
  |exact aC e
theorem aaw {t u:a7} {f:qm} {e D:aH} {r:aX} (h:bF Z d V t e) (w:bF Z d V u D) (M:GW Z f) (y:∀o i,xD D false o i=xr [o,i] (DD o i):=by intro _ _;rfl):bF Z d V (bu t u f) (.Subscript e D r):=by
 exact λA U j s c Y J k x Q E O L S z hq q=>zo (h A U j s c Y J _ x _ E O L S z (λv a B C F H R P m=>(w A U j F B Y C _ x _ E (O.ext P) L R H (λu b I N T X S₂ l g=>(M d V A U j T I Y N k Q E a b v u ((O.ext P).ext l) L S₂ (l.hQ m) g X (λv a G aj K h p W=>hq v a G aj K h p ((P.trans l).trans W)))) (λe n G aj K h p W=>q e n G aj K h p (P.trans W)))) q) y
@[reducible] def qn {d:Type} (J:ae) (k:aa->ae->Prop) (l:List d):Prop:=l.length <= 16777216/\k (.int l.length) J
def dD:e8:=λH J k=>ng (cp no (qn J k) λn=>qd (qn J k) no (qn J k) (qn J k) J[n]?) H
theorem aax:fY Z (.builtin "len") dD:=by
 refine λd V A U r s c Y J k Q E H i O L S o M hq=>nh o M λa v o M=>gz o M (λ_ _ h=>h.elim) (λl b t e M=>(aV<|KBw.len_K e (bE M.1 ab) (hq _ (.int _) c J _ M.2 (S.tok _) (.refl c) ⟨_,rfl⟩))) λn g q M=> ?_
 ·have m:∀{l:List aa} {i:List ai} {j:Nat},s.heap.get? g=some (listOf i.toArray j)->cZ c.adr l i->qn J k l->av (aG Z.prog Z.w) A (hG (.builtin "len") [.ref g]) Q E s:=λ{l i j} f B M=>
   aV<|len_list ⟨_,f,rfl,j,rfl⟩ (Qp (b9.length B) M.1) (hq _ (.int l.length) c J _ M.2 (S.tok _) (.refl c) ⟨s.toks+1,by rw [b9.length B];rfl⟩)
  refine vA S q M (λl i j f B M=>m f B M) (λ_ _ _ _ _ h=>h.elim) (λy f M=> ?_) λl i j f B M=>m f B (by unfold qn;rw [bz];exact M);obtain⟨p,M⟩:=M;rw [ke] at p M;exact aV<|YH f p (hq _ (.int _) c J _ M (S.tok _) (.refl c) ⟨_,rfl⟩)
end
section
variable {Z:bx} {d:Nat} {V:bb}
theorem St.oy {U:be} {a:bk} {c:aP} {Y:List aa} {J:ae} {s:al} (S:St Z V U a c Y J s) (o:cj) (t:Nat):St Z V U a c Y J {s with heap:=s.heap.push o,toks:=t}:=
 S.grow (λ_ _ e=>j8 o e) (bv rfl rfl rfl)
theorem St.push {U:be} {b:bk} {c:aP} {Y:List aa} {J:ae} {s:al} (S:St Z V U b c Y J s) {o:cj} {ao:aB} (d:∀T,(∀(i:Nat) (a:aq),c.adr[i]? =some a->T[i]? =some a)->gy Z T ao o) (t:Nat)
  (f:o.isFreed=false:=by rfl):
  St Z V U b {c with adr:=c.adr++[s.heap.objs.size]} Y (J++[ao]) {s with heap:=s.heap.push o,toks:=t}:=
 S.alloc (λ_ _ e=>j8 o e) (by
  induction h:s.heap.get? s.heap.objs.size with
  |none=>rfl
  |some o'=>exact absurd (fz h) (mW _)) (rE _ f) (d _ (fi ⟨_,rfl⟩)) (bv rfl rfl rfl)
abbrev oz:=List aa->ae->(Option Int->ae->Prop)->bn->Prop
def iN:oz:=λ_ J k _=>k none J
@[reducible] def GY (k:Option Int->ae->Prop) (a:aa) (J:ae):Prop:=cp (λi=>k (some i) J) no no a
def fF (t:a7):oz:=λY J k x=>t Y J (GY k) x
def sF (Z:bx) (d:Nat) (V:bb) (T:oz) (e:Option aH):Prop:=
 ∀(A:cy) (U:be) (a:bk) (s:al) (c:aP) (Y:List aa) (J:ae) (k:Option Int->ae->Prop) (x:bn) (Q:ai->al->Prop) (E:ai->al->Prop),
  Ok Z d A U a c->c0 V U->St Z V U a c Y J s->T Y J k x->
  (∀v o G aj K,k o aj->St Z V U a G Y aj K->cW c G->IsPart v o->Q v K)->
  (∀e n G aj K,x n aj->St Z V U a G Y aj K->cW c G->gU Z U.locals a G n e K.heap->E (.ref e) K)->
  av (aG Z.prog Z.w) A (Dn e U) Q E s
theorem aay:sF Z d V iN none:=by
 exact λA U b s c Y J k x Q E O L S a hq e=>bt (hq .none none c J s a S (.refl c) .none)
theorem aaz {t:a7} {e:aH} (h:bF Z d V t e):sF Z d V (fF t) (some e):=by
 exact λA U f s c Y J k x Q E O L S g hq j=>h A U f s c Y J _ x _ E O L S g (λv a l n o b R P m=>(er m b λi t b=>(hq _ _ l n o b R P (.int _ t)))) j
def dq (n:Nat) (i:Int):Nat:=if 0 <= i then min i.toNat n else n-(-i).toNat
theorem zp (n:Nat) (i:Int):clipAt n i=dq n i:=by
 unfold dq;split
 ·rename_i h;obtain⟨p,rfl⟩:=nQ h;exact clipAt_nat n p
 ·rename_i h;obtain⟨p,a⟩:=nQ (show 0 <= -i by exact Rc h);haveI e:i= -p:=Uc a;subst e;rw [clipAt_neg _ _ (by exact R1 h)];exact Tt (ay ..) (bp _) (ay ..)
def dK {d:Type} (l:List d) (z a:Option Int):List d:=
 (l.drop (z.elim 0 (dq l.length))).take (a.elim l.length (dq l.length)-z.elim 0 (dq l.length))
def vC (z b:Option Int) (a:aa) (J:ae) (k:aa->ae->Prop):Prop:=match a with
 | .bytes l=>l.length <= 16777216/\k (.bytes (dK l z b)) J
 | .ref n=>(match J[n]? with
  |some (.list l)=>l.length <= 16777216/\k (.ref J.length) (J++[.list (dK l z b)])
  |some (.cv l)=>l.length <= 16777216/\k (.ref J.length) (J++[.cv (dK l z b)])
  |_=>False)
 |_=>False
theorem aaA {z a:Option Int} {n:Nat} {J:ae} {k:aa->ae->Prop} (h:vC z a (.ref n) J k):
  (∃l,J[n]? =some (.list l)/\l.length <= 16777216/\k (.ref J.length) (J++[.list (dK l z a)]))\/ ∃l,J[n]? =some (.cv l)/\l.length <= 16777216/\k (.ref J.length) (J++[.cv (dK l z a)]):=by
 haveI h:match(motive:=Option aB->Prop) J[n]? with
  |some (.list l)=>l.length <= 16777216/\k (.ref J.length) (J++[.list (dK l z a)])
  |some (.cv l)=>l.length <= 16777216/\k (.ref J.length) (J++[.cv (dK l z a)])
  |_=>False:=h
 induction e:J[n]? with
 |none=>haveI h:=e▸h;exact h.elim
 |some o=>replace h:=e▸h;cases o<;>first|exact h.elim|exact .inl (aJ _ rfl h)|exact .inr (aJ _ rfl h)
@[reducible] def GZ (k:aa->ae->Prop) (a:aa) (l h:Option Int) (J:ae):Prop:=vC l h a J k
@[reducible] def G0 (z b:oz) (Y:List aa) (k:aa->ae->Prop) (x:bn) (a:aa) (J:ae):Prop:=z Y J (ek b Y x (GZ k a)) x
def gB (t:a7) (z a:oz):a7:=λY J k x=>t Y J (G0 z a Y k x) x
theorem b9.cut {d j:Type} {R:d->j->Prop} {l:List d} {r:List j} (h:b9 R l r) (z a:Option Int):b9 R (Mine.dK l z a) (Mine.dK r z a):=by
 unfold Mine.dK;rw [h.length];exact(h.drop _).take _
theorem aaB (b:List ai) (z a:Option Int):OC b.toArray z a none=(dK b z a).toArray:=by
 rw [slicePick_plain];unfold dK;cases z<;>cases a<;>simp [zp]
theorem aaC {t:a7} {z hi:oz} {e:aH} {el eh:Option aH} {p ap:aX} (h:bF Z d V t e) (hl:sF Z d V z el) (hh:sF Z d V hi eh):bF Z d V (gB t z hi) (.Subscript e (.Slice el eh none p) ap):=by
 refine λA U h₀ s c Y J k x Q E O L S ht hq hx=>zo (h A U h₀ s c Y J _ x _ E O L S ht (λv a c₁ ca s₁ h₁ R P m=> ?_) hx) (λ_ _=>rfl);refine CN (hl A U h₀ s₁ c₁ Y ca _ x _ E (O.ext P) L R h₁ (λvl ol c₂ cE s₂ h₂ S₂ e₂ H=> ?_) (λe n G aj K h S' W=>hx e n G aj K h S' (P.trans W)));refine hh A U h₀ s₂ c₂ Y cE _ x _ E ((O.ext P).ext e₂) L S₂ h₂ (λvu ou c₃ rq I X S₃ e₃ i=> ?_) (λe n G aj K h S' W=>hx e n G aj K h S' ((P.trans e₂).trans W));refine bt ?_;have u:=(e₂.trans e₃).hQ m;have pB:=(P.trans e₂).trans e₃;have S₄:=S₃.oy {cls:=.type "slice",data:=.fields #[vl,vu,.none]} I.toks;cases a<;>try exact X.elim
 ·refine cV u λb t q2 e=> ?_;obtain rfl:=q2;obtain⟨hz,M⟩:=X;have j:=by subst e;rw [ke] at hz;exact hz
  refine dt ("bytes") _ DC.lookup (mQ ..) (OB (mQ ..) (rfl) DC ar4 (ar5 ..) (KBc.meets_slice2 b t _ H i) ⟨Heap.IsSliceOf.new ..,?_,λt' k=> ?_⟩)
  ·exact gq (ar6 b ol ou) (j)
  ·refine hq _ (.bytes _) c₃ rq _ M (S₄.tok k) pB (c7 _ _ rfl ?_);rw [ar7 e];unfold dK;cases ol<;>cases ou<;>simp [zp]
 ·refine aw u λg ha ch=> ?_;obtain rfl:=ch;obtain⟨l,tV,hz,M⟩| ⟨l,tV,hz,M⟩:=aaA X
  rotate_left
  ·refine a6 λH_ e_=> ?_;refine aw (S₄.here tV) λw r ee=> ?_;refine aw ee λo ho f=> ?_;clear ee;refine dN f λb n C e q4=> ?_;obtain rfl:=C;obtain rfl:=q4;refine e_ ?_;rw [ha] at r;cases r;have j:=by subst e;rw [ke] at hz;exact hz
   have q:=ho;refine dt ("bytearray") _ BA.slot_get.lookup (jc q) (OB (jc q) (rfl) BA.slot_get BA.entry_get (BA.args_get ..) (YJ b g _ H i) (dd q (Heap.IsSliceOf.new ..) ?_ ?_))
   ·exact gq (ar6 b ol ou) (j)
   ·refine hq _ (.ref rq.length) _ _ _ M (S₄.push (ao:=.cv (dK l ol ou)) (λT hp=>(dt _ 0 rfl ?_ rfl)) I.toks) (pB.trans (.alloc ..)) (a5.last S₄ _);rw [ar7 e];unfold dK;cases ol<;>cases ou<;>simp [zp]
  refine a6 λH_ e_=> ?_;refine aw (S₄.here tV) λw r N=> ?_;refine aw N λo ho F=> ?_;refine jF F λvs q1=> ?_;refine jF q1 λsl aqO=> ?_;obtain⟨rfl,B⟩:=aqO;refine e_ ?_;rw [ha] at r;cases r;have D:ar8 {I.heap.push {cls:=.type "slice",data:=.fields #[vl,vu,.none]} with} g vs.toArray:=⟨_,ho,rfl,sl,rfl⟩
  refine dt ("list") _ OA (ar9 D) ?_;refine asa D (Heap.IsSliceOf.new ..) H i .none ∅ ?_ (by rw [DE];simpa [<-B.length] using hz);rw [aaB];exact hq _ (.ref rq.length) _ _ _ M (S₄.push (ao:=.list (dK l ol ou)) (λT hp=>(c7 (dK vs ol ou) 0 rfl ((B.cut ol ou).mono λ_ _ y=>a5.mono hp y))) I.toks) (pB.trans (.alloc ..)) (a5.last S₄ _)
end
section
variable {d:Type} {M:Model} {A:Around} {E:Value->Shared->Prop} {s:Shared}
theorem gY {c:Bool} {a b:ck d} {Q:d->al->Prop} (e:c=false) (h:av M A b Q E s):av M A (if c=true then a else b) Q E s:=by subst e;exact h
theorem zq {c:Bool} {a b:ck d} {Q:d->al->Prop} (e:c=true) (h:av M A a Q E s):av M A (if c=true then a else b) Q E s:=by subst e;exact h
theorem G1 {c:Prop} [Decidable c] {a b:ck d} {Q:d->al->Prop} (e:¬c) (h:av M A b Q E s):av M A (if c then a else b) Q E s:=by rw [if_neg e];exact h
theorem aaD {c:Prop} [Decidable c] {a b:ck d} {Q:d->al->Prop} (e:c) (h:av M A a Q E s):av M A (if c then a else b) Q E s:=by rw [if_pos e];exact h
theorem gg {j:Type} {m:ck d} {a:d} {f:d->ck j} {Q:j->al->Prop} (b:m=pure a) (h:av M A (f a) Q E s):av M A (m>>=f) Q E s:=aC (CI b h)
theorem NG {b:ai} {T:String} {d:ax} {j:String} {g:List ai} {a:List (ax×ai)} {Q:Option ai->al->Prop} (y:s.TypeIs b T) (h:Slot T d j)
  (e:av M A (hG (.builtin j) (b::g) a) (λv=>Q (some v)) E s):av M A (callSpecial? b d g a) Q E s:=by
 exact dO (mP y h.lookup (dJ (gg (h.bind b) (aC (b0 e (λv K c=>bt c) λ_ _ c=>c)))))
end
section
variable {L:Program} {w:World} {A:Around} {E:Value->Shared->Prop} {s:Shared} {a:Addr} {b:Array UInt8} {R:Result->Shared->Prop}
theorem NH {j:String} {g:Args} {b:f6} (hq:plainId j=true) (c:gS (.builtin j g)=true) (d:mN mO j=some b)
  (h:av (aG L w) A.in1 (Oh j g) (λ_ a=>av (aG L w) A.in1 (b g)
   (λi K=>match i with| .done f=>R (.ok f) K| .again G=>G.quiet=true/\gS G=true/\dS (aG L w) A G R K) (λe K=>R (.error e) K) a)
   (λe K=>R (.error e) K) s):dS (aG L w) A (.call (.builtin j) g) R s:=by
 refine jW (aC (b0 h (λ_ a k=>bt ⟨Di hq g,c,CO d ?_⟩) λ_ _ l=>l));rw [arE hq g];exact k
theorem zr {j:String} {H:Args} (h:sg.contains j=false):gS (.builtin j H)=true:=by show(!sg.contains j)=true;rw [h];rfl
theorem G2 {T j f:String} {d:f6} {g:List ai} {Q Q₁:ai->al->Prop} (b:TypeCalled T j f) (h:∀H,gS (.builtin f H)=true)
  (M:checkTypeCall T ⟨g,[]⟩=pure ()) (k:mN mO f=some d)
  (I:PySem.codeAny (aG L w) A.in1 (.call (.builtin j) ⟨.type T::g,[]⟩) (wants Q₁ E) s)
  (l:∀a o,Q₁ a o->o.TypeIs a T/\lL f ⟨a::g,[]⟩/\
   av (aG L w) A.in1.in1 (d ⟨a::g,[]⟩) (λq K=>q= .done (.ret .none)/\Q a K) E o):
  av (aG L w) A (hG (.type T) g) Q E s:=by
 refine pU b.mro λc i m=>kT (jW (bt ⟨DF _ (by decide+kernel),rfl,CO F.entry_type_call ?_⟩));dsimp only;refine gY b.notType (gY b.canCreate (gg M (gg m (gg b.made (aC (bt (aC (dJ (kT (CH (PySem.codeAny_mono I λr o p=> ?_)))))))))));induction r with
 |error e=>exact p
 |ok t=>
  induction t with
  |ret a=>
   refine dp (l _ _ p) λy n u=>dO (arB y b.sub (aC (dJ (NG y b.init (kT (NH b.init.plain (h _) k (aV (b.init.check _ _ _ _ _ _ _ _ y n ?_))))))));refine b0 u (λq K v=> ?_) λ_ _ x=>x;obtain⟨rfl,hq⟩:=v;exact bt hq
  |_=>exact p.elim
theorem lm {h:bk}:h.get? h.objs.size=none:=by
 induction e:h.get? h.objs.size with
 |none=>rfl
 |some o'=>exact absurd (fz e) (mW _)
theorem aaE {n:Int} {t:e0} {Q:ai->al->Prop} (N:0 <= n) (f:n <= 16777216)
  (hq:∀h k,(∀b o,s.heap.get? b=some o->h.get? b=some o)->h.get? s.heap.objs.size=some (baObj (Oi n.toNat 0))->Q (.ref s.heap.objs.size) {s with heap:=h,toks:=k}):
  av (aG L w) A (hG (.type "bytearray") [.int n t]) Q E s:=by
 refine G2 (Q₁:=λa j=>a= .ref s.heap.objs.size/\j={s with heap:=s.heap.push (baObj #[])}) BA.called (λ_=>zr (by decide+kernel)) (BA.typeCall _) BA.Go (code_ba_new _ ⟨rfl,rfl⟩) λa j m=> ?_;obtain⟨rfl,rfl⟩:=m;have g:(s.heap.push (baObj #[])).get? s.heap.objs.size=some (baObj #[]):=rE _ rfl;refine⟨(aJ _ g rfl),BA.Gp ..,?_⟩;refine dO (yZ g ?_);refine gg (BA.Gq _) ?_;refine gg rfl ?_;refine gg rfl ?_;refine aC (aC (Gs ?_));refine aC ?_;refine dO (pD g ?_);refine bt (bt ?_);refine dO (qa g (eF _) λc l p=> ?_);refine aC (gg rfl (bt ?_));refine aC (gY rfl (gY rfl (bt ?_)));refine dO (mP (typeIs_int _ n t) F.slot_int_index.lookup ?_);refine aC (CJ (CI rfl ?_));refine gY (by simp only [t2,arC,eC,decide_eq_true_eq];exact FA N f) ?_;refine G1 (m9 N) ?_;refine gY (by rw [beq_eq_false_iff_ne];exact TA f) ?_;refine gY (by unfold arD;simp;exact uN f) ?_
 have d:∀b o,s.heap.get? b=some o->c.get? b=some o:=λb o e=>
  (p.2 b (λq=>by rw [q,lm] at e;contradiction)).trans (j8 _ e)
 by_cases i:n>0
 ·refine aaD i ?_;refine dO (qa l (by simp;exact uN f) λr W u=> ?_);refine bt ⟨rfl,hq r _ (λb o e=>(u.2 b (λq=>by rw [q,lm] at e;contradiction)).trans (d b o e)) W⟩
 ·refine G1 i ?_;refine bt ⟨rfl,hq c _ d ?_⟩;have:n.toNat=0:=R3 (bp _) i;rw [this];exact l
theorem G3 {t:e0} {Q:ai->al->Prop} (i:b.size <= 16777216)
  (hq:∀g k,(∀b o,s.heap.get? b=some o->g.get? b=some o)->g.get? s.heap.objs.size=some (baObj b)->Q (.ref s.heap.objs.size) {s with heap:=g,toks:=k}):
  av (aG L w) A (hG (.type "bytearray") [.bytes b t]) Q E s:=by
 refine G2 (Q₁:=λa h=>a= .ref s.heap.objs.size/\h={s with heap:=s.heap.push (baObj #[])}) BA.called (λ_=>zr (by decide+kernel)) (BA.typeCall _) BA.Go (code_ba_new _ ⟨rfl,rfl⟩) λa h j=>fp j λl m=> ?_;obtain rfl:=l;obtain rfl:=m;haveI f:(s.heap.push (baObj #[])).get? s.heap.objs.size=some (baObj #[]):=rE _ rfl;refine⟨(aJ _ f rfl),BA.Gp ..,dO (yZ f (gg (BA.Gq _) (gg rfl (gg rfl (aC (aC (Gs (aC (dO (pD f (bt (bt (dO (qa f (eF _) λc n p=>(aC (gg rfl (bt (aC (gY rfl (gY rfl (bt (dO (mP (mQ _ b t) BA.Gm (gg (KBy.buffer_eq) (aC (rk ?_))))))))))))))))))))))))))⟩
 haveI d:∀b o,s.heap.get? b=some o->c.get? b=some o:=λb o e=>
  (p.2 b (λq=>by rw [q,lm] at e;contradiction)).trans (j8 _ e)
 exact dO (qa n i λr W u=>(bt ⟨rfl,hq r _ (λb o e=>(u.2 b (λq=>by rw [q,lm] at e;contradiction)).trans (d b o e)) W⟩))
end
section
variable {Z:bx} {d:Nat} {V:bb}
theorem sG {T:List aq} {I:List Int}:∀{a:List ai},cZ T (I.map .int) a->pN a I:=by
 induction I with
 |nil=>
  intro _ h;cases h;exact .nil
 |cons n I B=>
  intro _ h;cases h with
  |cons b c=>
   obtain⟨t,rfl⟩:=b;exact .cons n t (B c)
theorem G4 {T:List aq} {I:List Int} {a:List ai} (h:pN a I):cZ T (I.map .int) a:=by
 induction h with
 |nil=>exact .nil
 |cons n t _ B=>exact .cons ⟨t,rfl⟩ B
theorem G5 (n:Nat):dI (Oi n 0)=eg n 0:=by
 simp [dI]
def iw:e8:=λH J k=>ng (cp (λn=>0 <= n/\n <= 16777216/\k (.bytes (eg n.toNat 0)) J) (λl=>k (.bytes l) J) λn=>
 qd (λl=>∃I:List Int,l=I.map .int/\I.length <= 16777216/\(∀i∈I,0 <= i/\i<256)/\k (.bytes I) J) no (λl=>l.length <= 16777216/\k (.bytes l) J) no J[n]?) H
theorem aaH:fY Z (.type "bytes") iw:=by
 refine λd V A U F s c Y J k Q E H p O L S i M hq=>nh i M λa v i M=>gz i M (λn t M=>(dp M λN q M=>aV (YU N q λr k=>hq _ (.bytes _) c J _ M (S.tok k) (.refl c) (c7 _ _ rfl (G5 _))))) (λl b t e M=>(aV (YV (hq _ (.bytes _) c J _ M S (.refl c) (c7 _ _ rfl e))))) λn g u M=> ?_
 ·refine vA S u M (λl p w j B M=> ?_) (λ_ _ _ _ _ h=>h.elim) (λy j M=> ?_) (λ_ _ _ _ _ h=>h.elim)
  ·refine a6 λG x=>cU M λI z f C=> ?_;obtain rfl:=z;obtain⟨m,M⟩:=C;haveI o:=sG B;exact x (aV (call_bytes_ints ⟨_,j,rfl,w,rfl⟩ o m (by rw [o.length];exact f) O.room.2.2 λK t k D=>(hq _ (.bytes I) c J _ M (S.grow D (bv rfl rfl rfl)) (.refl c) (c7 _ _ rfl (KBa.ints_make m)))))
  ·obtain⟨f,M⟩:=M;rw [ke] at f;exact aV (YW j f λr k=>hq _ (.bytes _) c J _ M (S.tok k) (.refl c) (c7 _ _ rfl rfl))
def zt:e8:=λH J k=>ng (cp (λn=>0 <= n/\n <= 16777216/\k (.ref J.length) (J++[.cv (eg n.toNat 0)])) (λl=>l.length <= 16777216/\k (.ref J.length) (J++[.cv l])) no) H
theorem aaI:fY Z (.type "bytearray") zt:=by
 refine λd V A U p s c Y J k Q E H q O L S f M hq=>nh f M λa v f M=>gz f M (λn t M=> ?_) (λl b t e M=> ?_) λ_ _ _ h=>h.elim
 ·obtain⟨N,j,M⟩:=M;exact aaE N j λm k g i=>hq _ _ _ _ _ M (S.alloc g lm i (dt _ 0 rfl (G5 _) rfl) ⟨rfl,rfl,rfl⟩) (.alloc ..) (a5.last S _)
 ·obtain⟨o,M⟩:=M;exact G3 (by rw [<-ke,e];exact o) λm k g i=>hq _ _ _ _ _ M (S.alloc g lm i (dt _ 0 rfl e rfl) ⟨rfl,rfl,rfl⟩) (.alloc ..) (a5.last S _)
def vD (f:Int->Int->Prop):List aa->Prop:=om λa b=>cp (λa=>cp (f a) no no b) no no a
@[elab_as_elim] theorem zu {T:List aq} {f:Int->Int->Prop} {H:List aa} {d:List ai} {P:List ai->Prop} (c:cZ T H d) (h:vD f H) (K:∀a b t e,f a b->P [.int a t,.int b e]):P d:=
 qe c h λ_ _ v u c g h=>er c h λ_ _ h=>er g h λ_ _=>K _ _ _ _
def sH:e8:=λH J k=>vD (λa b=>k (.int (max a b)) J) H
theorem aaJ:fY Z (.builtin "max") sH:=by
 refine λd V A U h s c Y J k Q E H i O L S f M hq=>zu f M λa b t j M=>aV (max_two_ints O.room.2.2 λl m g=>hq _ (.int (max a b)) c J _ M (S.grow g (bv rfl rfl rfl)) (.refl c) ?_);by_cases e:b>a
 ·rw [if_pos e,OD (by exact QQ e)];exact⟨_,rfl⟩
 ·rw [if_neg e,Int.max_eq_left (by exact Q9 e)];exact⟨_,rfl⟩
def G6:e8:=λH J k=>vD (λa b=>k (.int (min a b)) J) H
theorem aaK:fY Z (.builtin "min") G6:=by
 refine λd V A U h s c Y J k Q E H i O L S f M hq=>zu f M λa b t j M=>aV (min_two_ints O.room.2.2 λl m g=>hq _ (.int (min a b)) c J _ M (S.grow g (bv rfl rfl rfl)) (.refl c) ?_);by_cases e:b<a
 ·rw [if_pos e,Int.min_eq_right (by exact QP e)];exact⟨_,rfl⟩
 ·rw [if_neg e,Int.min_eq_left (by exact Ra e)];exact⟨_,rfl⟩
def G7:e8:=λH J k=>ng (iM (λ_ l=>∃I:List Int,l=I.map .int/\I.length <= 100000/\(∀i∈I,0 <= i/\i<100000)/\k (.int I.sum) J) J) H
theorem aaL {a:List ai} {I:List Int} (h:pN a I):∃m:List (Int×e0),a.toArray=intItems m.toArray/\m.map (·.1)=I:=by
 induction h with
 |nil=>exact aJ ([]) (by simp [intItems]) rfl
 |cons n t _ B=>
  refine aw B λm b d=>aJ ((n,t)::m) ?_ (by simp [d]);haveI c:=congrArg Array.toList b;simp [intItems] at c⊢;exact c
theorem aqz (m:List (Int×e0)) (i:Nat):numAt m.toArray i=(m.map (·.1)).getD i 0:=by
 unfold numAt;simp
theorem CQ (I:List Int):∀j,j <= I.length->preSum (λi=>I.getD i 0) j=(I.take j).sum
 |0,_=>rfl
 |j+1,h=>by
  unfold preSum
  haveI e:I.take (j+1)=I.take j++[I.getD j 0]:=by
   rw [OE,da,bV (by exact Qm h)];rfl
  rw [CQ I j (EH h),e];simp
theorem aqA {I:List Int}:(∀i∈I,0 <= i/\i<100000)->0 <= I.sum/\I.sum <= 100000*I.length:=by
 induction I with
 |nil=>
  intro _;decide
 |cons n I B=>
  intro h;obtain⟨a,b⟩:=B λi c=>h i (.tail _ c);haveI:=h n (.head _);exact X1 this a b
theorem G8:fY Z (.builtin "sum") G7:=by
 refine λd V A U K s c Y J k Q E H q O L S f M hq=>nh f M λa v f M=>jh S f M λn g l q r N t B M=>a6 λP u=>cU M λI w x y=> ?_;obtain rfl:=w;obtain⟨h,M⟩:=y;refine aw (aaL (sG B)) λm z o=> ?_;have p:numAt m.toArray=λi=>I.getD i 0:=by funext i;rw [aqz,o]
 have b:m.length=I.length:=by rw [<-o];simp
 refine u (aV (sum_intList O.room.2.2 ⟨_,t,rfl,r,by rw [<-z]⟩ (λj C=> ?_) λR T W D=> ?_))
 ·haveI e:=by simpa [b] using C
  rw [p];refine⟨?_,?_⟩
  ·haveI:I.getD j 0∈I:=by rw [da,bV e];exact mX _
   haveI:=h _ this;exact Vm this
  ·rw [CQ I (j+1) e];haveI:=aqA (I:=I.take (j+1)) λi F=>h i (OF F);exact Xs this (by rw [iD];exact Ts (ew ..) x)
 ·haveI G:preSum (numAt m.toArray) m.toArray.size=I.sum:=by
   rw [p,show m.toArray.size=I.length by simpa using b,CQ I _ (dA _),kA]
  rw [G];exact hq _ (.int I.sum) c J _ M (S.grow D (bv rfl rfl rfl)) (.refl c) ⟨_,rfl⟩
def qo:e8:=λH J k=>ng (iM (λ_ l=>l.length <= 16777216/\k (.ref J.length) (J++[.list l])) J) H
theorem aaM:fY Z (.type "list") qo:=by
 refine λd V A U m s c Y J k Q E H e O L S b M hq=>nh b M λa v b M=>jh S b M λn g l e o p f B M=> ?_;obtain⟨h,M⟩:=M;exact aV (call_list_seq g (.inl rfl) f rfl rfl (λq G i j=>(hq _ _ _ _ _ M (S.alloc i lm j (c7 e G rfl (B.mono λ_ _ y=>a5.mono (fi ⟨_,rfl⟩) y)) (bv rfl rfl rfl)) (.alloc ..) (a5.last S _))) (by rw [DE];simpa [<-B.length] using h))
def setB:e8:=λH J k=>sj (k (.ref J.length) (J++[.set []])) H
theorem aaN:fY Z (.type "set") setB:=by
 exact λd V A U e s c Y J k Q E H f O L S a M hq=>y5 a M λM=>aV (call_set_0 λb=>(hq _ _ _ _ _ M (S.push (ao:=.set []) (λT g=>(aJ 0 (intSetOf_fresh b) (dA _))) s.toks) (.alloc ..) (a5.last S _)))
def zv:e8:=λH J k=>ng (iM (λ_ l=>∃I:List Int,l=I.map .int/\I.length<64/\ ∀e:List Int,e.Perm I->e.Pairwise (· <= ·)->k (.ref J.length) (J++[.list (e.map .int)])) J) H
theorem aaO:fY Z (.builtin "sorted") zv:=by
 refine λd V A U D s c Y J k Q E H o O L S h M hq=>nh h M λa v h M=>jh S h M λn g l o p G q B M=>a6 λK r=>aw M λI t u=> ?_;clear M;obtain rfl:=t;obtain⟨w,M⟩:=u;haveI i:=sG B;refine aw S.F λm F em=>r (aV (sorted_N F S.news ⟨_,q,rfl,p,rfl⟩ i (by rw [i.length];exact w) λN j b e R x y z C=> ?_))
 haveI f:s.heap.get? (s.heap.objs.size+1)=none:=by
  induction e:s.heap.get? (s.heap.objs.size+1) with
  |none=>rfl
  |some o'=>exact absurd (fz e) (DA.mpr (mR _))
 exact hq _ _ _ _ _ (M b z C) (S.more f R em x (c7 j e rfl (G4 y)) (bv rfl rfl rfl)) (.alloc ..) (a5.last S _)
end
section
variable {Z:bx} {d:Nat} {V:bb}
abbrev ln:=aa->ae->Prop
def dX:ln:=λa J=>iM (λ_ _=>True) J a
def zw:ln:=λa J=>cp no no (λn=>zm (λ_=>True) J[n]?) a
def oA:ln:=λa J=>cp no no (λn=>zn (λ_=>True) J[n]?) a
def qp:ln:=λa _=>cp (λ_=>True) no no a
def vE:ln:=λa _=>cp no (λ_=>True) no a
def lG (Z:bx) (n:ax) (j:String) (r:ln):Prop:=
 ∀(V:bb) (A:cy) (U:be) (b:bk) (s:al) (c:aP) (Y:List aa) (J:ae) (Q:ai×List ai->al->Prop) (E:ai->al->Prop) (a:aa) (v:ai) (H:ck Bool),
  St Z V U b c Y J s->a5 c.adr a v->r a J->Q (.builtin j,[v]) s->PySem.wpAny (aG Z.prog Z.w) A (getMethod v n H) Q E s
theorem zx {n:ax} {j:String} (d:Slot "list" n j) (f:typeOf (.builtin j)=pure (.type "method_descriptor")):lG Z n j dX:=by
 intro V A U m s c Y J Q E a v H S i k hq
 revert hq
 exact jh S i k λn g l o p q h B _ hq=>DG (aJ _ h rfl) F.plainAttrs_list d f (λb e=>by cases e;exact aJ _ h rfl) hq
theorem aaP:lG Z "add" "set.add" zw:=by
 intro V A U q s c Y J Q E a v H S i d hq
 revert hq
 refine kF i d λn g j d hq=>GQ d λl k _=>a6 λt m=> ?_;obtain⟨w,r,o,f,n,p,u⟩:=S.here k;refine m ?_;rw [j] at r;obtain rfl:=bl r;obtain⟨h,_⟩:=p.kind Z.prog Z.w;exact DG (aJ _ f h.1) F.plainAttrs_set F.slot_set_add F.type_set_add (λb e=>by cases e;exact aJ _ f h.2.1) hq
theorem aaQ:lG Z "get" "dict.get" oA:=by
 intro V A U t s c Y J Q E a v H S i d hq
 revert hq
 refine kF i d λn g j d hq=>GR d λl k _=>a6 λx p=>aw (S.here k) λw r q=> ?_;obtain⟨o,f,m,⟨D,u,h,hd⟩,y⟩:=q;refine p ?_;rw [j] at r;obtain rfl:=bl r;exact DG (aJ _ f h.1) F.plainAttrs_dict F.slot_dict_get F.type_dict_get (λb e=>by cases e;exact aJ _ f h.2.1) hq
theorem G9:lG Z "to_bytes" "int.to_bytes" qp:=by
 intro V A U e s c Y J Q E a v H S b d hq
 revert hq
 exact er b d λ_ _ _=>KTBy.method
@[reducible] def kJ (B:e8) (k:aa->ae->Prop) (a:aa) (H:List aa) (J:ae):Prop:=B (a::H) J k
@[reducible] def lp (r:ln) (B:e8) (b:LT) (Y:List aa) (k:aa->ae->Prop) (x:bn) (a:aa) (J:ae):Prop:=r a J/\b Y J (kJ B k a) x
def df (r:ln) (B:e8) (t:a7) (a:LT):a7:=λY J k x=>t Y J (lp r B a Y k x) x
theorem Ha {r:ln} {B:e8} {t:a7} {m:LT} {o:aH} {D:List aH} {n:ax} {j:String} {N g:aX} (h:bF Z d V t o) (F:iv Z d V m D) (I:lG Z n j r) (f:fY Z (.builtin j) B)
  (M:∀U,xA o n U (bM o U)=bM o U:=by intro _;rfl) (p:D.all gn=true:=by rfl) (T:D.length<30:=by decide) (X:(N.endLine==g.line)=true:=by rfl):
  bF Z d V (df r B t m) (.Call (.Attribute o n N) D [] g):=by
 intro A U b s c Y J k x Q E O L S ht hq q;rw [zd (M U) p T X];exact aC (h A U b s c Y J _ x _ E O L S ht (λv a u w y z R P C=>(aC (c9 (dO (PySem.wpAny_holding (I V A U b y u Y w _ E a v _ R C z.1 (kc p (Z7 j) (F A U b y u Y w _ x _ E g (O.ext P) L R z.2 (λvs H c₂ cE s₂ h₂ S₂ i fy=>⟨trivial,f d V A U b s₂ c₂ Y cE k Q E (a::H) (v::vs) ((O.ext P).ext i) L S₂ (.cons (i.hQ C) fy) h₂ (λv a G aj K h l W=>hq v a G aj K h l ((P.trans i).trans W))⟩) (λe n G aj K h l W=>q e n G aj K h l (P.trans W)))))))))) q)
def fj:e8:=λH J k=>om (λa x=>iM (λn l=>l.length <= 16777000/\k .none (J.set n (.list (l++[x])))) J a) H
theorem sI {U:be} {b:bk} {c:aP} {Y:List aa} {J:ae} {s:al} {n:Nat} {g:aq} {m:List aa} {j:List ai} {a:Array ai} {e:Nat} {f:Array ai->Array ai} (S:St Z V U b c Y J s) (h:c.adr[n]? =some g)
  (i:s.heap.get? g=some (listOf a e)) (M:f a=j.toArray) (k:cZ c.adr m j) (t:Nat):St Z V U b c Y (J.set n (.list m)) {s with heap:=s.heap.update g (Om f),toks:=t}:=by
 refine jF (Obj.data_mapSeq rfl f) λp d=>S.upd h (Dh ..) (xn (Om f) i (Obj.isFreed_of_seq d)) (c7 j p ?_ k) (bv rfl rfl rfl);rw [<-M] at*;cases d;rfl
theorem Hb:fY Z (.builtin "list.append") fj:=by
 refine λd V A U o s c Y J k Q E H f O L S b M hq=>qe b M λa x v u b h M=>jh S b M λn g l f i j e B M=> ?_;obtain⟨m,M⟩:=M;exact aV (tZ PySem.F.slot_list_append (aJ _ e rfl) PySem.F.entry_list_append (PySem.F.args_list_append_2 ..) (AutoListH.list_append_list_val_0 g f.toArray i u (uR (b9.length B) m)) ⟨e,hq .none .none c _ _ M (sI S j e (by simp) (B.append (.cons h .nil)) s.toks) (.refl c) rfl⟩)
def l7:e8:=λH J k=>oi (λa H=>match H with
 | []=>iM (λn l=>l.length <= 16777000/\jd l.getLast? λy=>mD y (J.set n (.list l.dropLast)) k) J a
 |b::H=>sj (cp (λi=>iM (λn l=>l.length <= 16777000/\0 <= i/\jd l[i.toNat]? λy=>mD y (J.set n (.list (l.eraseIdx i.toNat))) k) J a) no no b) H) H
theorem b9.dropLast {d j:Type} {R:d->j->Prop} {l:List d} {r:List j} (h:b9 R l r):b9 R l.dropLast r.dropLast:=by
 rw [xE,xE,h.length];exact h.take _
theorem b9.eraseIdx {d j:Type} {R:d->j->Prop} {l:List d} {r:List j} (h:b9 R l r) (i:Nat):b9 R (l.eraseIdx i) (r.eraseIdx i):=by
 rw [OG,OG];exact(h.take i).append (h.drop (i+1))
theorem Hc (a:List ai) (i:Nat) (b:i<a.length):a.toArray.eraseIdxIfInBounds i=(a.eraseIdx i).toArray:=by
 simp
theorem aaR:fY Z (.builtin "list.pop") l7:=by
 refine λd V A U I s c Y J k Q E H b O L S o M hq=>sk o M λa H v b o r M=> ?_;induction r with
 |nil=>
  refine jh S o M λn g l b t w e B M=>a6 λK D=> ?_;obtain⟨q,M⟩:=M;refine aw (k8 M) λy j M=> ?_;haveI M:=sE M;haveI m:=b9.length B;haveI j:=asb▸j;refine aw (b9.get B _ y j) λu h x=> ?_;haveI p:0<b.length:=by haveI:=(cF.mp h).1;exact Rq (ay ..) this
  rw [m] at h;refine D (aV (tZ PySem.F.slot_list_pop (aJ _ e rfl) PySem.F.entry_list_pop (PySem.F.args_list_pop_1 _) (MeetsSeq.list_pop_last g b.toArray t u (by simpa using h) (uR m q)) ⟨e,hq u y c _ _ M (sI S w e ?_ B.dropLast s.toks) (.refl c) x⟩));show b.toArray.eraseIdxIfInBounds (b.length-1)=_
  rw [Hc b _ (by exact Q1 (ay ..) p),List.eraseIdx_length_sub_one]
 |cons C r=>
  refine y5 r M λM=>er C M λi f M=>jh S o M λn g l b t w e B M=>dp M λq N M=>aw (k8 M) λy j M=> ?_;haveI M:=sE M;haveI m:=b9.length B;refine aw (b9.get B _ y j) λu h x=> ?_;haveI z:=(cF.mp h).1;refine aV (tZ PySem.F.slot_list_pop (aJ _ e rfl) PySem.F.entry_list_pop (PySem.F.args_list_pop_2 ..) (MeetsSeq.list_pop_at g b.toArray t i f i.toNat u ?_ ?_ (by simpa using h) (uR m q)) ⟨e,(hq u y c _ _ M (sI S w e (Hc b _ z) (B.eraseIdx _) s.toks) (.refl c) x)⟩)
  ·simp only [aub,eC,decide_eq_true_eq];exact XJ (bp _) z N m q
  ·unfold nP;haveI F:¬i<0:=m9 N;haveI G:i<b.toArray.size:=Fd (bp _) z;simp only [F,if_false,N,G,decide_true,OH,if_true]
def vF:e8:=λH J k=>ng (iM (λn l=>l.length <= 16777000/\k .none (J.set n (.list l.reverse))) J) H
theorem aaS:fY Z (.builtin "list.reverse") vF:=by
 refine λd V A U m s c Y J k Q E H f O L S b M hq=>nh b M λa v b M=>jh S b M λn g l f h i e B M=> ?_;obtain⟨j,M⟩:=M;exact aV (tZ PySem.F.slot_list_reverse (aJ _ e rfl) PySem.F.entry_list_reverse (PySem.F.args_list_reverse_1 _) (AutoListH.list_reverse_list_0 g f.toArray h (uR (b9.length B) j)) ⟨e,hq .none .none c _ _ M (sI S i e (by simp) B.reverse s.toks) (.refl c) rfl⟩)
def zy:e8:=λH J k=>om (λa b=>cp (λi=>cp no no (λn=>zm (λl=>l.length <= 2000/\k .none (J.set n (.set (i::l)))) J[n]?) a) no no b) H
theorem aaT:fY Z (.builtin "set.add") zy:=by
 refine λd V A U N s c Y J k Q E H P O L S q M hq=>qe q M λa b v u q C M=>er C M λi f M=>kF q M λn g t M=>GQ M λl z M=>a6 λR B=> ?_;obtain⟨x,M⟩:=M;refine aw (S.here z) λw r y=>aw y λo D F=> ?_;clear y;refine aw F λn G p=>B ?_;replace r:=t▸r;obtain rfl:=bl r;refine aV (call_set_add (k:=i) (by simp [pJ,xF]) rfl ((G.kind Z.prog Z.w).setOf D (uX x p ab)) (TJ x p) λT I h=>(aw h.objOf λo' K m=>(hq .none .none c _ _ M (S.upd t I K (aJ (if l.contains i then n else n+1) ?_ ?_) (bv rfl rfl rfl)) (.refl c) rfl)))
 ·haveI:=m.intSetOf
  haveI e:(λj=>(i::l).contains j)=λj=>l.contains j||decide (j=i):=by
   funext j
   rw [Bool.or_comm];congr 1
  rw [e];exact this
 ·split<;>simp<;>(first|exact Rv p|exact QS p)
def ji (l:List (Int×Int)) (k:Int):Option Int:=(l.find? λp=>p.1=k).map (·.2)
def qr (l:List (Int×Int)) (k v:Int):List (Int×Int):=if l.any (λp=>p.1=k) then l.map (λp=>if p.1=k then(p.1,v) else p) else l++[(k,v)]
theorem lg.find {l:List (Int×Int)} {m:List (Int×ai)} (h:lg l m) (k:Int):(ji l k=none/\valueAt m k=none)\/ ∃v t,ji l k=some v/\valueAt m k=some (.int v t):=by
 unfold ji valueAt;induction h with
 |nil=>exact .inl ⟨rfl,rfl⟩
 | @cons p q l r c _ B=>
  obtain⟨b,t,d⟩:=c;by_cases a:p.1=k
  ·refine .inr (c7 p.2 t ?_ ?_)
   ·simp [a]
   ·simp [b,a,d]
  ·rw [Dt,Dt];haveI hq:¬q.1=k:=by rw [b];exact a
   simp only [a,hq,decide_false];exact B
theorem lg.any {l:List (Int×Int)} {m:List (Int×ai)} (h:lg l m) (k:Int):l.any (λp=>p.1=k)=m.any (λq=>q.1=k):=by
 induction h with
 |nil=>rfl
 |cons a _ B=>simp [a.1,B]
theorem lg.put {l:List (Int×Int)} {m:List (Int×ai)} (h:lg l m) (k v:Int) (t:e0):lg (qr l k v) (stored m k (.int v t)):=by
 unfold qr stored;rw [h.any k];split
 ·rename_i a;clear a;induction h with
  |nil=>exact .nil
  | @cons p q l r b _ B=>
   refine .cons ?_ B;dsimp only;by_cases c:p.1=k
   ·rw [if_pos c,if_pos (by rw [b.1];exact c)];exact⟨b.1,t,rfl⟩
   ·rw [if_neg c,if_neg (by rw [b.1];exact c)];exact b
 ·exact h.append (.cons ⟨rfl,t,rfl⟩ .nil)
def oB:e8:=λH J k=>oi (λa H=>vD (λi b=>cp no no (λn=>zn (λl=>k (.int ((ji l i).getD b)) J) J[n]?) a) H) H
theorem St.zz {U:be} {a:bk} {c:aP} {Y:List aa} {J:ae} {s:al} (S:St Z V U a c Y J s) {n:Nat} {g:aq} (b:c.adr[n]? =some g):(g==nS)=false:=
 beq_eq_false_iff_ne.mpr (DB (S.low.2 g (cQ _ (cq b))))
theorem aaU:fY Z (.builtin "dict.get") oB:=by
 refine λd V A U W s c Y J k Q E H B O L S e M hq=>sk e M λa H v B e C M=>zu C M λi b f T M=>kF e M λn g q M=>GR M λl F M=>a6 λX I=>aw (S.here F) λw r y=>aw y λo z K=> ?_;clear y;refine aw K λm hd N=>I ?_;rw [q] at r;obtain rfl:=bl r;refine cV (id hd) λD u h G=>aV (call_meetsIn PySem.F.slot_dict_get (aJ _ z h.1) PySem.F.entry_dict_get (PySem.F.args_dict_get_3 ..) (meets_dict_get_default (knd:=pJ Z.prog Z.w) (k:=i) g (by simp [pJ,xF]) (S.zz q) (.int b T)) (aJ _ (uj.mpr (aJ o z hd)).mapOf ?_));rcases N.find i with P|R
 ·refine fp P λj p=> ?_;rw [p];replace M:=j▸M;exact hq _ (.int b) c J _ M (S.tok _) (.refl c) ⟨_,rfl⟩
 ·refine cV R λx t j p=> ?_;rw [p];replace M:=j▸M;exact hq _ (.int x) c J _ M (S.tok _) (.refl c) ⟨_,rfl⟩
def qs (k:Nat) (x:Int):List Int:=(KTBy.little k x).reverse
def qt:e8:=λH J k=>oi (λa H=>om (λb c=>cp (λx=>cp (λn=>vB (0 <= n/\n <= 8/\0 <= x/\x<256^n.toNat/\k (.bytes (qs n.toNat x)) J) c) no no b) no no a) H) H
theorem Hd:fY Z (.builtin "int.to_bytes") qt:=by
 refine λd V A U P s c Y J k Q E H m O L S l M hq=>sk l M λa H v m l o M=>qe o M λb e u w C f M=>er l M λx F M=>er C M λn i M=>a6 λR q=>n5 (GS M) λr N g D t=> ?_;obtain rfl:=r;obtain⟨z,M⟩:=t;refine cV f λI y h B=> ?_;clear f;obtain rfl:=B;haveI G:=by simpa [mB] using h.symm
 subst G;obtain⟨p,rfl⟩:=nQ N;exact q (aV (KTBy.to_big (FT g ab) rfl D z λb T j K W=>(hq _ (.bytes _) c J _ M (S.tok j) (.refl c) (c7 _ _ rfl K))))
end
section
variable {Z:bx} {d:Nat} {V:bb}
@[reducible] def kK (f:List aa->aB) (k:aa->ae->Prop) (H:List aa) (J:ae):Prop:=H.length <= 16777216/\k (.ref J.length) (J++[f H])
def dP (a:LT):a7:=λY J k x=>a Y J (kK .list k) x
def fP (a:LT):a7:=λY J k x=>a Y J (kK .tup k) x
theorem He {a:LT} {D:List aH} {b:aX} (i:iv Z d V a D):bF Z d V (dP a) (.List D b):=by
 exact λA U j s c Y J k x Q E O L S l hq m=>aC (c9 (aC (i A U j s c Y J _ x _ E b O L S l (λe H G aj K h f W g=>(aV (Dg (hq _ (.ref aj.length) _ _ _ h.2 (f.push (ao:=.list H) (λT n=>(c7 e 0 rfl (g.mono λ_ _ y=>a5.mono n y))) K.toks) (W.trans (.alloc ..)) (a5.last f _)) (by show e.toArray.size <= rx;rw [asc,<-g.length];exact h.1)))) m)))
theorem vG {a:LT} {D:List aH} {n:Nat} {b:aX} (i:iv Z d V a D):bF Z d V (fP a) (.Tuple D n b):=by
 exact λA U j s c Y J k x Q E O L S l hq m=>aC (c9 (aC (i A U j s c Y J _ x _ E b O L S l (λe H G aj K h f W g=>(aV (Dg (hq _ (.ref aj.length) _ _ _ h.2 (f.push (ao:=.tup H) (λT o=>(c7 e 0 rfl (g.mono λ_ _ y=>a5.mono o y))) K.toks) (W.trans (.alloc ..)) (a5.last f _)) (by show e.toArray.size <= rx;rw [asc,<-g.length];exact h.1)))) m)))
def vH:a7:=λY J k x=>k (.ref J.length) (J++[.dict []])
theorem aaV {b:aX}:bF Z d V vH (.Dict [] [] b):=by
 refine λA U f s c Y J k x Q E O L S e hq g=>aV (wpAny_Dict_empty (aw (uj.mp (Heap.DictOf.new (knd:=pJ Z.prog Z.w) s.heap)) λo a hd=> ?_));rw [rE _ rfl] at a;obtain rfl:=bl a;exact hq _ _ _ _ _ e (S.push (ao:=.dict []) (λT h=>(aJ ([]) hd .nil)) s.toks) (.alloc ..) (a5.last S _)
def ce:qm:=λa b J k=>cp (λa=>cp (λb=>k (.int (a+b)) J) no no b) (λa=>cp no (λb=>a.length+b.length <= 16777216/\k (.bytes (a++b)) J) no b)
 (λn=>iM (λ_ r=>oj (λl=>l.length+r.length <= 16777216/\k (.ref J.length) (J++[.list (l++r)])) J[n]?) J b) a
theorem sJ:hV Z .Add ce:=by
 refine λd V A U i s c Y J k Q E a b v u O L S j C M hq=>gz j M (λn t M=>(er C M λm g M=>Zw d V A U i s c Y J k Q E (.int n) (.int m) _ _ O L S ⟨t,rfl⟩ ⟨g,rfl⟩ M hq)) (λl y t e M=>(gz C M (λ_ _ h=>h.elim) (λr z g W M=>(ZG d V A U i s c Y J k Q E (.bytes l) (.bytes r) _ _ O L S (c7 y t rfl e) (c7 z g rfl W) M hq)) (λ_ _ _ h=>h.elim))) λn K o M=> ?_
 ·refine jh S C M λm N r p D P f q M=>sD S o M λl w x _ G B M=> ?_;obtain⟨H,M⟩:=M;exact aw S.F λm F em=>aV (add_lists F S.news ⟨_,G,rfl,x,rfl⟩ ⟨_,f,rfl,D,rfl⟩ (λT R I=>(hq _ _ _ _ _ M (S.more lm R em I (c7 (w++p) 0 rfl ((B.append q).mono λ_ _ y=>a5.mono (fi ⟨_,rfl⟩) y)) (bv rfl rfl rfl)) (.alloc ..) (a5.last S _))) (by rw [<-B.length,<-q.length];exact H))
def aaW {d:Type} (f:d->Prop) (l:List d):Prop:=match l with
 | [y]=>f y
 |_=>False
def kf:qm:=λa b J k=>cp (λa=>cp (λb=>((-(2^64)<a/\a<2^64)\/(-(2^64)<b/\b<2^64))/\k (.int (a*b)) J) no no b) (λl=>cp (λn=>aaW (λy=> -1048576 <= n/\n <= 1048576/\k (.bytes (eg n.toNat y)) J) l) no no b) no a
theorem aaX:hV Z .Mult kf:=by
 refine λd V A U g s c Y J k Q E a b v u O L S i C M hq=>gz i M (λn t M=>(er C M λm f M=>ZA d V A U g s c Y J k Q E (.int n) (.int m) _ _ O L S ⟨t,rfl⟩ ⟨f,rfl⟩ M hq)) (λl y t e M=> ?_) λ_ _ _ h=>h.elim
 ·refine er C M λm f M=> ?_;cases l with
  |nil=>exact M.elim
  |cons x l=>induction l with
   |nil=>exact ZJ d V A U g s c Y J k Q E (.bytes [x]) (.int m) _ _ O L S (c7 y t rfl e) ⟨f,rfl⟩ M hq
   |cons=>exact M.elim
def sK:aa->aa->Option Bool
 | .int a,.int b=>some (decide (a=b))
 | .str a,.str b=>some (decide (a=b))
 | .bytes a,.bytes b=>some (decide (a=b))
 |_,_=>none
def sL:List aa->List aa->Option Bool
 | [],[]=>some true
 |a::l,b::r=>(sK a b).bind λx=>(sL l r).map (x&& ·)
 |_,_=>none
theorem Hf {d:Type} [BEq d] [LawfulBEq d] {x y:d} {p:Prop} [Decidable p] (h:x=y<->p):(x==y)=decide p:=by
 rw [asd,beq_iff_eq,h,decide_eq_true_iff]
theorem aaY {A:cy} {s:al} {T:List aq} {a b:aa} {v u:ai} {x:Bool} (h:sK a b=some x) (d:a5 T a v) (C:a5 T b u):ase A s v u x:=by
 induction a with
 |int a=>
  induction b with
  |int b=>
   obtain⟨t,rfl⟩:=d;obtain⟨c,rfl⟩:=C;exact bl h▸SeqAt.EqAt.int_int a t b c
  |_=>contradiction
 |str i=>
  induction b with
  |str j=>
   refine cV d λt x e f=> ?_;refine cV C λc y g m=> ?_;exact f▸m▸(Hf (sq e g)).trans (bl h)▸SeqAt.EqAt.str_str x t y c
  |_=>contradiction
 |bytes k=>
  induction b with
  |bytes l=>
   refine cV d λn t f e=> ?_;refine cV C λo c m g=> ?_;subst e g;exact f▸m▸(Hf y8.symm).trans (bl h)▸Y0 n o t c
  |_=>contradiction
 |_=>contradiction
theorem Hg {A:cy} {s:al} {T:List aq} {l r:List aa} {a p:List ai} {x:Bool} (h:sL l r=some x) (c:cZ T l a) (b:cZ T r p):
  a.length=p.length/\ ∃e:Nat->Bool,(∀j (c:j<a.length) (b:j<p.length),ase A s a[j] p[j] (e j))/\(aI a.length).all e=x:=by
 induction c generalizing r p x with
 |nil=>induction b with
  |nil=>exact⟨rfl,λ_=>true,λj d=>absurd d (Nat.not_lt_zero _),bl h⟩
  |cons=>contradiction
 |cons f v B=>induction b with
  |nil=>contradiction
  |cons g i=>
   have h:(sK _ _).bind (λx=>(sL _ _).map (x&& ·))=some x:=h;refine aw (n0.mp h) λx1 k h=> ?_;refine aw (gP.mp h) λF m h=> ?_;refine fp (B m i) λn h=> ?_;refine aw h λe o q=> ?_;refine⟨congrArg Nat.succ n,λj=>Nat.casesOn j x1 λj=>e j,λj=> ?_,?_⟩
   ·induction j with
    |zero=>exact λ_ _=>aaY k f g
    |succ j=>exact λt u=>o j (asf t) (asf u)
   ·rw [kZ,List.range_succ_eq_map,ii,OI];exact(congrArg (x1&& ·) q).trans (by assumption)
def kL (l r:List aa):Option Bool:=if l.length=r.length then sL l r else some false
abbrev vI:=aa->aa->ae->(Bool->Prop)->Prop
def eI:vI:=λa b J k=>lh (λa=>cp (λb=>k (decide (a=b))) no no b) (λa=>cp no (λb=>k (decide (a=b))) no b) (λa=>lh no no (λb=>k (decide (a=b))) no b)
 (λn=>iM (λ_ r=>oj (λl=>jd (kL l r) k) J[n]?) J b) a
theorem Hh:hW Z .Eq eI:=by
 refine λd V A U o s c Y J k Q E a b v u O L S F C M hq=>l1 F M (λn t M=>(er C M λm G M=>ZP d V A U o s c Y J k Q E (.int n) (.int m) _ _ O L S ⟨t,rfl⟩ ⟨G,rfl⟩ M hq)) (λl y t e M=>(gz C M (λ_ _ h=>h.elim) (λr z G W M=>(ZS d V A U o s c Y J k Q E (.bytes l) (.bytes r) _ _ O L S (c7 y t rfl e) (c7 z G rfl W) M hq)) (λ_ _ _ h=>h.elim))) (λj F M=>(l1 C M (λ_ _ h=>h.elim) (λ_ _ _ _ h=>h.elim) (λi C M=>(ZU d V A U o s c Y J k Q E (.str j) (.str i) _ _ O L S F C M hq)) (λ_ _ _ h=>h.elim))) λn a1 P M=> ?_
 ·refine jh S C M λm a2 r p D hb f q M=>sD S P M λl H I _ K B M=>aw (k8 M) λx g M=> ?_;have N:=by haveI:=O.room.2.1;exact E5 this
  unfold kL at g;split at g
  ·obtain⟨R,e,T,w⟩:=Hg g B q;refine aV (SeqAt.eq_listAt ⟨_,K,rfl,I,rfl⟩ ⟨_,f,rfl,D,rfl⟩ (by simpa using R) N (λj X g2=>by simpa using T j (by simpa using X) (by simpa using g2)) ?_);rw [show H.toArray.size=H.length by rfl,w];exact hq x s M S
  ·rename_i bN;obtain rfl:=bl g;exact aV (SeqAt.eq_list_lengthsAt ⟨_,K,rfl,I,rfl⟩ ⟨_,f,rfl,D,rfl⟩ (by simp [<-B.length,<-q.length,bN]) N (hq false s M S))
def sM (f:List aa->Prop) (g:Prop) (o:Option aB):Prop:=match o with
 |some (.list x)=>f x
 |some (.dict [])=>g
 |_=>False
theorem Hi {f:List aa->Prop} {g:Prop} {o:Option aB} {G:Prop} (h:sM f g o) (K:∀x,o=some (.list x)->f x->G) (a:o=some (.dict [])->g->G):G:=by
 induction o with
 |none=>exact h.elim
 |some o=>
  induction o with
  |list x=>exact K _ rfl h
  |dict x=>induction x with
   |nil=>exact a rfl h
   |cons=>exact h.elim
  |_=>exact h.elim
def du:vI:=λa b J k=>lh (λa=>cp (λb=>k (decide (a≠b))) no no b) no (λa=>lh no no (λb=>k (decide (a≠b))) no b)
 (λn=>cp no no (λm=>sM (λl=>oj (λr=>jd (kL l r) λx=>k (!x)) J[m]?) (sM no (k false) J[m]?) J[n]?) b) a
theorem vJ:hW Z .NotEq du:=by
 intro d V A U h₀ s c Y J k Q E a b v u O L S T C M hq;have X:=by haveI:=O.room.2.1;exact E5 this
 refine l1 T M (λn t M=>(er C M λm t' M=>ZQ d V A U h₀ s c Y J k Q E (.int n) (.int m) _ _ O L S ⟨t,rfl⟩ ⟨t',rfl⟩ M hq)) (λ_ _ _ _ h=>h.elim) (λj T M=>(l1 C M (λ_ _ h=>h.elim) (λ_ _ _ _ h=>h.elim) (λi C M=>(ZV d V A U h₀ s c Y J k Q E (.str j) (.str i) _ _ O L S T C M hq)) (λ_ _ _ h=>h.elim))) λn a1 y M=> ?_
 ·refine kF C M λm a2 z M=>Hi M (λl h1 M=> ?_) λh1 M=> ?_
  ·refine a6 λH_ e_=>aw (S.here h1) λH P ch=> ?_;obtain⟨o,ho,vs,sl,rfl,B⟩:=ch;refine e_ ?_;have P:=y▸P;obtain rfl:=bl P;refine sD S z M λr p D _ f q M=> ?_;obtain⟨x,R,M⟩:=k8 M;unfold kL at R;split at R
   ·obtain⟨bh,e,he,w⟩:=Hg R B q;refine aV (Y1 ho f (by simpa using bh) X (λj g1 g2=>by simpa using he j (by simpa using g1) (by simpa using g2)) ?_);rw [show vs.toArray.size=vs.length by rfl,w];exact hq _ s M S
   ·rename_i bN;obtain rfl:=bl R;exact aV (Y2 ho f (by simp [<-B.length,<-q.length,bN]) X (hq true s M S))
  ·refine Hi M (λ_ _ h=>h.elim) λh2 M=>a6 λH_ e_=> ?_;obtain⟨H,P,o,I,W,K,F⟩:=S.here h1;obtain⟨N,q2,g,f,k2,G,C2⟩:=S.here h2;refine e_ ?_;rw [y] at P;obtain rfl:=bl P;rw [z] at q2;obtain rfl:=bl q2;cases F;cases C2;exact aV (keq_ne (S.zz y) (S.zz z) (uj.mpr (aJ o I K)) (uj.mpr (aJ g f G)) X (λ_=>KeqHits.nil) (hq false s M S))
def zA (x:Int) (ao:Option aB) (k:Bool->Prop):Prop:=match ao with
 |some (.list l)=>∃I:List Int,l=I.map .int/\k (I.contains x)
 |some (.tup l)=>∃I:List Int,l=I.map .int/\k (I.contains x)
 |some (.set l)=>l.length <= 2000/\k (l.contains x)
 |_=>False
def sN:vI:=λa b J k=>cp (λx=>cp no no (λn=>zA x J[n]? k) b) no no a
def zB:vI:=λa b J k=>cp (λx=>cp no no (λn=>zA x J[n]? λb=>k (!b)) b) no no a
theorem Hj {U:be} {u:bk} {c:aP} {Y:List aa} {J:ae} {s:al} {n:Nat} {g:aq} {x:Int} {k:Bool->Prop} {G:Prop} (S:St Z V U u c Y J s) (v:c.adr[n]? =some g) (h:zA x J[n]? k)
  (a:∀I b d,s.heap.get? g=some (listOf b.toArray d)->pN b I->k (I.contains x)->G)
  (f:∀I b d,s.heap.get? g=some {cls:=.type "tuple",data:=.seq b.toArray d}->pN b I->k (I.contains x)->G)
  (p:∀(l:List Int) o m,s.heap.get? g=some o->o.IntSetOf (λk=>l.contains k) m->m <= l.length->l.length <= 2000->k (l.contains x)->G):G:=by
 induction e:J[n]? with
 |none=>rw [e] at h;exact h.elim
 |some o=>
  rw [e] at h;refine aw (S.here e) λz r t=>aw t λo' i q=> ?_;clear t;rw [v] at r;obtain rfl:=bl r;induction o with
  |list l=>obtain⟨I,rfl,h⟩:=h;obtain⟨b,d,rfl,j⟩:=q;exact a I b d i (sG j) h
  |tup l=>obtain⟨I,rfl,h⟩:=h;obtain⟨b,d,rfl,j⟩:=q;exact f I b d i (sG j) h
  |set l=>exact aw q λm w y=>p l _ m i w y h.1 h.2
  |_=>exact h.elim
theorem sO (I:List Int) (x:Int):(I.any (· ==x))=I.contains x:=by
 rw [List.contains_eq_any_beq];congr 1
 funext y
 by_cases h:y=x
 ·subst h;rfl
 ·rw [beq_false_of_ne h,beq_false_of_ne (Ne.symm h)]
theorem aaZ:hW Z .In sN:=by
 refine λd V A U y s c Y J k Q E a b v u O L S i C M hq=>er i M λx t M=>kF C M λn g j M=>Hj S j M (λI p f e h M=> ?_) (λI p f e h M=> ?_) λl o m e q r w M=>(aV (wpAny_inSet_of (by simp [pJ,xF]) rfl ((q.kind Z.prog Z.w).setOf e (uX w r ab)) (hq _ _ M (S.tok _))))
 ·refine aV (in_list_ints ⟨_,e,rfl,f,rfl⟩ h ?_);rw [sO];exact hq _ s M S
 ·refine aV (in_tuple_ints ⟨_,e,rfl,f,rfl⟩ h ?_);rw [sO];exact hq _ s M S
theorem aa0:hW Z .NotIn zB:=by
 refine λd V A U y s c Y J k Q E a b v u O L S i C M hq=>er i M λx t M=>kF C M λn g j M=>Hj S j M (λI p f e h M=> ?_) (λI p f e h M=> ?_) λl o m e q r w M=>(aV (wpAny_notInSet_of (by simp [pJ,xF]) rfl ((q.kind Z.prog Z.w).setOf e (uX w r ab)) (hq _ _ M (S.tok _))))
 ·refine aV (notin_list_ints ⟨_,e,rfl,f,rfl⟩ h ?_);rw [sO];exact hq _ s M S
 ·refine aV (asg ⟨_,e,rfl,f,rfl⟩ h ?_);rw [sO];exact hq _ s M S
@[reducible] def aa1 (I:List Int) (k:Bool->ae->Prop) (a:aa) (J:ae):Prop:=cp (λi=>k (!I.contains i) J) no no a
def Hk (t:a7) (I:List Int):de:=λY J k x=>t Y J (aa1 I k) x
theorem aa2 {t:a7} {e:aH} {y:ax} {p l:aX} {a:aq} {f:ai} {n:Option aq} {o:Array (Option ai)} {g:List ai} {I:List Int} {j:Nat} (h:bF Z d V t e)
  (q:fL Z.K eU y=some (some (.ref a))) (r:V.scope.names.lookup y=some .globalImplicit) (u:(y==("__debug__" :ax))=false) (w:Z.K.lookup a=some ⟨f,n,.seq g.toArray j,o⟩) (z:f= .type "tuple") (B:pN g I)
  (C:ry .NotIn (.Name y p)=false:=by with_unfolding_all rfl):hT Z d V (Hk t I) (.Compare e [.NotIn] [.Name y p] l):=by
 refine λA U D s c Y J k x Q E O L S G hq H=>NB (h A U D s c Y J _ x _ E O L S G (λv a' K M N b R P W=>(a6 λH_ X=>(aw R.F λm F em=>jG O.base.T λpp jY mg mb T=>(X (aV (uc F O.base.X T q (er W b λi t b=>aV (asg ⟨_,((O.base.X.keeps F.keep) _ _ w),z,j,rfl⟩ B ?_)) L.globals L.iu (iL L r) u)))))) H) C;rw [sO];exact aV (t3 (hq _ K M N b R P))
end
section
variable {M:Model} {A:Around} {E:Value->Shared->Prop} {s:Shared} {U:Env}
theorem NI {a k:List ai} {Q:Unit->al->Prop} (h:Q () s):av M A (release a k) Q E s:=aV (PySem.wpAny_release h)
theorem aa3 {o attr pos' value pos} {Q:f7->al->Prop}
  (h:av M A (bM value U) (λv a=>av M A (bM o U) (λy b=>av M A (setAttr y attr v) (λ_=>Q .next) E b) E a) E s)
  (c:kz value (some (.Attribute o attr pos')) pos.line U=pure false:=by rfl):av M A (kY (.Assign [.Attribute o attr pos'] value pos) U) Q E s:=by
 rw [ash o attr pos' value pos c];exact aC (c9 (aC (b0 h (λv a d=>(aC (aC (dJ (b0 d (λy b e=>aC (c9 (aC (dJ (b0 e (λ_ I X=>(NI (bt X))) λ_ _ x=>x))))) λ_ _ x=>x))))) λ_ _ x=>x)))
theorem Hl {o i pos' value pos} {Q:f7->al->Prop}
  (h:av M A (bM value U) (λv a=>av M A (bM o U) (λy b=>av M A (bM i U) (λu I=>av M A (xp y u v) (λ_=>Q .next) E I) E b) E a) E s)
  (c:kz value (some (.Subscript o i pos')) pos.line U=pure false:=by rfl):av M A (kY (.Assign [.Subscript o i pos'] value pos) U) Q E s:=by
 rw [exec_Assign_Subscript o i pos' value pos c];exact aC (c9 (aC (b0 h (λv a d=>(aC (aC (dJ (b0 d (λy b e=>aC (dJ (b0 e (λu I X=>aC (c9 (aC (dJ (b0 X (λ_ f B=>(NI (bt B))) λ_ _ x=>x))))) λ_ _ x=>x))) λ_ _ x=>x))))) λ_ _ x=>x)))
end
section
variable {Z:bx} {d:Nat} {V:bb}
theorem aa4 {z:aq} {o o':cj} {l:List (aq×cj)}:(l.map (·.1)).Nodup->(z,o)∈l->Upd z o o' l (l.map λp=>if p.1=z then(z,o') else p):=by
 induction l with
 |nil=>
  intro _ h;contradiction
 |cons p l B=>
  intro a h;rw [cB,eD] at a;rcases cb.mp h with rfl|h
  ·have b:=λq hq w=>a.1 (dz.mpr (aJ q hq w))
   haveI e:l.map (λp=>if p.1=z then(z,o') else p)=l:=by
    haveI:=gQ (f:=λp=>if p.1=z then(z,o') else p) λq hq=>if_neg (b q hq);rw [this];simp
   rw [cB,e];simp only [if_true];exact .head b
  ·haveI c:p.1≠z:=λq=>a.1 (q▸io h);rw [cB,if_neg c];exact .tail c (B a.2 h)
theorem e7.le {T:List aq} {I:List ax} {H:List aa} {D:List pI} (h:e7 Z T I H D):H.length <= I.length:=by
 induction h with
 |nil=>exact eF _
 |cons _ _ B=>simpa using B
theorem Hm {h:bk}:∀{l:List aq},l.Nodup->((l3 h l).map (·.1)).Nodup
 | [],_=>by trivial
 |a::l,b=>by
  rw [eD] at b;have B:=Hm (h:=h) b.2;unfold l3 at B⊢;rw [asi];induction q:h.get? a with
  |none=>simpa using B
  |some o=>
   simp only [pM,cB,eD];exact⟨λw=>(aw (dz.mp w) λp c e=>(b.1 (e▸(l4.mp c).1))),B⟩
def aa5 (c:Nat) (f:List aa->Prop) (o:Option aB):Prop:=match o with
 |some (.aZ g w)=>g=c/\f w
 |_=>False
def Hn (c:Nat) (f:Nat->List aa->Prop) (J:ae) (o:Option aB):Prop:=match o with
 |some (.inst G l)=>G=c/\aa5 c (f l) J[l]?
 |_=>False
theorem aa6 {c:Nat} {f:Nat->List aa->Prop} {J:ae} {o:Option aB} (h:Hn c f J o):∃l w,o=some (.inst c l)/\J[l]? =some (.aZ c w)/\f l w:=by
 refine a6 λj a=>dN (y3 h) λG l b d h=> ?_;obtain rfl:=d;refine dN (y4 h) λg w e i N=> ?_;obtain rfl:=i;exact a (dt l w b e N)
@[reducible] def Ho (a j:Nat) (v:aa) (J:ae) (k:ae->Prop) (l:Nat) (w:List aa):Prop:=
 if j<w.length then k (J.set l (.aZ a (w.set j v))) else j=w.length/\k (J.set l (.aZ a (w++[v])))
def Hp (b j:Nat):aa->aa->ae->(ae->Prop)->Prop:=λa v J k=>cp no no (λi=>Hn b (Ho b j v J k) J J[i]?) a
theorem St.aa7 {A:cy} {U:be} {N:bk} {c:aP} {Y:List aa} {J:ae} {s:al} {W j:Nat} {M:hO} {n:ax} {a v:aa} {y t:ai} {k:ae->Prop} {Q:Unit->al->Prop} {E:ai->al->Prop} (S:St Z V U N c Y J s) (O:Ok Z d A U N c)
  (C:lj Z W M) (L:M.fields[j]? =some n) (ha:a5 c.adr a y) (X:a5 c.adr v t) (h:Hp W j a v J k) (hq:∀aj K,k aj->St Z V U N c Y aj K->Q () K):
  PySem.wpAny (aG Z.prog Z.w) A (setAttr y n t) Q E s:=by
 refine kF ha h λi g H h1=> ?_;refine a6 λH_ e_=> ?_;clear h;refine dN (aa6 h1) λl w hl fT h=> ?_;clear h1;refine uB (S.inst C.is hl fT rfl) λa' z D nn e1 e2 I f G=> ?_;refine e_ ?_;rw [H] at e1;obtain rfl:=bl e1;refine aw S.F λm F em=> ?_;have T:=cq L;have x:z∈c.all:=cQ _ (cq e2)
 have bW:∀e (r:List pI) (p:Nat),(putL n (xu Z.w.params n) (.str n (s.toks+1)) t D,putN n D nn)=(r,p)->(getL n D).isSome=true->r.length <= 1000->e7 Z c.adr M.fields e r->k (J.set l (.aZ W e))->
   PySem.wpAny (aG Z.prog Z.w) A (setAttr (.ref g) n t) Q E s:=by
  intro e r p he hg hz B ks;refine set_dict F O.base.X S.news I rfl C.set C.over (C.zc n T) C.has hg he (aa4 (Hm S.cP) (l4.mpr ⟨x,f⟩)) hz λh' R N'=> ?_;refine hq _ _ ks (S.sm e2 R em (λb hb bN o ho=> ?_) ?_ (gv M r p C.is rfl B) (bv rfl rfl rfl))
  ·exact(N' (b,o) (dz.mpr (aJ (b,o) (l4.mpr ⟨hb,ho⟩) (if_neg bN)))).1
  ·exact(N' (z,xv r p) (dz.mpr (aJ (z,xv D nn) (l4.mpr ⟨x,f⟩) (if_pos rfl)))).1
 have bh:=G.length;unfold Ho at h;split at h
 ·rename_i hj;refine a6 λH_ e_=> ?_;obtain⟨u,hu⟩:∃u,w[j]? =some u:=⟨_,bV hj⟩
  refine aw (G.get C.cP j n u L hu) λP hg _=> ?_;refine e_ ?_;refine bW _ _ _ rfl (by rw [hg];rfl) ?_ (G.put C.cP j n v t _ L X hj) h;rw [(G.put C.cP j n v t (s.toks+1) L X hj).length,e3];have:=C.small;have:=G.le;exact sb (by assumption) this (by exact ab)
 ·obtain⟨rfl,h⟩:=h
  have bN:∀i,i<w.length->M.fields[i]? ≠some n:=by
   intro i hi q;obtain⟨x1,x2⟩:=cF.mp q;obtain⟨x3,x4⟩:=cF.mp L;have:=(mT C.cP).mp (x2.trans x4.symm);exact Sb hi this
  refine fp (G.none bN) λg1 g2=> ?_;refine bW (w++[v]) _ _ rfl (by rw [g1];rfl) ?_ ?_ h
  ·rw [g2,a9,bh];have:=C.small;have:=G.le;simp;exact sb (by assumption) this (by exact ab)
  ·rw [g2];exact G.snoc n v t _ L X
@[reducible] def aa8 (b j:Nat) (k:List aa->ae->Prop) (Y:List aa) (v a:aa) (J:ae):Prop:=Hp b j a v J (k Y)
def fQ (a j:Nat) (t o:a7):ST:=λY J k r x=>t Y J (ek o Y x (aa8 a j k Y)) x
theorem aa9 {m j:Nat} {t o:a7} {e f:aH} {n:ax} {q:hO} {p u:aX} (B:bF Z d V t e) (D:bF Z d V o f) (F:lj Z m q) (H:q.fields[j]? =some n)
  (I:∀U,c0 V U->kz e (some (.Attribute f n p)) u.line U=pure false:=by intro _ _;rfl):fC Z d V (fQ m j t o) (.Assign [.Attribute f n p] e u):=by
 exact λA U w s c bq Y J k r x Q E O L S i h M hr z=>aa3 (B A U w s c Y J _ x _ E O L S h (λv a N T X h₁ R P va=>(D A U w X N Y T _ x _ E (O.ext P) L R h₁ (λy b c₂ cE s₂ h₂ S₂ l C=>(aV (S₂.aa7 ((O.ext P).ext l) F H C (l.hQ va) h₂ λaj K ks g=>M Y c₂ aj K ks g ((P.trans l).fwd i)))) (λe n G aj K h g W=>z e n Y G aj K h g ((P.trans W).fwd i)))) (λe n G aj K h g W=>z e n Y G aj K h g (W.fwd i))) (I U L)
@[reducible] def aba (i:Int) (J:ae) (k:ae->Prop) (n:Nat) (l:List Int) (x:Int):Prop:=l.length <= 16777216/\0 <= i/\i<l.length/\0 <= x/\x<256/\k (J.set n (.cv (l.set i.toNat x)))
def Hq (i:Int) (v:aa) (J:ae) (k:ae->Prop) (n:Nat) (o:Option aB):Prop:=match o with
 |some (.list l)=>l.length <= 16777216/\0 <= i/\i<l.length/\k (J.set n (.list (l.set i.toNat v)))
 |some (.cv l)=>cp (aba i J k n l) no no v
 |some (.dict l)=>cp (λx=>l.length <= 100000/\k (J.set n (.dict (qr l i x)))) no no v
 |_=>False
def Hr:aa->aa->aa->ae->(ae->Prop)->Prop:=λa i v J k=>cp (λi=>cp no no (λn=>Hq i v J k n J[n]?) a) no no i
theorem lg.len {l:List (Int×Int)} {m:List (Int×ai)} (h:lg l m):l.length=m.length:=b9.length h
theorem St.abb {A:cy} {U:be} {T:bk} {c:aP} {Y:List aa} {J:ae} {s:al} {a i v:aa} {y u t:ai} {k:ae->Prop} {Q:Unit->al->Prop} {E:ai->al->Prop} (S:St Z V U T c Y J s)
  (ha:a5 c.adr a y) (hi:a5 c.adr i u) (P:a5 c.adr v t) (h:Hr a i v J k) (hq:∀aj K,k aj->St Z V U T c Y aj K->Q () K):
  PySem.wpAny (aG Z.prog Z.w) A (xp y u t) Q E s:=by
 refine er hi h λi f h=>kF ha h λn g H h=>a6 λW M=> ?_
 haveI R:∃o,J[n]? =some o/\Hq i v J k n (some o):=by
  induction e:J[n]? with
  |none=>rw [e] at h;exact h.elim
  |some o=>rw [e] at h;exact aJ o rfl h
 refine aw R λo hl h=>aw (S.here hl) λw r X=>aw X λG O q=> ?_;clear X;refine M ?_;rw [H] at r;obtain rfl:=bl r;induction o with
 |list l=>
  refine a6 λW M=>cV q λvs sl ch B=> ?_;clear q;obtain rfl:=ch;exact jE h λI N L h=>M (Y3 O N (Fy L I) (U2 L (b9.length B)) (hq _ _ h (sI S H O (by simp) (B.set i.toNat P) s.toks)))
 |cv l=>
  refine er P h λx F h=>a6 λW M=>lR h λI N L D z h=>dN q λb p ee q3 q4=> ?_;clear q;obtain rfl:=ee;obtain rfl:=q3;obtain rfl:=q4;rw [ke] at I L;refine M (YL (j:=i.toNat) O (EK N) (Fy L I) ?_ D z I λR g1 g2=> ?_)
  ·unfold nP;haveI hn:¬i<0:=m9 N;simp only [hn,if_false,N,L,decide_true,OH,if_true]
  ·refine hq _ _ h (S.upd H g2 g1 (dt _ 0 rfl ?_ rfl) (bv rfl rfl rfl));unfold dI;rw [Array.toList_setIfInBounds,asj];congr 1;rw [UInt8.toNat_ofNat'];exact(congrArg _ (OJ ((Int.toNat_lt D).mpr z))).trans (Int.toNat_of_nonneg D)
 |dict l=>
  refine er P h λx F h=> ?_;obtain⟨I,h⟩:=h;exact aw q λm hd hk=>wpAny_setItem_pairs (by simp [pJ,xF]) (uj.mpr (aJ _ O hd)) (λR d hs=>(aw (uj.mp d) λo' fI C=>hq _ _ h (S.upd H hs fI (aJ _ C (hk.put i x F)) (bv rfl rfl rfl)))) (by rw [<-hk.len];exact bE I ab)
 |_=>exact h.elim
@[reducible] def abc (k:List aa->ae->Prop) (Y:List aa) (v a j:aa) (J:ae):Prop:=Hr a j v J (k Y)
@[reducible] def abd (i:a7) (k:List aa->ae->Prop) (Y:List aa) (x:bn) (v a:aa) (J:ae):Prop:=i Y J (abc k Y v a) x
def l8 (t o i:a7):ST:=λY J k r x=>t Y J (ek o Y x (abd i k Y x)) x
theorem abe {t o i:a7} {e f D:aH} {p B:aX} (H:bF Z d V t e) (N:bF Z d V o f) (T:bF Z d V i D)
  (hs:∀U,c0 V U->kz e (some (.Subscript f D p)) B.line U=pure false:=by intro _ _;rfl):fC Z d V (l8 t o i) (.Assign [.Subscript f D p] e B):=by
 refine λA U m s c bq Y J k r x Q E O L S l h jy hr q=>Hl (H A U m s c Y J _ x _ E O L S h (λv a c₁ ca s₁ h₁ R P va=>(N A U m s₁ c₁ Y ca _ x _ E (O.ext P) L R h₁ (λy b c₂ cE s₂ h₂ S₂ F C=> ?_) (λe n G aj K h j W=>q e n Y G aj K h j ((P.trans W).fwd l)))) (λe n G aj K h j W=>q e n Y G aj K h j (W.fwd l))) (hs U L);haveI M:=P.trans F;exact T A U m s₂ c₂ Y cE _ x _ E (O.ext M) L S₂ h₂ (λu w c₃ rq I X S₃ z g=>(aV (S₃.abb (z.hQ C) g ((F.trans z).hQ va) X λaj K ks j=>jy Y c₃ aj K ks j ((M.trans z).fwd l)))) (λe n G aj K h j W=>q e n Y G aj K h j ((M.trans W).fwd l))
end
section
variable {M:Model} {A:Around} {E:Value->Shared->Prop} {s:Shared} {U:Env}
theorem xb {c:kX} {h:Option ai} {Q:f7->al->Prop}
  (d:dS M (A.mark h) c (λr K=>match r with| .ok f=>Q f K| .error e=>PySem.cameBackBy M A U E e K) s) (g:gS c=true) (a:h≠some byPass:=by intro x;cases x):av M A (runOwn c U h) Q E s:=by
 refine rj (Nz (w9 d λr K b=> ?_) g a);induction r with
 |ok f=>exact b
 |error e=>exact aV b
theorem CR {d:Type} {m:ck d} {Q:d->al->Prop} (h:av M A m Q (λx K=>av M A (j7 x U) (λ_ H=>E x H) E K) s):av M A (m.onRaise λx=>do j7 x U;OK x) Q E s:=
 rj (b0 h (λ_ _ q=>q) λ_ _ a=>aC (b0 a (λ_ _ e=>aV (wpAny_theTreesLotGoes e)) λ_ _ e=>e))
end
section
variable {L:Program} {w:World} {A:Around} {E:Value->Shared->Prop} {R:Result->Shared->Prop} {s:Shared} {U:Env}
theorem abf {a:aH} {N:List eT}
  (h:av (aG L w) A (jB a U (bM a U)) (λb c=>
    if b then av (aG L w) A (nR N U) (λf I=>match f with
      | .next| .cont=>dS (aG L w) A (.whileLoop a N [] U) R I
      | .brk=>R (.ok .next) I
      | .ret v=>R (.ok (.ret v)) I) (λx K=>av (aG L w) A (j7 x U) (λ_ H=>R (.error x) H) (λe H=>R (.error e) H) K) c
    else R (.ok .next) c) (λx K=>av (aG L w) A (j7 x U) (λ_ H=>R (.error x) H) (λe H=>R (.error e) H) K) s):
  dS (aG L w) A (.whileLoop a N [] U) R s:=by
 refine jW ?_;show av _ A ((whileTurn a N [] U).onRaise (λx=>do j7 x U;OK x)) _ _ s
 refine CR (aC (b0 h (λb c g=> ?_) λ_ _ d=>d));induction b with
 |false=>
  exact aC (CL (bt g))
 |true=>
  refine aC (b0 g (λf I X=> ?_) λ_ _ d=>d);induction f with
  |next=>exact bt ⟨rfl,rfl,X⟩
  |cont=>exact bt ⟨rfl,rfl,X⟩
  |brk=>exact bt X
  |ret v=>exact bt X
end
section
variable {Z:bx} {d:Nat} {V:bb}
def kg (p:Nat) (u:List Nat):List Nat:=aI p++u
def d5 (V:bb) (p:Nat) (k:List aa->ae->Prop):List aa->ae->Prop:=λY J=>p <= J.length/\ ∃u:List Nat,u.Nodup/\(∀i∈u,p <= i/\i<J.length)/\
 (∀(i:Nat) (y:ax),V.slots[i]? =some (y,true)->match Y[i]? with
  |some (.ref j)=>j∈kg p u
  |_=>True)/\
 k (Y.map (cz (dG (kg p u)))) (g8 (kg p u) J)
theorem abg {i:Nat} {u:List Nat}:∀{n:Nat},i∈u->∃k,fO i u n=some k:=by
 induction u with
 |nil=>
  intro _ h;contradiction
 |cons j u B=>
  intro n h;rw [sr];split
  ·exact⟨_,rfl⟩
  ·rename_i q;rcases cb.mp h with rfl|h
   ·exact absurd (by rw [uk]) q
   ·exact B h
theorem St.view {U:be} {D:bk} {c:aP} {Y:List aa} {J:ae} {s:al} {u:List Nat} (S:St Z V U D c Y J s) (M:u.Nodup) (E:∀i∈u,i<J.length)
  (N:∀(i:Nat) (y:ax),V.slots[i]? =some (y,true)->match Y[i]? with|some (.ref j)=>j∈u|_=>True):
  St Z V U D {c with adr:=u.map λi=>c.adr.getD i 0} (Y.map (cz (dG u))) (Mine.g8 u J) s:=by
 refine a6 λP t=> ?_;have B:∀i∈u,i<c.adr.length:=λi p=>by rw [S.len];exact E i p
 have d:∀{j i:Nat},u[j]? =some i->(u.map λi=>c.adr.getD i 0)[j]? =c.adr[i]? :=λ{j i} h=>sy (L:=0) (oL:=default) B h;have w:∀(j i:Nat) (a:aq),dG u j=some i->c.adr[j]? =some a->(u.map λi=>c.adr.getD i 0)[i]? =some a:=λj i a e f=>by rw [d (vw e)];exact f
 have H:∀a∈u.map (λi=>c.adr.getD i 0),a∈c.adr:=λa n=>cV (sz (L:=0) (oL:=default) B n) λ_ _ _ h=>cq h
 haveI l:∀a∈({c with adr:=u.map λi=>c.adr.getD i 0}).all,a∈c.all:=by
  intro a n;rcases cR.mp n with h|h
  ·exact cQ _ (H a h)
  ·exact dn _ h
 haveI A:=S.cP;unfold aP.all at A;rw [eq] at A;refine dp A λQ R O=>aw S.F λm F em=>t ⟨(aJ m F ?_),?_,by simp [Mine.g8],?_,λa n=>S.own a (l a n),S.pr,S.aK,S.rest,S.low.1,λa n=>S.low.2 a (l a n)⟩
 ·intro i y b h;haveI:=em i y b h;induction b with
  |false=>
   refine aw this λa e f=>aJ (cz (dG u) a) (by rw [cm,e];rfl) ?_;rcases f with rfl|T
   ·exact .inl rfl
   ·refine aw T λv C W=> ?_;exact .inr (aJ v C (a5.turn w W))
  |true=>
   refine a6 λP t=>dN this λj r e f C=> ?_;haveI g:=N i y h;haveI g:=e▸g;obtain⟨k,I⟩:=abg g;refine t (dt k r ?_ (w j k r I f) C);rw [cm,e];show some (match dG u j with|some i=>aa.ref i|none=>.dW)=_
   rw [show dG u j=some k from I]
 ·unfold aP.all;rw [eq];refine⟨uh.mpr (M.imp_of_mem λ{i j} p g G q=>G ?_),R,λx X y hy=>O x (H x X) y hy⟩;rw [da,da,bV (B i p),bV (B j g)] at q;exact(mT Q).mp q
 ·intro j ao a e f
  have g:=by
   haveI:=(cF.mp e).1
   simpa [Mine.g8] using this
  haveI K:=bV g;rw [d K] at f;have z:=E u[j] (mX g)
  have hv:(Mine.g8 u J)[j]? =some (mo (dG u) J[u[j]]):=by
   unfold Mine.g8;rw [cm,K,pM,da,bV z];rfl
  rw [hv] at e;obtain rfl:=bl e;refine aw (S.obj u[j] _ a (bV z) f) λo ho p=> ?_;exact aJ o ho (p.turn w)
theorem abh {l:List aq} {p:Nat} (h:p <= l.length):(aI p).map (λi=>l.getD i 0)=l.take p:=by
 apply rF;intro i;rw [cm];by_cases a:i<p
 ·rw [i5 a,List.getElem?_take_of_lt a];show some (l.getD i 0)=_
  rw [da,bV (by exact yy a h)];rfl
 ·rw [hJ (by simp;exact jH a),hJ (by simp;exact Sg (ew ..) a)];rfl
theorem St.trim {U:be} {d:bk} {c:aP} {Y:List aa} {J:ae} {s:al} {a:List aq} {k:List aa->ae->Prop} (S:St Z V U d c Y J s) (f:a<+:c.adr) (h:d5 V a.length k Y J):
  ∃X aj G,k X aj/\St Z V U d G X aj s/\dC a c G:=by
 refine a6 λr g=> ?_;obtain⟨e,u,j,E,l,m⟩:=h
 haveI n:(kg a.length u).Nodup:=by
  unfold kg;rw [eq];refine⟨DH,j,λx o y p=> ?_⟩;haveI:=gr.mp o;haveI:=(E y p).1;exact Sv (by assumption) this
 refine g (gv _ _ _ m (S.view n (λi b=> ?_) l) ⟨?_,.refl _,.refl _⟩)
 ·rcases cR.mp b with b|b
  ·haveI:=gr.mp b;exact yy this e
  ·exact(E i b).2
 ·unfold kg;rw [db,abh (by rw [S.len];exact e)];obtain⟨t,q⟩:=f;haveI:c.adr.take a.length=a:=by rw [<-q];simp
  rw [this];exact⟨_,rfl⟩
def nk (V:bb) (t:de) (N:ST):Nat->Nat->ST
 |_,0=>λ_ _ _ _ _=>False
 |p,n+1=>λY J k r x=>t Y J (λb J=>jI b (N Y J (d5 V p λY J=>nk V t N p n Y J k r x) r x) (k Y J)) x
def qu (V:bb) (t:de) (N:ST):ST:=λY J k r x=>∃n,nk V t N J.length n Y J k r x
theorem Hs {t:de} {N:ST} {e:aH} {j:List eT} {ap:aX} (ht:hT Z d V t e) (hb:eb Z d V N j) (pC:V.comp=false:=by rfl):fC Z d V (qu V t N) (.While e j [] ap):=by
 intro A U h₀ s c bq Y J k r x Q E O L S hp ⟨n,hn⟩ hk hr hx;refine aC (c9 (xb (?_) rfl));haveI M:=L.fr pC;obtain⟨lf,j1⟩:=O.head M
 haveI ef:∀{G:aP},gd c.pr G.pr->∀f∈U::lf,f.scope.kind≠ .module/\ ∃a,f.frame=some a/\(a=U.locals\/a∈G.pr.map (·.1)):=by
  intro G R f C3;refine aw O.frames λl h1 h2=> ?_;rw [j1] at h1;obtain rfl:=bl h1;rw [R.map];exact h2 f C3
 haveI y:∀n X aj (G:aP) K,nk V t N c.adr.length n X aj k r x->St Z V U h₀ G X aj K->dC c.adr c G->
   dS (aG Z.prog Z.w) A (.whileLoop e j [] U) (λu K=>match u with| .ok f=>Q f K| .error e=>PySem.cameBackBy (aG Z.prog Z.w) A U E e K) K:=by
  intro n;induction n with
  |zero=>exact λX aj G K h=>h.elim
  |succ n B=>
   intro X aj G K h S' w;have o:∀{I:aP},dC c.adr c I->dC bq c I:=λD=>⟨hp.trans D.pin,D.pr,D.aK⟩
   have xh:∀(W:Nat) (F:aq) (I:aP) cX z T,x W z->St Z V U h₀ I cX z T->dC c.adr c I->gU Z U.locals h₀ I W F T.heap->
     av (aG Z.prog Z.w) A (j7 (.ref F) U) (λ_ H=>PySem.cameBackBy (aG Z.prog Z.w) A U E (.ref F) H) (λe H=>PySem.cameBackBy (aG Z.prog Z.w) A U E e H) T:=by
    exact λW F I cX z T rt g D fl=>zh g j1 M (ef D.pr) fl λc3 s3 S3 a1 a2 a3 hh=>GG S3 M hh λs4 S4 C4=>hx F W cX c3 z s4 rt S4 (o ⟨by rw [a1];exact D.pin,D.pr.trans a2,by rw [a3];exact D.aK⟩) (.inr C4)
   refine abf (ht A U h₀ K G X aj _ x _ _ (O.fwd w) L S' h (λb p i s1 h1 S1 e1=> ?_) (λF W p i s1 h1 S1 e1 fl=>(xh W F p X i s1 h1 S1 (w.trans (e1.fwd w.pin)) fl)))
   ·have w1:=w.trans (e1.fwd w.pin);induction b with
    |false=>
     exact hk X p i s1 h1 S1 (o w1)
    |true=>
     refine hb A U h₀ s1 p c.adr X i _ r x _ _ (O.fwd w1) L S1 w1.pin h1 (λcX I z T h2 g D=> ?_) (λv a cX I z T h2 g D hv=>(hr v a cX I z T h2 g (o (w1.trans D)) hv)) (λF W cX I z T h2 g D fl=>(xh W F I cX z T h2 g (w1.trans D) fl))
     ·haveI q:=w1.trans D;exact ff (g.trim q.pin h2) λC P c3 h3 S3 m=>B C P c3 T h3 S3 (q.trans m)
 haveI hn:=S.len.symm▸hn;exact y n Y J c s hn S (.refl xx)
end
section
variable {M:Model} {A:Around} {E:Value->Shared->Prop} {s:Shared} {U:Env}
theorem tQ {x:ax} {v:ai} {Q:Unit->al->Prop} (h:av M A (pE U x v) Q E s):av M A (xG U x v) Q E s:=λg p i=>by rw [Oo];exact h g p i
end
section
variable {L:Program} {w:World} {A:Around} {E:Value->Shared->Prop} {R:Result->Shared->Prop} {s:Shared} {U:Env}
theorem abi {y:ax} {p:aX} {b:ai} {N:List eT}
  (h:av (aG L w) A (pyNext b) (λr c=>match r with
   |none=>R (.ok .next) c
   |some v=>av (aG L w) A (pE U y v) (λ_ d=>av (aG L w) A (nR N U) (λf I=>match f with
      | .next| .cont=>dS (aG L w) A (.forLoop (.Name y p) b N [] U) R I
      | .brk=>R (.ok .next) I
      | .ret v=>R (.ok (.ret v)) I) (λx K=>av (aG L w) A (j7 x U) (λ_ H=>R (.error x) H) (λe H=>R (.error e) H) K) d)
     (λx K=>av (aG L w) A (j7 x U) (λ_ H=>R (.error x) H) (λe H=>R (.error e) H) K) c) (λx K=>av (aG L w) A (j7 x U) (λ_ H=>R (.error x) H) (λe H=>R (.error e) H) K) s):
  dS (aG L w) A (.forLoop (.Name y p) b N [] U) R s:=by
 refine jW (CR (aC (c9 (aC (rj (b0 h (λr c g=> ?_) λ_ _ a=>c9 a))))));induction r with
 |none=>exact bt ⟨rfl,rfl,CH (codeAny_block (PySem.wpAny_execs_nil g))⟩
 |some v=>
  refine gg rfl (aC (aC (c9 (tQ (b0 g (λ_ d i=>(aC (b0 i (λf I X=> ?_) λ_ _ a=>a))) λ_ _ a=>a)))));induction f with
  |next=>exact bt ⟨rfl,rfl,X⟩
  |cont=>exact bt ⟨rfl,rfl,X⟩
  |brk=>exact bt X
  |ret v=>exact bt X
end
section
variable {Z:bx} {d:Nat} {V:bb}
theorem St.vK {U:be} {f:bk} {c:aP} {Y:List aa} {J:ae} {s:al} (S:St Z V U f c Y J s) {o:cj} (g:o.isFreed=false) (t:Nat):
  St Z V U f {c with aK:=(s.heap.objs.size,o)::c.aK} Y J {s with heap:=s.heap.push o,toks:=t}:=by
 haveI d:=S.oy o t;refine jE (S.fresh lm (dA _)) λi j k l=> ?_
 haveI w:∀b,b∈({c with aK:=(s.heap.objs.size,o)::c.aK}).all->b∈c.all\/b=s.heap.objs.size:=by
  intro b a;simp only [aP.all,cR,cB,cb] at a⊢;rcases a with a|a|a|a
  ·exact .inl (.inl a)
  ·exact .inl (.inr (.inl a))
  ·exact .inr a
  ·exact .inl (.inr (.inr a))
 refine⟨d.F,?_,d.len,d.obj,λb a=> ?_,d.pr,λp e=> ?_,d.rest,d.low.1,λb a=> ?_⟩
 ·haveI:(c.adr++(c.pr.map (·.1)++((s.heap.objs.size,o)::c.aK).map (·.1))).Perm (s.heap.objs.size::(c.adr++(c.pr.map (·.1)++c.aK.map (·.1)))):=by
   rw [<-bX,<-bX];exact ul
  exact this.nodup_iff.mpr (eD.mpr ⟨i,S.cP⟩)
 ·rcases w b a with h|rfl
  ·exact S.own b h
  ·exact⟨j,k⟩
 ·rcases cb.mp e with rfl|e
  ·exact rE _ g
  ·exact d.aK p e
 ·rcases w b a with h|rfl
  ·exact S.low.2 b h
  ·exact l
theorem St.qv {U:be} {d:bk} {c:aP} {Y:List aa} {J:ae} {s:al} {p:aq×cj} {I:List (aq×cj)} (S:St Z V U d c Y J s) (e:c.aK=p::I):St Z V U d {c with aK:=I} Y J s:=by
 have f:∀b,b∈({c with aK:=I}).all->b∈c.all:=by
  intro b a;simp only [aP.all,cR,e,cB,cb] at a⊢;rcases a with a|a|a
  ·exact .inl a
  ·exact .inr (.inl a)
  ·exact .inr (.inr (.inr a))
 refine⟨S.F,?_,S.len,S.obj,λb a=>S.own b (f b a),S.pr,λq hq=>S.aK q (by rw [e];exact .tail _ hq),S.rest,S.low.1,λb a=>S.low.2 b (f b a)⟩;have g:=S.cP;unfold aP.all at g⊢;refine g.sublist ?_;rw [e];exact(List.Sublist.refl _).append ((List.Sublist.refl _).append ((OL ..).map _))
theorem St.Ht {U:be} {u:bk} {c:aP} {Y:List aa} {J:ae} {s K:al} {h:aq} {o o':cj} {I:List (aq×cj)} (S:St Z V U u c Y J s) (e:c.aK=(h,o)::I) (l:kx h s.heap K.heap) (B:K.heap.get? h=some o')
  (r:jK s K):St Z V U u {c with aK:=(h,o')::I} Y J K:=by
 haveI n:=S.cP
 have t:(∀b∈c.adr,b≠h)/\(∀b∈c.pr.map (·.1),b≠h)/\ ∀b∈I.map (·.1),b≠h:=by
  unfold aP.all at n;rw [e,cB,eq] at n;refine dp n λ_ z O=> ?_;rw [eq] at z;refine dp z λ_ d g=> ?_;rw [eD] at d;exact⟨λb k=>O b k h (dn _ (.head _)),λb k=>g b k h (.head _),λb k q=>d.1 (q▸k)⟩
 refine aw S.F λm F em=> ?_;obtain⟨C,N⟩:=S.own h (by simp only [aP.all,cR,e,cB,cb];exact .inr (.inr (.inl trivial)));haveI w:({c with aK:=(h,o')::I}).all=c.all:=by simp [aP.all,e]
 refine⟨(aJ m (F.change l C N) em),by rw [w];exact S.cP,S.len,λi ao a D A=>(aw (S.obj i ao a D A) λv f E=>aJ v ((l.2 a (t.1 a (cq A))).trans f) E),by rw [w];exact S.own,λp j=> ?_,λp j=> ?_,⟨r.1.trans S.rest.1,r.2.1.trans S.rest.2.1,r.2.2.trans S.rest.2.2⟩,by rw [w];exact S.low⟩
 ·obtain⟨x,y⟩:=S.pr p j;exact⟨(l.2 _ (t.2.1 _ (io j))).trans x,y⟩
 ·rcases cb.mp j with rfl|j
  ·exact B
  ·exact(l.2 _ (t.2.2 _ (io j))).trans (S.aK p (by rw [e];exact .tail _ j))
theorem St.Hu {U:be} {h:bk} {c:aP} {Y:List aa} {J:ae} {s K:al} {a:aq} {o:cj} {I:List (aq×cj)} (S:St Z V U h c Y J s) (e:c.aK=(a,o)::I) (d:asl a s.heap K.heap)
  (r:jK s K):St Z V U h {c with aK:=I} Y J K:=by
 haveI D:=S.qv e;refine fp (S.own a (by simp only [aP.all,cR,e,cB,cb];exact .inr (.inr (.inl trivial)))) λi N=> ?_;haveI g:=S.cP
 have j:a∉({c with aK:=I}).all:=by
  unfold aP.all at g⊢;rw [e,<-bX] at g;haveI:=(ul).nodup_iff.mp g;rw [eD] at this;rw [<-bX];exact this.1
 exact aw D.F λm F em=>D.turn (m6 F.ns λoL k l n p=>⟨(rP oL k l (d _ _ (Ne.symm i) n) p),λb v f=>d b v (λq=>by have f:=N▸q▸f;contradiction) (F.keep b v f),F.above⟩) em (λb t v f=>d b v (λq=>j (q▸t)) f) r
abbrev jN:=ae->Nat->(Option aa->Prop)->Prop
structure sP (Z:bx) (inv:List aq->Nat->cj->Prop) (abj:jN):Prop where
 cls:∀pin i o,inv pin i o->o.cls≠Value.none
 next:∀(V:bb) (A:cy) (env:be) (h₀:bk) (s:al) (c:aP) (pin:List aq) (vj:List aa) (led:ae) (it:aq) (o:cj) (aK:List (aq×cj)) (i:Nat) (k:Option aa->Prop) (Q:Option ai->al->Prop) (E:ai->al->Prop),
  St Z V env h₀ c vj led s->c.aK=(it,o)::aK->A.handled=none->pin<+:c.adr->inv pin i o->abj led i k->
  (∀v a kh Hv abk,k (some a)->a5 c.adr a v->kh.get? it=some Hv->inv pin (i+1) Hv->kx it s.heap kh->Q (some v) {s with heap:=kh,toks:=abk})->
  (∀kh,k none->asl it s.heap kh->Q none {s with heap:=kh})->
  PySem.wpAny (aG Z.prog Z.w) A (pyNext (.ref it)) Q E s
def gC (V:bb) (D:jN) (b:Nat) (N:ST):Nat->Nat->Nat->ST
 |_,0,_=>λ_ _ _ _ _=>False
 |p,f+1,i=>λY J k r x=>D J i λo=>je o (λa=>N (Y.set b a) J (d5 V p λY J=>gC V D b N p f (i+1) Y J k r x) r x) (k Y J)
theorem Hw {ih:List aq->Nat->cj->Prop} {D:jN} {bL:Nat} {y:ax} {N:ST} {j:List eT} {p:aX} (W:sP Z ih D) (Y:eb Z d V N j) (pC:V.comp=false) (nd:(V.slots.map (·.1)).Nodup) (h1:V.slots[bL]? =some (y,false)) (h2:V.scope.names.lookup y=some .local)
  {A:cy} {U:be} {J:bk} {c:aP} {k:List aa->ae->Prop} {r:aa->ae->Prop} {x:bn} {Q:f7->al->Prop} {E:ai->al->Prop} {it:aq} (O:Ok Z d A U J c) (L:c0 V U)
  (hk:∀X G aj K,k X aj->St Z V U J G X aj K->dC c.adr c G->Q .next K)
  (hr:∀v a X G aj K,r a aj->St Z V U J G X aj K->dC c.adr c G->a5 G.adr a v->Q (.ret v) K)
  (hx:∀e n X G aj K,x n aj->St Z V U J G X aj K->dC c.adr c G->gU Z U.locals J G n e K.heap->E (.ref e) K):
  ∀(n i:Nat) X aj (G:aP) K o I,gC V D bL N c.adr.length n i X aj k r x->St Z V U J G X aj K->G.aK=(it,o)::I->dC c.adr c {G with aK:=I}->ih c.adr i o->
   dS (aG Z.prog Z.w) A (.forLoop (.Name y p) (.ref it) j [] U) (λu K=>match u with| .ok f=>Q f K| .error e=>PySem.cameBackBy (aG Z.prog Z.w) A U E e K) K:=by
 have M:=L.fr pC;obtain⟨lf,j1⟩:=O.head M
 have ef:∀{G:aP},gd c.pr G.pr->∀f∈U::lf,f.scope.kind≠ .module/\ ∃a,f.frame=some a/\(a=U.locals\/a∈G.pr.map (·.1)):=by
  intro G R f C3;refine aw O.frames λl h1 h2=> ?_;rw [j1] at h1;obtain rfl:=bl h1;rw [R.map];exact h2 f C3
 intro n;induction n with
 |zero=>exact λi X aj G K o I h=>h.elim
 |succ n B=>
  refine λi X aj G K o I h S' iZ w hi=>abi (aV (W.next V A U J K G c.adr X aj it o I i _ _ _ S' iZ O.room.2.2 w.pin hi h (λv a h' o' tk ha va fI iA hs=> ?_) (λh' hn hs=>(hk X _ aj _ hn (S'.Hu iZ hs (bv rfl rfl rfl)) w))))
  ·refine((S'.Ht (K:={K with heap:=h',toks:=tk}) iZ hs fI (bv rfl rfl rfl)).sA L nd h1 h2 va λs2 g=> ?_);haveI w1:dC c.adr {c with aK:=(it,o')::c.aK} {G with aK:=(it,o')::I}:=⟨w.pin,w.pr,.cons (bv rfl rfl (λ_=>rfl)) w.aK⟩
   have mK:∀{t:aP},dC c.adr {G with aK:=(it,o')::I} t->∃eZ,t.aK=(it,o')::eZ/\dC c.adr c {t with aK:=eZ}:=by
    intro t w2;have ht:=w2.aK;induction e:t.aK with
    |nil=>replace ht:=e▸ht;contradiction
    |cons q eZ=>
     replace ht:=e▸ht;cases ht with
     |cons g1 g2=>
      refine dp g1 λg3 g4 g5=> ?_;haveI:=Prod.ext g3 (g5 (W.cls _ _ _ iA));subst this;exact aJ eZ rfl ⟨w2.pin,w.pr.trans w2.pr,ir.trans w.aK g2⟩
   haveI xh:∀(en:Nat) (F:aq) (t:aP) cX z s2,x en z->St Z V U J t cX z s2->dC c.adr {G with aK:=(it,o')::I} t->gU Z U.locals J t en F s2.heap->
     av (aG Z.prog Z.w) A (j7 (.ref F) U) (λ_ H=>PySem.cameBackBy (aG Z.prog Z.w) A U E (.ref F) H) (λe H=>PySem.cameBackBy (aG Z.prog Z.w) A U E e H) s2:=by
    refine λen F t cX z s2 rt g w2 fl=>zh g j1 M (ef (w.pr.trans w2.pr)) fl λc3 s3 S3 a1 a2 a3 hh=> ?_;haveI m:dC c.adr {G with aK:=(it,o')::I} c3:=⟨by rw [a1];exact w2.pin,w2.pr.trans a2,by rw [a3];exact w2.aK⟩
    refine GG S3 M hh λs4 S4 C4=>aw (mK m) λeZ e2 w4=>hx F en cX _ z s4 rt (S4.qv e2) w4 (.inr (iG C4 λC hC iY ju q4=>(pV q4 λP vs T oT ts x1 x2 x3 x4 x5 x6 x7 x8 mJ=> ?_)));obtain⟨x9,ig⟩:=mJ
    haveI eR:∀b,b∈({c3 with aK:=eZ}).all->b∈c3.all:=by
     intro b Y;simp only [aP.all,cR,e2,cB,cb] at Y⊢;rcases Y with Y|Y|Y
     ·exact .inl Y
     ·exact .inr (.inl Y)
     ·exact .inr (.inr (.inr Y))
    exact⟨C,hC,iY,λq=>ju (eR _ q),P,vs,T,oT,ts,x1,x2,x3,x4,x5,λq=>x6 (eR _ q),x7,x8,x9,ig⟩
   exact Y A U J s2 _ c.adr _ aj _ r x _ _ ((show Ok Z d A U J {c with aK:=(it,o')::c.aK} from⟨O.base,O.room,O.frame,O.frames,O.head⟩).fwd w1) L g w.pin ha (λcX t z s3 h3 S3 m=>(a6 λH_ e_=>ff (S3.trim m.pin h3) λS C5 c4 h4 S4 w4=>aw (mK (m.trans w4)) λeZ e2 s=>e_ (B (i+1) S C5 c4 s3 o' eZ h4 S4 e2 s iA))) (λv a cX t z s3 h3 S3 m hv=>(aw (mK m) λeZ e2 s=>hr v a cX _ z s3 h3 (S3.qv e2) s hv)) (λF en cX t z s3 h3 S3 m fl=>(xh en F t cX z s3 h3 S3 m fl))
def zC (n:Nat):List aq->Nat->cj->Prop:=λa i o=>∃l,a[n]? =some l/\o.cls= .type "list_iterator" /\o.data= .fields #[.ref l,.int i 0]
def kM (n:Nat):jN:=λJ i k=>oj (λl=>k l[i]?) J[n]?
theorem Hx {n:Nat}:sP Z (zC n) (kM n) where
 cls:=λt i o ⟨l,_,h,_⟩=>by rw [h];exact λq=>nomatch q
 next:=by
  intro V A U T s c t Y J p o I i k Q E S u w y ⟨l,r,z,hd⟩ e C F;refine sD S (fi y _ _ r) e λH G K _ f B e=> ?_;have g:s.heap.IsListIter p l i:=⟨o,S.aK (p,o) (by rw [u];exact .head _),z,hd⟩
  have D:s.heap.IsList l G.toArray:=⟨_,f,rfl,K,rfl⟩
  cases q:H[i]? with
  |none=>
   rw [q] at e;refine wpAny_pyNext_list_end w g D ?_ λm L=>F m e L;have M:=b9.length B;have:=List.getElem?_eq_none_iff.mp q;simp;exact Sw M this
  |some a=>
   rw [q] at e;obtain⟨v,N,O⟩:=b9.get B i a q;refine wpAny_pyNext_list_item (x:=v) g D (by simpa using N) λm j P=> ?_;obtain⟨o',R,b,d⟩:=j;exact C v a m o' s.toks e O R ⟨l,r,b,d⟩ P
@[reducible] def abl (V:bb) (b:Nat) (N:ST) (Y:List aa) (k:List aa->ae->Prop) (r:aa->ae->Prop) (x:bn) (a:aa) (J:ae):Prop:=iM (λn _=>∃f,gC V (kM n) b N J.length f 0 Y J k r x) J a
def jO (V:bb) (a:Nat) (t:a7) (N:ST):ST:=λY J k r x=>t Y J (abl V a N Y k r x) x
theorem abm {o:Nat} {y:ax} {t:a7} {N:ST} {e:aH} {j:List eT} {p z:aX} (C:bF Z d V t e) (D:eb Z d V N j) (F:(V.slots.map (·.1)).Nodup) (H:V.slots[o]? =some (y,false)) (I:V.scope.names.lookup y=some .local)
  (T:V.comp=false:=by rfl) (hs:∀U x,mY e U x=pure x:=by intro _ _;rfl):fC Z d V (jO V o t N) (.For (.Name y p) e j [] z):=by
 refine λA U h₀ s c bq Y J k r x Q E O L S q h hk hr u=>aC (c9 (aC (C A U h₀ s c Y J _ x _ E O L S h (λv a c₁ ca s₁ i R P va=>(gg (hs U v) (aC (c9 (aC (dJ (jh R va i λn g l vs sl ha ho B i=> ?_))))))) (λe n G aj K h b W=>u e n Y G aj K h b (W.fwd q)))));obtain⟨f,M⟩:=i;refine aV (asm ⟨_,ho,rfl,sl,rfl⟩ ?_);have m:=P.fwd q;refine xb ?_ rfl;haveI M:=R.len.symm▸M
 exact Hw (Hx) D T F H I (O.ext P) L (λX G aj K h b w=>hk X G aj K h b (m.trans ⟨m.pin.trans w.pin,w.pr,w.aK⟩)) (λv a X G aj K h b w hv=>hr v a X G aj K h b (m.trans ⟨m.pin.trans w.pin,w.pr,w.aK⟩) hv)
  (λe n X G aj K h b w fl=>u e n X G aj K h b (m.trans ⟨m.pin.trans w.pin,w.pr,w.aK⟩) fl) f 0 Y ca _ _ _ c₁.aK M (R.vK rfl s₁.toks) rfl (.refl xx) (cJ g ha rfl rfl)
def dv (a b c:Int):List Int:=(aI (gt a b c).toNat).map λ(i:Nat)=>a+c*(i:Int)
def zD (a b c:Int):List aq->Nat->cj->Prop:=λ_ i o=>i <= (dv a b c).length/\o={cls:=.type "range_iterator",dict:=none,data:=.fields #[iC (a+c*(i:Int)),iC ((dv a b c).length-(i:Int)),iC c],slots:= #[]}
def fZ (a b c:Int):jN:=λ_ i k=>k ((dv a b c)[i]?.map .int)
theorem Hy {a b c:Int}:sP Z (zD a b c) (fZ a b c) where
 cls:=λn i o ⟨_,h⟩=>by rw [h];exact λq=>nomatch q
 next:=by
  intro V A U C s G n Y J m o I i k Q E S p r D ⟨F,t⟩ f u v
  have g:IsRangeIter s.heap m (a+c*(i:Int)) ((dv a b c).length-(i:Int)) c:=by
   have q:=S.aK (m,o) (by rw [p];exact .head _);rw [t] at q;exact q
  unfold fZ at f;by_cases d:i<(dv a b c).length
  ·have e:(dv a b c)[i]? =some (a+c*(i:Int)):=by
    unfold dv at d⊢;rw [bz,jC] at d;rw [cm,i5 d];rfl
   rw [e] at f;refine wpAny_pyNext_range_item g (by exact Tc d) λl j w=> ?_;refine u _ (.int (a+c*(i:Int))) l _ (s.toks+1) f ⟨_,rfl⟩ j ⟨d,?_⟩ w;have x:a+c*(i:Int)+c=a+c*((i+1:Nat):Int):=by rw [DI,Int.mul_add];exact(DJ ..).trans (congrArg (λz=>a+(c*(i:Int)+z)) (Int.mul_one c).symm)
   have y:((dv a b c).length:Int)-(i:Int)-1=((dv a b c).length:Int)-((i+1:Nat):Int):=by exact VU
   rw [x,y]
  ·have e:(dv a b c)[i]? =none:=hJ (by exact jH d);rw [e] at f;exact wpAny_pyNext_range_end r g (by exact TK d) λl B=>v l f B
def pt (a:aa):Option Int:=match a with
 | .int n=>some n
 |_=>none
theorem qw {T:List aq} {a:aa} {v:ai} {n:Int} (h:pt a=some n) (b:a5 T a v):∃t,v= .int n t:=by
 cases a<;>first|obtain rfl:=bl h;exact b|contradiction
def vL (H:List aa):Option (Int×Int×Int):=match H with
 | [a]=>(pt a).bind λn=>some (0,n,1)
 | [a,b]=>(pt a).bind λa=>(pt b).bind λb=>some (a,b,1)
 | [a,b,c]=>(pt a).bind λa=>(pt b).bind λb=>(pt c).bind λc=>some (a,b,c)
 |_=>none
def gZ (q:Int×Int×Int):Prop:= -(2^61) <= q.1/\q.1<2^61/\ -(2^61) <= q.2.1/\q.2.1<2^61/\0<q.2.2/\q.2.2<2^61
theorem zE {a b c:Int} (h:gZ (a,b,c)):Builtin.Range.small a b c=true:=by
 refine lR h λe g i f d G=> ?_
 haveI hq:0 <= gt a b c/\gt a b c <= 2^62:=by
  unfold gt;rw [if_pos d];split
  ·exact XO e (xH (rY (by assumption)) (uK d)) f (Int.ediv_le_self _ (rY (by assumption)))
  ·exact RJ
 unfold Builtin.Range.small;simp only [auc,eC,Bool.or_eq_true,decide_eq_true_eq,beq_iff_eq,if_pos d];exact Yr e i hq d g f G
theorem zF {A:cy} {U:be} {m:bk} {c:aP} {Y:List aa} {J:ae} {s:al} {H:List aa} {o:List ai} {q:Int×Int×Int} {Q:ai->al->Prop} {E:ai->al->Prop} (S:St Z V U m c Y J s) (e:cZ c.adr H o) (hq:vL H=some q) (p:gZ q)
  (h:∀g t u v K,St Z V U m c Y J K->IsRange K.heap g q.1 q.2.1 q.2.2 t u v->Q (.ref g) K):PySem.wpAny (aG Z.prog Z.w) A (hG (.type "range") o) Q E s:=by
 cases e with
 |nil=>contradiction
 |cons d e=>
 cases e with
 |nil=>
  refine aw (n0.mp hq) λn j hq=> ?_;obtain rfl:=bl hq;obtain⟨t,rfl⟩:=qw j d;exact call_range_1 (h _ _ _ _ _ (S.oy ..) (IsRange.new ..))
 |cons i e=>
 induction e with
 |nil=>
  refine aw (n0.mp hq) λa j hq=>aw (n0.mp hq) λb k hq=> ?_;obtain rfl:=bl hq;obtain⟨t,rfl⟩:=qw j d;obtain⟨t,rfl⟩:=qw k i;exact call_range_2 (h _ _ _ _ _ (S.oy ..) (IsRange.new ..))
 |cons f e=>
 induction e with
 |cons=>contradiction
 |nil=>
  refine aw (n0.mp hq) λa j hq=>aw (n0.mp hq) λb k hq=>aw (n0.mp hq) λr X hq=> ?_;obtain rfl:=bl hq;obtain⟨t,rfl⟩:=qw j d;obtain⟨t,rfl⟩:=qw k i;obtain⟨t,rfl⟩:=qw X f;refine lR p λw x y z l G=>call_range_3 (QI l) (h _ _ _ _ _ (S.oy ..) (IsRange.new ..)) (.inl (arS ?_))
  ·haveI N:r.natAbs<2^64:=arT.1 (by rw [arU (nV l)];exact OM G ∅);haveI:=(Ot (arV.2 (ud l))).mpr N;exact r9 this ab
def pu (a:LT) (j:Int×Int×Int->List aa->ae->Prop):List aa->ae->bn->Prop:=λY J x=>a Y J (λH J=>match vL H with
 |some q=>gZ q/\j q Y J
 |none=>False) x
def jk (V:bb) (a:Nat) (b:LT) (N:ST):ST:=λY J k r x=>pu b (λq Y J=>∃f,gC V (fZ q.1 q.2.1 q.2.2) a N J.length f 0 Y J k r x) Y J x
theorem abn {B:Nat} {y:ax} {C:LT} {N:ST} {D:List aH} {j:List eT} {p F i ap:aX} (ht:iv Z d V C D) (hb:eb Z d V N j) (nd:(V.slots.map (·.1)).Nodup) (h1:V.slots[B]? =some (y,false)) (h2:V.scope.names.lookup y=some .local)
  (g1:fL Z.K eU "range" =some none) (g2:V.scope.names.lookup ("range" :ax)=some DK) (pC:V.comp=false:=by rfl) (dm:D.all gn=true:=by rfl) (l:nZ "range" =some (.type "range"):=by decide+kernel)
  (hs:∀U x,mY (.Call (.Name "range" F) D [] i) U x=pure x:=by intro _ _;rfl):fC Z d V (jk V B C N) (.For (.Name y p) (.Call (.Name "range" F) D [] i) j [] ap):=by
 refine λA U h₀ s c bq Y J k r x Q E O L S I h hk hr T=>aC (c9 (aC (mA (ql O L S g1 l ∅ g2 (rfl) (kc dm (vt "range") (ht A U h₀ s c Y J _ x _ E i O L S h (λvs H c₁ ca s₁ o R P va=>⟨trivial,?_⟩) (λe n G aj K h b W=>T e n Y G aj K h b (W.fwd I))))))));split at o<;>try exact o.elim
 rename_i q hq;refine fp o λz q1=> ?_;obtain⟨f,M⟩:=q1;refine aV (zF R va hq z λg t u v s₂ S₂ hR=>(gg (hs U _) (aC (c9 (aC (dJ (aV (asn hR (zE z) ?_))))))));haveI m:=P.fwd I;refine xb ?_ rfl;haveI M:=R.len.symm▸M
 haveI fc:0 <= gt q.1 q.2.1 q.2.2:=by
  refine lR z λ_ _ _ _ h5 _=> ?_;unfold gt;rw [if_pos h5];split
  ·exact iq (xH (rY (by assumption)) (uK h5)) ab
  ·exact yp
 refine Hw (Hy) hb pC nd h1 h2 (O.ext P) L (λX G aj K h b w=>hk X G aj K h b (m.trans ⟨m.pin.trans w.pin,w.pr,w.aK⟩)) (λv a X G aj K h b w l=>hr v a X G aj K h b (m.trans ⟨m.pin.trans w.pin,w.pr,w.aK⟩) l)
  (λe n X G aj K h b w fl=>T e n X G aj K h b (m.trans ⟨m.pin.trans w.pin,w.pr,w.aK⟩) fl) f 0 Y ca _ _ _ c₁.aK M (S₂.vK rfl s₂.toks) rfl (.refl xx) ⟨eF _,?_⟩
 haveI e1:((dv q.1 q.2.1 q.2.2).length)=gt q.1 q.2.1 q.2.2:=by unfold dv;rw [bz,jC];exact uQ (bp _) fc
 simp [e1]
end
section
variable {M:Model} {A:Around} {E:Value->Shared->Prop} {s:Shared}
theorem qx {d j:Type} {t:ck d} {f:d->ck j} {a:d} {Q:j->al->Prop} (L:ik M s.heap t a) (h:av M A (f a) Q E s):av M A (t>>=f) Q E s:=dO (L.here h)
end
section
variable {L:Program} {w:World} {A:Around} {C:Addr} {R:Result->Shared->Prop} {s:Shared}
theorem abo {l:List ai} {i:aq} (Y:Makes (aG L w) s.heap C) (p:ik (aG L w) s.heap (jA (.ref C) "__init__") (some (.ref i))) (t:∀n,ik (aG L w) s.heap (ON (.ref i) n) (.ref i,[n]))
  (hq:dS (aG L w) (A.under (.builtin "type.__call__" ⟨.ref C::l,[]⟩)) (.call (.ref i) ⟨.ref (s.heap.objs.size+1)::l,[]⟩) (InitBack (s.heap.objs.size+1) R) {s with heap:=(s.heap.push xI).push (t7 C s.heap.objs.size)}):
  dS (aG L w) A (.call (.ref C) ⟨l,[]⟩) R s:=by
 refine a6 λG x=> ?_;have a:=Y;obtain⟨⟨H,I,u,J,q,M,N,y⟩,g,m,n,c,h,j⟩:=Y;refine x ?_;refine jW ?_;refine dO (pD q ?_);refine qx h ?_;refine bt (bv rfl rfl ?_);refine jW ?_;show av _ A.in1 (do Oh "type.__call__" ⟨.ref C::l,[]⟩;again (.builtin "type.__call__" ⟨.ref C::l,[]⟩)) _ _ s
 refine dO (check_slot tc_kind tc_split j (tc_args ..) ?_);refine bt ⟨DF _ (by decide+kernel),rfl,CO aso ?_⟩;unfold f6.«type.__call__»;dsimp only;have B:ik (aG L w) s.heap (mroOf (.ref C)) u.mro:=((OO q).andThen .now).andThen .now;refine gY (by rfl) ?_;refine qx B ?_;refine gY y ?_;refine qx g ?_;refine aC (bt ?_);refine aC (dJ (kT (CH (new_K a p (.inl rfl) ?_))));have k:∀b o,s.heap.get? b=some o->((s.heap.push xI).push (t7 C s.heap.objs.size)).get? b=some o:=λb o e=>j8 _ (j8 _ e)
 have D:=by
  have:=rE (s.heap.push xI) (o:=t7 C s.heap.objs.size) rfl
  rwa [OP] at this
 have f:ik (aG L w) ((s.heap.push xI).push (t7 C s.heap.objs.size)) (typeOf (.ref (s.heap.objs.size+1))) (.ref C):=(OO D).andThen .now;have E:=n.keeps k;have d:=p.keeps k;have F:=(t (.ref (s.heap.objs.size+1))).keeps k;unfold isInstance;refine qx (f.andThen E) ?_;refine gY rfl ?_;unfold callSpecial? specialOf;refine aC (dJ ?_);refine qx (f.andThen d) ?_;refine dJ ?_;refine qx F ?_;refine aC (kT (w9 hq λr K z=> ?_));rcases r with e| (v|_ |_ |_)<;>first|exact z|exact z.elim|skip
 obtain⟨rfl,z⟩:=z;exact bt (gY rfl (bt z))
end
section
variable {Z:bx} {d:Nat} {V:bb}
structure l9 (Z:bx) (fn:Nat->Option aq) (cl:Nat) (kI:hO) (f:Nat) (kd:aq):Prop where
 is:Z.si cl=some kI
 fn:fn f=some kd
 makes:makesIn Z.K kI.addr=true
 init:nW Z.K (.ref kI.addr) "__init__" =some (some (.ref kd))
 typ:typeIn Z.K (.ref kd)=some (.type "function")
@[reducible] def abp (k:aa->ae->Prop) (n:Nat) (a:aa) (aj:ae):Prop:=match a with
 | .none=>k (.ref n) aj
 |_=>False
@[reducible] def lq (C:ak) (a f:Nat) (k:aa->ae->Prop) (x:bn) (H:List aa) (J:ae):Prop:=C f (.ref (J.length+1)::H) (J++[.aZ a [],.inst a J.length]) (abp k (J.length+1)) x
def jl (C:ak) (a f:Nat) (b:LT):a7:=λY J k x=>b Y J (lq C a f k x) x
theorem vm.under {A:cy} {C:aq} {a:List ai} (h:vm (8*d+8) A):vm (8*d+4) (A.under (.builtin "type.__call__" ⟨.ref C::a,[]⟩)):=by
 refine dp h λb c e=>bv ?_ ?_ e
 ·haveI:(A.under (.builtin "type.__call__" ⟨.ref C::a,[]⟩)).depth=A.depth+1:=rfl;exact W0 b this
 ·haveI:(A.under (.builtin "type.__call__" ⟨.ref C::a,[]⟩)).units=A.units+1:=rfl;exact Xw c this
theorem abq {r:Nat->Option aq} {C:ak} {i f:Nat} {l:hO} {fa:aq} (w:hZ Z r d C) (N:l9 Z r i l f fa) {A:cy} {U:be} {j:bk} {c:aP} {Y:List aa} {J:ae} {s:al} {H:List aa} {m:List ai} {k:aa->ae->Prop} {x:bn} {R:lN->al->Prop}
  (O:Ok Z (8*d+8) A U j c) (L:c0 V U) (S:St Z V U j c Y J s) (y:cZ c.adr H m)
  (h:C f (.ref (J.length+1)::H) (J++[.aZ i [],.inst i J.length]) (λa aj=>match a with| .none=>k (.ref (J.length+1)) aj|_=>False) x)
  (z:∀v a G aj K,k a aj->St Z V U j G Y aj K->cW c G->a5 G.adr a v->R (.ok (.ret v)) K)
  (B:∀e n G aj K,x n aj->St Z V U j G Y aj K->cW c G->oq Z j G n e K.heap->R (.error (.ref e)) K):dS (aG Z.prog Z.w) A (.call (.ref l.addr) ⟨m,[]⟩) R s:=by
 haveI X:=O.base.X.keeps S.keep;refine abo (makes_of X N.makes) (OQ X N.init) (λD=>bind_fn X D N.typ) ?_
 haveI hd:({c with adr:=c.adr++[s.heap.objs.size]}:aP).adr[J.length]? =some s.heap.objs.size:=by
  rw [<-S.len];simp
 haveI E:({s with heap:=s.heap.push xI,toks:=s.toks}).heap.objs.size=s.heap.objs.size+1:=OP ..;have p:cW c {c with adr:=c.adr++[s.heap.objs.size]++[s.heap.objs.size+1]}:=⟨⟨[s.heap.objs.size]++[s.heap.objs.size+1],by rw [bX]⟩,.refl _,.refl _⟩
 haveI F:=by
  haveI:=((S.push (ao:=.aZ i []) (λT t=>(gv l ([]) 0 N.is rfl .nil)) s.toks).push (ao:=.inst i J.length) (λT t=>(dt l s.heap.objs.size N.is (t _ _ hd) rfl)) s.toks)
  rw [E] at this;haveI e:J++[aB.aZ i []]++[aB.inst i J.length]=J++[.aZ i [],.inst i J.length]:=by rw [bX];rfl
  rw [e] at this;exact this
 have u:a5 (c.adr++[s.heap.objs.size]++[s.heap.objs.size+1]) (.ref (J.length+1)) (.ref (s.heap.objs.size+1)):=(aJ _ (by rw [eE (by simp [S.len])];simp [S.len]) rfl)
 haveI b:Ok Z (8*d+4) (A.under (.builtin "type.__call__" ⟨.ref l.addr::m,[]⟩)) U j {c with adr:=c.adr++[s.heap.objs.size]++[s.heap.objs.size+1]}:=
  ⟨O.base,O.room.under,O.frame,O.frames,O.head⟩
 refine w f fa N.fn _ V U j _ _ Y _ (.ref (J.length+1)::H) (.ref (s.heap.objs.size+1)::m) _ x _ b L F (.cons u (p.Zg y)) h (λv a G aj K o q W g=> ?_) (λe n G aj K o q W I=>(B e n G aj K o q (p.trans W) I))
 ·cases a<;>try exact o.elim
  subst g;exact⟨rfl,z _ _ G aj K o q (p.trans W) (W.hQ u)⟩
theorem abr {i:Nat->Option aq} {C:ak} {j f:Nat} {b:hO} {fa:aq} {l:LT} {D:List aH} {y:ax} {p o:aX} (r:hZ Z i d C) (N:l9 Z i j b f fa) (t:iv Z (8*d+8) V l D)
  (u:mU Z.K (.ref b.addr)=true) (w:fL Z.K eU y=some (some (.ref b.addr))) (z:V.scope.names.lookup y=some .globalImplicit) (B:(y==("__debug__" :ax))=false) (I:D.all gn=true:=by rfl):
  bF Z (8*d+8) V (jl C j f l) (.Call (.Name y p) D [] o):=by
 exact λA U M s c Y J k x Q E O L S ht hq q=>mA (a6 λH_ e_=>(aw S.F λm F e=>jG O.base.T λpp jY mg mb T=>(e_ (aV (uc F O.base.X T w (kc I (λh X=>Dv u h X) (t A U M s c Y J _ x _ E o O L S ht (λvs H c₁ ca s₁ h₁ R P fy=>⟨O.base.X.keeps R.keep,kT (abq r N (O.ext P) L R fy h₁ (λv a G aj K h g W va=>(hq v a G aj K h g (P.trans W) va)) (λe n G aj K h g W fl=>(q e n G aj K h g (P.trans W) (.inl fl))))⟩) q)) L.globals L.iu (iL L z) B)))))
end
section
variable {Z:bx} {d:Nat} {V:bb}
theorem abs {d j:Type} (f:d->Option j) (g:d->j) (l:List d):(∀k∈l,f k=some (g k))->asp f l=l.map g:=by
 induction l with
 |nil=>
  intro _;exact rfl
 |cons a l B=>
  intro h;rw [asi,h a (List.mem_cons_self ..),B λk b=>h k (List.mem_cons_of_mem _ b)];rfl
theorem abt (a:List ai):OC a.toArray none none (some (-1))=a.reverse.toArray:=by
 unfold OC De sliceRange;simp only [pO,show ¬((-1)>0) from by decide,if_false,show(-(-1))=1 from rfl,Int.ediv_one]
 haveI e:(if(a.toArray.size:Int)-1> -1 then((a.toArray.size:Int)-1- -1- -1-1) else 0).toNat=a.length:=by
  split
  ·exact Ux (bp _)
  ·exact Um (bp _) (by assumption)
 rw [e];congr 1;rw [List.filterMap_map];apply rF;intro i
 haveI h:asp ((λx=>a.toArray[x]?)∘λ(k:Nat)=>(a.toArray.size-1+ -1*(k:Int)).toNat) (aI a.length)=(aI a.length).map (λk=>a.getD (a.length-1-k) .none):=by
  refine abs _ _ _ λk c=> ?_;haveI d:(a.toArray.size-1+ -1*(k:Int)).toNat=a.length-1-k:=by simp;exact Ve (bp _) (ay ..) (ay ..)
  show a.toArray[(a.toArray.size-1+ -1*(k:Int)).toNat]? =some (a.getD (a.length-1-k) .none)
  rw [d,List.getElem?_toArray,da,bV (by exact Es (ay ..) (ay ..) (gr.mp c))];rfl
 rw [h,cm];by_cases b:i<a.length
 ·rw [i5 b,List.getElem?_reverse b];simp only [pM];rw [da,bV (by exact Es (ay ..) (ay ..) b)];rfl
 ·rw [hJ (by simp;exact jH b),hJ (by simp;exact jH b)];rfl
@[reducible] def abu (k:aa->ae->Prop) (a b:aa) (J:ae):Prop:=cp (λi=>iM (λ_ l=>i= -1/\l.length <= 16777216/\k (.ref J.length) (J++[.list l.reverse])) J a) no no b
def Hz (t u:a7):a7:=λY J k x=>t Y J (ek u Y x (abu k)) x
theorem abv {t u:a7} {e j:aH} {p I:aX} (h:bF Z d V t e) (N:bF Z d V u j):bF Z d V (Hz t u) (.Subscript e (.Slice none none (some j) p) I):=by
 refine λA U w s c Y J k x Q E O L S X hq z=>zo (h A U w s c Y J _ x _ E O L S X (λv a c₁ ca s₁ h₁ R P m=>(CN (bt (bt (N A U w s₁ c₁ Y ca _ x _ E (O.ext P) L R h₁ (λvu b c₂ cE q o S₂ F C=>(er C o λi f o=> ?_)) (λe n G aj K h S' W=>z e n G aj K h S' (P.trans W))))))) z) (λ_ _=>rfl);haveI r:=S₂.oy {cls:=.type "slice",data:=.fields #[.none,.none,.int i f]} q.toks;refine jh r (F.hQ m) o λn g l H sl ha ho B o=>dp o λq0 hz M=> ?_;obtain rfl:=q0;haveI D:ar8 ({q with heap:=q.heap.push {cls:=.type "slice",data:=.fields #[.none,.none,.int (-1) f]}}).heap g H.toArray:=⟨_,ho,rfl,sl,rfl⟩
 refine dt ("list") _ OA (ar9 D) (asa D (Heap.IsSliceOf.new ..) .none .none (.int (-1) f) ∅ ?_ (by rw [DE];simpa [<-B.length] using hz));rw [abt];exact hq _ (.ref cE.length) _ _ _ M (r.push (ao:=.list l.reverse) (λT hp=>(c7 H.reverse 0 rfl (B.reverse.mono λ_ _ y=>a5.mono hp y))) q.toks) ((P.trans F).trans (.alloc ..)) (a5.last r _)
end
section
variable {Z:bx} {d:Nat} {V:bb}
theorem abw {q:Int×Int×Int} (h:gZ q):0 <= gt q.1 q.2.1 q.2.2:=by
 refine lR h λ_ _ _ _ a _=> ?_;unfold gt;rw [if_pos a];split
 ·exact iq (xH (rY (by assumption)) (uK a)) ab
 ·exact yp
theorem abx {q:Int×Int×Int} (h:gZ q):((dv q.1 q.2.1 q.2.2).length:Int)=gt q.1 q.2.1 q.2.2:=by
 haveI:=abw h;unfold dv;rw [bz,jC];exact uQ (bp _) this
theorem aby {T:List aq} {f:Nat->Int}:∀{n:Nat} {a:Array ai},a.size=n->(∀i v,a[i]? =some v->∃t,v=Value.int (f i) t)->cZ T ((aI n).map λi=>aa.int (f i)) a.toList:=by
 intro n a c h
 haveI d:∀(l:List ai) (k:Nat),(∀i v,l[i]? =some v->∃t,v=Value.int (f (k+i)) t)->cZ T ((jD k l.length).map λi=>aa.int (f i)) l:=by
  intro l;induction l with
  |nil=>exact λk _=>.nil
  |cons v l B=>
   refine λk b=>.cons (b 0 v (rfl)) (B (k+1) λi v e=> ?_);haveI:=b (i+1) v (by simpa using e);rw [show k+1+i=k+(i+1) by exact yu];exact this
 haveI g:=d a.toList 0 λi v e=>by
  haveI:=h i v (by simpa using e)
  simpa using this
 rw [lP,show n=a.toList.length by simp [c]];exact g
def HA (a:LT):a7:=λY J k x=>pu a (λq Y J=>(dv q.1 q.2.1 q.2.2).length <= 16777216/\k (.ref J.length) (J++[.list ((dv q.1 q.2.1 q.2.2).map .int)])) Y J x
theorem abz {m:LT} {D:List aH} {p B r C:aX} (F:iv Z d V m D)
  (I:fL Z.K eU "range" =some none) (N:V.scope.names.lookup ("range" :ax)=some DK)
  (w:fL Z.K eU "list" =some none) (T:V.scope.names.lookup ("list" :ax)=some DK)
  (X:D.all gn=true:=by rfl) (hv:nZ "range" =some (.type "range"):=by decide+kernel) (a:nZ "list" =some (.type "list"):=by decide+kernel):
  bF Z d V (HA m) (.Call (.Name "list" p) [.Call (.Name "range" B) D [] r] [] C):=by
 refine λA U h₀ s c Y J k x Q E O L S h hq hx=>mA (ql O L S w a ∅ T (rfl) (kc (by rfl) (vt "list") (CM (mA (ql O L S I hv ∅ N (rfl) (kc X (vt "range") (F A U h₀ s c Y J _ x _ E r O L S h (λvs H c₁ ca s₁ f R P va=>⟨trivial,?_⟩) (λe n G aj K h S' W=>hx e n G aj K h S' W))))) (qh rfl))));split at f<;>try exact f.elim
 rename_i q o;refine dp f λj hz M=>aV (zF R va o j λg t u v s₂ y hR=>(xa ⟨trivial,aV (call_list_range O.room.2.2 hR (zE j) (abx j).symm hz λh' tk b G hk ho z=>(hq _ _ _ _ _ M (y.alloc hk lm ho (c7 b.toList G rfl ?_) (bv rfl rfl rfl)) (P.trans (.alloc ..)) (a5.last y _)))⟩))
 haveI l:=aby (T:=c₁.adr++[s₂.heap.objs.size]) z.1 λi v e=>by
  obtain⟨t,e⟩:=z.2 i v e;exact⟨t,by rw [e,Int.mul_comm]⟩
 unfold dv at l⊢;rw [bz,jC] at l;rw [iE];exact l
end
end Mine
namespace MineK
open Builtin
namespace BJ
theorem owner_bytes:art.lookup (aru ['s','e','t','y','b'].reverse)=some Manifest.sig_bytes:= ⋯
theorem zG:Slot "bytes" "join" "bytes.join" :=
 .of (owner:="bytes") (n:="join") (⋯) (by decide+kernel) (by decide+kernel) (by decide+kernel)
  (by first|exact .inl (by decide+kernel)|exact .inr (by decide+kernel)) (⋯)
theorem abA:mN mO "bytes.join" =some f6.«bytes.join» :=xl (⋯)
theorem abB (a b:ai):lL "bytes.join" ⟨[a,b],[]⟩:=by
 unfold lL;rw [xm (n:=['n','i','o','j']) (⋯) owner_bytes];kernel_rfl
theorem abC:typeOf (.builtin "bytes.join")=pure (.type "method_descriptor"):=by first|kernel_rfl|exact atx (⋯)
end BJ
section
variable {L:Program} {w:World} {A:Around} {E:Value->Shared->Prop} {s:Shared}
theorem abD {j:String} {b:Array UInt8} {t:e0}:Bytes.takeBufferQuiet? j (.bytes b t) 0=pure (some (b,none)):=by
 kernel_rfl
theorem abE {M:jz} {j:Type} {n:Nat} {f:Nat->j->ck (ForInStep j)} (I:Nat->j->al->Prop) {Q:j->al->Prop}
  (a:∀i c s,i<n->I i c s->PySem.wpAny M A (f i c) (λr K=>match r with| .done G=>Q G K| .yield G=>I (i+1) G K) E s)
  (b:∀c s,I n c s->Q c s) {c:j} (h:I 0 c s):PySem.wpAny M A (forIn [0:n] c f) Q E s:=by
 rw [aud];have y:([0:n]).size=n:=by simp [Std.Legacy.Range.size]
 refine wpAny_forIn_list f (λl c s=>∃i,i <= n/\l=jD i (n-i) 1/\I i c s) Q ?_ ?_ _ c (cJ 0 (Qs) (by congr 1) h)
 ·intro x B c s t;refine cU t λi p e k=> ?_
  have o:i<n:=by
   rcases asq i n with d|d
   ·exact d
   ·haveI e:=(show n-i=0 by exact Rx (ay ..) d)▸e;contradiction
  obtain⟨m,g⟩:∃m,n-i=m+1:=⟨n-i-1,E8 (ay ..) (ay ..) o⟩
  rw [g] at e;injection e with u v;subst u;refine wpAny_mono (a x c s o k) (λr K q=> ?_) λ_ _ z=>z;induction r with
  |done G=>exact q
  |yield G=>exact cJ (x+1) (Rr o) (by rw [v];congr 1;exact TP (ay ..) (ay ..) g) q
 ·intro c s w;refine cU w λi p e k=> ?_
  haveI:i=n:=by
   rcases asq i n with d|d
   ·obtain⟨m,g⟩:∃m,n-i=m+1:=⟨n-i-1,E8 (ay ..) (ay ..) d⟩
    rw [g] at e;contradiction
   ·exact Sd p d
  subst this;exact b c s k
theorem abF {M:jz} {Q:Unit->al->Prop} (h:Q () s) (a:List (ai×Option ai)):∀(k:List ai),(∀p∈a,p.2=none)->PySem.wpAny M A (Bytes.joinLetGo a k) Q E s:=by
 induction a with
 |nil=>
  intro _ _;exact wpAny_pure h
 |cons c e B=>
  obtain⟨x,o⟩:=c;intro k b;haveI:=b _ (.head _);subst this;exact wpAny_bind (wpAny_letGo (B k λp d=>b p (.tail _ d)))
theorem abG:∀(l:List (Array UInt8)),dI (Bytes.joined #[] l)=(l.map dI).flatten:=by
 haveI b:∀(l:List (Array UInt8)) (k:Nat) (a:Array UInt8),dI ((l.zipIdx k).foldl (λf (p,i)=>(if i>0 then f++ #[] else f)++p) a)=dI a++(l.map dI).flatten:=by
  intro l;induction l with
  |nil=>intro k a;simp
  |cons x l B=>
   intro k a;rw [List.zipIdx_cons,asr,B];simp [dI,bX]
 intro l;unfold Bytes.joined;rw [b];rfl
theorem abH (l:List (Array UInt8)):∀n,l.foldl (λa b=>a+b.size) n=n+((l.map dI).flatten).length:=by
 induction l with
 |nil=>intro n;rfl
 |cons x l B=>
  intro n;rw [asr,B];simp [dI];exact RX
theorem abI {M:jz} {A:cy} {Q:Fin->al->Prop}:∀{a:Array ai} {f:ai->ck Fin} {g:ck Fin},(∀x,a≠ #[x])->PySem.wpAny M A g Q E s->PySem.wpAny M A (match a with| #[x]=>f x|_=>g) Q E s
 | ⟨[]⟩,_,_,_,h=>h
 | ⟨[x]⟩,_,_,h,_=>absurd rfl (h x)
 | ⟨_::_::_⟩,_,_,_,h=>h
theorem map_one {d j:Type} {f:d->j} {l:List d} {x:j} (h:(l.map f).toArray= #[x]):∃p,l=[p]:=List.length_eq_one_iff.mp ((bz f).symm.trans (congrArg Array.size h))
theorem abJ {A:cy} {l:aq} {t:e0} {H:Nat} {R:List (Array UInt8×e0)} {Q:Fin->al->Prop} (B:s.heap.get? l=some (listOf (R.map λp=>Value.bytes p.1 p.2).toArray H)) (C:((R.map λp=>dI p.1).flatten).length <= 16777216)
  (h:∀b t k,dI b=(R.map λp=>dI p.1).flatten->Q (.done (.ret (.bytes b t))) {s with toks:=k}):PySem.wpAny (aG L w) A (f6.«bytes.join» ⟨[.bytes #[] t,.ref l],[]⟩) Q E s:=by
 refine wpAny_bind (wpAny_of_eq (a:=(.bytes #[] t,.ref l)) (⋯) ?_);have g:s.TypeIs (.ref l) "list" :=(aJ _ B rfl)
 refine wpAny_bind ?_;refine wpAny_bind (Oe g ?_);refine wpAny_pure ?_;refine wpAny_bind (OR B rfl ?_);refine PySem.wpAny_ite_true rfl ?_;by_cases e:∃p,R=[p]
 ·refine jF e λp I=> ?_;obtain rfl:=I;refine wpAny_bind (Oe (mQ ..) ?_);refine wpAny_bind (wpAny_rule (wpAny_pure ?_));exact h p.1 p.2 s.toks (by simp)
 ·refine abI (λx J=>e (map_one J)) ?_;have D:(R.map λp=>Value.bytes p.1 p.2).toArray.size=R.length:=bz ..;refine wpAny_bind (abE (λi c K=>K=s/\c.1.toList=(R.take i).map (·.1)/\c.2=(R.take i).map λp=>(Value.bytes p.1 p.2,none)) ?_ ?_ (bv rfl rfl rfl))
  ·intro i c K u j;haveI u:=Nat.lt_of_lt_of_eq u D;refine dp j λv o r=> ?_;have F:=(congrArg (λz:al=>z.heap.get? l) v).trans B;have d:R.take (i+1)=R.take i++[R[i]]:=by rw [OE,bV u];rfl
   have m:(Bytes.Kind.bytes==Bytes.Kind.bytearray||c.2.any (·.1.onHeap))=false:=by
    rw [r];refine arA.mpr ⟨rfl,List.any_eq_false.mpr λy M=> ?_⟩;refine aw (dz.mp M) λp _ N=> ?_;obtain rfl:=N;exact Bool.false_ne_true
   have O:(R.map λp=>Value.bytes p.1 p.2).toArray.getD i Value.none=Value.bytes R[i].1 R[i].2:=by simp [u]
   refine wpAny_bind (OR F rfl ?_);refine PySem.wpAny_ite_false (c:=(_||c.2.any _)=true) (decide_eq_false (ne_true_of_eq_false m)) ?_;rw [O];refine wpAny_bind (wpAny_holding (wpAny_of_eq abD ?_));refine wpAny_bind (OR F rfl ?_);refine PySem.wpAny_ite_false (decide_eq_false (by simp)) ?_;refine wpAny_pure (bv v ?_ ?_)
   ·rw [Array.toList_push,o,d,db];rfl
   ·rw [d,db,r];rfl
  ·intro c K n;refine dp n λv o r=> ?_;rw [D,kA] at o r
   have f:c.1.foldl (λa b=>a+b.size) 0=((R.map λp=>dI p.1).flatten).length:=by
    rw [<-Array.foldl_toList,o,abH,iE,xJ];rfl
   have P:Bytes.tooLong (c.1.foldl (λx1 x2=>x1+x2.size) ((#[]:Array UInt8).size*(c.1.size-1)))=false:=by
    refine KBy.tooLong_not ?_;refine(?_:c.1.foldl _ (0*_) <= _);rw [Nat.zero_mul,f];exact C
   have G:dI (Bytes.joined #[] c.1.toList)=(R.map λp=>dI p.1).flatten:=by
    rw [abG,o,iE];rfl
   refine wpAny_bind (wpAny_of_eq rfl ?_);refine PySem.wpAny_ite_false (decide_eq_false (ne_true_of_eq_false P)) ?_;refine wpAny_bind (Oj ?_ (by rw [DE,<-ar3,G];exact C));refine wpAny_bind (wpAny_holding (wpAny_point ?_));refine wpAny_bind (abF ?_ _ _ (by rw [r];intro p S;(refine aw (dz.mp S) λq _ T=> ?_;obtain rfl:=T);rfl));obtain rfl:=v;exact wpAny_pure (h _ _ _ G)
theorem join_list {l:aq} {t:e0} {a:Nat} {R:List (Array UInt8×e0)} {Q:ai->al->Prop} (c:s.heap.get? l=some (listOf (R.map λp=>Value.bytes p.1 p.2).toArray a)) (d:((R.map λp=>dI p.1).flatten).length <= 16777216)
  (h:∀b t k,dI b=(R.map λp=>dI p.1).flatten->Q (.bytes b t) {s with toks:=k}):PySem.wpAny (aG L w) A (hG (.builtin "bytes.join") [.bytes #[] t,.ref l]) Q E s:=
 wpAny_call (codeAny_call_builtin BJ.zG.plain BJ.abA (BJ.zG.check _ _ _ _ _ _ _ _ (mQ ..) (BJ.abB ..) (abJ c d h)))
end
end MineK
namespace Mine
section
variable {Z:bx} {d:Nat} {V:bb}
theorem abK:lG Z "join" "bytes.join" vE:=by
 intro V A U g s c Y J Q E a v H S d f hq
 revert hq
 exact gz d f (λ_ _ h=>h.elim) (λl b t e _ hq=>(DG (mQ ..) FB.plainAttrs_bytes BJ.zG BJ.abC (λb e=>by contradiction) hq)) λ_ _ _ h=>h.elim
def rl:List aa->Option (List (List Int))
 | []=>some []
 | .bytes b::r=>(rl r).map (b:: ·)
 |_::_=>none
theorem HB {T:List aq}:∀{l:List aa} {c:List ai} {bs:List (List Int)},rl l=some bs->cZ T l c->∃R:List (Array UInt8×e0),c=R.map (λp=>Value.bytes p.1 p.2)/\R.map (λp=>dI p.1)=bs
 | [],_,_,h,.nil=>by obtain rfl:=bl h;exact aJ ([]) rfl rfl
 |a::l,_,_,h,.cons d e=>by
  cases a<;>try (contradiction)
  refine aw (gP.mp h) λbs f g=> ?_;obtain rfl:=g;refine aw (HB f e) λR i j=> ?_;obtain rfl:=i;obtain rfl:=j;refine cV d λb t k m=> ?_;obtain rfl:=k;obtain rfl:=m;exact aJ ((b,t)::R) rfl rfl
def isNil {d:Type} (f:Prop) (l:List d):Prop:=match l with
 | []=>f
 |_=>False
def vM:e8:=λH J k=>om (λa b=>cp no (isNil (iM (λ_ l=>jd (rl l) λbs=>bs.flatten.length <= 16777216/\k (.bytes bs.flatten) J) J b)) no a) H
theorem abL:fY Z (.builtin "bytes.join") vM:=by
 refine λd V A U r s c Y J k Q E H m O L S j M hq=>qe j M λa b v u j C M=>gz j M (λ_ _ h=>h.elim) (λl b t i M=> ?_) (λ_ _ _ h=>h.elim);induction l with
 |cons=>exact M.elim
 |nil=>
 refine jh S C M λn g l m w x o B M=>a6 λy p=>cU (k8 M) λbs f q M=> ?_;obtain⟨R,rfl,rfl⟩:=HB f B
 haveI z:=by
  haveI:=ke b;haveI this:=i▸this;exact Array.eq_empty_of_size_eq_zero this.symm
 subst z;exact p (aV (join_list o q λb t k e=>hq _ (.bytes _) c J _ M (S.tok k) (.refl c) (c7 _ _ rfl e)))
end
section
variable {Z:bx} {d:Nat} {V:bb}
theorem St.abM {U:be} {g:bk} {c:aP} {Y:List aa} {J:ae} {s K:al} {k:ax->Option ai} (S:St Z V U g c Y J s) {a:aq} {o:cj} (l:J≠[]) (F:Fr g U.locals K.heap k) (e:iK V U c.adr k Y)
  (N:News g U.locals K.heap ((a,o)::l3 s.heap c.all)) (n:∀p∈l3 s.heap c.all,p.1<a) (r:jK s K):
  St Z V U g {c with aK:=(a,o)::c.aK} Y J K:=by
 have f:=S.turn F e (λ_ q _ i=>(N (_,_) (.tail _ (l4.mpr ⟨q,i⟩))).1) r
 have m:∀b∈c.all,b<a:=λb d=>by
  obtain⟨o',t⟩:=S.there b d;exact n (b,o') (l4.mpr ⟨d,t⟩)
 refine dp (N (a,o) (.head _)) λi u v=> ?_
 have x:nS<a:=by
  induction z:c.adr with
  |nil=>exact absurd (List.length_eq_zero_iff.mp (by rw [<-S.len,z];rfl)) l
  |cons b _=>
   have d:b∈c.all:=cQ _ (by rw [z];exact .head _);exact Dr (S.low.2 b d) (m b d)
 have w:∀b,b∈({c with aK:=(a,o)::c.aK}).all->b∈c.all\/b=a:=by
  intro b d;simp only [aP.all,cR,cB,cb] at d⊢;rcases d with d|d|d|d
  ·exact .inl (.inl d)
  ·exact .inl (.inr (.inl d))
  ·exact .inr d
  ·exact .inl (.inr (.inr d))
 refine⟨f.F,?_,f.len,f.obj,λb d=> ?_,f.pr,λp j=> ?_,f.rest,f.low.1,λb d=> ?_⟩
 ·haveI:(c.adr++(c.pr.map (·.1)++((a,o)::c.aK).map (·.1))).Perm (a::(c.adr++(c.pr.map (·.1)++c.aK.map (·.1)))):=by
   rw [<-bX,<-bX];exact ul
  exact this.nodup_iff.mpr (eD.mpr ⟨(λh=>mW _ (m a h)),S.cP⟩)
 ·rcases w b d with h|rfl
  ·exact S.own b h
  ·exact⟨u,v⟩
 ·rcases cb.mp j with rfl|j
  ·exact i
  ·exact f.aK p j
 ·rcases w b d with h|rfl
  ·exact f.low.2 b h
  ·exact x
end
section
variable {Z:bx} {d:Nat} {V:bb}
theorem oo.sub {g:bk} {c G:aP} {e:aq} {h:bk} {v:ai} {C:aq} (k:∀a∈G.all,a∈c.all) (H:oo g c e h v C):oo g G e h v C:=by
 exact a6 λr i=>D8 H λP j T l m n o p z b d f=>i (D9 P j T l m n o p z b (λq=>d (k _ q)) f)
theorem gU.sub {L:aq} {b:bk} {c G:aP} {n:Nat} {e:aq} {h:bk} (k:∀a∈G.all,a∈c.all):gU Z L b c n e h->gU Z L b G n e h:=
 Or.imp (dV λ_=>fK (fK (t8 (λa q=>a (k _ q)) (arQ (oo.sub k))))) (dV λ_=>fK (fK (t8 (λa q=>a (k _ q)) (oo.sub k))))
@[reducible] def abN (k:aa->ae->Prop) (H:List aa) (J:ae):Prop:=om (λa b=>cp no (λl=>vB (l.length <= 8/\k (.int (KFB.value l)) J) b) no a) H
def HC (a:LT):a7:=λY J k x=>J≠[]/\a Y J (abN k) x
theorem abO {ts:LT} {D:List aH} {p N ap:aX} (hs:iv Z d V ts D)
  (h1:fL Z.K eU "int" =some none) (h2:V.scope.names.lookup ("int" :ax)=some .globalImplicit)
  (hg:findCls Z.K (.type "int") (.type "type") (il "from_bytes")=some (.get (.builtin "classmethod_descriptor.__get__") (.builtin "int.from_bytes") .none (.type "int")))
  (hv:nZ "int" =some (.type "int"):=by decide+kernel)
  (hb:∀U,xA (.Name "int" p) "from_bytes" U (bM (.Name "int" p) U)=bM (.Name "int" p) U:=by intro _;rfl) (dm:D.all gn=true:=by rfl) (hl:D.length<30:=by decide) (px:(N.endLine==ap.line)=true:=by rfl):
  bF Z d V (HC ts) (.Call (.Attribute (.Name "int" p) "from_bytes" N) D [] ap):=by
 intro A U h₀ s c Y J k x Q E O L S ht hq hx;obtain⟨bN,ht⟩:=ht;rw [zd (hb U) dm hl px];refine aC (ql O L S h1 hv ∅ h2 ∅ ?_);refine aC (c9 (dO (PySem.wpAny_holding ?_)));refine aw S.F λm F em=> ?_;refine KFB.getm F S.news O.base.X hg λf h' R N' cr=> ?_;have S1:=S.abM (K:={s with heap:=h',toks:=s.toks+1}) bN R em N' cr (bv rfl rfl rfl);refine kc (P:=λh=>h.get? f=some rG) dm (λh ho=>(aJ .machine (.inr (.inl rfl)) (λA Q E s k hq=> ?_))) ?_
 ·unfold pH;refine PySem.wpAny_bind (PySem.wpAny_load (k _ _ ho) ?_);simp only [rG,show(pP "builtin_function_or_method" != pP "method")=true by decide,show(pP "builtin_function_or_method" ==pP "builtin_function_or_method" ||pP "builtin_function_or_method" ==pP "method-wrapper")=true by decide,if_true];exact PySem.wpAny_pure hq
 have mK:∀{B:aP},cW {c with aK:=(f,rG)::c.aK} B->∃j,B.aK=(f,rG)::j/\cW c {B with aK:=j}:=by
  intro B w;have I:=w.aK;induction e:B.aK with
  |nil=>unfold ir at I;rw [e] at I;contradiction
  |cons q j=>
   unfold ir at I;rw [e] at I;cases I with
   |cons g1 g2=>
    refine dp g1 λg3 g4 g5=> ?_;have o:=g5 (λq=>nomatch q);have q2:q=(f,rG):=by cases q;simp only at g3 o;rw [g3,o]
    exact⟨j,by rw [q2],w.adr,w.pr,g2⟩
 refine hs A U h₀ _ {c with aK:=(f,rG)::c.aK} Y J _ x _ E ap ⟨O.base,O.room,O.frame,O.frames,O.head⟩ L S1 ht (λvs H c₂ cE s₂ T S₂ e₂ fy=> ?_) (λe n G aj K h S' W fl=> ?_)
 ·refine aw (mK e₂) λj o X=> ?_;have rt:=S₂.aK (f,rG) (by rw [o];exact .head _);refine⟨rt,?_⟩;refine qe fy T λa b v u va C T=> ?_;refine gz va T (λ_ _ h=>h.elim) (λl b t i T=> ?_) (λ_ _ _ h=>h.elim);refine dp (GS T) λq0 g M=> ?_;obtain rfl:=q0;refine cV C λt' y hy q3=> ?_;obtain rfl:=q3;cases hy;subst i;refine aV (KFB.call_of rt (λz=>KFB.tree_big (by rw [<-ke];exact g) z) ?_);exact hq _ (.int _) {c₂ with aK:=j} cE _ M ((S₂.tok _).qv o) X ⟨_,rfl⟩
 ·refine aw (mK W) λj o X=> ?_;refine hx e n {G with aK:=j} aj K h (S'.qv o) X ?_;refine gU.sub (λa r=> ?_) fl;simp only [aP.all,cR,o,cB,cb] at r⊢;rcases r with r|r|r
  ·exact .inl r
  ·exact .inr (.inl r)
  ·exact .inr (.inr (.inr r))
end
section
variable {Z:bx} {d:Nat} {V:bb}
def zH (V:bb) (i:Nat) (a:aa) (Y:List aa) (J:ae) (k:List aa->ae->Prop):Prop:=match V.slots[i]? with
 |some (_,false)=>k (Y.set i a) J
 |some (_,true)=>vh Y[i]? λj=>y1 J[j]? λ_=>k Y (J.set j (.cell a))
 |none=>False
theorem abP {U:be} {g:bk} {c:aP} {Y:List aa} {J:ae} {s:al} (S:St Z V U g c Y J s) (L:c0 V U) (m:(V.slots.map (·.1)).Nodup) {A:cy} {i:Nat} {y:ax} {b:Bool} {v:ai} {a:aa} {k:List aa->ae->Prop}
  (e:V.slots[i]? =some (y,b)) (h:V.scope.names.lookup y=some (if b=true then .cell else .local)) (l:a5 c.adr a v) (d:zH V i a Y J k) {Q:Unit->al->Prop} {E:ai->al->Prop}
  (D:∀X aj K,k X aj->St Z V U g c X aj K->Q () K):av (aG Z.prog Z.w) A (pE U y v) Q E s:=by
 unfold zH at d;haveI d:=e▸d;induction b with
 |false=>exact S.sA L m e h l λK f=>D _ _ K d f
 |true=>
  refine aw (y2 d) λj n d=>aw (Gw d) λb o d=> ?_;exact S.setCell L e h n o l λK f=>D _ _ K d f
end
section
variable {M:Model} {A:Around} {E:Value->Shared->Prop} {s:Shared} {U:Env}
theorem abQ {m:List ai} {Q:Unit->al->Prop} (h:Q () s):av M A (um [] m) Q E s:=bt h
theorem abR {t:ai->ck Unit} {a:List (ai->ck Unit)} {x:ai} {m:List ai} {Q:Unit->al->Prop}
  (h:av M A (t x) (λ_ b=>av M A (um a m) Q E b) E s):av M A (um (t::a) (x::m)) Q E s:=by
 exact aC (dJ h)
theorem abS {elts k h6 value pos} {Q:f7->al->Prop}
  (h:av M A (bM value U) (λv a=>av M A (assign (.Tuple elts k h6) U v) (λ_=>Q .next) E a) E s)
  (b:DL [.Tuple elts k h6] value pos.line U=pure false) (c:rH [.Tuple elts k h6] value U=pure none):
  av M A (kY (.Assign [.Tuple elts k h6] value pos) U) Q E s:=by
 refine aC (c9 ?_);rw [b];refine aC (bt (aC (b0 h (λv a d=> ?_) λ_ _ x=>x)));rw [c];show av M A (do assignAll v [assign (.Tuple elts k h6) U];pure .next) Q E a
 exact aC (b0 d (λ_ _ x=>bt x) λ_ _ x=>x)
theorem abT {elts k h6 value pos} {b:List ax} {Q:f7->al->Prop}
  (h:av M A (bM value U) (λv c=>av M A (OS v b.length none) (λa d=>
   av M A (um (b.reverse.map λn=>xG U n) a.reverse) (λ_=>Q .next) E d) E c) E s)
  (e:DL [.Tuple elts k h6] value pos.line U=pure false) (f:rH [.Tuple elts k h6] value U=pure (some b)):
  av M A (kY (.Assign [.Tuple elts k h6] value pos) U) Q E s:=by
 refine aC (c9 ?_);rw [e];refine aC (bt (aC (b0 h (λv c g=> ?_) λ_ _ x=>x)));rw [f];show av M A (do rule "assign.swapped-stores";let a<-OS v b.length none;um (b.reverse.map λn=>xG U n) a.reverse;pure .next) Q E c
 exact aC (rk (aC (b0 g (λa d i=>aC (b0 i (λ_ _ x=>bt x) λ_ _ x=>x)) λ_ _ x=>x)))
end
section
variable {Z:bx} {d:Nat} {V:bb}
def zI (V:bb):List Nat->List aa->List aa->ae->(List aa->ae->Prop)->Prop
 | [],[],Y,J,k=>k Y J
 |i::b,a::H,Y,J,k=>zH V i a Y J λY J=>zI V b H Y J k
 |_,_,_,_,_=>False
def ma (V:bb) (y:ax) (i:Nat):Bool:=match V.slots[i]? with
 |some (z,b)=>z==y&&V.scope.names.lookup y==some (if b=true then NameKind.cell else NameKind.local)
 |none=>false
def zJ (V:bb) (U:be) (i:Nat) (t:ai->ck Unit):Prop:=
 ∃y,ma V y i=true/\ ∀(M:jz) (A:cy) (v:ai) (Q:Unit->al->Prop) (E:ai->al->Prop) (s:al),av M A (pE U y v) Q E s->av M A (t v) Q E s
theorem abU {y:ax} {i:Nat} (h:ma V y i=true):∃b,V.slots[i]? =some (y,b)/\V.scope.names.lookup y=some (if b=true then .cell else .local):=by
 unfold ma at h;split at h
 ·rename_i z b e;rw [eC] at h;haveI c:=beq_iff_eq.mp h.1;subst c;refine aJ b e ?_;haveI a:=h.2;induction q:V.scope.names.lookup z with
  |none=>rw [q] at a;contradiction
  |some u=>rw [q] at a;exact congrArg some (by revert a;cases u<;>cases b<;>decide)
 ·contradiction
theorem HD {U:be} {j:bk} {c:aP} (L:c0 V U) (l:(V.slots.map (·.1)).Nodup) {A:cy} {k:List aa->ae->Prop} {Q:Unit->al->Prop} {E:ai->al->Prop}
  (D:∀X aj K,k X aj->St Z V U j c X aj K->Q () K):
  ∀{e:List Nat} {f:List (ai->ck Unit)} {H:List aa} {g:List ai} {Y:List aa} {J:ae} {s:al},St Z V U j c Y J s->b9 (zJ V U) e f->cZ c.adr H g->zI V e H Y J k->
   av (aG Z.prog Z.w) A (um f g) Q E s:=by
 intro e f H g Y J s S h;induction h generalizing H g Y J s with
 |nil=>
  intro a d;induction a with
  |nil=>exact abQ (D _ _ _ d S)
  |cons _ _=>exact d.elim
 | @cons i t e f m _ B=>
  intro a d;induction a with
  |nil=>exact d.elim
  |cons x a=>
   exact a6 λw n=>aw m λy o p=>aw (abU o) λb q r=>n (abR (p _ _ _ _ _ _ (abP S L l q r x d λX aj K u v=>B v a u)))
theorem HE {U:be} {f:bk} {c:aP} {Y:List aa} {J:ae} {s:al} {n:Nat} {v:ai} {l:List aa} {A:cy} (S:St Z V U f c Y J s) (O:Ok Z d A U f c) (h:a5 c.adr (.ref n) v) (k:J[n]? =some (.tup l)) {Q:List ai->al->Prop} {E:ai->al->Prop} {m:Nat} (p:m=l.length)
  (D:∀a K,cZ c.adr l a->St Z V U f c Y J K->Q a K):av (aG Z.prog Z.w) A (OS v m none) Q E s:=by
 refine a6 λF q=>aw h λg t u=> ?_;clear h;obtain rfl:=u;refine aw (S.here k) λw r i=>aw i λo x y=> ?_;clear i;refine cV y λa z N B=> ?_;obtain rfl:=N;refine q ?_;rw [t] at r;obtain rfl:=bl r;haveI e:m=a.toArray.size:=by rw [p,B.length];rfl
 subst e;refine aV (unpackItems_tuple O.room.2.2 ⟨_,x,rfl,z,rfl⟩ λG C=>D _ _ (by simpa using B) (S.grow (λb o j=>C b o (nY (fz j)) j) (bv rfl rfl rfl)))
def HF (J:ae) (a:aa) (k:List aa->Prop):Prop:=match a with
 | .ref j=>(match J[j]? with
  |some (.tup l)=>k l
  |_=>False)
 |_=>False
theorem HG {J:ae} {a:aa} {k:List aa->Prop} (h:HF J a k):∃j l,a= .ref j/\J[j]? =some (.tup l)/\k l:=by
 cases a<;>try exact h.elim
 rename_i j
 haveI h:match(motive:=Option aB->Prop) J[j]? with
  |some (.tup l)=>k l
  |_=>False:=h
 induction e:J[j]? with
 |none=>replace h:=e▸h;exact h.elim
 |some o=>replace h:=e▸h;cases o<;>first|exact h.elim|exact dt _ _ rfl e h
@[reducible] def abV (V:bb) (n:Nat) (f:List aa->List aa) (a:List Nat) (Y:List aa) (J:ae) (k:List aa->ae->Prop) (l:List aa):Prop:=l.length=n/\zI V a (f l) Y J k
@[reducible] def HH (V:bb) (n:Nat) (f:List aa->List aa) (b:List Nat) (Y:List aa) (k:List aa->ae->Prop) (a:aa) (J:ae):Prop:=HF J a (abV V n f b Y J k)
def nl (V:bb) (a:List Nat) (t:a7):ST:=λY J k r x=>t Y J (HH V a.length List.reverse a.reverse Y k) x
theorem HI {U:be}:∀{a:List Nat} {I:List ax},b9 (λi y=>ma V y i=true) a I->b9 (zJ V U) a (I.map λn=>xG U n)
 |_,_,.nil=>.nil
 |_,_,.cons h r=>.cons (aJ _ h (λ_ _ _ _ _ _ w=>tQ w)) (HI r)
theorem oC {g:List Nat} {I:List ax} {t:a7} {e:aH} {elts k h6 pos} (h:bF Z d V t e) (q:(V.slots.map (·.1)).Nodup) (o:b9 (λi y=>ma V y i=true) g I)
  (u:∀U,c0 V U->rH [.Tuple elts k h6] e U=pure (some I)) (w:∀U,DL [.Tuple elts k h6] e pos.line U=pure false:=by intro _;rfl):
  fC Z d V (nl V g t) (.Assign [.Tuple elts k h6] e pos):=by
 refine λA U z s c bq Y J k r x Q E O L S p C D hr F=>abT (h A U z s c Y J _ x _ E O L S C (λv a H ca s₁ b R P m=>(a6 λH_ M=>(dN (HG b) λj l N T q4=> ?_))) (λe n G aj K h f W=>F e n Y G aj K h f (W.fwd p))) (w U) (u U L);obtain rfl:=N;exact fp q4 λbh b=>M (HE R (O.ext P) m T (by rw [bh,o.length]) λvs s₂ B S₂=>HD L q (λX aj K h' f=>D X H aj K h' f (P.fwd p)) S₂ (HI o.reverse) B.reverse b)
def ki (V:bb) (a:List Nat) (t:a7):ST:=λY J k r x=>t Y J (HH V a.length id a Y k) x
abbrev zK (a:List aH) (I:List ax):Prop:=b9 (λe n=>∃p,e= .Name n p) a I
theorem abW {U:be} {a:List aH} {I:List ax} (c:zK a I):∀{b:List Nat},b9 (λi y=>ma V y i=true) b I->
  (DM a U).length=I.length/\(DM a U).findIdx? (·.1)=none/\b9 (zJ V U) b ((DM a U).map (·.2)):=by
 induction c with
 |nil=>intro b h;cases h;exact bv rfl rfl .nil
 |cons d _ B=>
  intro b h;obtain⟨p,rfl⟩:=d;cases h with
  |cons e f=>
   refine dp (B f) λg j k=>⟨congrArg (· +1) g,?_,.cons (aJ _ e (λM A v Q E s w=>aC (c9 (tQ w)))) k⟩
   show List.findIdx? _ ((false,_)::_)=none
   rw [List.findIdx?_cons,j];rfl
theorem abX {g:List Nat} {I:List ax} {t:a7} {e:aH} {elts k h6 pos} (h:bF Z d V t e) (q:(V.slots.map (·.1)).Nodup) (o:b9 (λi y=>ma V y i=true) g I) (u:zK elts I)
  (w:∀U,c0 V U->rH [.Tuple elts k h6] e U=pure none) (z:∀U,DL [.Tuple elts k h6] e pos.line U=pure false:=by intro _;rfl):
  fC Z d V (ki V g t) (.Assign [.Tuple elts k h6] e pos):=by
 refine λA U C s c bq Y J k r x Q E O L S p D F hr H=>abS (h A U C s c Y J _ x _ E O L S D (λv a M ca s₁ b R P m=>(a6 λH_ N=>(dN (HG b) λj l T hl q4=> ?_))) (λe n G aj K h f W=>H e n Y G aj K h f (W.fwd p))) (z U) (w U L);obtain rfl:=T;refine fp q4 λbh b=> ?_;obtain⟨a1,a2,a3⟩:=abW u o;refine N (aC (c9 ?_));unfold unpack;rw [a2];exact aC (dJ (HE R (O.ext P) m hl (by rw [bh,a1,o.length]) λvs s₂ B S₂=>(HD L q (λX aj K h' f=>F X M aj K h' f (P.fwd p)) S₂ a3 B b)))
end
end Mine
namespace MineK
section
variable {L:Program} {w:World} {A:Around} {E:Value->Shared->Prop} {R:Result->Shared->Prop} {h:Heap} {g:Array GenState} {d:Drawn} {t:Nat} {os:OsState}
variable {nm q:Str} {C N:Addr} {bs bm:List Value} {kU:Bool} {sn:List Str} {eR:List Value} {G:Bool} {kV:Option Bool} {l:Option Addr} {k0 W k2 k3 k5:Option Value} {B j f:String} {c:List Value}
structure vN (bm:List ai) (B:String):Prop where
 has:bm.contains (.type B)=true
 base:bm.contains (.type "BaseException")=true
 abY:bm.contains (.type "AttributeError")=false
 abZ:bm.contains (.type "NameError")=false
theorem ab0 (F:OT B j f c) (I:vN bm B) {n:List ai} (o:h.get? C=some (pQ nm q C N bs bm kU sn eR G kV l k0 W k2 k3 k5 j))
  (hq:R (.ok (.ret (.ref (h.objs.size+1)))) ⟨(h.push {cls:=.type "tuple",data:=.seq n.toArray}).push
   {cls:=.ref C,data:=.fields #[.ref h.objs.size,.none,.none,.none,.bool false,.none]},g,d,t,os⟩) (i:n.length <= rx):
  codeAny (aG L w) A (.builtin j ⟨.ref C::n,[]⟩) R ⟨h,g,d,t,os⟩:=by
 have k:=F.ends;have a:(Value.ref C::bm).contains (.type B)=true:=by rw [rI,I.has,DN]
 have b:(Value.ref C::bm).contains (.type "AttributeError")=false:=by rw [rI,I.abY];rfl
 have e:(Value.ref C::bm).contains (.type "NameError")=false:=by rw [rI,I.abZ];rfl
 refine codeAny_builtinAt F.entry ?_;refine PySem.wpAt_bind ?_;refine PySem.wpAt_bind (PySem.wpAt_stack λp m=>PySem.wpAt_of_wpAny ?_)
 wp_walk
 refine PySem.wpAt_of_wpAny ?_;rw [F.owner]
 repeat (first|with_reducible refine wpAny_madeHere_exc F.canon o ?_ |with_reducible refine rJ o ?_ | (with_reducible refine xK o ?_;first|rw [a]|rw [b]|rw [e])|wp_step)
 show R ..
 rw [OP];exact hq
theorem ab1 (F:OT B j f c) (I:vN bm B) {v:ai} {i:aq} {Q:Fin->al->Prop}
  (m:h.get? C=some (pQ nm q C N bs bm kU sn eR G kV l k0 W k2 k3 k5 j)) (p:ik (aG L w) h (jA (.ref C) "__init__") (some (.ref i)))
  (s:∀n,ik (aG L w) h (ON (.ref i) n) (.ref i,[n]))
  (hq:codeAny (aG L w) A (.call (.ref i) ⟨[.ref (h.objs.size+1),v],[]⟩) (λr K=>match r with| .ok (.ret u)=>u= .none/\Q (.done (.ret (.ref (h.objs.size+1)))) K| .ok _=>False| .error e=>E e K)
   ⟨(h.push {cls:=.type "tuple",data:=.seq #[v]}).push {cls:=.ref C,data:=.fields #[.ref h.objs.size,.none,.none,.none,.bool false,.none]},g,d,t,os⟩):
  wpAny (aG L w) A (f6.«type.__call__» ⟨[.ref C,v],[]⟩) Q E ⟨h,g,d,t,os⟩:=by
 repeat (first|with_reducible refine rJ m ?_ |with_reducible refine wpAny_madeBy_exc m ?_ |wp_step)
 refine codeAny_call_builtin_code (DF _ F.quiet) (wpAny_check_new_subU F I.has .base m (ab0 F I m ?_ (ui (by decide:1<16777216))))
 haveI k:∀b o,h.get? b=some o->((h.push {cls:=.type "tuple",data:=.seq #[v]}).push {cls:=.ref C,data:=.fields #[.ref h.objs.size,.none,.none,.none,.bool false,.none]}).get? b=some o:=
  λb o e=>j8 _ (j8 _ e)
 haveI a:(Value.ref C::bm).contains (.ref C)=true:=by simp
 repeat (first|with_reducible refine rJ aty ?_ | (with_reducible refine xK (k _ _ m) ?_;rw [a])|wp_step)
 refine Looks.here (p.keeps k) (wpAny_holding (wpAny_bind (Looks.here ((s (.ref (h.objs.size+1))).keeps k) (wpAny_bind (wpAny_call (codeAny_mono hq λr K z=> ?_))))));rcases r with e| (u|_ |_ |_)<;>first|exact z|exact z.elim|skip
 obtain⟨rfl,z⟩:=z
 wp_walk
 exact z
theorem ab2 (F:OT B j f c) (I:vN bm B) {v:ai} {i:aq} {Q:ai->al->Prop}
  (k:h.get? C=some (pQ nm q C N bs bm kU sn eR G kV l k0 W k2 k3 k5 j)) (n:ik (aG L w) h (jA (.ref C) "__init__") (some (.ref i)))
  (o:∀m,ik (aG L w) h (ON (.ref i) m) (.ref i,[m]))
  (hq:codeAny (aG L w) (A.under (.builtin "type.__call__" ⟨[.ref C,v],[]⟩)) (.call (.ref i) ⟨[.ref (h.objs.size+1),v],[]⟩) (λr K=>match r with| .ok (.ret u)=>u= .none/\Q (.ref (h.objs.size+1)) K| .ok _=>False| .error e=>E e K)
   ⟨(h.push {cls:=.type "tuple",data:=.seq #[v]}).push {cls:=.ref C,data:=.fields #[.ref h.objs.size,.none,.none,.none,.bool false,.none]},g,d,t,os⟩):
  wpAny (aG L w) A (hG (.ref C) [v]) Q E ⟨h,g,d,t,os⟩:=by
 haveI a:=tc_lookup;haveI b:=tc_bind (.ref C);haveI y:(⟨h,g,d,t,os⟩:al).TypeIs (.ref C) "type" :=(aJ _ k rfl)
 refine wpAny_call (codeAny_of_tree ?_)
 repeat (any_goals (first|assumption|with_reducible refine rJ k ?_ |wp_step))
 exact⟨rfl,codeAny_call_builtin_at (DF _ (by decide+kernel)) aso (wpAny_check_type_call_sub k (ab1 F I k n o hq))⟩
end
section
variable {M:Model} {A:Around} {E:Value->Shared->Prop} {s:Shared} {U:Env}
variable {nm q:Str} {C N:Addr} {bs bm:List Value} {kU:Bool} {sn:List Str} {eR:List Value} {G:Bool} {kV:Option Bool} {l:Option Addr} {k0 W k2 k3 k5:Option Value} {j:String}
theorem ab3 {e t D:aq} {c:Array (Option ai)} {Q:f7->al->Prop} (y:bm.contains (.type "BaseException")=true) (d:A.handled=none) (b:s.heap.get? C=some (pQ nm q C N bs bm kU sn eR G kV l k0 W k2 k3 k5 j))
  (f:s.heap.get? e=some {cls:=.ref C,dict:=some D,data:=.fields #[.ref t,.none,.none,.none,.bool false,.none],slots:=c}) (g:E (.ref e) s):
  wpAny M A (DO U (some (pure (.ref e))) none) Q E s:=by
 haveI a:(Value.ref C::bm).contains (.type "BaseException")=true:=by rw [rI,y,DN]
 repeat (first|with_reducible refine rJ f ?_ |with_reducible refine rJ b ?_ | (with_reducible refine xK b ?_;rw [a])|wp_step)
 exact wpAny_raiseNew_none d g
end
end MineK
section
open PySem PySem.W PySem.Calls PyProof.Rows Builtin Builtin.ObjectAttr Builtin.Getset_descriptor Mo
namespace MineK
def vO:List ai->Bool
 | []=>false
 |v::r=>match v with
  | .ref _=>vO r
  | .type _=>v::r==[.type "Exception",.type "BaseException",.type "object"]
  |_=>false
theorem ab4 (a:ai) {l:List ai}:vO l=true->refuseLoop a "__setattr__" l=pure ():=by
 induction l with
 |nil=>
  intro e;contradiction
 |cons v r B=>
  intro e;induction v with
  |ref _=>rw [refuseLoop_ref];exact B e
  |type y=>
   haveI e:(pP y::r==[.type "Exception",.type "BaseException",.type "object"])=true:=e;rw [beq_iff_eq.mp e];exact PySem.F.store_Exception.passes a
  |_=>contradiction
theorem ab5 {l:List ai}:vO l=true->l.contains (.type "object")=true:=by
 induction l with
 |nil=>
  intro e;contradiction
 |cons v r B=>
  intro e;induction v with
  |ref _=>rw [rI,B e,DN]
  |type y=>
   haveI e:(pP y::r==[.type "Exception",.type "BaseException",.type "object"])=true:=e;rw [beq_iff_eq.mp e];decide
  |_=>contradiction
def HJ (K:Frag) (C:aq):Bool:=(clsIn K C).any λu=>vO u.mro&&u.hasDict
section
variable {L:Program} {w:World} {A:Around} {R:Result->Shared->Prop} {E:Value->Shared->Prop} {s:Shared} {K:Frag} {x C:Addr}
theorem ab6 {H:Array ai} {F:ax} {N:e0} {v:ai} (X:K.In s.heap) (J:s.heap.get? x=some {cls:=.ref C,data:=.fields H}) (S:HJ K C=true) (T:Du K C F=some none)
  (h:∀G V,(∀b o,b≠x->s.heap.get? b=some o->G.get? b=some o)->(∃D,G.get? x=some {cls:=.ref C,dict:=some D,data:=.fields H})->R (.ok (.ret .none)) {s with heap:=G,toks:=V}):
  codeAny (aG L w) A (.call (.builtin "object.__setattr__") ⟨[.ref x,.str F N,v],[]⟩) R s:=by
 haveI c:=PySem.F.store_object;refine aw (any_some S) λu O E=> ?_;rw [eC] at E;obtain⟨E,d⟩:=E;haveI I:InstAt s.heap x {cls:=.ref C,data:=.fields H} C none:=⟨J,rfl,rfl,trivial⟩
 haveI k:u.mro.isEmpty=false:=by induction q:u.mro with|nil=>rw [q] at E;contradiction|cons _ _=>rfl
 refine codeAny_call_builtin c.slot.plain c.entry (@check_slot (aG L w) _ _ s "object.__setattr__" "object" "__setattr__" (.ref x) [.str F N,v] [] _ c.kind c.split (I.type.andThen (looks_mroIn X (by unfold pR;rw [O,Option.bind_some,if_neg (by rw [k];decide),ab5 E]))) (c.args (.ref x) (.str F N) v) (aw (n0.mp T) λf W P=> ?_));haveI Y:ik (aG L w) s.heap (mroOf (.ref C)) u.mro:=(looks_clsIn X O).andThen .now
 haveI l:ik (aG L w) s.heap (storeTaker? f) none:=by
  induction f with
  |none=>exact .now
  |some a=>
   refine aw (gP.mp P) λb M P=>(looks_takesIn X M).andThen ?_;cases b
   ·exact .now
   ·contradiction
 rw [osa_eq,refuse_eq];refine wpAny_bind (wpAny_bind (I.type.here (wpAny_bind (Y.here ?_))));rw [ab4 _ E];refine wpAny_pure (wpAny_bind (I.type.here (wpAny_bind ((OQ X W).here (wpAny_bind (l.here ?_))))));show wpAny _ _ (ownDictForStores (.ref x)>>=_) ..
 refine wpAny_bind (wpAny_bind (wpAny_loadPart J (wpAny_bind ((looks_clsIn X O).here ?_))));rw [d];refine wpAny_bind (wpAny_alloc ?_);haveI i:(s.heap.push {cls:=.type "dict",data:=.dict #[]}).get? x=some {cls:=.ref C,data:=.fields H}:=j8 _ J;haveI j:=nY (fz J);refine wpAny_bind (wpAny_update i (wpAny_pure ?_))
 haveI m:((s.heap.push {cls:=.type "dict",data:=.dict #[]}).update x λo=>{o with dict:=some s.heap.objs.size}).get? s.heap.objs.size
   =some {cls:=.type "dict",data:=.dict #[]}:=
  (Dx _ _ j).trans (rE _ rfl)
 haveI U:((s.heap.push {cls:=.type "dict",data:=.dict #[]}).update x λo=>{o with dict:=some s.heap.objs.size}).Ns s.heap.objs.size (λ_=>none):=
  (k7 _ (#[]) _ m rfl (λe Z=>absurd Z (by simp)) (λ_=>rfl))
 exact wpAny_bind (wpAny_pure (wpAny_bind (wpAny_nsSet1EFk (Heap.Ns1.of_empty U) λG g Q t=>(ff (g.count (Within.cons F v Within.nil)) λy z B n p r=>(wpAny_bind (arz n (by rw [p];exact pastItsLine_dict (gq r (Qx))) (wpAny_pure (h G _ (λb o bN M=>((Q.2 b (nY (fz M))).trans ((Dx _ _ (Ne.symm bN)).trans (j8 _ M)))) ⟨s.heap.objs.size,((Q.2 x j).trans (xn _ i rfl))⟩))))))))
end
end MineK
end
section
open PySem PySem.W PySem.Calls PyProof.Rows Builtin Builtin.ObjectAttr Builtin.Getset_descriptor
namespace MineK
structure HK (K:Frag) (bI af:aq) (name qual:ax) (params:rD) (scope:fe) (vP vQ vR vS:aX) (doc pm ll ov sv:ai) (an sw:Option aq) (sx:Array (Option ai)):Prop where
 look:K.lookup bI=some ⟨sv,sw,.func (fnOf name qual params [.Assign [.Attribute (.Name "self" vP) "message" vQ] (.Name "message" vR) vS] scope .none .none doc pm an ll ov),sx⟩
 code:codeIn K ll qual=true
 bind:∀a b:ai,rC (fnOf name qual params [.Assign [.Attribute (.Name "self" vP) "message" vQ] (.Name "message" vR) vS] scope .none .none doc pm an ll ov) ⟨[a,b],[]⟩=pure [(il "self",a),(il "message",b)]
 kind:scope.kind= .function
 gen:scope.isGenerator=false
 co:scope.isCoroutine=false
 self:scope.names.lookup (il "self")=some NameKind.local
 message:scope.names.lookup (il "message")=some NameKind.local
 over:HJ K af=true
 zc:Du K af "message" =some none
 set:nW K (.ref af) "__setattr__" =some (some (.builtin "object.__setattr__"))
section
variable {L:Program} {w:World} {A:Around} {R:Result->Shared->Prop} {E:Value->Shared->Prop} {s:Shared} {K:Frag} {e C i:Addr}
variable {d2 g9:Str} {jv:Arguments} {b5:Scope} {p1 p2 p3 p4:Pos} {jw pm hA ct oc:Value} {an od:Option Addr} {jx:Array (Option Value)}
theorem ab7 {m:Array ai} {v:ai} (Z:HK K i C d2 g9 jv b5 p1 p2 p3 p4 jw pm hA ct oc an od jx) (X:K.In s.heap) (y:s.heap.NoLimit) (j:A.depth<t6)
  (B:s.heap.get? e=some {cls:=.ref C,data:=.fields m})
  (h:∀c n,(∀b o,b≠e->s.heap.get? b=some o->c.get? b=some o)->(∃D,c.get? e=some {cls:=.ref C,dict:=some D,data:=.fields m})->R (.ok (.ret .none)) {s with heap:=c,toks:=n}):
  codeAny (aG L w) A (.call (.ref i) ⟨[.ref e,v],[]⟩) R s:=by
 refine PySem.codeAny_call_function j (X _ _ Z.look) rfl Z.co Z.gen rfl (Ox X Z.code) ?_;rw [Z.bind];refine wpAny_pure (Oz Z.kind (λp g=> ?_) (λd E P I=> ?_))
 ·rcases cb.mp g with rfl|g
  ·exact .inl Z.self
  ·rcases cb.mp g with rfl|g
   ·exact .inl Z.message
   ·contradiction
 ·obtain⟨⟨t,f,F⟩,u,k,Q⟩:=I.toInCall;subst F;refine⟨y.keeps k,PySem.codeAny_func ?_⟩;haveI q:d.scope=b5:=by rw [E];rfl
  haveI x:d.scope.kind= .function:=by rw [q];exact Z.kind
  haveI W:d.kindOf "self" =some .local:=by unfold Env.kindOf;rw [q];exact Z.self
  haveI r:d.kindOf "message" =some .local:=by unfold Env.kindOf;rw [q];exact Z.message
  haveI G:pL d.kindOf [(il "self",Value.ref e),(il "message",v)] (λ_=>none) "self" =some (.ref e):=by
   simp only [pL,W,r,if_true];rfl
  haveI H:pL d.kindOf [(il "self",Value.ref e),(il "message",v)] (λ_=>none) "message" =some v:=by
   simp only [pL,W,r,if_true]
  refine PySem.wpAny_execs_cons ?_;rw [ash _ _ _ _ _ rfl];refine wpAny_bind (wpAny_standAt (wpAny_bind (ub (xy x r u H (wpAny_bind (wpAny_bind (wpAny_holding (ub (xy x W u G (wpAny_bind (wpAny_standAt (wpAny_bind (wpAny_holding ?_))))) (rfl)))))) (rfl))));haveI a:=X.keeps k;haveI z:=k _ _ B;haveI l:InstAt t e {cls:=.ref C,data:=.fields m} C none:=⟨z,rfl,rfl,trivial⟩
  exact set_plain a l Z.set (ab6 (s:={s with heap:=t,toks:=f+1}) a z Z.over Z.zc λc n J M=>(PySem.wpAny_release (wpAny_pure (PySem.wpAny_execs_nil (h c n (λb o N O=>J b o N (k _ _ O)) M)))))
end
end MineK
end
namespace Mine
def HL:a7:=λ_ J k _=>k .dW J
section
variable {M:Model} {A:Around} {E:Value->Shared->Prop} {s:Shared} {U:Env}
theorem aqB {x:ck ai} {Q:f7->al->Prop} (h:av M A x (λv a=>av M A (DO U (some (pure v)) none) Q E a) E s):av M A (DO U (some x) none) Q E s:=by
 unfold DO at h⊢;refine aC (b0 h (λv a b=> ?_) λ_ _ x=>x)
 simpa only [pure_bind] using b
end
structure mc (Z:bx) (n:Nat) (af bI:aq):Prop where
 is:Z.exc n=some af
 look:∃nm q N bs bm ab8 sn sub ab9 col aca acb k1 acd ace zM,Z.K.lookup af=some (pQ nm q af N bs bm ab8 sn sub ab9 col aca acb k1 acd ace zM "Exception.__new__")/\vN bm "Exception"
 init:nW Z.K (.ref af) "__init__" =some (some (.ref bI))
 typ:typeIn Z.K (.ref bI)=some (.type "function")
 body:∃name qual params scope vP vQ vR vS doc pm ll ov sv an sw sx,HK Z.K bI af name qual params scope vP vQ vR vS doc pm ll ov sv an sw sx
 keep:mU Z.K (.ref af)=true
section
variable {Z:bx} {d:Nat} {V:bb}
theorem acf {y:ax} {n:Nat} {a:aX}:bF Z d V HL (.Constant (.str y) n a):=by
 exact λA U e s c Y J k x Q E O L S b hq f=>aV<|Ds (hq _ .dW c J _ b (S.tok _) (.refl c) trivial)
def vT (n:Nat) (t:a7):ST:=λY J k r x=>t Y J (λ_ J=>x n J) λ_ _=>False
theorem zN {n:Nat} {C i:aq} {t:a7} {e:aH} {y:ax} {p z ap:aX} (N:mc Z n C i) (h:bF Z d V t e)
  (h1:fL Z.K eU y=some (some (.ref C))) (h2:V.scope.names.lookup y=some .globalImplicit) (h3:(y==("__debug__" :ax))=false) (hn:gn e=true:=by rfl):
  fC Z d V (vT n t) (.Raise (some (.Call (.Name y p) [e] [] z)) none ap):=by
 refine λA U h₀ s c bq Y J k r x Q E O L S hp ht hk hr hx=>aC (c9 (aqB (aC (mA (a6 λH_ K=>aw S.F λm F em=>(jG O.base.T λpp jY mg mb T=>K (aV (uc F O.base.X T h1 ?_ L.globals L.iu (iL L h2) h3))))))));haveI dm:[e].all gn=true:=by simp [hn]
 refine kc dm (λh X=>Dv N.keep h X) (CM (h A U h₀ s c Y J _ _ _ E O L S ht (λv a c₁ ca s₁ h₁ R P va=>(xa ⟨O.base.X.keeps R.keep,a6 λH_ K=> ?_⟩)) (λ_ _ _ _ _ h=>h.elim)) (qh hn));haveI X:=O.base.X.keeps R.keep;refine n7 N.look λnm q N' bs bm kU sn eR q8=>yb q8 λG kV l k0 W k2 k3 k5 hC u=>n7 N.body λd2 g9 jv b5 p1 p2 p3 p4 f=>n7 f λjw pm hA ct oc an od jx B=> ?_;obtain⟨j,g,w,tk,os⟩:=s₁
 haveI M:∀b o,j.get? b=some o->((j.push {cls:=.type "tuple",data:=.seq #[v]}).push {cls:=.ref C,data:=.fields #[.ref j.objs.size,.none,.none,.none,.bool false,.none]}).get? b=some o:=
  λb o e=>j8 _ (j8 _ e)
 refine K (aV (ab2 PySem.F.excBase_Exception u (X _ _ hC) (OQ X N.init) (λfU=>bind_fn X fU N.typ) (ab7 B (X.keeps M) ((T.nolimit.keeps R.keep).keeps M) (SY O.room.1) (by heap_get) λh' t' ks I=>⟨rfl,aC (c9 (bt (jF I λD I=> ?_)))⟩)));haveI H:=λb o hb=>ks b o (nY (ass (fz hb))) (M b o hb);refine aV (ab3 (u.base) O.room.2.2 (H _ _ (X _ _ hC)) I ?_);haveI ef:=R.fresh (OU (mR _)) (mR _);refine hx _ n Y c₁ ca _ h₁ (R.grow H (bv rfl rfl rfl)) (P.fwd hp) (.inl (lS C N.is ef.2.2.1 ef.1 (.inl (iH _ _ I rfl rfl rfl))))
end
section
variable {M:Model} {A:Around} {E:Value->Shared->Prop} {s:Shared} {U:Env}
theorem acg {a:aH} {c:aX} {Q:ai->al->Prop}
  (h:av M A (bM a U) (λv b=>av M A (formatField v OV) Q E b) E s):av M A (bM (.FormattedValue a (-1) none c) U) Q E s:=by
 exact aC (b0 h (λv b d=>aC (c9 (aC (dJ (bt d))))) λ_ _ x=>x)
theorem HM {f:ax} {x:ck ai} {b:List (ck ai)} {Q:ai->al->Prop}
  (h:av M A x (λv a=>∃y t,v= .str y t/\f.length+y.length <= rx/\av M A (OW (f++y) b) Q E a) E s):av M A (OW f (x::b)) Q E s:=by
 refine aC (b0 h (λv a d=>(dN d λy t g i c=> ?_)) λ_ _ e=>e);obtain rfl:=g;show av M A (if f.length+y.length>rx then _ else _) Q E a
 rw [if_neg (DA.mpr i)]
 first|exact c|exact aC (bt c)
end
section
variable {Z:bx} {d:Nat} {V:bb}
abbrev np:=List aa->ae->(ae->Prop)->Prop
def qy (Z:bx) (d:Nat) (V:bb) (T:np) (D:List aH):Prop:=
 ∀(A:cy) (U:be) (a:bk) (s:al) (c:aP) (Y:List aa) (J:ae) (k:ae->Prop) (Q:ai->al->Prop) (E:ai->al->Prop) (f:ax),
  Ok Z d A U a c->c0 V U->St Z V U a c Y J s->T Y J k->f.length+1000*D.length <= 1000000->
  (∀v G aj K,k aj->St Z V U a G Y aj K->cW c G->Q v K)->
  av (aG Z.prog Z.w) A (OW f (evalEach D U)) Q E s
def zO:np:=λ_ J k=>k J
def zP (t:a7) (r:np):np:=λY J k=>t Y J (λa J=>(match a with
 | .str _=>True
 | .int i=>0 <= i/\i<1000
 |_=>False)/\r Y J k) λ_ _=>False
theorem HN:qy Z d V zO []:=by
 exact λA U e s c Y J k Q E f O L S a b hq=>aV (wpAny_mkStr (hq _ c J _ a (S.tok _) (.refl c)) (bE b ab))
theorem zQ {r:np} {y:ax} {n:Nat} {e:aX} {D:List aH} (h:qy Z d V r D) (a:y.length <= 1000:=by decide):qy Z d V r (.Constant (.str y) n e::D):=by
 exact λA U g s c Y J k Q E f O L S i b hq=>HM (aV (Ds (dt y _ rfl (yI b a) (h A U g _ c Y J k Q E _ O L (S.tok _) i (by rw [OX];exact yJ b a) hq))))
theorem ach:∀n:Fin 1000,(il (toString ((n.val:Nat):Int))).length <= 1000:=by decide+kernel
theorem aci:∀n:Fin 7,∀x,mB[n.val]? =some x->x.length <= 1000:=by decide+kernel
theorem HO {t:a7} {r:np} {e:aH} {B:aX} {D:List aH} (C:bF Z d V t e) (h:qy Z d V r D):qy Z d V (zP t r) (.FormattedValue e (-1) none B::D):=by
 intro A U o s c Y J k Q E f O L S M g hq;simp only [kZ] at g;refine HM (acg (C A U o s c Y J _ _ _ E O L S M (λv a u w X m R P y=> ?_) (λ_ _ _ _ _ h=>h.elim)));obtain⟨F,m⟩:=m;cases a<;>try exact F.elim
 ·rename_i i;obtain⟨H,rfl⟩:=y;obtain⟨n,rfl⟩:∃n:Nat,i=n:=⟨i.toNat,by omega⟩
  have I:(n:Int).natAbs.log2<1920:=by
   rcases Nat.eq_zero_or_pos n with rfl|N
   ·decide
   ·exact i4 ((Ot (QK N)).mpr (show n<2^10 by omega)) ∅
  haveI b:=ach ⟨n,by omega⟩;refine aV (formatField_int_small I (dt _ _ rfl ?_ ?_))
  ·have:=b;exact yI g this
  ·have:=b;exact h A U o _ u Y w k Q E _ (O.ext P) L (R.tok _) m (by rw [OX];exact yJ g this) (λv G aj K p q W=>hq v G aj K p q (P.trans W))
 ·rename_i j;refine cV y λH x z T=> ?_;obtain rfl:=T;haveI b:=aci ⟨j,((cF.mp z).1)⟩ x z;exact aV (formatField_str (λt' l=>(dt _ _ rfl (yI g b) (h A U o _ u Y w k Q E _ (O.ext P) L (R.tok _) m (by rw [OX];exact yJ g b) (λv G aj K p q W=>hq v G aj K p q (P.trans W))))) (bE b ab))
def zR (T:np):a7:=λY J k _=>T Y J λJ=>k .dW J
theorem HP {T:np} {m g:aH} {a:List aH} {b:aX} (h:qy Z d V T (m::g::a)) (e:a.length <= 100:=by decide):bF Z d V (zR T) (.JoinedStr (m::g::a) b):=by
 exact λA U f s c Y J k x Q E O L S i hq n=>h A U f s c Y J _ Q E OV O L S i (by haveI:OV.length=0:=rfl;exact VL this e) (λv G aj K j l W=>hq v .dW G aj K j l W trivial)
end
section
variable {M:Model} {A:Around} {E:Value->Shared->Prop} {h:Heap} {g:Array GenState} {w:Drawn} {t:Nat} {os:OsState}
theorem acj {n q x o:ax} {C N D p:aq} {bs i z u:List ai} {r I:Bool} {s v:List ax} {F H:List ai} {G J:Bool} {K L:Option Bool} {l O:Option aq} {S W T U V k B R X Y:Option ai} {j c:String} {e:aq} {P:cj} {b:Bool} {Q:Bool->al->Prop}
  (Z:h.get? C=some (pQ n q C N bs i r s F G K l S W T U V j)) (m:h.get? D=some (pQ x o D p z u I v H J L O k B R X Y c))
  (he:h.get? e=some P) (d:P.cls= .ref C) (y:u.contains (.type "BaseException")=true) (hb:(Value.ref C::i).contains (.ref D)=b)
  (hq:Q b ⟨h,g,w,t,os⟩):PySem.wpAny M A (excMatches (.ref e) (.ref D)) Q E ⟨h,g,w,t,os⟩:=by
 haveI a:(Value.ref D::u).contains (.type "BaseException")=true:=by rw [rI,y,DN]
 haveI f:=tc_notTuple
 repeat (first| (with_reducible rw [d])|with_reducible refine rJ m ?_ | (with_reducible refine xK m ?_;rw [a])| (with_reducible refine xK Z ?_;rw [hb])|wp_step)
 cases b
 ·wp_walk
  exact hq
 ·wp_walk
  exact hq
end
section
variable {M:Model} {A:Around} {E:Value->Shared->Prop} {s:Shared} {U:Env}
theorem ack {N c:ck f7} {d:DP} {g:List DP} {Q:f7->al->Prop}
  (h:av M A N (λf a=>match f with| .next=>av M A c Q E a|f=>Q f a)
   (λe a=>av M A (j7 e U) (λ_ i=>PySem.wpAny M A (setFlight e none) (λ_ I=>PySem.wpAny M A (handleBy e U (d::g)) Q E I) E i) E a) s):
  av M A (tryStmt false N (d::g) c [] U) Q E s:=by
 refine aC (CJ (b0 h (λf a b=> ?_) λe a b=>(aC (b0 b (λ_ _ j=>aV (PySem.wpAny_bind j)) λ_ _ x=>x))))
 ·cases f<;>first|exact b|exact bt b
end
section
variable {Z:bx} {d:Nat} {V:bb}
theorem HQ {M:jz} {A:cy} {U:be} {g:bk} {s:al} {c:aP} {Y:List aa} {J:ae} {e T C:aq} {P k:cj} {l n:Array ai} {w:ai} {E:ai->al->Prop} {Q:Unit->al->Prop}
  (S:St Z V U g c Y J s) (x1:s.heap.get? e=some P) (x3:P.data= .fields l) (x4:l[1]? =some (.ref T)) (v:g.get? T=none) (x:T∉c.all) (y:T≠e) (i:s.heap.get? T=some k) (f:k.data= .fields n) (z:n[3]? =some w)
  (D:∀K p r,St Z V U g c Y J K->K.heap.get? e=some P->K.heap.get? T=some p->p.data= .fields r->r[3]? =some .none->(∀b o,g.get? b=some o->K.heap.get? b=some o)->Q () K):
  PySem.wpAny M A (setFlight (.ref e) none) Q E s:=by
 haveI a:=(Dw.mp z).1;refine PySem.wpAny_setFlight_none x1 x3 x4 i f a ?_;haveI d:∀b,b≠T->(s.heap.update T (Ov (·.setIfInBounds 3 .none))).get? b=s.heap.get? b:=λb j=>Dx _ _ (Ne.symm j);refine aw S.F λm F em=> ?_
 haveI h:U.locals≠T:=by
  refine ff F.ns λoL H I t B L=> ?_;rintro q;rw [q,i] at t;obtain rfl:=bl t;haveI f:=B▸f;contradiction
 haveI u:=S.turn (K:={s with heap:=s.heap.update T (Ov (·.setIfInBounds 3 .none))})
  (F.change (Dh ..) (Ne.symm h) v) em (λb j o G=>(d b (λq=>x (q▸j))).trans G) (bv rfl rfl rfl)
 exact D _ _ _ u ((d e (Ne.symm y)).trans x1) (xn _ i (arZ (Dy f _))) (Dy f _) (by simp [a]) u.keep
def HR (b:ST) (a:List (Nat×Nat)):ST:=λY J k r x=>b Y J k r λn J=>match a.lookup n with
 |some j=>r (.str j) J
 |none=>False
abbrev zS (x:ax) (a:aX) (y:ax) (n:Nat) (b c d:aX):DP:=.ExceptHandler (some (.Name x a)) none [.Return (some (.Constant (.str y) n b)) c] d
theorem mc.sub {C D:aq} {c q:ax} {N:aq} {bs a:List ai} {d:Bool} {e:List ax} {f:List ai} {G:Bool} {g:Option Bool} {l:Option aq} {i W j k m:Option ai} (n:Z.K.lookup C=some (pQ c q C N bs a d e f G g l i W j k m "Exception.__new__"))
  {b:Bool} (h:pR Z.K C (.ref D)=some b):(Value.ref C::a).contains (.ref D)=b:=by
 unfold pR clsIn at h;rw [n] at h
 simpa using h
structure zT (Z:bx) (V:bb) (ex:ax) (m:Nat) (y:ax) (j:Nat):Prop where
 cls:∃D acl,mc Z m D acl/\fL Z.K eU ex=some (some (.ref D))/\ ∀n af,Z.exc n=some af->pR Z.K af (.ref D)=some (n==m)
 glob:V.scope.names.lookup ex=some .globalImplicit
 acm:(ex==("__debug__" :ax))=false
 str:mB[j]? =some y
 all:∀n af,Z.exc n=some af->∃bI,mc Z n af bI
theorem HS {A:cy} {U:be} {g:bk} {s:al} {c:aP} {Y:List aa} {J:ae} {e T C:aq} {n m j:Nat} {P oT:cj} {vs ts:Array ai} {w:ai} {E:ai->al->Prop} {Q:f7->al->Prop} {t y:ax} {p1 p2 p3 p4:aX} {nn:Nat} {aY:List DP}
  (H:zT Z V t m y j) (O:Ok Z d A U g c) (L:c0 V U) (hC:Z.exc n=some C)
  (S:St Z V U g c Y J s) (x1:s.heap.get? e=some P) (x2:P.cls= .ref C) (x3:P.data= .fields vs) (x4:vs[1]? =some (.ref T)) (x5:g.get? T=none) (x6:T∉c.all) (x7:T≠e) (x8:s.heap.get? T=some oT) (x9:oT.data= .fields ts) (ig:ts[3]? =some w)
  (h1:n=m->∀v K,a5 c.adr (.str j) v->St Z V U g c Y J K->Q (.ret v) K)
  (h2:n≠m->PySem.wpAny (aG Z.prog Z.w) A (handleBy (.ref e) U aY) Q E s):
  PySem.wpAny (aG Z.prog Z.w) A (handleBy (.ref e) U (zS t p1 y nn p2 p3 p4::aY)) Q E s:=by
 refine a6 λH_ e_=>dN H.cls λD fJ h hx r=> ?_;obtain⟨i,M⟩:=H.all n C hC;haveI X:=O.base.X.keeps S.keep;refine aw S.F λm' F em=>jG O.base.T λpp jY mg mb N=>n7 M.look λnm q N' bs bm kU sn eR q8=>yb q8 λG kV l k0 W k2 k3 k5 b IC=>n7 h.look λx o atW z u I NT NU f=>yb f λNV NW NX k B R j3 j5 lD ID=>e_ (wpAny_handleBy_cons (codeAny_handlers_test (uc F O.base.X N hx (a6 λH_ e_=>e_ (acj (X _ _ b) (X _ _ lD) x1 x2 ID.base (mc.sub b (r n C hC)) ?_)) L.globals L.iu (iL L H.glob) H.acm)) (by intro q;contradiction));by_cases a:n=m
 ·rw [beq_iff_eq.mpr a];dsimp only;exact codeAny_handlers_suite (HQ (C:=C) S x1 x3 x4 x5 x6 x7 x8 x9 ig λK p nN S' _ _ _ _ _=>(PySem.wpAny_execs_cons (PySem.wpAny_Return_some (Ds (h1 a _ _ (c7 _ _ H.str rfl) (S'.tok _))))))
 ·rw [beq_false_of_ne a];exact h2 a
theorem acn {b:ST} {N:List eT} {x1 x2 F q:ax} {m1 m2 B R:Nat} {p1 p2 p3 p4 q1 q2 q3 q4 ap:aX} {n1 n2:Nat} (hb:eb Z d V b N) (M:V.comp=false)
  (W:zT Z V x1 m1 F B) (H2:zT Z V x2 m2 q R) (atX:V.comp=false):
  fC Z d V (HR b [(m1,B),(m2,R)]) (.Try N [zS x1 p1 F n1 p2 p3 p4,zS x2 q1 q n2 q2 q3 q4] [] [] ap):=by
 intro A U h₀ s c bq Y J k r x Q E O L S hp ht hk hr hx;have ef:=L.fr M;refine aC (c9 (ack (hb A U h₀ s c bq Y J k r _ _ _ O L S hp ht (λX G aj K h S' w=>(CL (hk X G aj K h S' w))) (λv a X G aj K h S' w va=>hr v a X G aj K h S' w va) (λe n X G aj K h S' w fl=> ?_))))
 ·have o:=O.fwd w;refine jF (o.head ef) λl hl=>aw o.frames λl2 fT kv=> ?_;rw [hl] at fT;obtain rfl:=bl fT;refine zh S' hl ef kv fl λc2 s2 g a1 a2 a3 hh=>a6 λH_ e_=> ?_;have w2:=w.trans ⟨by rw [a1];exact w.pin,a2,by rw [a3];exact ir.refl _⟩;refine iG hh λC hC b1 b2 mI=>pV mI λP vs T oT ts f j t u y z H I mJ=> ?_;obtain⟨t9,i⟩:=mJ;refine e_ (HQ (C:=C) g f t u y z H I t9 i λs3 p nN S3 u1 u2 u3 u4 _=> ?_);have D:=O.fwd w2;refine HS W D L hC S3 u1 j t u y z H u2 u3 u4 (λhn v s4 va S4=> ?_) (λhn=> ?_)
  ·subst hn;exact hr v _ X c2 aj s4 (by simpa [xL] using h) S4 w2 va
  ·refine HS H2 D L hC S3 u1 j t u y z H u2 u3 u4 (λm v s4 va S4=> ?_) (λm=> ?_)
   ·subst m
    haveI h':=by
     simpa [xL,(beq_false_of_ne hn)] using h
    exact hr v _ X c2 aj s4 h' S4 w2 va
   ·simp [xL,(beq_false_of_ne hn),(beq_false_of_ne m)] at h
end
section
variable {Z:bx} {d:Nat} {V:bb}
def kp (a:fe):List ax:=((a.names.filter λp=>p.2==NameKind.free).map (·.1)).reverse
theorem aco {U:be} {f:ax->aq} (l:List (ax×hH)):∀(b:List (ax×aq)),(∀p∈l,p.2=NameKind.free->U.cells.lookup p.1=some (f p.1))->
  (forIn l b λ(x:ax×hH) (r:List (ax×aq))=>(do
   let e:=r
   if x.2== .free then do
    let a<-cellOf U x.1
    pure (ast ((x.1,a)::e))
   else pure (ast e):ck (ForInStep (List (ax×aq)))))=pure (((l.filter λp=>p.2==NameKind.free).map λp=>(p.1,f p.1)).reverse++b):=by
 induction l with
 |nil=>
  intro b _;exact rfl
 |cons p l B=>
  intro b h;rw [asu];haveI B:=λb=>B b λq hq=>h q (.tail _ hq);by_cases c:p.2=NameKind.free
  ·haveI d:(p.2==NameKind.free)=true:=by rw [c];rfl
   haveI g:cellOf U p.1=pure (f p.1):=by unfold cellOf;rw [h p (.head _) c]
   simp only [d,if_true,g,pure_bind,asv,cB,arP,bX,List.singleton_append];exact B _
  ·haveI d:(p.2==NameKind.free)=false:=by simpa using c
   simp only [d,xz,if_false,pure_bind,asv];exact B _
theorem HT {a:fe} {U:be} {f:ax->aq} (h:∀p∈a.names,p.2=NameKind.free->U.cells.lookup p.1=some (f p.1)):xM a U=pure ((kp a).map λn=>(n,f n)):=by
 haveI:=aco a.names [] h;unfold xM kp;rw [cO] at this;rw [uo,iE];haveI e:(List.map ((λn=>(n,f n))∘λx:ax×hH=>x.1) (asw (λp=>p.2==NameKind.free) a.names))=List.map (λp:ax×hH=>(p.1,f p.1)) (asw (λp=>p.2==NameKind.free) a.names):=rfl;rw [e,<-this];rw [bind_pure]
def sQ (o:Option aa):Option Nat:=match o with
 |some (.ref c)=>some c
 |_=>none
theorem acp {o:Option aa} {c:Nat} (h:sQ o=some c):o=some (.ref c):=by
 induction o with
 |none=>contradiction
 |some a=>cases a<;>first|obtain rfl:=bl h;rfl|contradiction
def oD (Y:List aa):List Nat->Option (List Nat)
 | []=>some []
 |i::a=>(sQ Y[i]?).bind λc=>(oD Y a).map (c:: ·)
abbrev zU (V:bb) (I:List ax) (a:List Nat):Prop:=b9 (λn i=>V.slots[i]? =some (n,true)) I a
theorem HU {U:be} {T:List aq} {m:ax->Option ai} {Y:List aa} (e:iK V U T m Y) {I:List ax} {l:List Nat} (h:zU V I l):∀f,oD Y l=some f->
  jJ T I f (I.map λn=>(n,(U.cells.lookup n).getD 0))/\ ∀n∈I,U.cells.lookup n=some ((U.cells.lookup n).getD 0):=by
 induction h with
 |nil=>intro f q;obtain rfl:=bl q;exact⟨.nil,λ_ h=>(c6 h).elim⟩
 | @cons n i I l s _ B=>
  intro f q;haveI q:(sQ Y[i]?).bind (λc=>(oD Y l).map (c:: ·))=some f:=q;refine aw (n0.mp q) λc t q=>aw (gP.mp q) λk u q=> ?_;subst q;refine dN (e i n true s) λj a o v r=> ?_;replace o:=(acp t)▸o;cases o;refine fp (B _ u) λd b=>⟨.cons ?_ d,λp g=> ?_⟩
  ·rw [r];exact v
  ·rcases cb.mp g with rfl|g
   ·rw [r];rfl
   ·exact b p g
structure acq (Z:bx) (V:bb) (j acr:Nat) (is:List Nat) (ea:lb) (c P:aq):Prop where
 lam:Z.lam j=some ea
 tab:Z.tab acr=some P
 code:∃q,V.code=some (.ref c,q)/\ea.qual=q++ "<lambda>"
 hd:codeHdIn Z.K c P=true
 free:ea.free=kp ea.scope
 slots:zU V ea.free is
 apart:∀HV zV,Z.lam HV=some zV->zV.pos.line=ea.pos.line->zV.pos.col=ea.pos.col->HV=j
 acs:eU≠P
 defs:∀env,defaultsOf ea.params env=([],[])
theorem hP.triples {T:List aq} {l:List (Nat×Nat)} {a:List ai} (h:hP Z T l a):TriplesOk a:=by
 induction h with
 |nil=>trivial
 |cons _ _ _ B=>exact B
theorem hP.snoc {T:List aq} {l:List (Nat×Nat)} {b:List ai} (h:hP Z T l b) {j c:Nat} {I:lb} {a:aq} (d:Z.lam j=some I) (e:T[c]? =some a):hP Z T (l++[(j,c)]) (b++[iC I.pos.line,iC I.pos.col,.ref a]):=by
 induction h with
 |nil=>exact .cons d e .nil
 |cons x y _ B=>exact .cons x y B
theorem hP.among {T:List aq} {l:List (Nat×Nat)} {c:List ai} (h:hP Z T l c) {j:Nat} {I:lb} (e:Z.lam j=some I)
  (m:∀r f,Z.lam r=some f->f.pos.line=I.pos.line->f.pos.col=I.pos.col->r=j):
  (l.lookup j=none->DQ I.pos c=none)/\ ∀K,l.lookup j=some K->∃a,T[K]? =some a/\DQ I.pos c=some (.ref a):=by
 induction h with
 |nil=>exact⟨λ_=>rfl,λK q=>(Df _ q.symm).elim⟩
 | @cons r G f a l c d g _ B=>
  haveI i:DQ I.pos (iC f.pos.line::iC f.pos.col:: .ref a::c)=if(f.pos.line==(I.pos.line:Int))&&(f.pos.col==(I.pos.col:Int)) then some (.ref a) else DQ I.pos c:=rfl
  rw [i,xC];by_cases b:j=r
  ·subst b;rw [e] at d;obtain rfl:=bl d;simp only [beq_self_eq_true,OH,if_true];refine⟨λq=>by contradiction,λK q=> ?_⟩;simp at q;subst q;exact aJ a g rfl
  ·rw [beq_false_of_ne b]
   haveI:((f.pos.line==(I.pos.line:Int))&&(f.pos.col==(I.pos.col:Int)))=false:=by
    rw [asx];intro q;rw [eC,beq_iff_eq,beq_iff_eq] at q;exact b (m r f d (Ou.mp q.1) (Ou.mp q.2)).symm
   rw [this];exact B
def qz (j h:Nat) (b:List Nat):a7:=λY J k _=>∃(f:Nat) (l:List (Nat×Nat)) (a:List Nat),J[f]? =some (aB.cw h f l)/\oD Y b=some a/\match l.lookup j with
 |some K=>k (.ref J.length) (J++[aB.fn j K a])
 |none=>k (.ref (J.length+1)) (J.set f (aB.cw h f (l++[(j,J.length)]))++[aB.code j,aB.fn j J.length a])
theorem sR {j h:Nat} {is:List Nat} {I:lb} {c P:aq} (H:acq Z V j h is I c P):bF Z d V (qz j h is) (.Lambda I.params I.body I.scope I.pos):=by
 refine λA U h₀ s cc Y J k x Q E O L S ht hq hx=>a6 λH_ e_=>ff ht λf l cs NY ru ht=>aw S.F λm F em=>aw H.code λq tW aqP=> ?_;obtain⟨xi,B⟩:=L.code _ tW;obtain⟨tX,C6⟩:=HU em H.slots cs ru
 have b6:xM I.scope U=pure (I.free.map λn=>(n,(U.cells.lookup n).getD 0)):=by
  rw [H.free];refine HT λp hp hk=>C6 p.1 ?_;rw [H.free];exact up.mpr (dz.mpr ⟨p,xN.mpr ⟨hp,by rw [hk];rfl⟩,rfl⟩)
 refine xW O.base.B λmg bm v g1 b1 b2 b3 z=> ?_;have C:=codeHd_of_K (O.base.X.keeps S.keep) H.hd;refine aw (S.here NY) λW w q2=>aw q2 λo ho ch=> ?_;clear q2;refine f9 ch λP2 R e1 e2 q4 y=> ?_;obtain rfl:=q4;refine e_ ?_;rw [H.tab] at e1;obtain rfl:=bl e1;rw [w] at e2;obtain rfl:=bl e2.symm;have gs:=g1.keeps S.keep
 haveI aqQ:bm≠P:=λq=>by
  have:=S.keep _ _ b3;rw [q,ho] at this;obtain rfl:=bl this;cases z.1
 haveI aqR:bm≠eU:=λq=>by
  refine ff g1 λo D u e hd _=> ?_;rw [q,e] at b3;obtain rfl:=bl b3;haveI z:=hd▸z;exact nomatch z.2.2
 have BA:s.heap.BuiltinsAt mg P:=(lT bm v b1 b2 aqR aqQ (S.keep _ _ b3) z)
 obtain⟨aqS,aqT⟩:=y.among H.lam H.apart;refine aV (kla_eval (H.defs U) ?_);rw [B,<-aqP];induction hl:l.lookup j with
 |some K=>
  haveI ht:=hl▸ht;refine aw (aqT K hl) λr a1 a2=>kla_makeFunctionHit b6 L.globals gs xi C ho y.triples a2 BA λnM h' tk hk fc=> ?_;haveI S1:=S.grow (K:={s with heap:=h'}) hk (bv rfl rfl rfl);refine hq _ (.ref J.length) _ _ _ ht (S1.push (λT hp=> ?_) tk) (.alloc ..) (a5.last S1 _);exact D7 I r _ _ nM H.lam (hp _ _ a1) (tX.mono hp) rfl
 |none=>
  haveI ht:=hl▸ht;refine kla_makeFunction b6 L.globals gs xi C ho y.triples (aqS hl) H.acs BA λG nM h' tk ro M cr aqU NZ=>a6 λH_ e_=>rQ aqU λc2 oc vs t X pw hd hv=>e_ ?_;cases X;refine a6 λH_ e_=> ?_;obtain⟨hL,N⟩:=S.own P (cQ _ (cq w))
  have S1:=
   S.sm (K:={s with heap:=h'}) (ao:=.dead) w ⟨F.ns.extBut ro (Ne.symm hL),λb o e=>ro b o (λq=>by rw [q,N] at e;contradiction) (F.keep b o e),F.above⟩ em (λb _ hb o e=>ro b o hb e) NZ trivial (bv rfl rfl rfl)
  haveI fr:=S.fresh (OU M) M;refine aw S1.F λm1 F1 aqV=> ?_;haveI g:=S1.vk (ao:=.code j) F1 aqV (λ_ _ _ e=>e) fr.1 fr.2.1 fr.2.2.1 fr.2.2.2 pw (gv I vs t H.lam hd hv) (bv rfl rfl rfl);haveI bh:(J.set f .dead).length=J.length:=e3;haveI N0:(cc.adr++[G])[J.length]? =some G:=by rw [<-S.len];simp
  refine aw g.F λm2 F2 N1=> ?_
  haveI S3:=g.sm (ao:=.cw h f (l++[(j,J.length)])) (fi ⟨[G],rfl⟩ _ _ w) F2 N1 (λb _ _ o e=>e) NZ
   (iH P _ H.tab (fi ⟨[G],rfl⟩ _ _ w) rfl (by
    haveI:=(y.mono (fi ⟨[G],rfl⟩)).snoc H.lam N0
    simpa using this)) (bv rfl rfl rfl)
  haveI el:(J.set f .dead++[aB.code j]).set f (.cw h f (l++[(j,J.length)]))=J.set f (.cw h f (l++[(j,J.length)]))++[aB.code j]:=by
   rw [xO _ _ (by rw [bh];exact((cF.mp NY).1)),asy]
  rw [el] at S3
  haveI S4:=S3.push (o:=kla_obj "<lambda>" I.qual I.params I.body I.scope (I.free.map λn=>(n,(U.cells.lookup n).getD 0)) ((mg "__name__").getD .none) G nM) (ao:=.fn j J.length cs) (λT hp=>
   (D7 I G _ _ nM H.lam (hp _ _ N0) (tX.mono λi a e=>hp _ _ (fi ⟨[G],rfl⟩ _ _ e)) rfl)) tk
  haveI aqW:J.set f (.cw h f (l++[(j,J.length)]))++[aB.code j]++[aB.fn j J.length cs]=J.set f (.cw h f (l++[(j,J.length)]))++[.code j,.fn j J.length cs]:=by rw [bX];rfl
  haveI S4:=aqW▸S4;refine e_ (hq _ (.ref (J.length+1)) _ _ _ ht S4 ⟨⟨[G]++[h'.objs.size],by rw [<-bX]⟩,.refl _,.refl _⟩ (aJ h'.objs.size ?_ rfl));simp [S.len]
end
section
variable {Z:bx} {d:Nat} {V N:bb}
theorem St.inner {U d:be} {v t:bk} {c:aP} {Y X:List aa} {J:ae} {s:al} {f:Nat} {oL:cj} {w:ax->Option ai} (S:St Z V U v c Y J s) (z:s.heap.get? U.locals=some oL)
  (B:d.locals=s.heap.objs.size) (D:t.Ns d.locals w) (k:∀b o,s.heap.get? b=some o->t.get? b=some o) (em:iK N d c.adr w X):
  St Z N d v {c with pr:=(U.locals,oL)::c.pr} X J {s with heap:=t,toks:=f}:=by
 refine a6 λM E=>aw S.F λm F e=>ff (id F.ns) λl G H j I O=>E ?_;rw [z] at j;obtain rfl:=bl j;haveI C:=fz z
 have g:∀a,a∈({c with pr:=(U.locals,oL)::c.pr}).all->a∈c.all\/a=U.locals:=by
  intro a r;simp only [aP.all,cR,cB,cb] at r⊢;rcases r with r| (r|r)|r
  ·exact .inl (.inl r)
  ·exact .inr r
  ·exact .inl (.inr (.inl r))
  ·exact .inl (.inr (.inr r))
 haveI n:∀a,a∈({c with pr:=(U.locals,oL)::c.pr}).all->a<s.heap.objs.size:=by
  intro a r;rcases g a r with h|rfl
  ·obtain⟨o,A⟩:=S.there a h;exact fz A
  ·exact C
 refine⟨(aJ w ⟨D,λb o e=>k b o (F.keep b o e),by rw [B];exact ui (arR F.above C)⟩ em),?_,S.len,(λi ao a t K=>aw (S.obj i ao a t K) λo A L=>aJ o (k _ _ A) L),?_,?_,(λp u=>k _ _ (S.aK p u)),S.rest,S.low.1,?_⟩
 ·haveI:(c.adr++(((U.locals,oL)::c.pr).map (·.1)++c.aK.map (·.1))).Perm (U.locals::(c.adr++(c.pr.map (·.1)++c.aK.map (·.1)))):=by
   exact ul
  exact this.nodup_iff.mpr (eD.mpr ⟨(λq=>(S.own _ q).1 rfl),S.cP⟩)
 ·refine λa r=>⟨by rw [B];exact nY (n a r),?_⟩
  rcases g a r with h|rfl
  ·exact(S.own a h).2
  ·induction q:v.get? U.locals with
   |none=>rfl
   |some o=>exact absurd (i4 (fz q) F.above) (mW _)
 ·intro p u;rcases cb.mp u with rfl|u
  ·exact⟨k _ _ z,G,H,I⟩
  ·exact fp (S.pr p u) λx y=>⟨k _ _ x,y⟩
 ·intro a r;rcases g a r with h|rfl
  ·exact S.low.2 a h
  ·exact i4 S.low.1 F.above
theorem St.outer {U d:be} {u:bk} {c n:aP} {Y D:List aa} {J z:ae} {s y:al} {oL:cj} (S:St Z V U u c Y J s) (E:s.heap.get? U.locals=some oL)
  (g:St Z N d u n D z y) (W:cW {c with pr:=(U.locals,oL)::c.pr} n):
  ∃t,St Z V U u t Y z y/\cW c t/\t.adr=n.adr/\ ∀a∈t.all,a∈n.all:=by
 refine a6 λG v=>aw S.F λm F e=>ff (id F.ns) λl O P j Q T=>v (a6 λG v=> ?_)
 obtain⟨r,k,R,A,⟨w,H⟩,I⟩:∃r k,n.pr=r::k/\r.1=U.locals/\(∃w,r.2={oL with slots:=w})/\gd c.pr k:=by
  have:=W.pr;induction h:n.pr with
  |nil=>replace this:=h▸this;contradiction
  |cons r k=>
   replace this:=h▸this;cases this with
   |cons B K=>exact iH r k rfl B.1 B.2 K
 haveI hq:=g.pr r (by rw [R];exact .head _);have hq:=H▸A▸hq
 have x:∀a∈({n with pr:=k}).all,a∈n.all:=by
  intro a i;simp only [aP.all,R,cR,cB,cb] at i⊢;rcases i with i|i|i
  ·exact .inl i
  ·exact .inr (.inl (.inr i))
  ·exact .inr (.inr i)
 haveI b:n.all.Perm (U.locals::({n with pr:=k}).all):=by
  unfold aP.all;rw [R,cB,A];exact ul
 have f:=b.nodup_iff.mp g.cP;rw [eD] at f;refine aw g.F λX L _=>v (lS ({n with pr:=k}) ⟨(aJ m ⟨zf F.ns λo C=> ?_,L.keep,F.above⟩ (e.mono (fi W.adr))),f.2,g.len,g.obj,λa i=>⟨λq=>f.1 (q▸i),(g.own a (x a i)).2⟩,λp M=>g.pr p (by rw [R];exact .tail _ M),g.aK,g.rest,g.low.1,λa i=>g.low.2 a (x a i)⟩ ⟨W.adr,I,W.aK⟩ rfl x);rw [E] at C;obtain rfl:=bl C;exact⟨w,hq.1⟩
theorem act {L:d4} {w:dU} {A:cy} {R:lN->al->Prop} {s:al} {e:aH} {U:be}
  (h:av (aG L w) (A.deeper U) (bM e U) (λv K=>R (.ok (.ret v)) K)
   (λW K=>av (aG L w) (A.deeper U) (leaving U W) (λ_ H=>R (.error W) H) (λf H=>R (.error f) H) K) s):
  dS (aG L w) A (.expr e U) R s:=by
 exact jW (aC (CK (aC (rj (b0 h (λv K a=>bt a) λ_ _ a=>a)))))
theorem acu {L:d4} {w:dU} {A:cy} {R:lN->al->Prop} {s:al} {a:aq} {g:Args} {o:cj} {b:FuncData} {N:aH} (j:A.depth<t6)
  (v:s.heap.get? a=some o) (d:o.data= .func b) (i:b.scope.isCoroutine=false) (k:b.scope.isGenerator=false) (l:b.body= .expr N) (m:s.heap.CodeRec b.code b.qualname)
  (h:av (aG L w) A.in1 (rC b g) (λf r=>
   av (aG L w) A.in1 (Oq b.scope b.globals b.closure f (b.qualname++ ".<locals>.") (some a) b.code none b.builtins)
    (λU p=>p.heap.NoLimit/\dS (aG L w) A (.expr N U) R p) (λe K=>R (.error e) K) r) (λe K=>R (.error e) K) s):
  dS (aG L w) A (.call (.ref a) g) R s:=by
 refine jW ?_;show av _ A.in1 (callAny (.ref a) g) _ _ s
 refine dO (pD v (a6 λB x=>(rQ m λc C D E t y n hq=>x ?_)));simp only [d,callFunction,i,k,l,t];haveI h:=t▸h;exact dO (lM y n hq (aC (bt (aC (b0 h (λf r z=>aC (b0 z (λU p u=>(dO (arO u.1 j (bt (bv rfl rfl u.2))))) λ_ _ q=>q)) λ_ _ q=>q)))))
structure nq (Z:bx) (fn:Nat->Option aq) (F:bd) (j:Nat) (ea:lb) (t:ak->a7):Prop where
 lam:Z.lam j=some ea
 acv:F.lam=true
 T:∀af,F.T af=bj (t af)
 bA:F.bA=⟨ea.scope,ea.free.map λn=>(n,true),false,none⟩
 sim:∀n af,hZ Z fn n af->nj Z n af->bF Z (8*n+8) F.bA (t af) ea.body
 kind:ea.scope.kind= .function
 gen:ea.scope.isGenerator=false
 co:ea.scope.isCoroutine=false
 zW:∀x∈ea.scope.names,x.2≠ .cell
 bind:∀acw pm c acx,rC (kla_fn "<lambda>" ea.qual ea.params ea.body ea.scope acw pm (.ref c) acx) ⟨[],[]⟩=pure []
 cP:ea.free.Nodup
theorem HW {T:List aq} {I:List ax} {b:List Nat} {c:List (ax×aq)} (h:jJ T I b c):I.Nodup->∀(i:Nat) (x:ax),I[i]? =some x->∃j a,b[i]? =some j/\T[j]? =some a/\c.lookup x=some a:=by
 induction h with
 |nil=>intro _ i x h;contradiction
 | @cons n I j b a c e _ B=>
  intro d i x h;rw [eD] at d;induction i with
  |zero=>
   simp at h;subst h;exact dt j a (rfl) e (by simp [xL])
  |succ i=>
   refine a6 λo f=>dN (B d.2 i x h) λr g k l X=> ?_;haveI m:x≠n:=λq=>d.1 (q▸cq h);exact f (dt r g (by simpa using k) l (by rw [xC,beq_false_of_ne m];exact X))
theorem acy {fn:Nat->Option aq} {ie:Nat->Option bd} (hd:∀j F,ie (1000+j)=some F->∃I t,nq Z fn F j I t):
  ∀n,hZ Z fn n (az ie n)->nj Z n (az ie n)->nj Z (n+1) (az ie (n+1)):=by
 intro n B C0 j A V U h₀ s c Y J nn u cs v k x R O L S M tW hv hc hR hX;unfold az at hc;induction hF:ie (1000+j) with
 |none=>rw [hF] at hc;exact hc.elim
 |some Q=>
  refine a6 λH_ e_=> ?_;rw [hF] at hc;refine pU (hd j Q hF) λI t D=> ?_;dsimp only at hc;rw [if_pos D.acv,D.T] at hc;obtain⟨d,l,rfl⟩:=hv;refine aw (S.here M) λatY g ch=>aw ch λof aqX ee=> ?_;clear ch;refine ya ee λf r iX pm nM e1 e2 X q8=> ?_;obtain rfl:=q8;refine e_ ?_;rw [l] at g;obtain rfl:=bl g;rw [D.lam] at e1;obtain rfl:=bl e1;refine a6 λH_ e_=>aw (S.here tW) λH w N=> ?_;obtain⟨oc,pw,f,vs,E,e4,e5,e6⟩:=N;refine e_ ?_;rw [e2] at w;obtain rfl:=bl w;rw [D.lam] at e4;obtain rfl:=bl e4;refine a6 λH_ e_=>aw S.F λm F em=>jG O.base.T λpp jY mg mb T=>ff (id F.ns) λoL kt ku dM iB rL=>e_ (acu (by haveI:=O.room.1;exact Fl this) aqX rfl D.co D.gen rfl (xZ r oc vs E rfl pw e5 e6) ?_);rw [D.bind];refine bt (aV (asz D.zW (λ_ h=>(c6 h).elim) (λh1 dm rr=>⟨(T.nolimit.keeps F.keep).fresh _ rr,?_⟩) D.kind));show dS _ _ (.expr I.body (envX I.qual I.scope s.heap.objs.size d (.ref r) iX)) ..
  haveI S1:St Z Q.bA (envX I.qual I.scope s.heap.objs.size d (.ref r) iX) h₀ {c with pr:=(U.locals,oL)::c.pr} (cs.map .ref) J {s with heap:=h1,toks:=s.toks+0}:=by
   refine S.inner dM rfl dm (λb o e=>rr.extBut b o (nY (fz e)) (j8 _ e)) ?_;rw [D.bA];intro i y b hy;replace hy:=cm▸hy;refine aw (gP.mp hy) λp aqY aqZ=> ?_;cases aqZ;exact dN (HW X D.cP i y aqY) λjj a q1 q2 q3=>dt jj a (by rw [cm,q1];rfl) q2 q3
  refine aw O.frames λlf j1 kv=> ?_
  have tT:∀fr∈envX I.qual I.scope s.heap.objs.size d (.ref r) iX::lf,fr.scope.kind≠ .module/\ ∃a,fr.frame=some a/\(a=s.heap.objs.size\/a∈(U.locals::c.pr.map (·.1))):=by
   intro fr ef;rcases cb.mp ef with rfl|ef
   ·exact⟨by rw [D.kind];decide,_,rfl,.inl rfl⟩
   ·obtain⟨h1,a,h2,h3⟩:=kv fr ef;exact⟨h1,a,h2,.inr (h3.elim (λq=>by rw [q];exact .head _) (λq=>.tail _ q))⟩
  have lH:(A.deeper (envX I.qual I.scope s.heap.objs.size d (.ref r) iX)).frames=some (envX I.qual I.scope s.heap.objs.size d (.ref r) iX::lf):=by
   show A.frames.map _=_;rw [j1];rfl
  haveI O1:Ok Z (8*n+8) (A.deeper (envX I.qual I.scope s.heap.objs.size d (.ref r) iX)) (envX I.qual I.scope s.heap.objs.size d (.ref r) iX) h₀ {c with pr:=(U.locals,oL)::c.pr}:=by
   refine⟨O.base,(bv ?_ ?_ O.room.2.2),(aJ _ rfl (.inl rfl)),(aJ _ lH tT),λ_=>⟨lf,lH⟩⟩
   ·haveI:=O.room.1;exact FH this
   ·haveI:=O.room.2.1;exact FJ this
  haveI tU:c0 Q.bA (envX I.qual I.scope s.heap.objs.size d (.ref r) iX):=by
   rw [D.bA];exact⟨rfl,D.kind,rfl,rfl,λ_=>rfl,λq h=>(Df _ h.symm).elim⟩
  refine act (D.sim n (az ie n) B C0 _ _ h₀ _ _ _ _ k x _ _ O1 tU S1 hc (λv a G aj K h S' W va=> ?_) (λe en G aj K h S' W fl=> ?_))
  ·exact a6 λH_ e_=>iG (S.outer dM S' W) λc3 S3 E3 a3 _=>e_ (hR v a c3 aj K h S3 E3 (by rw [a3];exact va))
  ·refine GF S' lH rfl (λfr ef=> ?_) fl (λc4 s4 S4 a1 a2 a3 C1=> ?_)
   ·obtain⟨h1,a,h2,h3⟩:=tT fr ef;exact⟨h1,a,h2,by rw [W.pr.map];exact h3⟩
   ·refine a6 λH_ e_=>iG (S.outer dM S4 ⟨by rw [a1];exact W.adr,W.pr.trans a2,by rw [a3];exact W.aK⟩) λc3 S3 E3 atZ eR=>e_ (hX e en c3 aj s4 h S3 E3 (a6 λH_ e_=>iG C1 λC b1 b2 b3 z=>e_ (lS C b1 b2 (λq=>b3 (eR _ q)) (z.imp id λqq=>D8 qq λP vs T oT ts u1 u2 u3 u4 u5 u6 u7=>(D9 P vs T oT ts u1 u2 u3 u4 u5 (λq=>u6 (eR _ q)) u7)))))
end
section
variable {Z:bx} {d:Nat} {V:bb}
def zX (C:ak) (i:Nat):a7:=λY J k x=>vh Y[i]? λn=>Gu J[n]? λj u a=>J[u]? =some (.code j)/\C (1000+j) (a.map .ref) J k x
theorem acz {C:ak} {i:Nat} {y:ax} {p P:aX} (R:nj Z d C) (T:V.slots[i]? =some (y,false)) (h2:V.scope.names.lookup y=some .local) (h3:(y==("__debug__" :ax))=false):
  bF Z (8*d+8) V (zX C i) (.Call (.Name y p) [] [] P):=by
 intro A U h₀ s c Y J k x Q E O L S f hq hx;refine aw (y2 f) λn hn f=>ff (Y5 f) λj u cs B tW f=> ?_;refine mA (a6 λH_ t=>(aw S.F λm F em=>aw (em i y false T) λa' D l=>(t ?_)));rw [hn] at D;obtain rfl:=bl D;rcases l with l| ⟨v,l,q⟩
 ·contradiction
 refine aV (ub (xy L.iu (iL L h2) F.ns l (a6 λH_ t=>(aw q λg H ee=> ?_))) h3);clear q;obtain rfl:=ee;refine aw (S.here B) λw b M=>aw M λo ho N=> ?_;clear M;refine ya N λI r iX pm nM e1 e2 X q8=> ?_;obtain rfl:=q8;refine t ?_;rw [H] at b;obtain rfl:=bl b;refine kc rfl (λh hh=>(aJ .frame (.inl rfl) ((OO hh).andThen .now))) (xa ⟨ho,kT (R j A V U h₀ s c Y J n u cs _ k x _ O.less L S B tW (aJ g H rfl) f (λv a G aj K h z W q=>hq v a G aj K h z W q) (λe n G aj K h z W fl=>hx e n G aj K h z W (.inl fl)))⟩)
end
section
variable {L:Program} {w:World} {A:Around} {E:Value->Shared->Prop} {s:Shared} {a sl:Addr} {b b2:Array UInt8}
theorem acA {M:jz} {Q:Option Int->al->Prop} (y:s.TypeIs (.ref sl) "slice") (hq:Q none s):PySem.wpAny M A (Dd (.ref sl)) Q E s:=by
 exact PySem.wpAny_bind (PySem.wpAny_specialOf y arx (PySem.wpAny_pure hq))
theorem HX {M:jz} {z a:Int} {i f:e0} {Q:ai×ai×ai->al->Prop} (h:s.heap.IsSliceOf sl (.int z i) (.int a f) .none) (hq:Q (iC z,iC a,.none) s):PySem.wpAny M A (aue (.ref sl)) Q E s:=by
 refine cU h λo b c hd=>PySem.wpAny_bind (PySem.wpAny_field (x:=.none) b hd rfl ?_)
 kby_none
 refine PySem.wpAny_bind (PySem.wpAny_field (x:=.int z i) b hd rfl ?_)
 kby_int
 exact PySem.wpAny_bind (PySem.wpAny_field (x:=.int a f) b hd rfl (PySem.wpAny_pure hq))
theorem acB:jA (.type "bytes") "__int__" =pure none:= ⋯
theorem acC:jA (.type "bytes") "__float__" =pure none:= ⋯
theorem acD:Og (.type "bytes") (.type "bytearray")=pure false:= ⋯
theorem acE:Og (.type "bytes") (.type "complex")=pure false:= ⋯
theorem zY {M:jz} {x y:ck Bool} {Q:Bool->al->Prop} (h:PySem.wpAny M A x (λr b=>r=false/\PySem.wpAny M A y Q E b) E s):PySem.wpAny M A (x<||> y) Q E s:=by
 refine PySem.wpAny_bind (PySem.wpAny_mono h (λr b a=> ?_) λ_ _ x=>x);obtain⟨rfl,a⟩:=a;exact a
theorem acF {z m:Int} {i f T:e0} {Q:Unit->al->Prop} (h:s.heap.get? a=some (baObj b)) (q:s.heap.IsSliceOf sl (.int z i) (.int m f) .none) (N:0 <= z) (D:z <= m) (r:m <= b.size) (n:(b2.size:Int)=m-z) (F:b.size <= 16777216)
  (hq:∀t G,t.get? a=some (baObj (b.extract 0 z.toNat++b2++b.extract m.toNat b.size))->(∀x o,x≠a->s.heap.get? x=some o->t.get? x=some o)->Q () {s with heap:=t,toks:=G}):
  av (aG L w) A (xp (.ref a) (.ref sl) (.bytes b2 T)) Q E s:=by
 have y:s.TypeIs (.ref sl) "slice" :=cU q λo u v _=>(aJ o u v)
 refine dJ ?_;refine dO (Of (jc h) ∅ ?_);refine aC (NG (jc h) BA.slot_set (kT (NH BA.slot_set.plain (zr (by decide+kernel)) BA.Gj (aV (BA.slot_set.check _ _ _ _ _ _ _ _ (jc h) (BA.Gk ..) ?_)))));unfold f6.«bytearray.__setitem__»;refine dO (acA y ?_);dsimp only;refine dO (PySem.wpAny_typeOf y ?_);refine gY rfl ?_;refine dO (HX q ?_);refine gY rfl ?_;dsimp only;have p:∀K:al,K.TypeIs (.bytes b2 T) "bytes" :=λK=>mQ _ b2 T;refine dO (PySem.wpAny_isInstance (p _) acD ?_);refine zq rfl ?_;refine dO (zY (PySem.wpAny_bind (mP (p _) BA.Gm (PySem.wpAny_pure ⟨rfl,zY (PySem.wpAny_bind (mP (p _) acB (PySem.wpAny_pure ⟨rfl,zY (PySem.wpAny_bind (mP (p _) acC (PySem.wpAny_pure ⟨rfl,PySem.wpAny_isInstance (p _) acE ?_⟩)))⟩)))⟩))));refine gg rfl ?_;refine gY rfl ?_;refine aC (rk ?_);refine aC (G3 (XG n N r F) λc W d g=> ?_);have j:c.IsSliceOf sl (.int z i) (.int m f) .none:=cU q λo u v hd=>⟨o,d _ _ u,v,hd⟩
 refine aC (dJ (aV (HX j ?_)));refine dO (oe g ?_);refine dO (oe (d _ _ h) ?_)
 have k:De (some z) (some m) none b.size=(z,m,1):=by
  unfold De;dsimp only [Option.getD_none,show(1>0)=True from by decide,if_true];have B:¬(z<0):=m9 N;have C:¬(m<0):=VP n N;simp only [B,C,if_false,Prod.mk.injEq,and_true];exact X4 (yo ..) (fg ..) (yo ..) (fg ..) n N r
 refine gg (by
  have:=ary (some z) (some m) none b.size (λe=>(Df _ e.symm).elim);rw [k] at this;exact this) ?_
 refine zq rfl ?_;refine aC (rk ?_)
 refine gY (by
  have e:max z m-z=b2.size:=by rw [OD D,n]
  show(b2.size != max z m-z)=false
  rw [e];simp) ?_
 refine dO (qa (d _ _ h) (by
  simp only [Array.size_append,Array.size_extract];exact Yh (bp _) (ew ..) (ay ..) (ew ..) (fg ..) (bp _) (ay ..) n N r F) λl B C=> ?_)
 refine bt ?_;refine bt ?_;refine hq l _ ?_ (λx o H I=>(C.2 x H).trans (d _ _ I));rw [B,OD D]
end
section
variable {Z:bx} {d:Nat} {V:bb}
theorem acG (b a:Array UInt8) (z c:Nat) (h:z <= b.size):dI (b.extract 0 z++a++b.extract c b.size)=(dI b).take z++dI a++(dI b).drop c:=by
 unfold dI;simp only [Array.toList_append,Array.toList_extract,db,List.extract_eq_drop_take,List.drop_zero,Nat.sub_zero,asA,asB];congr 1;rw [n3];simp
@[reducible] def acH (k:List aa->ae->Prop) (Y:List aa) (J:ae) (n:Nat) (w:List Int) (l h:Int) (b:List Int):Prop:=
 0 <= l/\l <= h/\h <= b.length/\(w.length:Int)=h-l/\b.length <= 16777216/\k Y (J.set n (.cv (b.take l.toNat++w++b.drop h.toNat)))
@[reducible] def acI (k:List aa->ae->Prop) (Y:List aa) (v a l h:aa) (J:ae):Prop:=cp no (λw=>cp no no (λn=>cp (λl=>cp (λh=>qd no no (acH k Y J n w l h) no J[n]?) no no h) no no l) a) no v
@[reducible] def acJ (b:a7) (k:List aa->ae->Prop) (Y:List aa) (x:bn) (v a l:aa) (J:ae):Prop:=b Y J (acI k Y v a l) x
@[reducible] def acK (z b:a7) (k:List aa->ae->Prop) (Y:List aa) (x:bn) (v a:aa) (J:ae):Prop:=z Y J (acJ b k Y x v a) x
def zZ (t o z a:a7):ST:=λY J k r x=>t Y J (ek o Y x (acK z a k Y x)) x
theorem acL {t o z hi:a7} {e f el eh:aH} {p p2 ap:aX} (ht:bF Z d V t e) (ho:bF Z d V o f) (hl:bF Z d V z el) (hh:bF Z d V hi eh)
  (hs:∀U,c0 V U->kz e (some (.Subscript f (.Slice (some el) (some eh) none p2) p)) ap.line U=pure false:=by intro _ _;rfl):
  fC Z d V (zZ t o z hi) (.Assign [.Subscript f (.Slice (some el) (some eh) none p2) p] e ap):=by
 refine λA U h₀ s c bq Y J k r x Q E O L S hp h jy hr hx=>Hl (ht A U h₀ s c Y J _ x _ E O L S h (λv a c₁ ca s₁ h₁ R P va=>(ho A U h₀ s₁ c₁ Y ca _ x _ E (O.ext P) L R h₁ (λy b c₂ cE s₂ h₂ S₂ e₂ C=> ?_) (λe n G aj K h S' W=>hx e n Y G aj K h S' ((P.trans W).fwd hp)))) (λe n G aj K h S' W=>hx e n Y G aj K h S' (W.fwd hp))) (hs U L);haveI M:=P.trans e₂;refine CN (hl A U h₀ s₂ c₂ Y cE _ x _ E (O.ext M) L S₂ h₂ (λvl ol c₃ rq I X S₃ e₃ aq0=> ?_) (λe n G aj K h S' W=>hx e n Y G aj K h S' ((M.trans W).fwd hp)));haveI pB:=M.trans e₃;refine hh A U h₀ I c₃ Y rq _ x _ E (O.ext pB) L S₃ X (λvu ou c₄ at0 s₄ B S₄ e₄ aq1=>bt (gz (((e₂.trans e₃).trans e₄).hQ va) B (λ_ _ h=>h.elim) (λw bw T N2 B=>(kF ((e₃.trans e₄).hQ C) B λn g H B=>er (e₄.hQ aq0) B λl i B=>(er aq1 B λaq2 j B=> ?_))) (λ_ _ _ h=>h.elim))) (λe n G aj K h S' W=>hx e n Y G aj K h S' ((pB.trans W).fwd hp));haveI S5:=S₄.oy {cls:=.type "slice",data:=.fields #[.int l i,.int aq2 j,.none]} s₄.toks;refine vA S5 H B (λ_ _ _ _ _ h=>h.elim) (λ_ _ _ _ _ h=>h.elim) (λba aq3 B=>(a6 λH_ e_=>(lR B λg0 g1 g2 g3 g4 hk=> ?_))) (λ_ _ _ _ _ h=>h.elim);haveI C7:=(ke ba).symm;haveI aq4:bw.size=w.length:=by rw [<-N2];exact(ke bw).symm
 refine e_ (acF aq3 (Heap.IsSliceOf.new ..) g0 g1 (by rw [C7];exact g2) (by rw [aq4];exact g3) (by rw [C7];exact g4) λh' t' q1 q2=>(aw S5.F λm F em=>fp (S5.own g (cQ _ (cq H))) λhL N=> ?_))
 haveI aq5:Fr h₀ U.locals h' m:=by
  exact⟨m6 F.ns λoL D u dM r=>(rP oL D u (q2 _ _ (Ne.symm hL) dM) r),λb o e=>q2 b o (λq=>by rw [q,N] at e;contradiction) (F.keep b o e),F.above⟩
 refine jy Y c₄ _ _ hk (S5.sm H aq5 em (λx _ bN o e=>q2 x o bN e) q1 (dt _ 0 rfl ?_ rfl) (bv rfl rfl rfl)) ((pB.trans e₄).fwd hp);rw [acG _ _ _ _ (by rw [C7];exact WW (bp _) g3 g2),N2]
end
abbrev iO:=List aa->ae->(List aa->ae->Prop)->Prop
section
variable {Z:bx} {d:Nat} {V:bb}
def oE (Z:bx) (d:Nat) (V:bb) (e:Nat) (M:iO) (t:ai->be->ck Unit):Prop:=
 ∀(A:cy) (U:be) (b:bk) (s:al) (c:aP) (a:List aq) (Y:List aa) (J:ae) (k:List aa->ae->Prop) (Q:al->Prop) (E:ai->al->Prop) (f:aq),
  Ok Z d A U b c->c0 V U->St Z V U b c Y J s->a<+:c.adr->a[e]? =some f->a.length=e+1->M Y J k->
  (∀X G aj K,k X aj->St Z V U b G X aj K->dC a c G->Q K)->
  av (aG Z.prog Z.w) A (t (.ref f) U) (λ_ K=>Q K) E s
def gh (t:a7) (a:Nat):iO:=λY J k=>t Y J (λv J=>fj [.ref a,v] J λ_ J=>k Y J) (λ_ _=>False)
theorem nr {t:a7} {f:Nat} {e:aH} (h:bF Z d V t e):oE Z d V f (gh t f) (λb U=>bM e U>>=λx=>hG (.builtin "list.append") [b,x]>>=λ_=>pure ()):=by
 exact λA U g s c z Y J k Q E b O L S i j B l hq=>aC (h A U g s c Y J _ _ _ E O L S l (λv a m n o p R P q=>(aC (Hb d V A U g o m Y n _ _ E [.ref f,a] [.ref b,v] (O.ext P) L R (.cons (aJ b (fi (i.trans P.adr) _ _ j) rfl) (.cons q .nil)) p (λ_ _ r C D u w y _=>bt (hq Y r _ _ u w ((P.trans y).fwd i)))))) (λ_ _ _ _ _ h=>h.elim))
def z0:Option de->de
 |none=>λ_ J k _=>k true J
 |some t=>t
def vU (U:be):Option aH->ck Bool
 |none=>pure true
 |some e=>jB e U (bM e U)
def oF (Z:bx) (d:Nat) (V:bb) (T:Option de) (e:Option aH):Prop:=
 ∀(A:cy) (U:be) (a:bk) (s:al) (c:aP) (Y:List aa) (J:ae) (k:Bool->ae->Prop) (Q:Bool->al->Prop) (E:ai->al->Prop),
  Ok Z d A U a c->c0 V U->St Z V U a c Y J s->z0 T Y J k (λ_ _=>False)->(∀b G aj K,k b aj->St Z V U a G Y aj K->cW c G->Q b K)->av (aG Z.prog Z.w) A (vU U e) Q E s
theorem md:oF Z d V none none:=λ_ _ _ s c _ J _ _ _ _ _ S h q=>bt (q true c J s h S (.refl c))
theorem acM {t:de} {e:aH} (h:hT Z d V t e):oF Z d V (some t) (some e):=λA U a s c Y J k Q E O F S b q=>h A U a s c Y J k _ Q E O F S b q λ_ _ _ _ _ h=>h.elim
def gD (V:bb) (D:jN) (c:Nat) (d:Option de) (em:iO) (p:Nat):Nat->Nat->iO
 |0,_=>λ_ _ _=>False
 |f+1,i=>λY J k=>D J i λo=>je o (λa=>z0 d (Y.set c a) J (λb J=>jI b (em (Y.set c a) J (d5 V p λY J=>gD V D c d em p f (i+1) Y J k))
   (gD V D c d em p f (i+1) (Y.set c a) J k)) (λ_ _=>False)) (k Y J)
def me (e:aH) (j:Nat) (y:ax) (p:aX) (t:aH) (d:Option aH) (f:ai->be->ck Unit):Prop:=
 ∀(b c:ai) (U:be),compTurn e j b c U=(j4 t.pos>>=λ_=>pyNext b>>=λr=>match r with
   |none=>pure (.done .next)
   |some v=>assign (.Name y p) U v>>=λ_=>vU U d>>=λa=>if a=true then f c U>>=λ_=>again (.compLoop e j b c U) else again (.compLoop e j b c U))
theorem HY {ih:List aq->Nat->cj->Prop} {D:jN} {T:Nat} {y:ax} {ep:Option de} {i1:Option aH} {em:iO} {hB:ai->be->ck Unit} {na:Nat} {p:aX} {dH t:aH} {r:List kB} {E:fe} {ap:aX} {j:Nat} (W:sP Z ih D) (mL:oE Z d V na em hB) (mM:oF Z d V ep i1)
  (i2:me (.ListComp dH r E ap) j y p t i1 hB) (nd:(V.slots.map (·.1)).Nodup) (h1:V.slots[T]? =some (y,false)) (h2:V.scope.names.lookup y=some .local)
  {A:cy} {U:be} {M:bk} {c:aP} {k:List aa->ae->Prop} {R:lN->al->Prop} {F bU:aq} {H:List aq} (O:Ok Z d A U M c) (L:c0 V U) (nO:H[na]? =some bU) (f5:H.length=na+1)
  (hk:∀X G aj K,k X aj->St Z V U M G X aj K->dC H c G->R (.ok .next) K):
  ∀(n i:Nat) X aj (G:aP) K o I,gD V D T ep em (na+1) n i X aj k->St Z V U M G X aj K->G.aK=(F,o)::I->dC H c {G with aK:=I}->ih H i o->
   dS (aG Z.prog Z.w) A (.compLoop (.ListComp dH r E ap) j (.ref F) (.ref bU) U) R K:=by
 intro n;induction n with
 |zero=>exact λi X aj G K o I h=>h.elim
 |succ n B=>
  refine λi X aj G K o I h S' iZ w hi=>jW ?_
  have u:av (aG Z.prog Z.w) A ((compTurn (.ListComp dH r E ap) j (.ref F) (.ref bU) U).onRaise (λx=>do j7 x U;OK x)) (λbW K=>match bW with| .done f=>R (.ok f) K| .again G=>G.quiet=true/\gS G=true/\dS (aG Z.prog Z.w) A G R K) (λe K=>R (.error e) K) K:=by
   refine CR ?_;rw [i2];refine aC (c9 (aC (aV (W.next V A U M K G H X aj F o I i _ _ _ S' iZ O.room.2.2 w.pin hi h (λv a h' o' tk ha va fI iA hs=> ?_) (λh' hn hs=>(bt (hk X _ aj _ hn (S'.Hu iZ hs (bv rfl rfl rfl)) w)))))))
   ·refine aC (aC (c9 (tQ ((S'.Ht (K:={K with heap:=h',toks:=tk}) iZ hs fI (bv rfl rfl rfl)).sA L nd h1 h2 va λs2 g=> ?_))));haveI w1:dC H {c with aK:=(F,o')::c.aK} {G with aK:=(F,o')::I}:=⟨w.pin,w.pr,.cons (bv rfl rfl (λ_=>rfl)) w.aK⟩
    have O1:=(show Ok Z d A U M {c with aK:=(F,o')::c.aK} from⟨O.base,O.room,O.frame,O.frames,O.head⟩).fwd w1
    have mK:∀{c2:aP},dC H {G with aK:=(F,o')::I} c2->∃N,c2.aK=(F,o')::N/\dC H c {c2 with aK:=N}:=by
     intro c2 w2;have ht:=w2.aK;induction e:c2.aK with
     |nil=>replace ht:=e▸ht;contradiction
     |cons q N=>
      replace ht:=e▸ht;cases ht with
      |cons g1 g2=>
       refine dp g1 λg3 g4 g5=> ?_;haveI:=Prod.ext g3 (g5 (W.cls _ _ _ iA));subst this;exact aJ N rfl ⟨w2.pin,w.pr.trans w2.pr,ir.trans w.aK g2⟩
    haveI next:∀(b:Bool) (c₂:aP) (Q:ae) (s₂:al),jI b (em (X.set T a) Q (d5 V (na+1) λY J=>gD V D T ep em (na+1) n (i+1) Y J k)) (gD V D T ep em (na+1) n (i+1) (X.set T a) Q k)->St Z V U M c₂ (X.set T a) Q s₂->dC H {G with aK:=(F,o')::I} c₂->∀z,av (aG Z.prog Z.w) A (if b=true then hB (.ref bU) U>>=λ_=>again (.compLoop (.ListComp dH r E ap) j (.ref F) (.ref bU) U) else again (.compLoop (.ListComp dH r E ap) j (.ref F) (.ref bU) U))
      (λbW K=>match bW with| .done f=>R (.ok f) K| .again G=>G.quiet=true/\gS G=true/\dS (aG Z.prog Z.w) A G R K) z s₂:=by
     intro b c₂ Q s₂ hb S₂ l z;induction b with
     |false=>
      exact aw (mK l) λN e2 s=>bt (bv rfl rfl (B (i+1) _ Q c₂ s₂ o' N hb S₂ e2 s iA))
     |true=>
      refine aC (mL A U M s₂ c₂ H _ Q _ _ z bU (O1.fwd l) L S₂ l.pin nO f5 hb (λC c3 P s3 h3 S3 m=> ?_));haveI h3:=f5.symm▸h3;refine ff (S3.trim m.pin h3) λS C5 c4 h4 S4 w4=>aw (mK (l.trans (m.trans w4))) λN e2 s=> ?_;haveI h4:=f5▸h4;exact bt (bv rfl rfl (B (i+1) S C5 c4 s3 o' N h4 S4 e2 s iA))
    exact aC (mM A U M s2 _ _ aj _ _ _ O1 L g ha λb c₂ Q s₂ h₂ S₂ e₂=>next b c₂ Q s₂ h₂ S₂ (e₂.fwd w.pin) _)
  exact u
def vV (Z:bx) (b:List aq->Nat->cj->Prop):Prop:=∀(A:cy) (s:al) (c:List aq) (i:Nat) (a:aq) (o:cj) (Q:ai->al->Prop) (E:ai->al->Prop),s.heap.get? a=some o->b c i o->Q (.ref a) s->PySem.wpAny (aG Z.prog Z.w) A (xP (.ref a)) Q E s
theorem acN {n:Nat}:vV Z (zC n):=λA s c i d o Q E a q hq=>cU q λl _ b hd=>wpAny_pyIter_listiter (cJ o a b hd) hq
theorem acO {a b c:Int}:vV Z (zD a b c):=λA s f i g o Q E d q hq=>fp q λ_ e=>wpAny_pyIter_rangeiter (by haveI d:=e▸d;exact d) hq
theorem HZ {b:aH} {r:List kB} {c:fe} {d:aX} {j:Nat} {e:List aq->Nat->cj->Prop} (l:vV Z e) {A:cy} {U:be} {R:lN->al->Prop} {s:al} {f:List aq} {i:Nat} {a:aq} {o:cj} {k:ai} {g:kB} (m:r[j]? =some g) (n:g.is_async=0)
  (p:s.heap.get? a=some o) (t:e f i o) (h:dS (aG Z.prog Z.w) A (.compLoop (.ListComp b r c d) j (.ref a) k U) R s):
  dS (aG Z.prog Z.w) A (.compStart (.ListComp b r c d) j (.ref a) k U) R s:=by
 refine jW (rj (b0 ?_ (λ_ _ q=>q) (λ_ _ (u:False)=>u.elim)));unfold compStart;haveI v:clausesOf (.ListComp b r c d)=r:=rfl;rw [v,m];refine gY (by simp [n]) (dO (wpAny_askSetting ?_));split
 ·exact bt ⟨rfl,rfl,h⟩
 ·exact aC (rk (aC (c9 (dO (l A s f i a o _ _ p t (bt ⟨rfl,rfl,h⟩))))))
end
def oG (h:ScopeKind) (b:List (ax×hH)) (a:fe):fe:=
 {a with names:=a.names.map λ(n,k)=>if(k== .free&&h== .function&&b.lookup n==some .cell) then(n,.cell) else(n,k)}
section
variable {M:Model} {A:Around} {E:Value->Shared->Prop} {s:Shared} {U:Env}
theorem aqC {d:Type} {c:Prop} [Decidable c] {a:aX} {k:PUnit->ck d} {Q:d->al->Prop} (h:av M A (k ()) Q E s):
  av M A (if c then(j4 a>>=k) else k ()) Q E s:=by
 split
 ·exact aC (c9 h)
 ·exact h
theorem acP {e:aH} {k:fe} {D:aX} {H0 first:ck ai} {g:kB} {F:List kB} {q:List (ax×aq)} {use:Option (ai->ck Unit)} {Q:ai->al->Prop}
  (G:clausesOf e=g::F) (J:∀x,mY g.iter U x=pure x) (c:xM k U=pure q)
  (b:k.kind= .function) (d:∀x∈k.names,x.2= .local->(oG U.scope.kind U.scope.names k).names.lookup x.1=some .local)
  (h:av M A first (λx t=>av M A (xP x) (λv w=>av M A H0 (λo I=>
   av M A (Oq k U.globals q [] U.qual none .none (some U)) (λa y=>
    dS M A (.compStart e 0 v o {a with scope:=oG U.scope.kind U.scope.names k}) (λr K=>match r with
     | .ok _=>(match use with
      |none=>∃m,K.heap.Ns a.locals m/\ ∀i,kx a.locals K.heap i->Q o {K with heap:=i}
      |some u=>av M A (u o) (λ_ H=>∃m,H.heap.Ns a.locals m/\ ∀i,kx a.locals H.heap i->Q .none {H with heap:=i}) E K)
     | .error x=>False) y) E I) E w) E t) E s):
  av M A (OY e k U D H0 false first use) Q E s:=by
 unfold OY;rw [c,G]
 refine aC (b0 h (λx t L=>aC (c9 (aC (CI (J x) (aC (dJ (b0 L (λv w N=>
  aqC (aC (b0 N (λo I X=>aC (bt (aC (b0 X (λa y B=> ?_) λ_ _ i=>i)))) λ_ _ i=>i)))
   λ_ _ i=>i))))))) λ_ _ i=>i)
 dsimp only;haveI z:=d;haveI C:=b;refine dJ (aC (CJ (dJ (Nz (w9 B λr K j=> ?_) rfl))));induction r with
 |error x=>exact j.elim
 |ok f=>
  induction use with
  |none=>
   exact aw j λm p j=>aC (dJ (aV (asC C _ K m (λx n=>z x (xN.mp (up.mp n)).1) p λi O _ l=>bt (j i l))))
  |some u=>
   refine aC (rk (aC (dJ (b0 j (λ_ H j=>(aw j λm p j=>(aC (aV (asC C _ H m (λx n=>z x ?_) p λi O _ l=>bt (j i l)))))) λ_ _ x=>x))));rcases cR.mp n with n|n
   ·exact(xN.mp (up.mp (asD n))).1
   ·exact(xN.mp (up.mp (OF n))).1
end
section
variable {Z:bx} {d:Nat} {V N:bb}
abbrev mf:=List aa->ae->(jN->Nat->ae->Prop)->bn->Prop
def qA (Z:bx) (d:Nat) (V:bb) (T:mf) (e:aH):Prop:=
 ∀(A:cy) (U:be) (b:bk) (s:al) (c:aP) (Y:List aa) (J:ae) (k:jN->Nat->ae->Prop) (x:bn) (Q:ai->al->Prop) (E:ai->al->Prop),
  Ok Z d A U b c->c0 V U->St Z V U b c Y J s->T Y J k x->
  (∀h o f D g G aj K,k D g aj->sP Z f D->vV Z f->St Z V U b {G with aK:=(h,o)::G.aK} Y aj K->cW c G->(∀i:List aq,(∀a,G.adr[g]? =some a->i[g]? =some a)->f i 0 o)->o.cls≠Value.none->Q (.ref h) K)->
  (∀e n G aj K,x n aj->St Z V U b G Y aj K->cW c G->gU Z U.locals b G n e K.heap->E (.ref e) K)->
  av (aG Z.prog Z.w) A (bM e U) (λv j=>av (aG Z.prog Z.w) A (xP v) Q E j) E s
@[reducible] def acQ (k:jN->Nat->ae->Prop) (a:aa) (J:ae):Prop:=iM (λn _=>k (kM n) n J) J a
def js (t:a7):mf:=λY J k x=>t Y J (acQ k) x
theorem qB {t:a7} {e:aH} (h:bF Z d V t e):qA Z d V (js t) e:=by
 exact λA U f s c Y J k x Q E O L S i hq j=>h A U f s c Y J _ x _ E O L S i (λv a m o p b R P r=>(jh R r b λn g l C u w y B b=>(aV (asm ⟨_,y,rfl,u,rfl⟩ (hq _ _ (zC n) (kM n) n m o _ b Hx acN (R.vK rfl p.toks) P (λD z=>(cJ g (z g w) rfl rfl)) (λq=>by contradiction)))))) j
def oH (a:LT):mf:=λY J k x=>pu a (λq _ J=>k (fZ q.1 q.2.1 q.2.2) 0 J) Y J x
theorem vW {e:LT} {D:List aH} {j f:aX} (l:iv Z d V e D)
  (m:fL Z.K eU "range" =some none) (n:V.scope.names.lookup ("range" :ax)=some DK) (p:D.all gn=true:=by rfl) (r:nZ "range" =some (.type "range"):=by decide+kernel):
  qA Z d V (oH e) (.Call (.Name "range" j) D [] f):=by
 refine λA U w s c Y J k x Q E O L S h hq y=>mA (ql O L S m r ∅ n (rfl) (kc p (vt "range") (l A U w s c Y J _ x _ E f O L S h (λT H z B W a R P C=>⟨trivial,?_⟩) y)));dsimp only at a;split at a<;>try exact a.elim
 rename_i q o;obtain⟨b,M⟩:=a;refine aV (zF R C o b λg t u v F G I=>(aV (asn I (zE b) ?_)))
 haveI K:0 <= gt q.1 q.2.1 q.2.2:=by
  refine lR b λ_ _ _ _ i _=> ?_;unfold gt;rw [if_pos i];split
  ·exact iq (xH (rY (by assumption)) (uK i)) ab
  ·exact yp
 refine hq _ _ (zD q.1 q.2.1 q.2.2) (fZ q.1 q.2.1 q.2.2) 0 z B _ M Hy acO (G.vK rfl F.toks) P (λX hp=>⟨eF _,?_⟩) (λq=>by contradiction);haveI N:((dv q.1 q.2.1 q.2.2).length)=gt q.1 q.2.1 q.2.2:=by unfold dv;rw [bz,jC];exact uQ (bp _) K
 simp [N]
def oI (V:bb) (b:mf) (c:Nat) (d:Option de) (em:iO) (a:Nat):iO:=λY J k=>b Y J (λD e J=>e <= a/\ ∃f,gD V D c d em (a+1) f 0 Y J k) (λ_ _=>False)
theorem H3 {N:mf} {T:Nat} {y:ax} {ep:Option de} {i1:Option aH} {em:iO} {hB:ai->be->ck Unit} {n:Nat} {p:aX} {q t:aH} {r:List kB} {u:fe} {z:aX} {j:Nat} {g:kB} (hI:qA Z d V N t) (mL:oE Z d V n em hB) (mM:oF Z d V ep i1)
  (i2:me (.ListComp q r u z) j y p t i1 hB) (nd:(V.slots.map (·.1)).Nodup) (h1:V.slots[T]? =some (y,false)) (h2:V.scope.names.lookup y=some .local) (hg:r[j]? =some g) (tY:g.is_async=0) (hs:∀U x,mY t U x=pure x:=by intro _ _;rfl):
  oE Z d V n (oI V N T ep em n) (λB U=>bM t U>>=λx=>j4 t.pos>>=λ_=>mY t U x>>=λx=>ky [x] (xP x)>>=λl=>runOwn (.compStart (.ListComp q r u z) j l B U) U>>=λ_=>pure ()):=by
 refine λA U h₀ s c C Y J k Q E B O L S hp nO f5 ht hq=>aC (b0 (hI A U h₀ s c Y J _ _ (λl m=>av (aG Z.prog Z.w) A (runOwn (.compStart (.ListComp q r u z) j l (.ref B) U) U>>=λ_=>pure ()) (λ_ K=>Q K) E m) E O L S ht (λl o ih D F c₁ ca m H W IO R P fV ho=> ?_) (λ_ _ _ _ _ h=>h.elim)) (λv m H=>(aC (c9 (gg (hs U v) (aC (dJ H)))))) λ_ _ x=>x)
 ·obtain⟨i,f,M⟩:=H;refine aC (xb ?_ rfl);haveI b:=hp.trans P.adr
  haveI e:=fV C (λa ha=>by
   haveI I:F<C.length:=Ti f5 i;haveI hx:=fi b F (C[F]'I) (bV I);rw [ha] at hx;rw [bV I];exact hx.symm)
  exact HZ IO hg tY (R.aK (l,o) (.head _)) e (HY W mL mM i2 nd h1 h2 (O.ext P) L nO f5 (λX G aj K h S' w=>bt (hq X G aj K h S' ((P.fwd hp).trans w))) f 0 Y ca _ m o c₁.aK M R rfl (.refl b) e)
theorem St.stored {U:be} {f g:bk} {c:aP} {Y:List aa} {J:ae} {s:al} {m:ax->Option ai} (S:St Z V U f c Y J s) (F:Fr f U.locals s.heap m) (em:iK V U c.adr m Y) (p:(V.slots.map (·.1)).Nodup) {i:Nat} {y:ax} {v:ai} {a:aa}
  (h:V.slots[i]? =some (y,false)) (w:a5 c.adr a v) (A:g.Ns U.locals (λx=>if x=y then some v else m x)) (n:kx U.locals s.heap g) (t:Nat):St Z V U f c (Y.set i a) J {s with heap:=g,toks:=t}:=by
 refine S.turn (F.set A n) ?_ (λb B o C=>(n.2 b (S.own b B).1).trans C) (bv rfl rfl rfl);intro j z b d;haveI H:=em j z b d;induction b with
 |false=>
  refine aw H λD e l=> ?_;clear H;by_cases G:i=j
  ·subst G;replace d:=h▸d;cases d;exact aJ a (by rw [ua ((cF.mp e).1)]) (.inr ⟨v,by simp,w⟩)
  ·refine aJ D (by rw [mS G];exact e) (l.imp id λq=>aw q λu X E=>(aJ u ?_ E))
   haveI I:z≠y:=by
    intro K;obtain rfl:=K;haveI L:(V.slots.map (·.1))[i]? =some z:=by rw [cm,h];rfl
    haveI M:(V.slots.map (·.1))[j]? =some z:=by rw [cm,d];rfl
    obtain⟨x1,x2⟩:=cF.mp L;obtain⟨x3,x4⟩:=cF.mp M;exact G ((mT p).mp (x2.trans x4.symm))
   exact(if_neg I).trans X
 |true=>
  refine dN H λk r e l X=> ?_;clear H;refine dt k r ?_ l X;rw [mS (by(intro N;obtain rfl:=N);replace d:=h▸d;cases d)];exact e
theorem St.other {U:be} {d e:bk} {c:aP} {Y:List aa} {J:ae} {s:al} {a:aq} (S:St Z V U d c Y J s) (f:kx a s.heap e) (g:a≠U.locals) (h:a∉c.all) (N:d.get? a=none):St Z V U d c Y J {s with heap:=e}:=by
 exact aw S.F λm F em=>S.turn (F.change f g N) em (λb i o j=>(f.2 b (λq=>h (q▸i))).trans j) (bv rfl rfl rfl)
structure z1 (V N:bb) (scope:fe) (is:List Nat) (locs:List ax):Prop where
 sc:N.scope=oG V.scope.kind V.scope.names scope
 comp:N.comp=true
 code:N.code=none
 slots:N.slots=(kp scope).map (λn=>(n,true))++locs.map (λn=>(n,false))
 free:zU V (kp scope) is
 acR:(kp scope).Nodup
 kind:scope.kind= .function
 names:∀x∈scope.names,x.2= .local->N.scope.names.lookup x.1=some .local
 zW:∀x∈scope.names,x.2≠ .cell
 cP:(N.slots.map (·.1)).Nodup
def iP (N:bb) (b:List Nat) (n:Nat) (c:mf) (d:Nat) (e:Option de) (em:Nat->iO):a7:=λY J k x=>∃a,oD Y b=some a/\c Y J (λD _ J=>∃f,
 gD N D d e (em J.length) (J.length+1) f 0 (a.map .ref++eg n .aR) (J++[.list []]) (λ_ aj=>k (.ref J.length) aj)) x
theorem H4 {is:List Nat} {lJ:List ax} {TI:mf} {bL:Nat} {ep:Option de} {i1:Option aH} {em:Nat->iO} {hB:ai->be->ck Unit} {y:ax} {p:aX} {dH t:aH} {r gs:List kB} {g:kB} {b5:fe} {ap xj:aX} (C:z1 V N b5 is lJ) (hI:qA Z d V TI t)
  (mL:∀na,oE Z d N na (em na) hB) (mM:oF Z d N ep i1) (i2:me (.ListComp dH r b5 ap) 0 y p t i1 hB) (hg:r=g::gs) (aq6:g.iter=t) (tY:g.is_async=0) (h1:N.slots[bL]? =some (y,false)) (h2:N.scope.names.lookup y=some .local) (hs:∀U x,mY t U x=pure x)
  {use:Option (ai->ck Unit)} {A:cy} {U:be} {h₀:bk} {s:al} {c:aP} {Y:List aa} {J:ae} {k:aa->ae->Prop} {x:bn} {Q:ai->al->Prop} {E:ai->al->Prop}
  (O:Ok Z d A U h₀ c) (L:c0 V U) (S:St Z V U h₀ c Y J s) (ht:iP N is lJ.length TI bL ep em Y J k x)
  (hq:∀bU a L' G aj K,k a aj->St Z V U h₀ G Y aj K->cW c G->a5 G.adr a (.ref bU)->L'≠U.locals->L'∉G.all->h₀.get? L'=none->(∃m,K.heap.Ns L' m)->
   match use with
   |none=>∀h',kx L' K.heap h'->Q (.ref bU) {K with heap:=h'}
   |some u=>av (aG Z.prog Z.w) A (u (.ref bU)) (λ_ H=>∃m,H.heap.Ns L' m/\ ∀h',kx L' H.heap h'->Q .none {H with heap:=h'}) E K)
  (hx:∀e n G aj K,x n aj->St Z V U h₀ G Y aj K->cW c G->gU Z U.locals h₀ G n e K.heap->E (.ref e) K):
  av (aG Z.prog Z.w) A (OY (.ListComp dH r b5 ap) b5 U xj (newList []) false (bM t U) use) Q E s:=by
 refine a6 λH_ e_=> ?_;refine aw S.F λm F C8=> ?_;subst hg;refine aw ht λcs aq7 ht=> ?_;refine e_ ?_
 ·obtain⟨tX,C6⟩:=HU C8 C.free cs aq7
  have b6:xM b5 U=pure ((kp b5).map λn=>(n,(U.cells.lookup n).getD 0)):=by
   refine HT λp hp hk=>C6 p.1 ?_;exact up.mpr (dz.mpr ⟨p,xN.mpr ⟨hp,by rw [hk];rfl⟩,rfl⟩)
  have i0:N.scope=oG U.scope.kind U.scope.names b5:=by rw [L.scope];exact C.sc
  refine acP rfl (by rw [aq6];exact hs U) b6 C.kind (λx hx hl=>by rw [<-i0];exact C.names x hx hl) ?_;refine hI A U h₀ s c Y J _ x _ E O L S ht (λit o ih D lI c₁ ca s₁ h₁ W IO R P fV ho=> ?_) hx;obtain⟨f,M⟩:=h₁;refine aV (wpAny_newList ?_ (by simp));refine a6 λH_ e_=> ?_;have S₂:=R.push (ao:=.list []) (λT hp=>(c7 ([]) 0 rfl .nil)) s₁.toks;refine aw S₂.F λm2 F2 N1=> ?_;refine ff (id F2.ns) λoL kt ku dM iB rL=> ?_;refine e_ ?_;refine aV (asz C.zW (λ_ h=>(c6 h).elim) (λaq8 dm rr=> ?_) C.kind);have C2:=λb o e=>rr.extBut b o (nY (fz e)) (j8 _ e);have aq9:=tX.mono (fi (P.adr.trans ⟨[s₁.heap.objs.size],rfl⟩))
  have S₃:St Z N {newEnv b5 (s₁.heap.push (listOf [].toArray 0)).objs.size U.globals ((kp b5).map λn=>(n,(U.cells.lookup n).getD 0)) U.qual none .none (some U) pK with scope:=oG U.scope.kind U.scope.names b5} h₀
    {({c₁ with adr:=c₁.adr++[s₁.heap.objs.size],aK:=(it,o)::c₁.aK}) with pr:=(U.locals,oL)::c₁.pr} (cs.map .ref++eg lJ.length .aR) (ca++[.list []]) {s₁ with heap:=aq8,toks:=s₁.toks+0}:=by
   refine S₂.inner dM rfl dm C2 ?_;intro i z b hz;rw [C.slots] at hz;by_cases hi:i<(kp b5).length
   ·rw [im (by simpa using hi),cm] at hz;refine aw (gP.mp hz) λz' v C9=> ?_;cases C9;refine dN (HW aq9 C.acR i z v) λjj a q1 q2 q3=> ?_;refine⟨jj,a,?_,q2,q3⟩;rw [im (by have:=(cF.mp q1).1;simpa using this),cm,q1];rfl
   ·have bh:=by
     have:∀{T I is cl},jJ T I is cl->is.length=I.length:=by
      intro T I is cl h;induction h with
      |nil=>rfl
      |cons _ _ B=>simp [B]
     exact this tX
    rw [eE (by simpa using hi),cm] at hz;refine aw (gP.mp hz) λz' v C9=> ?_;cases C9;have cr:=(cF.mp v).1;refine⟨.aR,?_,.inl rfl⟩;rw [eE (by simp;exact E0 bh hi)];rw [List.getElem?_replicate,if_pos];simp at cr⊢;exact Uk (ay ..) (ay ..) cr bh
  have ara:∀a,(a=U.locals\/a∈c₁.pr.map (·.1))->a<(s₁.heap.push (listOf [].toArray 0)).objs.size:=by
   intro a ha;rcases ha with rfl|ha
   ·exact fz dM
   ·obtain⟨o',fI⟩:=S₂.there a (dn _ (cQ _ ha));exact fz fI
  have O₁:=O.ext P
  have O₃:Ok Z d A {newEnv b5 (s₁.heap.push (listOf [].toArray 0)).objs.size U.globals ((kp b5).map λn=>(n,(U.cells.lookup n).getD 0)) U.qual none .none (some U) pK with scope:=oG U.scope.kind U.scope.names b5} h₀
    {adr:=c₁.adr++[s₁.heap.objs.size],pr:=(U.locals,oL)::c₁.pr,aK:=c₁.aK}:=by
   refine aw O₁.frame λa fa ha=> ?_;refine⟨O.base,O.room,⟨a,fa,.inr (ha.elim (λq=>by rw [q];exact .head _) (λq=>.tail _ q))⟩,?_,λq=> ?_⟩
   ·obtain⟨l,g1,g2⟩:=O₁.frames;exact⟨l,g1,λf M=>fp (g2 f M) λu1 qq=>aw qq λb u2 u3=>⟨u1,b,u2,.inr (u3.elim (λq=>by rw [q];exact .head _) (λq=>.tail _ q))⟩⟩
   ·have q:U.frame=some (s₁.heap.push (listOf [].toArray 0)).objs.size:=q;rw [fa] at q;obtain rfl:=bl q;exact absurd (ara _ ha) (mW _)
  have arb:c0 N {newEnv b5 (s₁.heap.push (listOf [].toArray 0)).objs.size U.globals ((kp b5).map λn=>(n,(U.cells.lookup n).getD 0)) U.qual none .none (some U) pK with scope:=oG U.scope.kind U.scope.names b5}:=
   ⟨i0.symm,by rw [i0];exact C.kind,L.globals,L.builtins,λq=>(by rw [C.comp] at q;contradiction),λq h=>by rw [C.code] at h;contradiction⟩
  have f5:(c₁.adr++[s₁.heap.objs.size]).length=ca.length+1:=by simp [R.len]
  have nO:(c₁.adr++[s₁.heap.objs.size])[ca.length]? =some s₁.heap.objs.size:=by rw [<-R.len];simp
  have N3:ih (c₁.adr++[s₁.heap.objs.size]) 0 o:=fV _ λa ha=>fi ⟨_,rfl⟩ _ _ ha;refine HZ IO rfl tY (S₃.aK (it,o) (.head _)) N3 ?_;refine HY W (mL ca.length) mM i2 C.cP h1 h2 O₃ arb nO f5 (λX G aj K h S' w=> ?_) f 0 _ _ _ _ o c₁.aK M S₃ rfl (.refl xx) N3;refine a6 λH_ e_=> ?_;have arc:=S₂.qv rfl;refine iG (arc.outer dM S' ⟨w.pin,w.pr,w.aK⟩) λc3 S₄ j a4 eR=> ?_;refine aw S'.F λm5 F5 _=> ?_;have hL:=DB (fz dM);have lK:=hq s₁.heap.objs.size (.ref ca.length) (s₁.heap.push (listOf [].toArray 0)).objs.size c3 aj K h S₄ (P.trans ⟨List.IsPrefix.trans ⟨[s₁.heap.objs.size],rfl⟩ j.adr,j.pr,j.aK⟩) ⟨_,fi j.adr _ _ nO,rfl⟩ hL (λq=>(S'.own _ (eR _ q)).1 rfl) (OU F5.above) ⟨m5,F5.ns⟩;refine e_ ?_;induction use with
  |none=>exact⟨m5,F5.ns,lK⟩
  |some u=>exact lK
end
section
variable {Z:bx} {d:Nat} {V N:bb}
abbrev z4 (a:aH):ai->be->ck Unit:=λb U=>bM a U>>=λx=>hG (.builtin "list.append") [b,x]>>=λ_=>pure ()
abbrev H5 (a t:aH) (r:List kB) (b:fe) (c:aX) (j:Nat):ai->be->ck Unit:=λd U=>bM t U>>=λx=>j4 t.pos>>=λ_=>mY t U x>>=λx=>ky [x] (xP x)>>=λe=>runOwn (.compStart (.ListComp a r b c) j e d U) U>>=λ_=>pure ()
theorem sS {a t:aH} {y:ax} {p b:aX} {c:fe}:me (.ListComp a [⟨.Name y p,t,[],0⟩] c b) 0 y p t none (z4 a):=by
 intro d e U;rfl
theorem acS {b t e:aH} {y:ax} {p c:aX} {d:fe}:me (.ListComp b [⟨.Name y p,t,[e],0⟩] d c) 0 y p t (some e) (z4 b):=by
 intro f g U;haveI N:∀v,letOwnedTupleGo (.Name y p) f v=pure ():=λ_=>rfl;haveI V:(0 != 0)=false:=rfl;haveI a:(0 != 0)=false:=rfl;unfold compTurn;simp only [fM,fA,List.getElem?_nil,V,a,bne_self_eq_false,xz,if_false,vU,pure_bind,bind_assoc,if_true,asu,List.forIn_nil,N];rfl
theorem H6 {b t a:aH} {y q:ax} {p c d:aX} {e:fe}:me (.ListComp b [⟨.Name y p,t,[],0⟩,⟨.Name q c,a,[],0⟩] e d) 0 y p t none (H5 b a [⟨.Name y p,t,[],0⟩,⟨.Name q c,a,[],0⟩] e d 1):=by
 intro f g U;simp only [H5,vU,pure_bind,bind_assoc,if_true];rfl
theorem H7 {b t a:aH} {y q:ax} {p c d:aX} {e:fe}:me (.ListComp b [⟨.Name y p,t,[],0⟩,⟨.Name q c,a,[],0⟩] e d) 1 q c a none (z4 b):=by
 intro f g U;rfl
theorem oJ {f:List Nat} {lJ:List ax} {g:mf} {i:Nat} {j:Option de} {l:Option aH} {em:Nat->iO} {m:ai->be->ck Unit} {y:ax} {p:aX} {n t:aH} {b:List aH} {o:List kB} {e:fe} {q:aX} (C:z1 V N e f lJ) (u:qA Z d V g t)
  (v:∀r,oE Z d N r (em r) m) (w:oF Z d N j l) (z:me (.ListComp n (⟨.Name y p,t,b,0⟩::o) e q) 0 y p t l m) (B:N.slots[i]? =some (y,false)) (D:N.scope.names.lookup y=some .local) (F:∀U x,mY t U x=pure x:=by intro _ _;rfl):
  bF Z d V (iP N f lJ.length g i j em) (.ListComp n (⟨.Name y p,t,b,0⟩::o) e q):=by
 exact λA U h₀ s c Y J k x Q E O L S H hq I=>H4 C u v w z rfl rfl rfl B D F O L S H (λbU a L' G aj K h M W P R T X g4 h' hb=>(hq _ a G aj _ h (M.other hb R T X) W P)) I
theorem acT {i:Nat} {g:ax} {is:List Nat} {lJ:List ax} {TI:mf} {bL:Nat} {ep:Option de} {i1:Option aH} {em:Nat->iO} {hB:ai->be->ck Unit} {y:ax} {p q:aX} {X t:aH} {b:List aH} {I:List kB} {P:fe} {R xj:aX} (C:z1 V N P is lJ) (hI:qA Z d V TI t)
  (mL:∀na,oE Z d N na (em na) hB) (mM:oF Z d N ep i1) (i2:me (.ListComp X (⟨.Name y p,t,b,0⟩::I) P R) 0 y p t i1 hB) (h1:N.slots[bL]? =some (y,false)) (h2:N.scope.names.lookup y=some .local)
  (nd:(V.slots.map (·.1)).Nodup) (f:V.slots[i]? =some (g,false)) (j:V.scope.names.lookup g=some .local) (w:∀U,c0 V U->kz (.ListComp X (⟨.Name y p,t,b,0⟩::I) P R) (some (.Name g q)) xj.line U=pure true)
  (hs:∀U x,mY t U x=pure x:=by intro _ _;rfl):
  fC Z d V (bc i (iP N is lJ.length TI bL ep em)) (.Assign [.Name g q] (.ListComp X (⟨.Name y p,t,b,0⟩::I) P R) xj):=by
 refine λA U h₀ s c bq Y J k r x Q E O L S hp ht hk hr hx=>aC (c9 (gg (w U L) (zq rfl (aC (aC ?_)))))
 haveI fd:=@H4 Z d V N is lJ TI bL ep i1 em hB y p X t (⟨.Name y p,t,b,0⟩::I) I ⟨.Name y p,t,b,0⟩ P R (firstIterPos (⟨.Name y p,t,b,0⟩::I) R) C hI mL mM i2 rfl rfl rfl h1 h2 hs (some λv=>assignAll v ((DM [.Name g q] U).map (·.2))) A U h₀ s c Y J (λa J=>k (Y.set i a) J) x
  (λ_ K=>av (aG Z.prog Z.w) A (pure ()) (λ_ K=>av (aG Z.prog Z.w) A (pure Flow.next) Q E K) E K) E O L S ht
 haveI bW:∀(T:aq) (a:aa) (B:aq) (G:aP) (aj:ae) (K:al),k (Y.set i a) aj->St Z V U h₀ G Y aj K->cW c G->a5 G.adr a (.ref T)->B≠U.locals->B∉G.all->h₀.get? B=none->(∃m,K.heap.Ns B m)->
   av (aG Z.prog Z.w) A (j4 q>>=λ_=>xG U g (.ref T)) (λ_ H=>∃m,H.heap.Ns B m/\ ∀h',kx B H.heap h'->av (aG Z.prog Z.w) A (pure ()) (λ_ K=>av (aG Z.prog Z.w) A (pure Flow.next) Q E K) E {H with heap:=h'}) E K:=by
  refine λT a B G aj K h M W va g1 g2 g3 g4=>aw M.F λm F C8=>aC (c9 (tQ (aV (ar2 (iL L j) F.ns (λh' hn l=> ?_) (by rw [L.iu];rfl)))));obtain⟨m',z⟩:=g4;exact aJ m' (m6 z λo D u ho r=>rP o D u ((l.2 _ g1).trans ho) r) (λh2 hb=>bt (bt (hk _ G aj _ h ((M.stored F C8 nd f va hn l (K.toks+1)).other hb g1 g2 g3) (W.fwd hp))))
 exact fd (λT a B G aj K h M W va g1 g2 g3 g4=>(bW T a B G aj K h M W va g1 g2 g3 g4)) (λe n G aj K h M W fl=>hx e n Y G aj K h M (W.fwd hp) fl)
end
theorem acU:mz ⟨.builtin "claim.caller" {},none,none,[],none⟩:=⟨by decide+kernel,λ_ h=>(List.not_mem_nil h).elim⟩
theorem acV {prog:Program} {w:World} {t:Sem Fin} {s:Shared} {R:Result->Shared->Prop} (acW:s.asleep)
  (h:av (model prog w) callerA t (λfin dY=>∃f,fin= .done f/\R (.ok f) dY/\AllBare dY.gens) (λe dY=>R (.error e) dY/\AllBare dY.gens) s):
  ∃n r dY sT,runN (denote table) prog w n s ⟨t,.builtin "claim.caller" {},default,[]⟩= .halted (outcomeOf r) dY/\
   schedN (denote table) prog w n (.single s ⟨t,.builtin "claim.caller" {},default,[]⟩)= .halted (outcomeOf r) dY/\dY.forget=sT.forget/\R r sT:=by
 refine a6 λatA acX=> ?_
 obtain⟨n,r,fs,z5,vX,sU,z6,acY⟩:=wp_halts_full acW
  (Sem.wp_mono _ _ t (λfin _ dY q=>Mo.cU q λf e gx l0=>by subst e;exact⟨gx,leftWithCleanup_false_of_bare l0⟩) (λe _ dY acZ=>Mo.fp acZ λgx l0=>⟨gx,leftWithCleanup_false_of_bare l0⟩) default s (h _ default ⟨caller_in,acU⟩))
 exact acX (Mo.xZ n r z5 fs sU vX z6 acY)
abbrev ac0 (q:Program) (loose:List Str) (XP:(Str->Option Value)->Heap->Prop) (YP:World->Heap->Prop) (r:RowW) (d:DefRec):Prop:=
 ∀(w:World) (mh fs:Shared) (hS on:Str->Option Value),Ground q loose r.records XP w mh hS on fs.heap->YP w fs.heap->∀a:Addr,hS d.name=some (.ref a)->sysModules<mh.heap.objs.size->
  ∀(args:List WData) (vals:List Value) (as:List Addr),r.claim.pre args=true->WData.layableAll args=true->Laid r.records w mh fs args vals as->
   av (model r.prog w) callerA (PySem.call (.ref a) vals) (λv dY=>GoodWG r.claim (classAt mh.heap) (ExcName.means mh.heap) args fs (.ok (.ret v)) dY)
    (λe dY=>GoodWG r.claim (classAt mh.heap) (ExcName.means mh.heap) args fs (.error e) dY) fs
def H8 (r:OpenRow) (args:List WData) (eV:List Value) (s fs:Shared) (res:Result) (dY:Shared):Prop:=
 r.claim.Ends s args eV fs res dY/\dY.os=s.os/\(r.writes=true->namesKept r.prog r.keeps s.heap dY.heap/\ ∀x∈r.records,∀a,classAt s.heap x.1=some a->recordClass dY.heap a x.1 (x.2.map (·.1))=true)
theorem runM {r:OpenRow} {w:World} {args:List WData} {eV:List Value} {s fs:Shared} {a:Addr} {P:Result->Shared->Prop} (z7:fs.asleep) (sU:s.heap.nsMap mainGlobals r.name=some (.ref a))
  (vY:∀{Q:Option Value->Shared->Prop} {E:Value->Shared->Prop},Q (s.heap.nsMap mainGlobals r.name) fs->PySem.wpAny (model r.prog w) callerA (nsGet mainNs r.name) Q E fs)
  (hc:av (model r.prog w) callerA (PySem.call (.ref a) eV) (λv dY=>P (.ok (.ret v)) dY) (λe dY=>P (.error e) dY) fs) (fin:∀{res:Result} {dY:Shared},P res dY->H8 r args eV s fs res dY/\AllBare dY.gens):
  ∃n res dY sT,runN (denote table) r.prog w n fs ⟨do match<-nsGet mainNs r.name with
   |some f=>do ret (<-PySem.call f eV)
   |none=>unsupported "claim.caller:no-such-global",.builtin "claim.caller" {},default,[]⟩= .halted (outcomeOf res) dY/\
   schedN (denote table) r.prog w n (.single fs ⟨do match<-nsGet mainNs r.name with
   |some f=>do ret (<-PySem.call f eV)
   |none=>unsupported "claim.caller:no-such-global",.builtin "claim.caller" {},default,[]⟩)= .halted (outcomeOf res) dY/\dY.forget=sT.forget/\H8 r args eV s fs res sT:=
 acV z7 (aC (aV (vY (by rw [sU];exact aC (b0 hc (λv dY g=>bt (Mo.aJ _ rfl (fin g))) λe dY g=>fin g)))))
theorem PySem.W.holds_open {r:OpenRow} {q:Program} {loose:List Str} {Xt:Shared->Bool} {XP:(Str->Option Value)->Heap->Prop} {α:Type} {Yf:Shared->α} {Ya:World->α} {YP:World->Heap->Prop} {d:DefRec} {kwd:List (Str×Expr)} {N:Nat}
  (left:LeftO r.prog q loose Xt Yf Ya N) (hY:∀w s,Yf s=Ya w->YP w s.heap) (hYk:∀w h kh,YP w h->(∀b o,h.get? b=some o->kh.get? b=some o)->YP w kh)
  (hX:∀s,Xt s=true->XP (s.heap.nsMap mainGlobals) s.heap) (hXk:∀hS h kh,XP hS h->(∀b o,h.get? b=some o->kh.get? b=some o)->XP hS kh)
  (hdef:defOf q r.name=some (d,kwd)) (hp:r.prog.theDef r.name=some (d.params,d.body,d.scope)) (hk:kwWritten? d.params.kwonlyargs d.params.kw_defaults=some kwd) (hRf:∀s,Xt s=true->RecFacts r.records s.heap) (hwr:(!r.writes||r.records.isEmpty)=true)
  (k1:r.wellSaid=true) (ok:(chainsOk q&&opensWell r.prog&&(frees r.toRowW&&r.within.isEmpty))=true) (hb:r.prog.bare) (hw:r.toRowW.promised)
  (call:ac0 q loose XP YP r.toRowW d):r.Holds:=by
 simp only [Bool.and_eq_true] at ok;refine Mo.dp ok λada zM adb=> ?_;obtain⟨adc,o1⟩:=ada;refine Mo.n5 (frees_parts zM) λadd ade adf adg hm=>Mo.i8 k1 hw ⟨hb,o1,by show r.makers.map _=[];rw [hm];rfl⟩ hw.witness (λw=>(a6 λH e=> ?_));haveI Ic:=left.behind (XP:=λhS h=>XP hS h/\RecFacts r.records h) (λs vX=>⟨hX s vX,hRf s vX⟩) adc w;refine e ⟨Ic.1,λdY adh=>(a6 λH e=>(Mo.cU (Ic.2 dY adh) λmh hf adi adj=>Mo.pT adj λs Ie z7 adk vY jP y=> ?_))⟩;have Ig:Ground q loose [] XP w s (s.heap.nsMap mainGlobals) (s.heap.nsMap builtinsNs) s.heap:=⟨jP.T,jP.B,jP.D,jP.TE,jP.TD,jP.W,jP.X.1,jP.cls,jP.has,jP.apart,jP.once,jP.K⟩
 have z8:=jP.X.2;have Ih:=Array.eq_empty_of_size_eq_zero (beq_iff_eq.mp adk);haveI G:=z8.ground Ig;refine e ⟨mh,hf,adi,s,Ie,λn sU=> ?_,z8.1,z8.2.1,λargs Ii Ij ord Ik=> ?_⟩<;>clear e H
 ·obtain rfl:n=r.name:=by split at sU<;>simp_all
  exact pinned_of_view vY Ig hdef hp hk
 refine a6 λH e=> ?_;obtain⟨⟨eV,fs⟩,sV⟩:=Option.isSome_iff_exists.mp (layAllW_isSome G.has args r.args s (pre_splitW Ii).1);have keeps:=layAllW_keeps _ _ _ sV;have v0:=layAllW_rest _ _ _ sV;refine Mo.cU (reads_layAllW Ik _ _ _ sV Ij fs.heap (λ_ _ e=>e)) λas adl adm a6=> ?_;have L:Laid r.records w s fs args eV as:=⟨(Mo.aJ ord Ik sV),adl,adm,a6,keeps,v0.1.trans Ih,v0.2.2.1⟩
 have z9:=G.keeps hXk keeps;refine Mo.Ee (z9.fn hdef) λa _ _ _ _ _ _ gx _=> ?_
 obtain⟨k,res,z5,atB,adn,ado,z6,adp,Il,lr⟩:=runM (Shared.asleep_of_life v0.2.2.2 z7) (defOf_name hdef▸gx) (wpAny_nsGet z9.T.g) (call w s fs _ _ z9 (hYk _ _ _ (hY w s y) keeps) a (defOf_name hdef▸gx) G.low args eV as Ii Ij L) λ{_ _} g=>by
  haveI z:=g.laid add (List.isEmpty_iff.mp adb) (ident_freeW ade adf adg) L;exact⟨⟨z.1,z.2.1,λq=>⟨namesKept_of Ie vY _ keeps g.2.1.old,noTable hwr q⟩⟩,z.2.2⟩
 refine Mo.n5 (Shared.forget_eq z6) λIm _ _ adq _=> ?_;rw [<-adq] at Il;have lr:=Im.symm▸lr;refine e ⟨eV,fs,sV,k,_,z5,ado,?_,(λ_ i x Io=>by haveI Io:=Ih▸Io;contradiction),lr,by rw [((runN_life _ _ _ adn).trans v0.2.2.2)],Shared.rest_eq Il⟩;rcases(adp.congr Im) with ads|adt
 ·refine Mo.pT ads λv adu Aa Ab Ac Ad Ae=> ?_;obtain rfl:=adu;exact .inl (Mo.DZ v rfl Aa Ab Ac (λb o y _=>Ad b o y) Ae)
 ·refine Mo.D1 adt λe kG cls adv Aa Ab Ac Ad Ae=> ?_;obtain rfl:=adv;exact .inr (Mo.D2 e kG cls rfl Aa Ab Ac Ad (λb o y _=>Ae b o y))
end Mine
local macro_rules
 | `(example:=0)=>Lean.withRef .missing do
  let f (s:String) (l:List Nat):Lean.MacroM (List Lean.Syntax):=l.mapM fun i=>do
   let n:=Lean.mkIdent (.str `PySem.W.Fast s!"tw{(Lean.Name.str `Mine.hd s!"{s}_{i}").hash}")
   `(theorem $n : True := trivial)
  let n:=Lean.mkIdent (.str `PySem.W.Fast s!"tw{(`PySem.Challenge.pw_pb0463_01).hash}")
  let p← `(theorem $n : True := trivial)
  return Lean.mkNullNode (p.raw::((←f "o" (.range' 43 960))++(←f "tree" [47, 78, 93, 129, 209, 253, 391, 476, 480, 580, 617, 682, 766, 822, 874, 939, 1002])++(←f "heap" [39, 46, 1003])++(←f "sts" [49, 79, 94, 130, 210, 254, 480, 482, 581, 618, 683, 767, 823, 875, 940])++(←f "view" [39]))).toArray
example:=0
namespace Mine
open_top hd for PySem.Challenge.rw_pb0463_01
end Mine
namespace Mine
abbrev fG:=fD λa b P=>P (a-b)
abbrev kj:=fD λa b P=>0<b/\P (a%b)
abbrev mi:=fD λa b P=>0<b/\b<2^64/\P (a/b)
abbrev Af:=fD λa b P=>0 <= b/\b <= 1000000/\a.natAbs<2^64/\P (a^b.toNat)
abbrev qE:=fD λa b P=>0 <= b/\P (a/2^b.toNat)
abbrev Ag:=fD λa b P=>0 <= b/\b <= 1000000/\a.natAbs<2^64/\P (a*2^b.toNat)
abbrev qF:=fD λa b P=>0 <= a/\0 <= b/\P ((a.toNat&&&b.toNat:Nat):Int)
abbrev sW:=fD λa b P=>0 <= a/\0 <= b/\P ((a.toNat|||b.toNat:Nat):Int)
abbrev Ip:=fD λa b P=>P (a+b)
abbrev h7:=jM λa b=>decide (a<b)
abbrev oK:=jM λa b=>decide (a <= b)
abbrev gi:=jM λa b=>decide (b<a)
abbrev qG:=jM λa b=>decide (b <= a)
section
variable {Z:bx} {V:bb}
theorem adw:lG Z "append" "list.append" dX:=zx PySem.F.slot_list_append PySem.F.type_list_append
theorem adx:lG Z "pop" "list.pop" dX:=zx PySem.F.slot_list_pop PySem.F.type_list_pop
theorem ady:lG Z "reverse" "list.reverse" dX:=zx PySem.F.slot_list_reverse PySem.F.type_list_reverse
def oM (u:ax->Option hH) (a:List aH):List ax:=a.filterMap λ
  | .Name j b=>if u j==some .local&&b.line==(a.head?.map (·.pos.line)).getD 0 then some j else none
  |_=>none
abbrev v1 (E:fe) (a:List aH):List ax:=oM (λy=>E.names.lookup y) a
def Iq (E:fe) (a b:List aH):Bool:=
 (a.length==2||a.length==3)&&b.length==a.length&& !(b.any λ| .Starred .. =>true|_=>false)&&(v1 E a).length==a.length&&(v1 E a).eraseDups.length==(v1 E a).length&& !(b.all (foldedForSure 8))&& !(b.all (asE 8))
theorem oN {U:be} {d e:List aH} {I:List ax} {W f:Nat} {g h:aX} (L:c0 V U) (i:Iq V.scope d e=true) (j:v1 V.scope d=I):
  rH [.Tuple d W g] (.Tuple e f h) U=pure (some I):=by
 have k:U.blockKind= .function:=by unfold asF;rw [L.scope,L.kind];rfl
 have l:U.kindOf=λy=>V.scope.names.lookup y:=by funext y;unfold Env.kindOf;rw [L.scope]
 simp only [Iq,j,eC,asG] at i;obtain⟨⟨⟨⟨⟨⟨p,m⟩,n⟩,o⟩,b⟩,a⟩,c⟩:=i
 have q:rH [.Tuple d W g] (.Tuple e f h) U=(if(!(d.length==2||d.length==3)||e.length != d.length||U.blockKind != .function)=true then pure none
  else if(e.any λ| .Starred .. =>true|_=>false)=true then pure none
  else if((oM U.kindOf d).length != d.length||(oM U.kindOf d).eraseDups.length != (oM U.kindOf d).length)=true then pure none
  else if e.all (foldedForSure 8)=true then pure none
  else if e.all (asE 8)=true then(unsupported "assign.tuple-of-constant-expressions:order-of-the-stores" >>=λ(_:Unit)=>pure (some (oM U.kindOf d)))
  else pure (some (oM U.kindOf d))):=rfl
 have z:oM U.kindOf d=I:=by rw [l];exact j
 have r:(!(d.length==2||d.length==3)||e.length != d.length||asH != asH)=false:=by
  rw [p,bne,m];rfl
 have s:(I.length != d.length||I.eraseDups.length != I.length)=false:=by
  rw [bne,o,bne,b];rfl
 rw [q,z,k,if_neg (by rw [r];decide),if_neg (by rw [n];decide),if_neg (by rw [s];decide),if_neg (by rw [a];decide),if_neg (by rw [c];decide)]
theorem adz {U:be} {e:aH} {g:List kB} {E:fe} {y:ax} {p q:aX} {l:Nat} (L:c0 V U)
  (h:(V.scope.names.lookup y==some .local&&p.line==q.line&& !(E.names.any λ(n,k)=>n==y&&(k== .local||k== .cell)))=true):kz (.ListComp e g E q) (some (.Name y p)) l U=pure true:=by
 have a:U.blockKind= .function:=by unfold asF;rw [L.scope,L.kind];rfl
 have b:U.kindOf y=V.scope.names.lookup y:=by unfold Env.kindOf;rw [L.scope]
 show(pure (U.blockKind== .function&&U.kindOf y==some .local&&p.line==q.line&& !(E.names.any λ(n,k)=>n==y&&(k== .local||k== .cell))):ck Bool)=pure true
 rw [a,b];congr 1
end
theorem len0 {P:List ai->Prop} (h:P []:=by kernel_rfl):∀a:List ai,a.length=0->P a:=λa e=>by cases a with|nil=>exact h|cons _ _=>cases e
theorem eJ {P:List ai->Prop} (h:∀c,P [c]:=by intros;kernel_rfl):∀b:List ai,b.length=1->P b:=λb e=>by
 cases b with
 |nil=>cases e
 |cons a r=>exact len0 (P:=λr=>P (a::r)) (h a) r (mZ e)
theorem ec {P:List ai->Prop} (h:∀c d,P [c,d]:=by intros;kernel_rfl):∀b:List ai,b.length=2->P b:=λb e=>by
 cases b with
 |nil=>cases e
 |cons a r=>exact eJ (P:=λr=>P (a::r)) (λd=>h a d) r (mZ e)
theorem iQ {P:List ai->Prop} (h:∀c d i,P [c,d,i]:=by intros;kernel_rfl):∀b:List ai,b.length=3->P b:=λb e=>by
 cases b with
 |nil=>cases e
 |cons a r=>exact ec (P:=λr=>P (a::r)) (λd i=>h a d i) r (mZ e)
theorem oO {P:List ai->Prop} (h:∀c d i f,P [c,d,i,f]:=by intros;kernel_rfl):∀b:List ai,b.length=4->P b:=λb e=>by
 cases b with
 |nil=>cases e
 |cons a r=>exact iQ (P:=λr=>P (a::r)) (λd i f=>h a d i f) r (mZ e)
theorem Ir {P:List ai->Prop} (h:∀c d i f b,P [c,d,i,f,b]:=by intros;kernel_rfl):∀g:List ai,g.length=5->P g:=λg e=>by
 cases g with
 |nil=>cases e
 |cons a r=>exact oO (P:=λr=>P (a::r)) (λd i f b=>h a d i f b) r (mZ e)
theorem Is {P:List ai->Prop} (h:∀c d i f b g,P [c,d,i,f,b,g]:=by intros;kernel_rfl):∀j:List ai,j.length=6->P j:=λj e=>by
 cases j with
 |nil=>cases e
 |cons a r=>exact Ir (P:=λr=>P (a::r)) (λd i f b g=>h a d i f b g) r (mZ e)
theorem atC {P:List ai->Prop} (h:∀c d i f b g A,P [c,d,i,f,b,g,A]:=by intros;kernel_rfl):∀j:List ai,j.length=7->P j:=λj e=>by
 cases j with
 |nil=>cases e
 |cons a r=>exact Is (P:=λr=>P (a::r)) (λd i f b g A=>h a d i f b g A) r (mZ e)
noncomputable section
abbrev x0:=bH 0
abbrev aF:=bH 1
abbrev aW:=bH 2
abbrev bG:=bH 3
abbrev b7:=bH 4
abbrev cu:=bH 5
abbrev dw:=bH 6
abbrev c1:=bH 7
abbrev dZ:=bH 8
abbrev ey:=bH 9
abbrev v2:=bH 10
abbrev It:=bH 11
abbrev aD (a:a7):=cG a bf
abbrev a0 (a b:a7):=cG a (aD b)
abbrev cK (a b c:a7):=cG a (a0 b c)
abbrev eS (a b c d:a7):=cG a (cK b c d)
abbrev e9 (a b c d e:a7):=cG a (eS b c d e)
def Iu (b:List (ax×hH)) (a:List ax):fe:={kind:=.function,names:=b,isGenerator:=false,isCoroutine:=false,more:=a.map λs=>("fast",.str s)}
def Ah (b:List (ax×hH)):fe:={kind:=.function,names:=b,isGenerator:=false,isCoroutine:=false,more:=[]}
def bI (l g:List ax):bb:=⟨Ah (l.map (·,.local)++g.map (·,.globalImplicit)),l.map (·,false),false,none⟩
def oP (l:List (ax×Bool)) (g:List ax) (x:Option (List ax):=none) (a:Option (ai×ax):=none):bb:=⟨Iu (l.map (λp=>(p.1,cond p.2 .cell .local))++g.map (·,.globalImplicit)) (x.elim [] λx=>l.map (·.1)++x),l,false,a⟩
def nt (l g f:List ax):bb:=⟨Ah ((".0",.local)::(l.map (·,.local)++g.map (·,.globalImplicit)++f.map (·,.cell))),f.reverse.map (·,true)++l.map (·,false),true,none⟩
def sX (f g:List ax):bb:=⟨Ah (f.map (·,.free)++g.map (·,.globalImplicit)),f.reverse.map (·,true),false,none⟩
def Ai:List aq:=[72,79,86,94,101,108,115,122,129,136,143,150,157,164,178,185,206,220,227,234,241,248,255,276,283,290,297,323,328,363,445,452,459,466,473,487,494,501,508,515,522,543,550,557,564,571,578,585,592,597,604,611,618,625,632,646,665,672,679,686,693,700,705,710,715,722,736,743,750,757,764,771,778,792,799,806,813,820,827,834,839,846]
def eK (f:Nat):Option aq:=Ai[f]?
def Aj:List hO:=[⟨781,["page_size","pages","spare"]⟩,⟨532,["pager","free","changes"]⟩,⟨338,["data","page","usable","base"]⟩,⟨436,["data","page","usable","base"]⟩,⟨195,["child","rowid","size","local","overflow"]⟩,⟨654,["kind","raws","right"]⟩]
def v3 (n:Nat):Option hO:=Aj[n]?
def aN (k v c:Nat):Option Nat:=if c=k then some v else none
theorem Ak {k v:Nat} {P:Nat->Nat->Prop} (h:P k v) {c f:Nat} (e:aN k v c=some f):P c f:=by obtain⟨rfl,b⟩:=Option.ite_none_right_eq_some.mp e;exact bl b▸h
def Iv (n:Nat):Option aq:=(aN 1 51 n).or (aN 2 63 n)
theorem Al {P:Nat->aq->Prop} (a:P 1 51) (b:P 2 63) {n:Nat} {C:aq} (e:Iv n=some C):P n C:=
 (Option.or_eq_some_iff.mp e).elim (Ak a) λe=>Ak b e.2
def adA (n:Nat):Option aq:=[822,829][n]?
theorem Iw (P:fW):fL (hd.heap_39 P) eU "CorruptError" =some (some (.ref 51)):= ⋯
theorem Am (P:fW):fL (hd.heap_39 P) eU "MisuseError" =some (some (.ref 63)):= ⋯
theorem sY (P:fW):fL (hd.heap_39 P) eU "_law_error" =some (some (.ref 820)):= ⋯
theorem adB (P:fW):fL (hd.heap_39 P) eU "int" =some none:= ⋯
theorem adC (P:fW):fL (hd.heap_39 P) eU "list" =some none:= ⋯
theorem qH (P:fW):fL (hd.heap_39 P) eU "range" =some none:= ⋯
theorem adD (P:fW):fL (hd.heap_39 P) eU "sum" =some none:= ⋯
theorem sZ (P:fW):mU (hd.heap_39 P) (.ref 820)=true:= ⋯
end
noncomputable section
def adE (e:aH):Option (rD×aH×fe×aX):=by
 cases e
 case Lambda a b s p=>exact some (a,b,s,p)
 all_goals exact none
def adF (e:aH):List aH:=by
 cases e
 case Call a b _ _=>exact b
 case Compare a _ _ _=>exact [a]
 case BoolOp _ b _=>exact b
 case List b _=>exact b
 all_goals exact []
def adG (e:eT):List aH:=by
 cases e
 case If a _ _ _=>exact [a]
 case Assign _ a _=>exact [a]
 all_goals exact []
def adH (d:Data):List eT:=by
 cases d
 case func f=>exact(by cases f.body with|stmts b=>exact b|_=>exact [])
 all_goals exact []
def adI:Nat->aH->List (rD×aH×fe×aX):=Nat.rec (λ_=>[]) λ_ B e=>(adE e).elim ((adF e).flatMap B) λq=>[q]
def Ix (P:fW) (a:aq) (q:ax):List lb:=(((hd.heap_39 P).lookup a).elim [] λo=>(adH o.data).flatMap λs=>(adG s).flatMap (adI 4)).map λp=>⟨q,p.1,p.2.1,p.2.2.1,p.2.2.2,kp p.2.2.1⟩
def Iy (P:fW):List lb:=Ix P 827 "_law_begun_right.<locals>.<lambda>" ++Ix P 834 "_law_ring_right.<locals>.<lambda>"
def Iz (P:fW) (j:Nat):Option lb:=(Iy P)[j]?
abbrev bR (L:d4) (w:dU) (r:al):bx:=⟨L,w,hd.heap_39 w.params,v3,Iv,Iz w.params,adA,r⟩
abbrev adJ (K:Frag) (k:hO):Prop:=k.fields.Nodup/\hasDictIn K k.addr=true/\(∀n∈k.fields,nW K (.ref k.addr) n=some none/\Du K k.addr n=some none)/\plainOver K k.addr=true/\k.fields.length <= 20/\nW K (.ref k.addr) "__setattr__" =some (some (.builtin "object.__setattr__"))/\mU K (.ref k.addr)=true
theorem IA (P:fW):∀k∈Aj,adJ (hd.heap_39 P) k:=of_decide_eq_true (⋯)
theorem adK (P:fW):∀k∈Aj,∀n,plainGet (hd.heap_39 P) k.addr n=true:=am (by exact⟨λ_=> ⋯,λ_=> ⋯,λ_=> ⋯,λ_=> ⋯,λ_=> ⋯,λ_=> ⋯,trivial⟩)
theorem qI {L:d4} {w:dU} {r:al} {c:Nat} {k:hO} (h:v3 c=some k):lj (bR L w r) c k:=
 uw (IA w.params k (cq h)) λa b o p l s _=>⟨h,a,b,adK _ k (cq h),λn d=>⟨none,(o n d).1,rfl⟩,s,p,λn d=>(o n d).2,l⟩
theorem lr {w:dU} {c:Nat} {k:hO} (h:v3 c=some k):mU (hd.heap_39 w.params) (.ref k.addr)=true:=(IA w.params k (cq h)).2.2.2.2.2.2
theorem v4 {a b c d e f g h i j k l m n o p:Type} {P:a->b->c->d->e->f->g->h->i->j->k->l->m->n->o->p->Prop} (A B C D E F G H I J K L M N O Q) (z:P A B C D E F G H I J K L M N O Q):∃A B C D E F G H I J K L M N O Q,P A B C D E F G H I J K L M N O Q:=⟨A,B,C,D,E,F,G,H,I,J,K,L,M,N,O,Q,z⟩
theorem adL (L:d4) (w:dU) (r:al):l9 (bR L w r) eK 0 ⟨781,["page_size","pages","spare"]⟩ 66 736:=⟨rfl,rfl,⋯,⋯,⋯⟩
theorem adM (L:d4) (w:dU) (r:al):l9 (bR L w r) eK 1 ⟨532,["pager","free","changes"]⟩ 35 487:=⟨rfl,rfl,⋯,⋯,⋯⟩
theorem adN (L:d4) (w:dU) (r:al):l9 (bR L w r) eK 2 ⟨338,["data","page","usable","base"]⟩ 17 220:=⟨rfl,rfl,⋯,⋯,⋯⟩
theorem adO (L:d4) (w:dU) (r:al):l9 (bR L w r) eK 3 ⟨436,["data","page","usable","base"]⟩ 17 220:=⟨rfl,rfl,⋯,⋯,⋯⟩
theorem adP (L:d4) (w:dU) (r:al):l9 (bR L w r) eK 4 ⟨195,["child","rowid","size","local","overflow"]⟩ 14 178:=⟨rfl,rfl,⋯,⋯,⋯⟩
theorem adQ (L:d4) (w:dU) (r:al):l9 (bR L w r) eK 5 ⟨654,["kind","raws","right"]⟩ 55 646:=⟨rfl,rfl,⋯,⋯,⋯⟩
theorem An (L:d4) (w:dU) (r:al):mc (bR L w r) 1 51 35:=⟨rfl,v4 _ _ _ _ _ _ _ _ _ _ _ _ _ _ _ _ ⟨rfl,⋯,⋯,⋯,⋯⟩,⋯,⋯,v4 _ _ _ _ _ _ _ _ _ _ _ _ _ _ _ _ (by exact⟨rfl,⋯,λ_ _=> ⋯,⋯,⋯,⋯,⋯,⋯,⋯,⋯,⋯⟩),⋯⟩
theorem adR {L:d4} {w:dU} {r:al} {n:Nat} {C:aq} (h:(bR L w r).exc n=some C):pR (bR L w r).K C (.ref 51)=some (n==1):=Al (P:=λn C=>pR (hd.heap_39 w.params) C (.ref 51)=some (n==1)) (⋯) (⋯) h
theorem v5 (L:d4) (w:dU) (r:al):mc (bR L w r) 2 63 35:=⟨rfl,v4 _ _ _ _ _ _ _ _ _ _ _ _ _ _ _ _ ⟨rfl,⋯,⋯,⋯,⋯⟩,⋯,⋯,v4 _ _ _ _ _ _ _ _ _ _ _ _ _ _ _ _ (by exact⟨rfl,⋯,λ_ _=> ⋯,⋯,⋯,⋯,⋯,⋯,⋯,⋯,⋯⟩),⋯⟩
theorem adS {L:d4} {w:dU} {r:al} {n:Nat} {C:aq} (h:(bR L w r).exc n=some C):pR (bR L w r).K C (.ref 63)=some (n==2):=Al (P:=λn C=>pR (hd.heap_39 w.params) C (.ref 63)=some (n==2)) (⋯) (⋯) h
theorem IB {L:d4} {w:dU} {r:al} {n:Nat} {C:aq} (h:(bR L w r).exc n=some C):∃i,mc (bR L w r) n C i:=Al (P:=λn C=>∃i,mc (bR L w r) n C i) ⟨_,An L w r⟩ ⟨_,v5 L w r⟩ h
def IE:List ai:=[.int 2 295,.int 5 297,.int 10 299,.int 13 301]
theorem adT (P:fW):fL (hd.heap_39 P) eU "KINDS" =some (some (.ref 87)):= ⋯
theorem adU (P:fW):(hd.heap_39 P).lookup 87=some ⟨.type "tuple",none,.seq IE.toArray 0,#[]⟩:= ⋯
theorem adV:pN IE [2,5,10,13]:=.cons _ _ (.cons _ _ (.cons _ _ (.cons _ _ .nil)))
theorem adW (P:fW):findCls (hd.heap_39 P) (.type "int") (.type "type") (il "from_bytes")=some (.get (.builtin "classmethod_descriptor.__get__") (.builtin "int.from_bytes") .none (.type "int")):= ⋯
def Ao:List Nat:=[608,609,617,629,630]
theorem adX {P:fW}:(Iy P).map (·.pos.line)=Ao:= ⋯
theorem s0 {P:fW} {j k l:Nat} {I:lb} (h:Iz P j=some I) (a:I.pos.line=l) (N:Ao[k]? =some l):j=k:=by
 have b:Ao[j]? =some l:=(congrArg (λz:List Nat=>z[j]?) adX).symm.trans (cm.trans ((congrArg (Option.map _) h).trans (congrArg some a)));obtain⟨e,c⟩:=cF.mp b;obtain⟨f,d⟩:=cF.mp N;exact(mT ∅).mp (c.trans d.symm)
end
noncomputable section
def IF:List (ax×Nat×Nat):=[("cell",3,26),("child",3,27),("children",3,28),("clear",3,29),("count",3,21),("extend",0,70),("give",0,72),("is_leaf",3,19),("is_rows",3,20),("kind",3,18),("new_node",1,38),("node",1,37),("octets",3,24),("page_count",0,67),("place",3,25),("pointers",3,22),("read_page",0,68),("rest",4,15),("right",3,23),("save",1,39),("take",0,71),("touch",1,40),("usable",1,36),("write_page",0,69)]
def IG (K:Frag) (q:ax×Nat×Nat):Bool:=(v3 q.2.1).any λa=>(eK q.2.2).any λfa=>decide (nW K (.ref a.addr) q.1=some (some (.ref fa))/\isFn K (.ref fa)=true/\mU K (.ref fa)=true/\q.1∉a.fields)
theorem adY {L:d4} {w:dU} {r:al} {q:ax×Nat×Nat} (h:IG (hd.heap_39 w.params) q=true):∃e fa,lj (bR L w r) q.2.1 e/\vv (bR L w r) eK q.2.1 e q.1 q.2.2 fa:=
 aw ((asI _ _).mp h) λe f h=>aw ((asI _ _).mp h) λfa g h=>jE (of_decide_eq_true h) λa b c d=>⟨e,fa,qI f,g,a,b,c,d⟩
theorem adZ (P:fW):IF.all (IG (hd.heap_39 P))=true:= ⋯
end
noncomputable section
abbrev nu (p:Prop):=Option (PLift p)
def s5:(b:Bool)->nu (b=true)
 |true=>some ⟨rfl⟩
 |false=>none
def mj:(b:Bool)->nu (b=false)
 |false=>some ⟨rfl⟩
 |true=>none
def Ap (o:Option hH) (k:hH):nu (o=some k):=if h:o=some k then some ⟨h⟩ else none
def IH (n:ax) (a:aX):(e:aH)->nu ((∀U,bM (.Attribute e n a) U=(do
   let o<-bM e U
   j4 a.atName
   let r<-ky [o] (Do o n true)
   Dp e o r
   pure r))/\ ∀U,xA e n U (bM e U)=bM e U)
 | .Name .. =>some ⟨λ_=>rfl,λ_=>rfl⟩
 | .Attribute .. =>some ⟨λ_=>rfl,λ_=>rfl⟩
 | .Subscript .. =>some ⟨λ_=>rfl,λ_=>rfl⟩
 | .Constant .. =>some ⟨λ_=>rfl,λ_=>rfl⟩
 | .Call (.Attribute ..) .. =>some ⟨λ_=>rfl,λ_=>rfl⟩
 |_=>none
def ad0:(e:aH)->nu ((∀o i,xD e false o i=xr [o,i] (DD o i))/\ ∀(U:be) (f:ck ai),jB e U f=(do let v<-f;j4 e.pos;ky [v] (pF v)))
 | .Name .. =>some ⟨λ_ _=>rfl,λ_ _=>rfl⟩
 | .Attribute .. =>some ⟨λ_ _=>rfl,λ_ _=>rfl⟩
 | .Subscript .. =>some ⟨λ_ _=>rfl,λ_ _=>rfl⟩
 | .Call .. =>some ⟨λ_ _=>rfl,λ_ _=>rfl⟩
 | .BinOp .. =>some ⟨λ_ _=>rfl,λ_ _=>rfl⟩
 | .UnaryOp .. =>none
 | .Constant .. =>none
 | .List .. =>none
 | .Tuple .. =>none
 | .Dict .. =>none
 | .IfExp .. =>none
 | .Compare .. =>none
 | .BoolOp .. =>none
 | .JoinedStr .. =>none
 |_=>none
def ad1:(e:aH)->nu (∀o i,xD e false o i=xr [o,i] (DD o i))
 | .Name .. =>some ⟨λ_ _=>rfl⟩
 | .Attribute .. =>some ⟨λ_ _=>rfl⟩
 | .Subscript .. =>some ⟨λ_ _=>rfl⟩
 | .Call .. =>some ⟨λ_ _=>rfl⟩
 | .BinOp .. =>some ⟨λ_ _=>rfl⟩
 | .UnaryOp .. =>some ⟨λ_ _=>rfl⟩
 | .Constant .. =>some ⟨λ_ _=>rfl⟩
 | .List .. =>none
 | .Tuple .. =>none
 | .Dict .. =>none
 | .IfExp .. =>none
 | .Compare .. =>none
 | .BoolOp .. =>none
 | .JoinedStr .. =>none
 |_=>none
def oQ:(e:aH)->nu ((∀t l U,kz e t l U=pure false)/\ ∀U x,mY e U x=pure x)
 | .Name .. =>some ⟨λ_ _ _=>rfl,λ_ _=>rfl⟩
 | .Attribute .. =>some ⟨λ_ _ _=>rfl,λ_ _=>rfl⟩
 | .Subscript .. =>some ⟨λ_ _ _=>rfl,λ_ _=>rfl⟩
 | .Call .. =>some ⟨λ_ _ _=>rfl,λ_ _=>rfl⟩
 | .BinOp .. =>some ⟨λ_ _ _=>rfl,λ_ _=>rfl⟩
 | .UnaryOp .. =>some ⟨λ_ _ _=>rfl,λ_ _=>rfl⟩
 | .Constant .. =>some ⟨λ_ _ _=>rfl,λ_ _=>rfl⟩
 | .List .. =>some ⟨λ_ _ _=>rfl,λ_ _=>rfl⟩
 | .Tuple .. =>some ⟨λ_ _ _=>rfl,λ_ _=>rfl⟩
 | .Dict .. =>some ⟨λ_ _ _=>rfl,λ_ _=>rfl⟩
 | .IfExp .. =>some ⟨λ_ _ _=>rfl,λ_ _=>rfl⟩
 | .Compare .. =>some ⟨λ_ _ _=>rfl,λ_ _=>rfl⟩
 | .BoolOp .. =>some ⟨λ_ _ _=>rfl,λ_ _=>rfl⟩
 | .JoinedStr .. =>some ⟨λ_ _ _=>rfl,λ_ _=>rfl⟩
 |_=>none
def ad2 (V:bb) (a:List aH) (k:Nat) (p:aX):(e:aH)->nu (∀U,c0 V U->rH [.Tuple a k p] e U=pure none)
 | .Name .. =>some ⟨λ_ _=>rfl⟩
 | .Attribute .. =>some ⟨λ_ _=>rfl⟩
 | .Subscript .. =>some ⟨λ_ _=>rfl⟩
 | .Call .. =>some ⟨λ_ _=>rfl⟩
 | .BinOp .. =>none
 | .UnaryOp .. =>none
 | .Constant .. =>none
 | .List .. =>none
 | .Tuple .. =>none
 | .Dict .. =>none
 | .IfExp .. =>none
 | .Compare .. =>none
 | .BoolOp .. =>none
 | .JoinedStr .. =>none
 |_=>none
def II (y:ax) (b:Bool):(l:List (ax×Bool))->Option {i:Nat//l[i]? =some (y,b)}
 | []=>none
 |p::r=>if h:p=(y,b) then some ⟨0,congrArg some h⟩ else(II y b r).map λi=>⟨i.1+1,i.2⟩
def v6 {d:Type} [DecidableEq d] (a:d):(l:List d)->Option {i:Nat//l[i]? =some a}
 | []=>none
 |p::r=>if h:p=a then some ⟨0,congrArg some h⟩ else(v6 a r).map λi=>⟨i.1+1,i.2⟩
section
variable (Z:bx)
def ad3:(op:nU)->Option {f:aa->aa->ae->(aa->ae->Prop)->Prop//hV Z op f}
 | .Add=>some ⟨ce,sJ⟩| .Sub=>some ⟨fG,Zx⟩| .Mult=>some ⟨kf,aaX⟩| .Mod=>some ⟨kj,Zy⟩| .FloorDiv=>some ⟨mi,Zz⟩| .Pow=>some ⟨Af,ZB⟩| .RShift=>some ⟨qE,ZC⟩| .LShift=>some ⟨Ag,ZD⟩| .BitAnd=>some ⟨qF,ZE⟩| .BitOr=>some ⟨sW,ZF⟩|_=>none
def ad4:(op:nU)->Option {f:aa->aa->ae->(aa->ae->Prop)->Prop//sC Z op f}
 | .Add=>some ⟨Ip,aas⟩| .RShift=>some ⟨qE,aat⟩|_=>none
def IJ:(op:CmpOp)->Option {f:aa->aa->ae->(Bool->Prop)->Prop//hW Z op f}
 | .Lt=>some ⟨h7,ZL⟩| .LtE=>some ⟨oK,ZM⟩| .Gt=>some ⟨gi,ZN⟩| .GtE=>some ⟨qG,ZO⟩| .Eq=>some ⟨eI,Hh⟩| .NotEq=>some ⟨du,vJ⟩| .In=>some ⟨sN,aaZ⟩| .NotIn=>some ⟨zB,aa0⟩|_=>none
structure ad5 (n:ax) where
 rc:ln
 B:e8
 id:String
 m:lG Z n id rc
 p:fY Z (.builtin id) B
def row {P:ax->Type}:List (Σ n:ax,P n)->(n:ax)->Option (P n)
 | [],_=>none
 |q::r,n=>if h:q.1=n then some (h▸q.2) else row r n
def ad6:List (Σ n:ax,ad5 Z n):=[⟨"append",dX,fj,_,adw,Hb⟩,⟨"pop",dX,l7,_,adx,aaR⟩,⟨"reverse",dX,vF,_,ady,aaS⟩,⟨"add",zw,zy,_,aaP,aaT⟩,⟨"get",oA,oB,_,aaQ,aaU⟩,⟨"to_bytes",qp,qt,_,G9,Hd⟩,⟨"join",vE,vM,_,abK,abL⟩]
structure IK (y:ax) where
 B:e8
 v:ai
 e:nZ y=some v
 p:fY Z v B
 n:y≠ "__name__"
 k:∀h:bk,True->∃k,(k=Keeper.frame\/k=rA\/k=rB)/\ik (aG Z.prog Z.w) h (pH v) k
def ml {y:ax} {v:ai} {B:e8} (p:fY Z v B) (e:nZ y=some v) (n:y≠ "__name__") (k:∀h:bk,True->∃k,(k=Keeper.frame\/k=rA\/k=rB)/\ik (aG Z.prog Z.w) h (pH v) k:=by intro _ _;exact⟨.machine,.inr (.inl rfl),.now⟩):Σ n:ax,IK Z n:=⟨y,B,v,e,p,n,k⟩
def ad7:List (Σ n:ax,IK Z n):=[ml Z (y:="len") aax (by decide+kernel) ∅,ml Z (y:="max") aaJ (by decide+kernel) ∅,ml Z (y:="min") aaK (by decide+kernel) ∅,ml Z (y:="sum") G8 (by decide+kernel) ∅,ml Z (y:="sorted") aaO (by decide+kernel) ∅,ml Z (y:="list") aaM (by decide+kernel) ∅,ml Z (y:="set") aaN (by decide+kernel) ∅,ml Z (y:="bytes") aaH (by decide+kernel) ∅,ml Z (y:="bytearray") aaI (by decide+kernel) ∅]
end
end
noncomputable section
section
variable (L:Program) (w:World) (r:Shared)
abbrev ad8 (n:ax):={m:Nat->Option Nat// ∀c f,m c=some f->∃a fa,lj (bR L w r) c a/\vv (bR L w r) eK c a n f fa}
def ad9:List (Σ n:ax,ad8 L w r n):=IF.pmap (λq h=>⟨q.1,aN q.2.1 q.2.2,λ_ _=>Ak (P:=λc f=>∃a fa,lj (bR L w r) c a/\vv (bR L w r) eK c a q.1 f fa) (adY h)⟩) (dc.mp (adZ _))
abbrev IL (n:ax):={q:Nat×Nat// ∃a,lj (bR L w r) q.1 a/\a.fields[q.2]? =some n}
def IM (n:ax):List (Σ' q:Nat×hO,lj (bR L w r) q.1 q.2)->Option (IL L w r n)
 | []=>none
 |p::l=>match v6 n p.1.2.fields with
  |some j=>some ⟨(p.1.1,j.1),p.1.2,p.2,j.2⟩
  |none=>IM n l
def IN (n:ax):Option (IL L w r n):=IM L w r n [⟨(0,_),qI rfl⟩,⟨(1,_),qI rfl⟩,⟨(3,_),qI rfl⟩,⟨(4,_),qI rfl⟩,⟨(5,_),qI rfl⟩]
structure Aq where
 cl:Nat
 f:Nat
 kI:hO
 kd:aq
 ok:l9 (bR L w r) eK cl kI f kd
 k:mU (hd.heap_39 w.params) (.ref kI.addr)=true
def IP (a:aq):List (Aq L w r)->Option {q:Aq L w r//q.kI.addr=a}
 | []=>none
 |q::l=>if h:q.kI.addr=a then some ⟨q,h⟩ else IP a l
def aea:List (Aq L w r):=[⟨_,_,_,_,adL L w r,lr (c:=0) rfl⟩,⟨_,_,_,_,adM L w r,lr (c:=1) rfl⟩,⟨_,_,_,_,adN L w r,lr (c:=2) rfl⟩,⟨_,_,_,_,adO L w r,lr (c:=3) rfl⟩,⟨_,_,_,_,adP L w r,lr (c:=4) rfl⟩,⟨_,_,_,_,adQ L w r,lr (c:=5) rfl⟩]
end
section
variable {L:Program} {w:World} {r:Shared} (V:bb) {d:Nat} {C:ak} (hC:hZ (bR L w r) eK d C)
abbrev ls (L:d4) (w:dU) (r:al) (V:bb) (d:Nat) (e:aH):=Option {t:a7//bF (bR L w r) (8*d+8) V t e}
abbrev IQ (L:d4) (w:dU) (r:al) (V:bb) (d:Nat) (e:aH):=Option {t:de//hT (bR L w r) (8*d+8) V t e}
abbrev aeb (L:d4) (w:dU) (r:al) (V:bb) (d:Nat) (D:List aH):=Option {t:LT//iv (bR L w r) (8*d+8) V t D/\D.all gn=true}
structure Ar (L:d4) (w:dU) (r:al) (V:bb) (d:Nat) where
 E:(e:aH)->ls L w r V d e
 B:(e:aH)->IQ L w r V d e
variable (R:Ar L w r V d)
def oR (y:ax) (k:Bool) (u:hH):Option {i:Nat//V.slots[i]? =some (y,k)/\V.scope.names.lookup y=some u/\(y==("__debug__" :ax))=false}:=
 (II y k V.slots).bind λi=>(Ap (V.scope.names.lookup y) u).bind λh=>(mj (y==("__debug__" :ax))).map λg=>⟨i.1,i.2,h.1,g.1⟩
def IR (y:ax) (a:aX) (u:hH) (b:∀{o},o=some u->o=some .cell\/o=some .free):ls L w r V d (.Name y a):=
 (oR V y true u).bind λi=>(mj (y==("__classdict__" :ax))).map λg=>⟨b4 i.1,Zu i.2.1 (b i.2.2.1) i.2.2.2 g.1⟩
def cInt (y:ax) (a:aX) (b:V.scope.names.lookup y=some .globalImplicit):(g:Option (Option ai))->fL (bR L w r).K eU y=g->ls L w r V d (.Name y a)
 |some (some (.int i _)),h=>(mj (y==("__debug__" :ax))).map λg=>⟨au i,Zv h b g.1⟩
 |_,_=>none
def aec (y:ax) (a:aX):(k:Option hH)->V.scope.names.lookup y=k->ls L w r V d (.Name y a)
 |some .local,_=>(oR V y false .local).map λi=>⟨bH i.1,Zr i.2.1 i.2.2.1 i.2.2.2⟩
 |some .cell,_=>IR V y a .cell .inl
 |some .free,_=>IR V y a .free .inr
 |some .globalImplicit,h=>cInt V y a h _ rfl
 |_,_=>none
def aed (n:Nat) (a:aX):(c:Const)->ls L w r V d (.Constant c n a)
 | .int i=>some ⟨au i,Zm⟩
 | .bool b=>some ⟨hU b,Zn⟩
 | .none=>some ⟨y7,Zo⟩
 | .str y=>(v6 y mB).map λj=>⟨fX j.1,Zp j.2⟩
 | .bytes y=>some ⟨so _,Zq rfl⟩
 |_=>none
def qJ:(D:List aH)->aeb L w r V d D
 | []=>some ⟨bf,gX,rfl⟩
 |e::D=>(R.E e).bind λt=>(qJ D).bind λa=>(s5 (gn e)).map λh=>⟨cG t.1 a.1,eW t.2 a.2.1 h.1,ii.trans (congr (congrArg and h.1) a.2.2)⟩
def IS:(e:Option aH)->Option {t:oz//sF (bR L w r) (8*d+8) V t e}
 |none=>some ⟨iN,aay⟩
 |some e=>(R.E e).map λt=>⟨fF t.1,aaz t.2⟩
include hC in
def aee (y:ax) (D:List aH) (p i:aX) (b:{t:LT//iv (bR L w r) (8*d+8) V t D/\D.all gn=true}) (c:V.scope.names.lookup y=some .globalImplicit) (e:(y==("__debug__" :ax))=false):
  (g:Option (Option ai))->fL (bR L w r).K eU y=g->ls L w r V d (.Call (.Name y p) D [] i)
 |some (some (.ref a)),h=>(match v6 a Ai with
  |some f=>(s5 (mU (bR L w r).K (.ref a))).map λk=>⟨aS C f.1 b.1,qi hC f.2 b.2.1 k.1 h c e b.2.2⟩
  |none=>(IP L w r a (aea L w r)).map λq=>⟨jl C q.1.cl q.1.f b.1,abr hC q.1.ok b.2.1 q.1.k (h.trans (congrArg (λa=>some (some (Value.ref a))) q.2.symm)) c e b.2.2⟩)
 |some none,h=>(row (ad7 (bR L w r)) y).map λq=>⟨bQ q.B b.1,GP b.2.1 q.p h q.e c q.n e b.2.2 q.k⟩
 |_,_=>none
def aef (y:ax) (D:List aH) (p a:aX):ls L w r V d (.Call (.Name y p) D [] a):=
 (qJ V R D).bind λb=>(Ap (V.scope.names.lookup y) .globalImplicit).bind λc=>(mj (y==("__debug__" :ax))).bind λe=>aee V hC y D p a b c.1 e.1 _ rfl
def aeg (o:aH) (n:ax) (j:aX) (D:List aH) (b:aX):ls L w r V d (.Call (.Attribute o n j) D [] b):=
 (R.E o).bind λt=>(qJ V R D).bind λa=>(IH n j o).bind λc=>(s5 (Nat.ble (D.length+1) 30)).bind λe=>(s5 (j.endLine==b.line)).bind λf=>match row (ad9 L w r) n with
  |some m=>some ⟨bZ C t.1 m.1 a.1,aab hC t.2 a.2.1 m.2 c.1.2 a.2.2 (bg e.1) f.1⟩
  |none=>(row (ad6 (bR L w r)) n).map λq=>⟨df q.rc q.B t.1 a.1,Ha t.2 a.2.1 q.m q.p c.1.2 a.2.2 (bg e.1) f.1⟩
def aeh (e:aH) (a:aX):(i:aH)->ls L w r V d (.Subscript e i a)
 | .Slice z b none _=>(R.E e).bind λt=>(IS V R z).bind λl=>(IS V R b).map λh=>⟨gB t.1 l.1 h.1,aaC t.2 l.2 h.2⟩
 |i=>(R.E e).bind λt=>(R.E i).bind λu=>(ad1 i).map λh=>⟨bu t.1 u.1 bT,aaw t.2 u.2 aav h.1⟩
def aei:(e:aH)->ls L w r V d e
 | .Name y k=>aec V y k _ rfl
 | .Constant c n k=>aed V n k c
 | .BinOp a op b _=>(R.E a).bind λt=>(R.E b).bind λu=>(ad3 (bR L w r) op).map λf=>⟨aU op t.1 u.1 f.1,sp t.2 u.2 f.2⟩
 | .UnaryOp .USub a _=>(R.E a).map λt=>⟨gW t.1,Z2 t.2⟩
 | .IfExp a b c _=>(R.B a).bind λt=>(R.E b).bind λu=>(R.E c).map λv=>⟨l5 t.1 u.1 v.1,GA t.2 u.2 v.2⟩
 | .List D _=>(qJ V R D).map λl=>⟨dP l.1,He l.2.1⟩
 | .Tuple D _ _=>(qJ V R D).map λl=>⟨fP l.1,vG l.2.1⟩
 | .Dict [] [] _=>some ⟨vH,aaV⟩
 | .Compare a [op] [b] _=>(R.E a).bind λt=>(R.E b).bind λu=>(IJ (bR L w r) op).bind λf=>(mj (ry op b)).map λh=>⟨jL t.1 u.1 f.1,Gy t.2 u.2 f.2 h.1⟩
 | .BoolOp .Or [a,b] _=>(R.E a).bind λt=>(R.E b).map λu=>⟨vr t.1 u.1,Z1 t.2 u.2⟩
 | .BoolOp .And [a,b] _=>(R.E a).bind λt=>(R.E b).map λu=>⟨vq t.1 u.1,Z0 t.2 u.2⟩
 | .Attribute e n k=>(R.E e).bind λt=>(IN L w r n).bind λq=>(IH n k e).map λh=>⟨br t.1 q.1.1 q.1.2,q.2.elim λ_ g=>Z4 t.2 g.1 g.2 h.1.1⟩
 | .Subscript e i k=>aeh V R e k i
 | .Call (.Name y p) D [] k=>aef V hC R y D p k
 | .Call (.Attribute o n j) D [] k=>aeg V hC R o n j D k
 |_=>none
def As:(op:BoolOp)->(D:List aH)->Option {t:de//ni (bR L w r) (8*d+8) V op t D}
 |_,[]=>none
 | .Or,[e]=>(R.B e).map λt=>⟨t.1,y9 t.2⟩
 | .And,[e]=>(R.B e).map λt=>⟨t.1,ZY t.2⟩
 | .Or,e::W::D=>(R.B e).bind λt=>(As .Or (W::D)).map λu=>⟨fq t.1 u.1,za t.2 u.2⟩
 | .And,e::W::D=>(R.B e).bind λt=>(As .And (W::D)).map λu=>⟨qg t.1 u.1,ZZ t.2 u.2⟩
def aej:(e:aH)->IQ L w r V d e
 | .BoolOp op D _=>(As V R op D).map λt=>⟨t.1,zb t.2⟩
 | .UnaryOp .Not e _=>(R.B e).map λt=>⟨kH t.1,ZW t.2⟩
 | .Compare a [op] [b] _=>(R.E a).bind λt=>(R.E b).bind λu=>(IJ (bR L w r) op).bind λf=>(mj (ry op b)).map λh=>⟨bi t.1 u.1 f.1,vp t.2 u.2 f.2 h.1⟩
 |e=>(R.E e).bind λt=>(ad0 e).map λh=>⟨gV t.1,ZX t.2 h.1.2⟩
def nv:Nat->Ar L w r V d
 |0=>⟨λ_=>none,λ_=>none⟩
 |n+1=>⟨aei V hC (nv n),aej V (nv n)⟩
end
end
noncomputable section
section
variable {L:Program} {w:World} {r:Shared} (V:bb) {d:Nat} {C:ak} (R:Ar L w r V d) (nd:(V.slots.map (·.1)).Nodup)
abbrev qK (L:d4) (w:dU) (r:al) (V:bb) (d:Nat) (s:eT):=Option {t:ST//fC (bR L w r) (8*d+8) V t s}
abbrev IT (L:d4) (w:dU) (r:al) (V:bb) (d:Nat) (j:List eT):=Option {t:ST//eb (bR L w r) (8*d+8) V t j}
variable (F:(j:List Stmt)->IT L w r V d j)
def At (y:ax):List (ax×Bool)->Nat
 | []=>0
 |p::l=>if p.1=y then 0 else At y l+1
def IU:(a:List aH)->Option {b:List Nat// ∃I,b9 (λi y=>ma V y i=true) b I/\zK a I}
 | []=>some ⟨[],[],.nil,.nil⟩
 | .Name y p::l=>(IU l).bind λq=>(s5 (ma V y (At y V.slots))).map λh=>⟨At y V.slots::q.1,q.2.elim λI g=>⟨y::I,.cons h.1 g.1,.cons ⟨p,rfl⟩ g.2⟩⟩
 |_=>none
def aek (e f:aH) (p a:aX):(D:aH)->qK L w r V d (.Assign [.Subscript f D p] e a)
 | .Slice (some b) (some c) none _=>(R.E e).bind λt=>(R.E f).bind λo=>(R.E b).bind λl=>(R.E c).bind λu=>(oQ e).map λh=>⟨zZ t.1 o.1 l.1 u.1,acL t.2 o.2 l.2 u.2 λ_ _=>h.1.1 _ _ _⟩
 |D=>(R.E e).bind λt=>(R.E f).bind λo=>(R.E D).bind λi=>(oQ e).map λh=>⟨l8 t.1 o.1 i.1,abe t.2 o.2 i.2 λ_ _=>h.1.1 _ _ _⟩
def ael (e:aH) (b:aX):(t:aH)->qK L w r V d (.Assign [t] e b)
 | .Name y p=>(R.E e).bind λt=>(oQ e).bind λh=>((oR V y false .local).map λi=>⟨bc i.1 t.1,sB t.2 nd i.2.1 i.2.2.1 λ_=>h.1.1 _ _ _⟩).or ((oR V y true .cell).map λi=>⟨qk i.1 t.1,aar t.2 i.2.1 i.2.2.1 λ_ _=>h.1.1 _ _ _⟩)
 | .Attribute f n p=>(R.E e).bind λt=>(R.E f).bind λo=>(IN L w r n).bind λq=>(oQ e).map λh=>⟨fQ q.1.1 q.1.2 t.1 o.1,q.2.elim λ_ g=>aa9 t.2 o.2 g.1 g.2 λ_ _=>h.1.1 _ _ _⟩
 | .Subscript f D p=>aek V R e f p b D
 | .Tuple a k s=>(R.E e).bind λt=>(IU V a).bind λq=>(ad2 V a k s e).bind λu=>(oQ e).map λh=>⟨ki V q.1 t.1,q.2.elim λ_ g=>abX t.2 nd g.1 g.2 u.1 λv=>h.1.1 (some (.Tuple a k s)) b.line v⟩
 |_=>none
def aem (y:ax) (p e f:aX) (D:List aH) (j:List eT) (h:aX):qK L w r V d (.For (.Name y p) (.Call (.Name "range" e) D [] f) j [] h):=
 (qJ V R D).bind λa=>(F j).bind λb=>(oR V y false .local).bind λi=>(Ap (V.scope.names.lookup ("range" :ax)) .globalImplicit).bind λg=>(mj V.comp).map λc=>⟨jk V i.1 a.1 b.1,abn a.2.1 b.2 nd i.2.1 i.2.2.1 (qH _) g.1 c.1 a.2.2⟩
def IV (y:ax) (p:aX) (a:aH) (j:List eT) (e:aX):qK L w r V d (.For (.Name y p) a j [] e):=
 (R.E a).bind λt=>(F j).bind λb=>(oR V y false .local).bind λi=>(mj V.comp).bind λc=>(oQ a).map λh=>⟨jO V i.1 t.1 b.1,abm t.2 b.2 nd i.2.1 i.2.2.1 c.1 h.1.2⟩
def aen (y:ax) (p:aX) (j:List eT) (b:aX):(c:aH)->qK L w r V d (.For (.Name y p) c j [] b)
 | .Call (.Name a e) D [] f=>if h:a="range" then h▸aem V R nd F y p e f D j b else IV V R nd F y p _ j b
 |c=>IV V R nd F y p c j b
def IW:(s:eT)->qK L w r V d s
 | .Assign [t] e g=>ael V R nd e g t
 | .AugAssign (.Name y p) op e g=>(R.E e).bind λt=>(ad4 (bR L w r) op).bind λf=>(oR V y false .local).map λi=>⟨ox i.1 t.1 f.1,aau t.2 f.2 nd i.2.1 i.2.2.1⟩
 | .Expr e g=>(R.E e).bind λt=>(oQ e).map λh=>⟨cA t.1,GN t.2 λ_=>h.1.1 _ _ _⟩
 | .Return none g=>some ⟨zl,aap⟩
 | .Return (some e) g=>(R.E e).map λt=>⟨bj t.1,l6 t.2⟩
 | .If e j u g=>(R.B e).bind λt=>(F j).bind λa=>(F u).map λb=>⟨bY t.1 a.1 b.1,ow t.2 a.2 b.2⟩
 | .For (.Name y p) k j [] g=>aen V R nd F y p j g k
 | .While e j [] g=>(R.B e).bind λt=>(F j).bind λb=>(mj V.comp).map λc=>⟨qu V t.1 b.1,Hs t.2 b.2 c.1⟩
 | .Raise .. =>some ⟨gA,aao⟩
 |_=>none
def s6:Nat->(j:List eT)->IT L w r V d j
 |0,_=>none
 |_,[]=>some ⟨ar,jg⟩
 |n+1,s::j=>(IW V R nd (s6 n) s).bind λt=>(s6 n j).map λu=>⟨ah t.1 u.1,ci t.2 u.2⟩
end
section
variable {L:Program} {w:World} {r:Shared} {V:bb} {d:Nat} {C:ak}
theorem v7 {d:Type} {p:d->Prop} {o:Option {t:d//p t}} {T:d} (h:o.map (·.1)=some T):p T:=by
 induction o with
 |none=>contradiction
 |some t=>obtain rfl:=bl h;exact t.2
theorem cD {e:aH} {t:a7} (a:hZ (bR L w r) eK d C) (h:((nv V a 20).E e).map (·.1)=some t:=by kernel_rfl):bF (bR L w r) (8*d+8) V t e:=v7 (p:=λt=>bF (bR L w r) (8*d+8) V t e) h
theorem oS {e:aH} {t:de} (a:hZ (bR L w r) eK d C) (h:((nv V a 20).B e).map (·.1)=some t:=by kernel_rfl):hT (bR L w r) (8*d+8) V t e:=v7 (p:=λt=>hT (bR L w r) (8*d+8) V t e) h
theorem es {s:eT} {t:ST} (a:hZ (bR L w r) eK d C) (b:(V.slots.map (·.1)).Nodup) (h:(IW V (nv V a 20) b (s6 V (nv V a 20) b 40) s).map (·.1)=some t:=by kernel_rfl):fC (bR L w r) (8*d+8) V t s:=v7 (p:=λt=>fC (bR L w r) (8*d+8) V t s) h
theorem gE {j:List eT} {t:ST} (a:hZ (bR L w r) eK d C) (b:(V.slots.map (·.1)).Nodup) (h:(s6 V (nv V a 20) b 40 j).map (·.1)=some t:=by kernel_rfl):eb (bR L w r) (8*d+8) V t j:=v7 (p:=λt=>eb (bR L w r) (8*d+8) V t j) h
end
abbrev s7 (Z:bx) (F:bd) (fa:aq):Prop:=∃a b c N d e f ct g h i j,GI Z eK F fa a b c N d e f ct g h i j
def Au (F:bd):Bool:=F.bA.scope.kind== .function&&(!F.bA.scope.isGenerator&&(!F.bA.scope.isCoroutine&&(F.bA.slots.all (λp=>F.bA.scope.names.lookup p.1==some (if p.2 then NameKind.cell else NameKind.local))&&(decide ((F.bA.slots.map (·.1)).Nodup)&&(Nat.ble F.jf F.bA.slots.length&& !F.lam)))))
theorem g6 {L:d4} {w:dU} {r:al} {F:bd} {fa:aq} {i d:ax} {k:rD} {N:List eT} {l m f ct u:ai} {s v:Option aq} {x:Array (Option ai)}
  (j:(hd.heap_39 w.params).lookup fa=some ⟨u,v,.func (fnOf i d k N F.bA.scope .none .none l m s f ct),x⟩)
  (b:∀g:List ai,g.length=F.jf->rC (fnOf i d k N F.bA.scope .none .none l m s f ct) ⟨g,[]⟩=pure ((F.bA.slots.map (·.1)).zip g))
  (c:∀n C,hZ (bR L w r) eK n C->nj (bR L w r) n C->(F.bA.slots.map (·.1)).Nodup->eb (bR L w r) (8*n+8) F.bA (F.T C) N)
  (h:Au F=true:=by kernel_rfl) (a:codeIn (hd.heap_39 w.params) f d=true:=by kernel_rfl)
  (hq:F.bA.code=none\/F.bA.code=some (f,d++ ".<locals>."):=by exact .inl rfl):s7 (bR L w r) F fa:=by
 simp only [Au,eC,asG] at h;refine uw h λy z A B D G O=> ?_;have t:=of_decide_eq_true D;refine P4 _ _ _ _ _ _ _ _ _ _ _ _ ⟨j,a,b,λn C E H=>c n C E H t,eq_of_beq y,z,A,λp I=>eq_of_beq (dc.mp B p I),t,bg G,O,λq o=> ?_⟩;rcases hq with e|e
 ·rw [e] at o;contradiction
 ·rw [e] at o;obtain rfl:=bl o.symm;rfl
theorem cf {L:d4} {w:dU} {r:al} {F:bd} {fa:aq} {i c:ax} {l:rD} {N:List eT} {m o d ct q:ai} {p s:Option aq} {t:Array (Option ai)}
  (j:(hd.heap_39 w.params).lookup fa=some ⟨q,s,.func (fnOf i c l N F.bA.scope .none .none m o p d ct),t⟩)
  (b:∀g:List ai,g.length=F.jf->rC (fnOf i c l N F.bA.scope .none .none m o p d ct) ⟨g,[]⟩=pure ((F.bA.slots.map (·.1)).zip g))
  (k:∀n C (e:hZ (bR L w r) eK n C) (f:(F.bA.slots.map (·.1)).Nodup),(s6 F.bA (nv F.bA e 20) f 40 N).map (·.1)=some (F.T C):=by intros;kernel_rfl)
  (h:Au F=true:=by kernel_rfl) (a:codeIn (hd.heap_39 w.params) d c=true:=by kernel_rfl)
  (hq:F.bA.code=none\/F.bA.code=some (d,c++ ".<locals>."):=by exact .inl rfl):s7 (bR L w r) F fa:=g6 j b (λn C e _ f=>gE e f (k n C e f)) h a hq
abbrev bJ (F:bd) (fa:aq):Prop:=∀{L:d4} {w:dU} {r:al},s7 (bR L w r) F fa
end
noncomputable section
def Av:=bI ["n","rest","found","turn"] ["WORD","range","bytes"]
def aeo:=cA (df dX fj aW (aD (aU .BitOr (aU .BitAnd aF (au 127) qF) (au 128) sW)))
def aep:=ah aeo (ah (ox 1 (au 7) qE) ar)
def aeq:=ah (jk Av 3 (aD (au 8)) aep) ar
def aer:=cA (df dX fj aW (aD (aU .BitAnd aF (au 255) qF)))
def aes:=ah aer (ah (ox 1 (au 8) qE) aeq)
def aet:=cA (df dX fj aW (aD (aU .BitOr (aU .BitAnd aF (au 127) qF) (au 128) sW)))
def aeu:=ah aet (ah (ox 1 (au 7) qE) ar)
def aev:=qu Av (bi aF (au 0) gi) aeu
def aew:=ah (ox 1 (au 7) qE) (ah aev ar)
def aex:=cA (df dX fj aW (aD (aU .BitAnd aF (au 127) qF)))
def aey:=ah (bj (bQ iw (aD aW))) ar
def aez:=ah (cA (df dX vF aW bf)) aey
def aeA:=bY (bi aF (aU .Pow (au 2) (au 56) Af) qG) aes (ah aex aew)
def aeB:=ah (bc 2 (dP bf)) (ah aeA aez)
def aeC:=bc 1 (aU .Mod x0 (au 18446744073709551616) kj)
def T0 (C:ak):ST:=ah aeC aeB
def IX:bd:=⟨Av,1,T0,false⟩
theorem aeD:bJ IX 72:=cf rfl eJ
def IY:=bI ["octets","at","number","turn","octet"] ["range","len","CorruptError"]
def aeE:=bj (fP (a0 (aU .BitOr (aU .LShift aW (au 8) Ag) b7 sW) aF))
def aeF:=bj (fP (a0 aW aF))
def aeG:=bY (bi b7 (au 128) h7) (ah aeF ar) ar
def aeH:=bc 2 (aU .BitOr (aU .LShift aW (au 7) Ag) (aU .BitAnd b7 (au 127) qF) sW)
def aeI:=bY (bi bG (au 8) eI) (ah aeE ar) ar
def aeJ:=ah aeI (ah aeH (ah aeG ar))
def aeK:=ah (bc 4 (bu x0 aF bT)) (ah (ox 1 (au 1) Ip) aeJ)
def aeL:=bY (bi aF (bQ dD (aD x0)) qG) (ah gA ar) ar
def aeM:=jk IY 3 (aD (au 9)) (ah aeL aeK)
def aeN:=ah (bc 2 (au 0)) (ah aeM (ah gA ar))
def aeO (C:ak):ST:=aeN
def IZ:bd:=⟨IY,2,aeO,false⟩
theorem aeP:bJ IZ 79:=cf rfl ec
def aeQ:=bI ["n"] ["WORD"]
def aeR:=bj (aU .Sub x0 (au 18446744073709551616) fG)
def aeS:=bY (bi x0 (aU .FloorDiv (au 18446744073709551616) (au 2) mi) qG) (ah aeR ar) ar
def aeT (C:ak):ST:=ah aeS (ah (bj x0) ar)
def I0:bd:=⟨aeQ,1,aeT,false⟩
theorem aeU:bJ I0 86:=cf rfl eJ
def aeV:=bI ["octets","at"] []
def aeW:=bj (aU .Add (aU .Mult (bu x0 aF bT) (au 256) kf) (bu x0 (aU .Add aF (au 1) ce) bT) ce)
def aeX (C:ak):ST:=ah aeW ar
def I1:bd:=⟨aeV,2,aeX,false⟩
theorem aeY:bJ I1 94:=cf rfl ec
def aeZ:=bI ["octets","at"] ["two_at"]
def ae0 (C:ak):=bj (aU .Add (aU .Mult (aS C 3 (a0 x0 aF)) (au 65536) kf) (aS C 3 (a0 x0 (aU .Add aF (au 2) ce))) ce)
def ae1 (C:ak):ST:=ah (ae0 C) ar
def I2:bd:=⟨aeZ,2,ae1,false⟩
theorem ae2:bJ I2 101:=cf rfl ec
def ae3:=bI ["octets","at","number"] []
def ae4:=l8 (aU .Mod aW (au 256) kj) x0 (aU .Add aF (au 1) ce)
def ae5:=l8 (aU .FloorDiv aW (au 256) mi) x0 aF
def ae6 (C:ak):ST:=ah ae5 (ah ae4 ar)
def I3:bd:=⟨ae3,3,ae6,false⟩
theorem ae7:bJ I3 108:=cf rfl iQ
def ae8:=bI ["octets","at","number"] ["put_two"]
def ae9 (C:ak):=cA (aS C 5 (cK x0 (aU .Add aF (au 2) ce) (aU .Mod aW (au 65536) kj)))
def afa (C:ak):=cA (aS C 5 (cK x0 aF (aU .FloorDiv aW (au 65536) mi)))
def afb (C:ak):ST:=ah (afa C) (ah (ae9 C) ar)
def I4:bd:=⟨ae8,3,afb,false⟩
theorem afc:bJ I4 115:=cf rfl iQ
def afd:=bI ["number","found"] ["bytearray","put_four","bytes"]
def afe:=ah (bj (bQ iw (aD aF))) ar
def aff (C:ak):=cA (aS C 6 (cK aF (au 0) x0))
def afg (C:ak):=ah (bc 1 (bQ zt (aD (au 4)))) (ah (aff C) afe)
def afh (C:ak):ST:=afg C
def I5:bd:=⟨afd,1,afh,false⟩
theorem afi:bJ I5 122:=cf rfl eJ
def afj:=bI ["kind"] ["LEAF_ROWS","LEAF_KEYS"]
def afk:=bj (vr (jL x0 (au 13) eI) (jL x0 (au 10) eI))
def afl (C:ak):ST:=ah afk ar
def I6:bd:=⟨afj,1,afl,false⟩
theorem afm:bJ I6 129:=cf rfl eJ
def afn:=bI ["kind"] ["LEAF_ROWS","INNER_ROWS"]
def afo:=bj (vr (jL x0 (au 13) eI) (jL x0 (au 5) eI))
def afp (C:ak):ST:=ah afo ar
def I7:bd:=⟨afn,1,afp,false⟩
theorem afq:bJ I7 136:=cf rfl eJ
def afr:=bI ["kind"] ["is_leaf_node_view"]
def afs (C:ak):=bY (gV (aS C 8 (aD x0))) (ah (bj (au 8)) ar) ar
def aft (C:ak):ST:=ah (afs C) (ah (bj (au 12)) ar)
def I8:bd:=⟨afr,1,aft,false⟩
theorem afu:bJ I8 143:=cf rfl eJ
def afv:=bI ["kind","usable"] ["LEAF_ROWS","max"]
def afw:=ah (bj (aU .Sub aF (au 35) fG)) ar
def afx:=bj (bQ sH (a0 (au 1) (aU .Sub (aU .FloorDiv (aU .Sub aF (au 12) fG) (au 4) mi) (au 12) fG)))
def afy:=bY (bi x0 (au 13) eI) afw ar
def afz (C:ak):ST:=ah afy (ah afx ar)
def I9:bd:=⟨afv,2,afz,false⟩
theorem afA:bJ I9 150:=cf rfl ec
def i12:=bI ["usable"] ["max"]
def afB:=bj (bQ sH (a0 (au 0) (aU .Sub (aU .FloorDiv (aU .Sub x0 (au 12) fG) (au 8) mi) (au 12) fG)))
def afC (C:ak):ST:=ah afB ar
def Ja:bd:=⟨i12,1,afC,false⟩
theorem afD:bJ Ja 157:=cf rfl eJ
def afE:=bI ["kind","usable","size","most","least","surplus"] ["max_local","min_local"]
def afF:=bY (bi cu bG oK) (ah (bj cu) ar) ar
def afG:=bc 5 (aU .Add b7 (aU .Mod (aU .Sub aW b7 fG) (aU .Sub aF (au 4) fG) kj) ce)
def afH:=ah afG (ah afF (ah (bj b7) ar))
def afI (C:ak):=ah (bc 4 (aS C 12 (aD aF))) afH
def afJ:=bY (bi aW bG oK) (ah (bj aW) ar) ar
def afK (C:ak):=bc 3 (aS C 11 (a0 x0 aF))
def afL (C:ak):ST:=ah (afK C) (ah afJ (afI C))
def Jb:bd:=⟨afE,3,afL,false⟩
theorem afM:bJ Jb 164:=cf rfl iQ
end
noncomputable section
def afN:=bI ["self","child","rowid","size","local","overflow"] []
def afO:=ah (fQ 4 3 b7 x0) (ah (fQ 4 4 cu x0) ar)
def afP:=ah (fQ 4 1 aW x0) (ah (fQ 4 2 bG x0) afO)
def afQ (C:ak):ST:=ah (fQ 4 0 aF x0) afP
def Jc:bd:=⟨afN,6,afQ,false⟩
theorem afR:bJ Jc 178:=cf rfl Is
def afS:=bI ["self"] ["len"]
def afT:=bj (aU .Sub (br x0 4 2) (bQ dD (aD (br x0 4 3))) fG)
def afU (C:ak):ST:=ah afT ar
def Jd:bd:=⟨afS,1,afU,false⟩
theorem afV:bJ Jd 185:=cf rfl eJ
def v8:=bI ["octets","at","kind","usable","child","rowid","overflow","number","size","many","local"] ["is_leaf_node_view","len","CorruptError","four_at","INNER_ROWS","get_varint","Cell","signed","LEAF_ROWS","local_size","bytes"]
def afW:=ah (bc 1 (aU .Add aF (au 4) ce)) ar
def afX (C:ak):=bc 4 (aS C 4 (a0 x0 aF))
def afY:=bY (bi (aU .Add aF (au 4) ce) (bQ dD (aD x0)) gi) (ah gA ar) ar
def afZ (C:ak):=bj (fP (a0 (jl C 4 14 (e9 b7 (aS C 2 (aD c1)) (au 0) (so []) (au 0))) aF))
def af0 (C:ak):=ki v8 [7,1] (aS C 1 (a0 x0 aF))
def af1 (C:ak):=ah (bc 5 (aS C 2 (aD c1))) ar
def af2 (C:ak):=ki v8 [7,1] (aS C 1 (a0 x0 aF))
def af3:=ah (bc 1 (aU .Add aF (au 4) ce)) ar
def af4 (C:ak):=bc 6 (aS C 4 (a0 x0 aF))
def af5:=bY (bi (aU .Add aF (au 4) ce) (bQ dD (aD x0)) gi) (ah gA ar) ar
def af6 (C:ak):=bj (fP (a0 (jl C 4 14 (e9 b7 cu dZ v2 dw)) aF))
def af7:=bY (fq (bi aF (bQ dD (aD x0)) gi) (bi (bQ dD (aD v2)) ey h7)) (ah gA ar) ar
def af8 (C:ak):=bY (bi ey dZ h7) (ah af5 (ah (af4 C) af3)) ar
def af9 (C:ak):=ah (af8 C) (ah af7 (ah (af6 C) ar))
def Je (C:ak):=ah (bc 1 (aU .Add aF ey ce)) (af9 C)
def Jf (C:ak):=bc 10 (bQ iw (aD (gB x0 (fF aF) (fF (aU .Add aF ey ce)))))
def Jg (C:ak):=bc 9 (aS C 13 (cK aW bG dZ))
def aga (C:ak):=bY (bi aW (au 13) eI) (ah (af2 C) (af1 C)) ar
def agb (C:ak):=ah (aga C) (ah (Jg C) (ah (Jf C) (Je C)))
def agc (C:ak):=ki v8 [8,1] (aS C 1 (a0 x0 aF))
def agd (C:ak):=bY (bi aW (au 5) eI) (ah (af0 C) (ah (afZ C) ar)) ar
def age (C:ak):=bY (kH (gV (aS C 8 (aD aW)))) (ah afY (ah (afX C) afW)) ar
def agf (C:ak):=ah (age C) (ah (agd C) (ah (agc C) (agb C)))
def agg (C:ak):=ah (bc 5 y7) (ah (bc 6 (au 0)) (agf C))
def agh (C:ak):ST:=ah (bc 4 (au 0)) (agg C)
def Jh:bd:=⟨v8,4,agh,false⟩
theorem agi:bJ Jh 206:=cf rfl oO
def agj:=bI ["self","octets","page","usable"] ["bytearray","HEADER_SIZE"]
def agk:=bY (bi aW (au 1) eI) (ah (fQ 3 3 (au 32) x0) ar) ar
def agl:=ah (fQ 3 3 (au 0) x0) (ah agk ar)
def agm:=ah (fQ 3 1 aW x0) (ah (fQ 3 2 bG x0) agl)
def agn:=fQ 3 0 (bQ zt (aD aF)) x0
def ago (C:ak):ST:=ah agn agm
def Ji:bd:=⟨agj,4,ago,false⟩
theorem agp:bJ Ji 220:=cf rfl oO
def Jj:=bI ["self","kind"] ["KINDS","CorruptError"]
def agq:=bY (Hk aF [2,5,10,13]) (ah gA ar) ar
def agr:=bc 1 (bu (br x0 3 0) (br x0 3 3) bT)
def ags:=ah agr (ah agq (ah (bj aF) ar))
def Aw (C:ak):ST:=ags
def Jk:bd:=⟨Jj,1,Aw,false⟩
theorem agt:bJ Jk 227:=g6 rfl eJ λn C a c b=>by show eb _ _ Jj (Aw C) _;unfold Aw;exact(ci (es a b) (ci (ow (aa2 (cD a) (adT _) (⋯) rfl (adU _) rfl adV) (gE a b) (gE a b)) (gE a b)))
def agu:=bI ["self"] ["is_leaf_node_view"]
def agv (C:ak):=bj (aS C 8 (aD (bZ C x0 (aN 3 18) bf)))
def agw (C:ak):ST:=ah (agv C) ar
def Jl:bd:=⟨agu,1,agw,false⟩
theorem agx:bJ Jl 234:=cf rfl eJ
def agy:=bI ["self"] ["is_rows_node_view"]
def agz (C:ak):=bj (aS C 9 (aD (bZ C x0 (aN 3 18) bf)))
def agA (C:ak):ST:=ah (agz C) ar
def Jm:bd:=⟨agy,1,agA,false⟩
theorem agB:bJ Jm 241:=cf rfl eJ
def agC:=bI ["self"] ["two_at"]
def agD (C:ak):=bj (aS C 3 (a0 (br x0 3 0) (aU .Add (br x0 3 3) (au 3) ce)))
def agE (C:ak):ST:=ah (agD C) ar
def Jn:bd:=⟨agC,1,agE,false⟩
theorem agF:bJ Jn 248:=cf rfl eJ
def agG:=bI ["self"] ["INNER_ROWS"]
def agH:=bj (aU .Add (br x0 3 3) (au 8) ce)
def agI:=bj (aU .Add (br x0 3 3) (au 12) ce)
def agJ:=bY (bi (bu (br x0 3 0) (br x0 3 3) bT) (au 5) gi) (ah agH ar) ar
def agK (C:ak):ST:=ah agJ (ah agI ar)
def Jo:bd:=⟨agG,1,agK,false⟩
theorem agL:bJ Jo 255:=cf rfl eJ
def agM:=bI ["self"] ["four_at"]
def agN (C:ak):=bj (aS C 4 (a0 (br x0 3 0) (aU .Add (br x0 3 3) (au 8) ce)))
def agO (C:ak):ST:=ah (agN C) ar
def Jp:bd:=⟨agM,1,agO,false⟩
theorem agP:bJ Jp 276:=cf rfl eJ
def agQ:=bI ["self"] ["bytes"]
def agR:=bj (bQ iw (aD (br x0 3 0)))
def agS (C:ak):ST:=ah agR ar
def Jq:bd:=⟨agQ,1,agS,false⟩
theorem agT:bJ Jq 283:=cf rfl eJ
def agU:=bI ["self","i","first","at"] ["CorruptError","two_at","LEAST_CELL"]
def agV (C:ak):=bY (fq (bi bG (aU .Add aW (aU .Mult (au 2) (bZ C x0 (aN 3 21) bf) kf) ce) h7) (bi (aU .Add bG (au 4) ce) (br x0 3 2) gi)) (ah gA ar) ar
def agW (C:ak):=bc 3 (aS C 3 (a0 (br x0 3 0) (aU .Add aW (aU .Mult (au 2) aF kf) ce)))
def agX (C:ak):=ah (agW C) (ah (agV C) (ah (bj bG) ar))
def agY (C:ak):=ah (bc 2 (bZ C x0 (aN 3 22) bf)) (agX C)
def agZ (C:ak):=bY (fq (bi aF (au 0) h7) (bi aF (bZ C x0 (aN 3 21) bf) qG)) (ah gA ar) ar
def ag0 (C:ak):ST:=ah (agZ C) (agY C)
def Jr:bd:=⟨agU,2,ag0,false⟩
theorem ag1:bJ Jr 290:=cf rfl ec
def Js:=bI ["self","i","cell","end"] ["read_cell"]
def ag2 (C:ak):=ki Js [2,3] (aS C 16 (eS (br x0 3 0) (bZ C x0 (aN 3 25) (aD aF)) (bZ C x0 (aN 3 18) bf) (br x0 3 2)))
def ag3 (C:ak):ST:=ah (ag2 C) (ah (bj aW) ar)
def Jt:bd:=⟨Js,2,ag3,false⟩
theorem ag4:bJ Jt 297:=cf rfl ec
def ag5:=bI ["self","i"] ["four_at"]
def ag6 (C:ak):=ah (bj (bZ C x0 (aN 3 23) bf)) ar
def ag7 (C:ak):=bj (aS C 4 (a0 (br x0 3 0) (bZ C x0 (aN 3 25) (aD aF))))
def ag8 (C:ak):=bY (bi aF (bZ C x0 (aN 3 21) bf) eI) (ag6 C) ar
def ag9 (C:ak):ST:=ah (ag8 C) (ah (ag7 C) ar)
def Ju:bd:=⟨ag5,2,ag9,false⟩
theorem aha:bJ Ju 323:=cf rfl ec
end
noncomputable section
def Jv:=oP [("self",true)] ["range"] (some ["i"])
def Ax:=nt ["i"] [] ["self"]
theorem ahb:(Ax.slots.map (·.1)).Nodup:=by decide+kernel
def ahc (C:ak):=bj (iP Ax [0] 1 (oH (aD (aU .Add (bZ C (b4 0) (aN 3 21) bf) (au 1) ce))) 1 none (gh (bZ C (b4 0) (aN 3 27) (aD aF))))
def ahd (C:ak):=bY (gV (bZ C (b4 0) (aN 3 19) bf)) (ah (bj (dP bf)) ar) ar
def Ay (C:ak):ST:=ah (ahd C) (ah (ahc C) ar)
def Jw:bd:=⟨Jv,1,Ay,false⟩
theorem ahe:bJ Jw 328:=g6 rfl eJ λn C a c b=>by show eb _ _ Jv (Ay C) _;unfold Ay;exact(ci (es a b) (ci (l6 (oJ (lJ:=["i"]) (by exact⟨⋯,rfl,rfl,⋯,(.cons (⋯) .nil),by decide+kernel,rfl,by decide+kernel,by decide+kernel,ahb⟩) (vW (eW (cD a) gX) (qH _) (⋯)) (λd=>nr (cD a)) md sS (⋯) (⋯))) jg))
def ahf:=bI ["self","kind"] ["bytes","put_two"]
def ahg (C:ak):=cA (aS C 5 (cK (br x0 3 0) (aU .Add (br x0 3 3) (au 5) ce) (br x0 3 2)))
def ahh:=l8 aF (br x0 3 0) (br x0 3 3)
def ahi:=zZ (bQ iw (aD (aU .Sub (br x0 3 2) (br x0 3 3) fG))) (br x0 3 0) (br x0 3 3) (br x0 3 2)
def ahj (C:ak):=ah ahi (ah ahh (ah (ahg C) ar))
def ahk (C:ak):ST:=ahj C
def Jx:bd:=⟨ahf,2,ahk,false⟩
theorem ahl:bJ Jx 363:=cf rfl ec
def Jy:=bI ["octets","at"] ["int"]
def ahm:=bj (HC (a0 (gB x0 (fF aF) (fF (aU .Add aF (au 4) ce))) (fX 6)))
def Az (C:ak):ST:=ah ahm ar
def Jz:bd:=⟨Jy,2,Az,false⟩
theorem ahn:bJ Jz 445:=g6 rfl ec λn C a b c=>by show eb _ _ Jy (Az C) _;unfold Az;exact(ci (l6 (abO (eW (cD a) (eW (cD a) gX)) (adB _) (⋯) (adW _))) jg)
def aho:=bI ["page_size","size","room"] ["CHAIN_HEAD"]
def ahp:=bj (aU .FloorDiv (aU .Sub (aU .Add aF aW ce) (au 1) fG) aW mi)
def ahq:=ah (bc 2 (aU .Sub x0 (au 4) fG)) (ah ahp ar)
def ahr (C:ak):ST:=ahq
def JA:bd:=⟨aho,2,ahr,false⟩
theorem ahs:bJ JA 452:=cf rfl ec
def aht:=bI ["pager","page"] ["CorruptError","str"]
def ahu (C:ak):=bY (fq (bi aF (au 2) h7) (bi aF (bZ C x0 (aN 0 67) bf) gi)) (ah gA ar) ar
def ahv (C:ak):ST:=ah (ahu C) ar
def JB:bd:=⟨aht,2,ahv,false⟩
theorem ahw:bJ JB 459:=cf rfl ec
def v9:=bI ["pager","first","size","pages","page","k"] ["range","chain_length","look_at_link","CorruptError","str","number_at"]
def ahx (C:ak):=bc 4 (aS C 30 (a0 (bZ C x0 (aN 0 68) (aD b7)) (au 0)))
def ahy:=cA (df dX fj bG (aD b7))
def ahz:=bY (bi b7 bG sN) (ah gA ar) ar
def ahA (C:ak):=ah ahz (ah ahy (ah (ahx C) ar))
def ahB (C:ak):=cA (aS C 32 (a0 x0 b7))
def ahC:=bY (bi b7 (au 0) du) (ah gA ar) ar
def ahD (C:ak):=jk v9 5 (aD (aS C 31 (a0 (br x0 0 0) aW))) (ah (ahB C) (ahA C))
def ahE (C:ak):=ah (ahD C) (ah ahC (ah (bj bG) ar))
def ahF:=nl v9 [3,4] (fP (a0 (dP bf) aF))
def AA (C:ak):ST:=ah ahF (ahE C)
def JC:bd:=⟨v9,3,AA,false⟩
theorem ahG:bJ JC 466:=g6 rfl iQ λn C a c b=>by show eb _ _ v9 (AA C) _;unfold AA;exact(ci (oC (I:=["pages","page"]) (cD a) b (.cons (⋯) (.cons (⋯) .nil)) (λ_ L=>oN L (⋯) (⋯))) (gE a b))
def JD:=bI ["btree","first","size","pages","page"] ["chain_of_size","len"]
def ahH (C:ak):=cA (bZ C (br x0 1 1) (aN 0 72) (aD b7))
def ahI:=ah (bj (bQ dD (aD bG))) ar
def ahJ (C:ak):=ah (jO JD 4 bG (ah (ahH C) ar)) ahI
def ahK (C:ak):=bc 3 (aS C 33 (cK (br x0 1 0) aF aW))
def ahL (C:ak):ST:=ah (ahK C) (ahJ C)
def JE:bd:=⟨JD,3,ahL,false⟩
theorem ahM:bJ JE 473:=cf rfl iQ
def ahN:=bI ["self","pager","free"] []
def ahO:=ah (fQ 1 1 aW x0) (ah (fQ 1 2 vH x0) ar)
def ahP (C:ak):ST:=ah (fQ 1 0 aF x0) ahO
def JF:bd:=⟨ahN,3,ahP,false⟩
theorem ahQ:bJ JF 487:=cf rfl iQ
def ahR:=bI ["self"] []
def ahS:=ah (bj (br (br x0 1 0) 0 0)) ar
def ahT (C:ak):ST:=ahS
def JG:bd:=⟨ahR,1,ahT,false⟩
theorem ahU:bJ JG 494:=cf rfl eJ
def ahV:=bI ["self","page"] ["CorruptError","Node"]
def ahW (C:ak):=bj (jl C 3 17 (cK (bZ C (br x0 1 0) (aN 0 68) (aD aF)) aF (bZ C x0 (aN 1 36) bf)))
def ahX (C:ak):=bY (fq (bi aF (au 1) h7) (bi aF (bZ C (br x0 1 0) (aN 0 67) bf) gi)) (ah gA ar) ar
def ahY (C:ak):ST:=ah (ahX C) (ah (ahW C) ar)
def JH:bd:=⟨ahV,2,ahY,false⟩
theorem ahZ:bJ JH 501:=cf rfl ec
def ah0:=bI ["self","page","kind","octets","node"] ["bytes","Node"]
def ah1 (C:ak):=bc 3 (bZ C (br x0 1 0) (aN 0 68) (aD (au 1)))
def ah2 (C:ak):=cA (bZ C b7 (aN 3 29) (aD aW))
def ah3 (C:ak):=bc 4 (jl C 3 17 (cK bG aF (bZ C x0 (aN 1 36) bf)))
def ah4 (C:ak):=ah (ah3 C) (ah (ah2 C) (ah (bj b7) ar))
def ah5 (C:ak):=bY (bi aF (au 1) eI) (ah (ah1 C) ar) ar
def ah6 (C:ak):=bc 3 (bQ iw (aD (bZ C x0 (aN 1 36) bf)))
def ah7 (C:ak):ST:=ah (ah6 C) (ah (ah5 C) (ah4 C))
def JI:bd:=⟨ah0,3,ah7,false⟩
theorem ah8:bJ JI 508:=cf rfl iQ
def ah9:=bI ["self","node","octets"] ["HEADER_SIZE"]
def aia (C:ak):=bc 2 (aU .Add (gB (bZ C (br x0 1 0) (aN 0 68) (aD (au 1))) iN (fF (au 32))) (gB aW (fF (au 32)) iN) ce)
def aib (C:ak):=cA (bZ C (br x0 1 0) (aN 0 69) (a0 (br aF 3 1) aW))
def aic (C:ak):=bY (bi (br aF 3 1) (au 1) eI) (ah (aia C) ar) ar
def aid (C:ak):=ah (bc 2 (bZ C aF (aN 3 24) bf)) (ah (aic C) (ah (aib C) ar))
def aie (C:ak):ST:=aid C
def AB:bd:=⟨ah9,2,aie,false⟩
theorem aif:bJ AB 515:=cf rfl ec
def aig:=bI ["self","root"] []
def aih:=l8 (aU .Add (df oA oB (br x0 1 2) (a0 aF (au 0))) (au 1) ce) (br x0 1 2) aF
def aii (C:ak):ST:=ah aih ar
def JJ:bd:=⟨aig,2,aii,false⟩
theorem aij:bJ JJ 522:=cf rfl ec
def aik:=bI ["trees","cell"] ["free_chain"]
def ail (C:ak):=cA (aS C 34 (cK x0 (br aF 4 4) (bZ C aF (aN 4 15) bf)))
def aim (C:ak):=bY (bi (br aF 4 4) (au 0) du) (ah (ail C) ar) ar
def ain (C:ak):ST:=ah (aim C) ar
def AC:bd:=⟨aik,2,ain,false⟩
theorem aio:bJ AC 543:=cf rfl ec
end
noncomputable section
def JK:=bI ["trees","kind","page","what"] ["MisuseError","LEAF_KEYS","LEAF_ROWS"]
def aip:=ah (vT 2 (zR (zP aF zO))) ar
def aiq (C:ak):=cA (bZ C x0 (aN 1 40) (aD aW))
def air (C:ak):=cA (bZ C x0 (aN 1 39) (aD (bZ C x0 (aN 1 38) (a0 aW bG))))
def JL (C:ak):=ah (air C) (ah (aiq C) (ah (bj aW) ar))
def ais:=bY (bi aF (fX 1) eI) (ah (bc 3 (au 13)) ar) ar
def ait (C:ak):=ah (bc 3 (au 10)) (ah ais (JL C))
def aiu (C:ak):=bc 2 (bZ C (br x0 1 1) (aN 0 71) bf)
def aiv:=bY (qg (bi aF (fX 1) du) (bi aF (fX 2) du)) aip ar
def AD (C:ak):ST:=ah aiv (ah (aiu C) (ait C))
def AE:bd:=⟨JK,2,AD,false⟩
theorem aiw:bJ AE 550:=g6 rfl ec λn C a c b=>by show eb _ _ JK (AD C) _;unfold AD;exact(ci (ow (oS a) (ci (zN (v5 _ _ _) (HP (zQ (HO (cD a) HN))) (Am _) (⋯) rfl) jg) (gE a b)) (gE a b))
def qL:=bI ["trees","root","found","left","seen","page"] ["set","CorruptError"]
def aix:=ah (vT 1 (zR (zP cu zO))) ar
def aiy (C:ak):=bc 3 (aU .Add bG (Hz (bZ C (bZ C x0 (aN 1 37) (aD cu)) (aN 3 28) bf) (gW (au 1))) ce)
def aiz:=cA (df dX fj aW (aD cu))
def aiA:=cA (df zw zy b7 (aD cu))
def aiB (C:ak):=ah aiA (ah aiz (ah (aiy C) ar))
def aiC:=bY (bi cu b7 sN) aix ar
def JM (C:ak):=ah (bc 5 (df dX l7 bG bf)) (ah aiC (aiB C))
def aiD (C:ak):=qu qL (bi bG (dP bf) du) (JM C)
def aiE (C:ak):=ah (bc 4 (bQ setB bf)) (ah (aiD C) (ah (bj aW) ar))
def aiF (C:ak):=ah (bc 3 (dP (aD aF))) (aiE C)
def AF (C:ak):ST:=ah (bc 2 (dP bf)) (aiF C)
def AG:bd:=⟨qL,2,AF,false⟩
theorem aiG:bJ AG 557:=g6 rfl ec λn C a c b=>by show eb _ _ qL (AF C) _;unfold AF;exact(ci (es a b) (ci (es a b) (ci (es a b) (ci (Hs (oS a) (ci (es a b) (ci (ow (oS a) (ci (zN (An _ _ _) (HP (zQ (HO (cD a) (zQ HN)))) (Iw _) (⋯) rfl) jg) (gE a b)) (ci (es a b) (ci (es a b) (ci (sB (sp (cD a) (abv (cD a) (cD a)) sJ) b (⋯) (⋯)) jg)))))) (gE a b)))))
def AH:=bI ["trees","node","many","i"] ["INNER_ROWS","range","free_rest"]
def JN (C:ak):=cA (aS C 41 (a0 x0 (bZ C aF (aN 3 26) (aD bG))))
def aiH (C:ak):=jk AH 3 (aD aW) (ah (JN C) ar)
def aiI (C:ak):=ah (bc 2 (bZ C aF (aN 3 21) bf)) (ah (aiH C) (ah (bj aW) ar))
def aiJ (C:ak):=bY (bi (bZ C aF (aN 3 18) bf) (au 5) eI) (ah (bj (au 0)) ar) ar
def aiK (C:ak):ST:=ah (aiJ C) (aiI C)
def JO:bd:=⟨AH,2,aiK,false⟩
theorem aiL:bJ JO 564:=cf rfl ec
def AI:=bI ["trees","root","many","pages","kind","page"] ["pages_of","LEAF_KEYS","LEAF_ROWS","free_cells"]
def aiM (C:ak):=bc 2 (aU .Add aW (aS C 44 (a0 x0 (bZ C x0 (aN 1 37) (aD cu)))) ce)
def aiN (C:ak):=cA (bZ C (br x0 1 1) (aN 0 72) (aD cu))
def aiO (C:ak):=cA (bZ C x0 (aN 1 40) (aD aF))
def aiP (C:ak):=cA (bZ C x0 (aN 1 39) (aD (bZ C x0 (aN 1 38) (a0 aF b7))))
def aiQ (C:ak):=ah (aiP C) (ah (aiO C) (ah (bj aW) ar))
def aiR (C:ak):=jO AI 5 (gB bG (fF (au 1)) iN) (ah (aiN C) ar)
def JP (C:ak):=ah (jO AI 5 bG (ah (aiM C) ar)) (ah (aiR C) (aiQ C))
def aiS (C:ak):=bY (gV (bZ C (bZ C x0 (aN 1 37) (aD aF)) (aN 3 20) bf)) (ah (bc 4 (au 13)) ar) ar
def aiT (C:ak):=ah (bc 4 (au 10)) (ah (aiS C) (JP C))
def aiU (C:ak):=bc 3 (aS C 43 (a0 x0 aF))
def aiV (C:ak):=ah (bc 2 (au 0)) (ah (aiU C) (aiT C))
def aiW (C:ak):ST:=aiV C
def AJ:bd:=⟨AI,2,aiW,false⟩
theorem aiX:bJ AJ 571:=cf rfl ec
def JQ:=bI ["trees","root"] ["MisuseError","clear_tree"]
def aiY (C:ak):=cA (bZ C (br x0 1 1) (aN 0 72) (aD aF))
def aiZ (C:ak):=cA (aS C 45 (a0 x0 aF))
def ai0:=bY (bi aF (au 1) eI) (ah (vT 2 HL) ar) ar
def ai1 (C:ak):=ah ai0 (ah (aiZ C) (ah (aiY C) ar))
def AK (C:ak):ST:=ai1 C
def JR:bd:=⟨JQ,2,AK,false⟩
theorem ai2:bJ JR 578:=g6 rfl ec λn C a c b=>by show eb _ _ JQ (AK C) _;unfold AK;exact(ci (ow (oS a) (ci (zN (v5 _ _ _) acf (Am _) (⋯) rfl) jg) (gE a b)) (gE a b))
def AL:=bI ["trees","root","many","page","node"] ["pages_of","INNER_ROWS"]
def ai3 (C:ak):=bc 2 (aU .Add aW (bZ C b7 (aN 3 21) bf) ce)
def ai4 (C:ak):=bY (bi (bZ C b7 (aN 3 18) bf) (au 5) du) (ah (ai3 C) ar) ar
def ai5 (C:ak):=bc 4 (bZ C x0 (aN 1 37) (aD bG))
def ai6 (C:ak):=jO AL 3 (aS C 43 (a0 x0 aF)) (ah (ai5 C) (ah (ai4 C) ar))
def ai7 (C:ak):=ah (bc 2 (au 0)) (ah (ai6 C) (ah (bj aW) ar))
def ai8 (C:ak):ST:=ai7 C
def AM:bd:=⟨AL,2,ai8,false⟩
theorem ai9:bJ AM 585:=cf rfl ec
def aja:=bI ["raw"] ["POINTER","max","LEAST_CELL","len"]
def ajb:=bj (aU .Add (au 2) (bQ sH (a0 (au 4) (bQ dD (aD x0)))) ce)
def ajc (C:ak):ST:=ah ajb ar
def JS:bd:=⟨aja,1,ajc,false⟩
theorem ajd:bJ JS 592:=cf rfl eJ
def JT:=oP [("raws",false)] ["sum"] (some ["raw"])
def JU:=nt ["raw"] ["cost"] []
theorem aje:(JU.slots.map (·.1)).Nodup:=by decide+kernel
def ajf (C:ak):=bj (bQ G7 (aD (iP JU [] 1 (js x0) 0 none (gh (aS C 48 (aD x0))))))
def AN (C:ak):ST:=ah (ajf C) ar
def JV:bd:=⟨JT,1,AN,false⟩
theorem ajg:bJ JV 597:=g6 rfl eJ λn C a b c=>by show eb _ _ JT (AN C) _;unfold AN;exact(ci (l6 (GP (eW (oJ (lJ:=["raw"]) (by exact⟨⋯,rfl,rfl,⋯,.nil,by decide+kernel,rfl,by decide+kernel,by decide+kernel,aje⟩) (qB (cD a)) (λd=>nr (cD a)) md sS (⋯) (⋯)) gX) G8 (adD _) (by decide+kernel) (⋯))) jg)
def ajh:=bI ["page"] ["HEADER_SIZE"]
def aji:=bj (l5 (bi x0 (au 1) eI) (au 32) (au 0))
def ajj (C:ak):ST:=ah aji ar
def JW:bd:=⟨ajh,1,ajj,false⟩
theorem ajk:bJ JW 604:=cf rfl eJ
def ajl:=bI ["page","kind","usable"] ["base_of","head_size"]
def ajm (C:ak):=bj (aU .Sub (aU .Sub aW (aS C 50 (aD x0)) fG) (aS C 10 (aD aF)) fG)
def ajn (C:ak):ST:=ah (ajm C) ar
def JX:bd:=⟨ajl,3,ajn,false⟩
theorem ajo:bJ JX 611:=cf rfl iQ
def ajp:=bI ["raw"] ["four_at"]
def ajq (C:ak):=bj (aS C 4 (a0 x0 (au 0)))
def ajr (C:ak):ST:=ah (ajq C) ar
def JY:bd:=⟨ajp,1,ajr,false⟩
theorem ajs:bJ JY 618:=cf rfl eJ
def ajt:=bI ["raw","page"] ["four_octets"]
def aju (C:ak):=bj (aU .Add (aS C 7 (aD aF)) (gB x0 (fF (au 4)) iN) ce)
def ajv (C:ak):ST:=ah (aju C) ar
def JZ:bd:=⟨ajt,2,ajv,false⟩
theorem ajw:bJ JZ 625:=cf rfl ec
def AO:=bI ["raw","size","at","rowid"] ["get_varint"]
def ajx (C:ak):=ki AO [3,2] (aS C 1 (a0 x0 aW))
def ajy (C:ak):=ki AO [1,2] (aS C 1 (a0 x0 (au 0)))
def ajz (C:ak):=ah (ajy C) (ah (ajx C) (ah (bj bG) ar))
def ajA (C:ak):ST:=ajz C
def J0:bd:=⟨AO,1,ajA,false⟩
theorem ajB:bJ J0 632:=cf rfl eJ
def ajC:=bI ["self","kind","raws","right"] []
def ajD:=ah (fQ 5 1 aW x0) (ah (fQ 5 2 bG x0) ar)
def ajE (C:ak):ST:=ah (fQ 5 0 aF x0) ajD
def J1:bd:=⟨ajC,4,ajE,false⟩
theorem ajF:bJ J1 646:=cf rfl oO
end
noncomputable section
def ajG:=bI ["pager","page","content"] ["total","capacity"]
def ajH (C:ak):=bj (jL (aS C 49 (aD (br aW 5 1))) (aS C 51 (cK aF (br aW 5 0) (br x0 0 0))) oK)
def ajI (C:ak):ST:=ah (ajH C) ar
def J2:bd:=⟨ajG,3,ajI,false⟩
theorem ajJ:bJ J2 665:=cf rfl iQ
def qM:=bI ["pager","page","content","size","base","pointers","cells","at","raw","padded","head","front"] ["fits","CorruptError","str","base_of","bytes","max","LEAST_CELL","len","POINTER","is_leaf_node_view","four_octets"]
def ajK:=cA (df dX fj dw (aD ey))
def ajL:=cA (df dX fj cu (aD (df qp qt c1 (a0 (au 2) (fX 6)))))
def ajM:=bc 7 (aU .Sub c1 (bQ dD (aD ey)) fG)
def ajN:=ah ajM (ah ajL (ah ajK ar))
def ajO:=bc 9 (aU .Add dZ (bQ iw (aD (bQ sH (a0 (au 0) (aU .Sub (au 4) (bQ dD (aD dZ)) fG))))) ce)
def ajP (C:ak):=bc 10 (aU .Add v2 (aS C 7 (aD (br aW 5 2))) ce)
def ajQ (C:ak):=cA (bZ C x0 (aN 0 69) (a0 aF (aU .Add (aU .Add It (bQ iw (aD (aU .Sub c1 (bQ dD (aD It)) fG))) ce) (df vE vM (so []) (aD dw)) ce)))
def AP (C:ak):=ah (cA (df dX vF dw bf)) (ah (ajQ C) ar)
def J3 (C:ak):=bc 11 (aU .Add (aU .Add (gB (bZ C x0 (aN 0 68) (aD aF)) iN (fF b7)) v2 ce) (df vE vM (so []) (aD cu)) ce)
def ajR (C:ak):=bY (kH (gV (aS C 8 (aD (br aW 5 0))))) (ah (ajP C) ar) ar
def ajS:=bc 10 (aU .Add (aU .Add (aU .Add (bQ iw (aD (dP (cK (br aW 5 0) (au 0) (au 0))))) (df qp qt (bQ dD (aD (br aW 5 1))) (a0 (au 2) (fX 6))) ce) (df qp qt c1 (a0 (au 2) (fX 6))) ce) (bQ iw (aD (au 1))) ce)
def ajT (C:ak):=ah ajS (ah (ajR C) (ah (J3 C) (AP C)))
def ajU:=jO qM 8 (br aW 5 1) (ah ajO ajN)
def ajV:=nl qM [5,6,7] (fP (cK (dP bf) (dP bf) bG))
def ajW (C:ak):=nl qM [3,4] (fP (a0 (br x0 0 0) (aS C 50 (aD aF))))
def ajX (C:ak):=ah (ajW C) (ah ajV (ah ajU (ajT C)))
def ajY (C:ak):=bY (kH (gV (aS C 56 (cK x0 aF aW)))) (ah gA ar) ar
def AQ (C:ak):ST:=ah (ajY C) (ajX C)
def J4:bd:=⟨qM,3,AQ,false⟩
theorem ajZ:bJ J4 672:=g6 rfl iQ λn C a c b=>by show eb _ _ qM (AQ C) _;unfold AQ;exact(ci (es a b) (ci (oC (I:=["size","base"]) (cD a) b (.cons (⋯) (.cons (⋯) .nil)) (λ_ L=>oN L (⋯) (⋯))) (ci (oC (I:=["pointers","cells","at"]) (cD a) b (.cons (⋯) (.cons (⋯) (.cons (⋯) .nil))) (λ_ L=>oN L (⋯) (⋯))) (ci (es a b) (ci (sB (sp (sp (sp (cD a) (Ha (cD a) (eW (cD a) (eW (cD a) gX)) G9 Hd) sJ) (cD a) sJ) (cD a) sJ) b (⋯) (⋯)) (gE a b))))))
def AR:=bI ["pager","octets","room","first","page","at","part","following"] ["range","len","four_octets","bytes"]
def aj0 (C:ak):=ah (bc 7 (bZ C x0 (aN 0 70) bf)) ar
def J5 (C:ak):=cA (bZ C x0 (aN 0 69) (a0 b7 (aU .Add (aU .Add (aS C 7 (aD c1)) dw ce) (bQ iw (aD (aU .Sub aW (bQ dD (aD dw)) fG))) ce)))
def aj1 (C:ak):=bY (bi (aU .Add cu aW ce) (bQ dD (aD aF)) h7) (aj0 C) ar
def aj2 (C:ak):=ah (aj1 C) (ah (J5 C) (ah (bc 4 c1) ar))
def aj3:=bc 6 (gB aF (fF cu) (fF (aU .Add cu aW ce)))
def J6 (C:ak):=ah aj3 (ah (bc 7 (au 0)) (aj2 C))
def aj4 (C:ak):=jk AR 5 (cK (au 0) (bQ dD (aD aF)) aW) (J6 C)
def aj5 (C:ak):=ah (bc 4 bG) (ah (aj4 C) (ah (bj bG) ar))
def aj6 (C:ak):=ah (bc 3 (bZ C x0 (aN 0 70) bf)) (aj5 C)
def aj7:=bc 2 (aU .Sub (br x0 0 0) (au 4) fG)
def aj8 (C:ak):ST:=ah aj7 (aj6 C)
def J7:bd:=⟨AR,2,aj8,false⟩
theorem aj9:bJ J7 679:=cf rfl ec
def aka:=bI ["pager","kind","rowid","record","found","many"] ["put_varint","len","LEAF_ROWS","local_size","four_octets","append_chain"]
def akb (C:ak):=bc 4 (aU .Add b7 (aS C 0 (aD aW)) ce)
def akc (C:ak):=bc 4 (aU .Add b7 (aS C 7 (aD (aS C 58 (a0 x0 (gB bG (fF cu) iN))))) ce)
def akd (C:ak):=bY (bi cu (bQ dD (aD bG)) h7) (ah (akc C) ar) ar
def ake:=bc 4 (aU .Add b7 (gB bG iN (fF cu)) ce)
def J8 (C:ak):=ah ake (ah (akd C) (ah (bj b7) ar))
def J9 (C:ak):=bc 5 (aS C 13 (cK aF (br x0 0 0) (bQ dD (aD bG))))
def akf (C:ak):=bY (bi aF (au 13) eI) (ah (akb C) ar) ar
def akg (C:ak):=bc 4 (aS C 0 (aD (bQ dD (aD bG))))
def akh (C:ak):=ah (akg C) (ah (akf C) (ah (J9 C) (J8 C)))
def aki (C:ak):ST:=akh C
def Ka:bd:=⟨aka,4,aki,false⟩
theorem akj:bJ Ka 686:=cf rfl oO
def s8:=bI ["raws","room","pages","used","raw"] ["cost"]
def akk:=cA (df dX fj aW (aD (dP bf)))
def akl (C:ak):=bc 3 (aU .Add bG (aS C 48 (aD b7)) ce)
def Kb (C:ak):=cA (df dX fj (bu aW (gW (au 1)) bT) (aD b7))
def akm (C:ak):=bY (qg (bi (aU .Add bG (aS C 48 (aD b7)) ce) aF gi) (bi (bu aW (gW (au 1)) bT) (dP bf) du)) (ah akk (ah (bc 3 (au 0)) ar)) ar
def Kc (C:ak):=ah (akm C) (ah (Kb C) (ah (akl C) ar))
def akn (C:ak):=ah (jO s8 4 x0 (Kc C)) (ah (bj aW) ar)
def ako (C:ak):=ah (bc 2 (dP (aD (dP bf)))) (ah (bc 3 (au 0)) (akn C))
def akp (C:ak):ST:=ako C
def Kd:bd:=⟨s8,2,akp,false⟩
theorem akq:bJ Kd 693:=cf rfl ec
def AS:=bI ["raws","room","pages","middles","used","raw","last"] ["cost","len"]
def akr:=cA (df dX fj aW (aD (dP bf)))
def aks:=cA (df dX fj bG (aD cu))
def akt:=ah aks (ah akr (ah (bc 4 (au 0)) ar))
def aku (C:ak):=bc 4 (aU .Add b7 (aS C 48 (aD cu)) ce)
def akv:=cA (df dX fj (bu aW (gW (au 1)) bT) (aD cu))
def akw (C:ak):=bY (qg (bi (aU .Add b7 (aS C 48 (aD cu)) ce) aF gi) (bi (bu aW (gW (au 1)) bT) (dP bf) du)) akt (ah akv (ah (aku C) ar))
def akx:=cA (df dX fj (bu aW (gW (au 1)) bT) (aD dw))
def aky:=cA (df dX fj bG (aD (df dX l7 (bu aW (gW (au 2)) bT) bf)))
def akz:=ah (bc 6 (df dX l7 bG bf)) (ah aky (ah akx ar))
def akA:=bj (fP (a0 aW bG))
def akB:=bY (qg (bi (bQ dD (aD aW)) (au 1) gi) (bi (bu aW (gW (au 1)) bT) (dP bf) eI)) akz ar
def akC (C:ak):=ah (jO AS 5 x0 (ah (akw C) ar)) (ah akB (ah akA ar))
def akD (C:ak):=ah (bc 3 (dP bf)) (ah (bc 4 (au 0)) (akC C))
def akE (C:ak):=ah (bc 2 (dP (aD (dP bf)))) (akD C)
def akF (C:ak):ST:=akE C
def Ke:bd:=⟨AS,2,akF,false⟩
theorem akG:bJ Ke 700:=cf rfl ec
def Kf:=oP [("pager",true),("many",false)] ["range"] (some ["turn"])
def Kg:=nt ["turn"] [] ["pager"]
theorem akH:(Kg.slots.map (·.1)).Nodup:=by decide+kernel
def akI (C:ak):=bj (iP Kg [0] 1 (oH (aD aF)) 1 none (gh (bZ C (b4 0) (aN 0 70) bf)))
def AT (C:ak):ST:=ah (akI C) ar
def Kh:bd:=⟨Kf,2,AT,false⟩
theorem akJ:bJ Kh 705:=g6 rfl ec λn C a b c=>by show eb _ _ Kf (AT C) _;unfold AT;exact(ci (l6 (oJ (lJ:=["turn"]) (by exact⟨⋯,rfl,rfl,⋯,(.cons (⋯) .nil),by decide+kernel,rfl,by decide+kernel,by decide+kernel,akH⟩) (vW (eW (cD a) gX) (qH _) (⋯)) (λd=>nr (cD a)) md sS (⋯) (⋯))) jg)
def nw:=oP [("pager",false),("kind",false),("raws",false),("room",false),("middles",true),("pages",false),("page",false),("numbers",true),("k",false)] ["capacity","LEAF_ROWS","packed_rows","put_varint","leaf_rowid","packed_between","new_pages","len","range","write_content","Content"] (some [])
def AU (C:ak):=cA (df dX fj (b4 4) (aD (aS C 0 (aD (aS C 54 (aD (bu dw (gW (au 1)) bT)))))))
def AV (C:ak):=jO nw 6 (gB cu iN (fF (gW (au 1)))) (ah (AU C) ar)
def akK (C:ak):=bc 5 (aS C 60 (a0 aW bG))
def akL (C:ak):=ki nw [5,4] (aS C 61 (a0 aW bG))
def Ki (C:ak):=cA (aS C 57 (cK x0 (bu (b4 7) dZ bT) (jl C 5 55 (cK aF (bu cu dZ bT) (au 0)))))
def AW:=nt ["k"] ["four_octets"] ["middles","numbers"]
theorem akM:(AW.slots.map (·.1)).Nodup:=by decide+kernel
def Kj (C:ak):=bj (fP (a0 (iP AW [7,4] 1 (oH (aD (bQ dD (aD (b4 4))))) 2 none (gh (aU .Add (aS C 7 (aD (bu (b4 0) aW bT))) (bu (b4 1) aW bT) ce))) (bu (b4 7) (gW (au 1)) bT)))
def AX (C:ak):=jk nw 8 (aD (bQ dD (aD cu))) (ah (Ki C) ar)
def akN (C:ak):=qk 7 (aS C 62 (a0 x0 (bQ dD (aD cu))))
def wa (C:ak):=ah (akN C) (ah (AX C) (ah (Kj C) ar))
def akO (C:ak):=bY (bi aF (au 13) eI) (ah (akK C) (ah (AV C) ar)) (ah (akL C) ar)
def akP (C:ak):=ah (qk 4 (dP bf)) (ah (akO C) (wa C))
def akQ (C:ak):=bc 3 (aS C 51 (cK (au 0) aF (br x0 0 0)))
def AY (C:ak):ST:=ah (akQ C) (akP C)
def AZ:bd:=⟨nw,3,AY,false⟩
theorem akR:bJ AZ 710:=g6 rfl iQ λn C a c b=>by show eb _ _ nw (AY C) _;unfold AY;exact(ci (es a b) (ci (es a b) (ci (es a b) (ci (es a b) (ci (es a b) (ci (l6 (vG (eW (oJ (lJ:=["k"]) (by exact⟨⋯,rfl,rfl,⋯,(.cons (⋯) (.cons (⋯) .nil)),by decide+kernel,rfl,by decide+kernel,by decide+kernel,akM⟩) (vW (eW (cD a) gX) (qH _) (⋯)) (λd=>nr (cD a)) md sS (⋯) (⋯)) (eW (cD a) gX)))) jg))))))
def s9:=oP [("pager",false),("kind",false),("cells",false),("right",false),("pages",false),("middles",true),("numbers",true),("k",false),("behind",false)] ["packed_between","capacity","new_pages","len","range","child_of","write_content","Content"] (some [])
def Kk (C:ak):=bc 8 (aS C 52 (aD (bu (b4 5) c1 bT)))
def A0 (C:ak):=cA (aS C 57 (cK x0 (bu (b4 6) c1 bT) (jl C 5 55 (cK aF (bu b7 c1 bT) dZ))))
def Kl (C:ak):=bY (bi c1 (bQ dD (aD (b4 5))) h7) (ah (Kk C) ar) ar
def Km (C:ak):=ah (bc 8 bG) (ah (Kl C) (ah (A0 C) ar))
def A1:=nt ["k"] ["with_child"] ["middles","numbers"]
theorem akS:(A1.slots.map (·.1)).Nodup:=by decide+kernel
def wb (C:ak):=bj (fP (a0 (iP A1 [6,5] 1 (oH (aD (bQ dD (aD (b4 5))))) 2 none (gh (aS C 53 (a0 (bu (b4 1) aW bT) (bu (b4 0) aW bT))))) (bu (b4 6) (gW (au 1)) bT)))
def wc (C:ak):=jk s9 7 (aD (bQ dD (aD b7))) (Km C)
def akT (C:ak):=qk 6 (aS C 62 (a0 x0 (bQ dD (aD b7))))
def akU (C:ak):=ah (akT C) (ah (wc C) (ah (wb C) ar))
def akV (C:ak):=ki s9 [4,5] (aS C 61 (a0 aW (aS C 51 (cK (au 0) aF (br x0 0 0)))))
def A2 (C:ak):ST:=ah (akV C) (akU C)
def Kn:bd:=⟨s9,4,A2,false⟩
theorem akW:bJ Kn 715:=g6 rfl oO λn C a c b=>by show eb _ _ s9 (A2 C) _;unfold A2;exact(ci (es a b) (ci (es a b) (ci (es a b) (ci (l6 (vG (eW (oJ (lJ:=["k"]) (by exact⟨⋯,rfl,rfl,⋯,(.cons (⋯) (.cons (⋯) .nil)),by decide+kernel,rfl,by decide+kernel,by decide+kernel,akS⟩) (vW (eW (cD a) gX) (qH _) (⋯)) (λd=>nr (cD a)) md sS (⋯) (⋯)) (eW (cD a) gX)))) jg))))
def oU:=bI ["pager","root","kind","raws","size","cells","right","above"] ["total","capacity","write_content","Content","store_leaves","LEAF_ROWS","INNER_ROWS","INNER_KEYS","store_inner"]
def akX (C:ak):=cA (aS C 57 (cK x0 aF (jl C 5 55 (cK aW bG (au 0)))))
def Ko (C:ak):=ki oU [5,6] (aS C 64 (eS x0 c1 cu dw))
def A3 (C:ak):=cA (aS C 57 (cK x0 aF (jl C 5 55 (cK c1 cu dw))))
def akY (C:ak):=qu oU (bi (aS C 49 (aD cu)) (aS C 51 (cK aF c1 b7)) gi) (ah (Ko C) ar)
def akZ:=bc 7 (l5 (bi aW (au 13) eI) (au 5) (au 2))
def ak0 (C:ak):=ah akZ (ah (akY C) (ah (A3 C) ar))
def ak1 (C:ak):=ki oU [5,6] (aS C 63 (cK x0 aW bG))
def ak2 (C:ak):=bY (bi (aS C 49 (aD bG)) (aS C 51 (cK aF aW b7)) oK) (ah (akX C) (ah zl ar)) ar
def ak3 (C:ak):=ah (bc 4 (br x0 0 0)) (ah (ak2 C) (ah (ak1 C) (ak0 C)))
def ak4 (C:ak):ST:=ak3 C
def A4:bd:=⟨oU,4,ak4,false⟩
theorem ak5:bJ A4 722:=cf rfl oO
def ak6:=bI ["self","page_size"] []
def ak7:=ah (fQ 0 1 (dP bf) x0) (ah (fQ 0 2 (dP bf) x0) ar)
def ak8 (C:ak):ST:=ah (fQ 0 0 aF x0) ak7
def Kp:bd:=⟨ak6,2,ak8,false⟩
theorem ak9:bJ Kp 736:=cf rfl ec
def ala:=bI ["self"] ["len"]
def alb:=bj (bQ dD (aD (br x0 0 1)))
def alc (C:ak):ST:=ah alb ar
def Kq:bd:=⟨ala,1,alc,false⟩
theorem ald:bJ Kq 743:=cf rfl eJ
def ale:=bI ["self","page"] ["len","CorruptError","str"]
def alf:=bj (bu (br x0 0 1) (aU .Sub aF (au 1) fG) bT)
def alg:=bY (fq (bi aF (au 1) h7) (bi aF (bQ dD (aD (br x0 0 1))) gi)) (ah gA ar) ar
def alh (C:ak):ST:=ah alg (ah alf ar)
def Kr:bd:=⟨ale,2,alh,false⟩
theorem ali:bJ Kr 750:=cf rfl ec
def alj:=bI ["self","page","octets"] ["len","MisuseError","bytes"]
def alk:=l8 (bQ iw (aD aW)) (br x0 0 1) (aU .Sub aF (au 1) fG)
def alm:=bY (fq (bi (bQ dD (aD aW)) (br x0 0 0) du) (fq (bi aF (au 1) h7) (bi aF (bQ dD (aD (br x0 0 1))) gi))) (ah gA ar) ar
def aln (C:ak):ST:=ah alm (ah alk ar)
def Ks:bd:=⟨alj,3,aln,false⟩
theorem alo:bJ Ks 757:=cf rfl iQ
end
noncomputable section
def alp:=bI ["self"] ["bytes","len"]
def alq:=bj (bQ dD (aD (br x0 0 1)))
def alr:=cA (df dX fj (br x0 0 1) (aD (bQ iw (aD (br x0 0 0)))))
def als (C:ak):ST:=ah alr (ah alq ar)
def A5:bd:=⟨alp,1,als,false⟩
theorem alt:bJ A5 764:=cf rfl eJ
def alu:=bI ["self"] []
def alv:=ah (bj (df dX l7 (br x0 0 2) bf)) ar
def alw (C:ak):=ah (bj (bZ C x0 (aN 0 70) bf)) ar
def alx:=bY (bi (br x0 0 2) (dP bf) du) alv ar
def aly (C:ak):ST:=ah alx (alw C)
def Kt:bd:=⟨alu,1,aly,false⟩
theorem alz:bJ Kt 771:=cf rfl eJ
def alA:=bI ["self","page"] ["len","MisuseError","str"]
def alB:=cA (df dX fj (br x0 0 2) (aD aF))
def alC:=bY (fq (bi aF (br x0 0 2) sN) (fq (bi aF (au 2) h7) (bi aF (bQ dD (aD (br x0 0 1))) gi))) (ah gA ar) ar
def alD (C:ak):ST:=ah alC (ah alB ar)
def Ku:bd:=⟨alA,2,alD,false⟩
theorem alE:bJ Ku 778:=cf rfl ec
def A6:=bI ["script","big","mixed","k"] ["len","range","min"]
def alF:=ah (bc 1 (aU .Sub (au 0) aF fG)) ar
def Kv (C:ak):=bc 2 (aU .Mod (aU .Add (aU .Add (aU .Mult aW (au 48271) kf) (aU .Mod (bu x0 bG bT) (au 2147483647) kj) ce) (aU .Mult (au 31) bG kf) ce) (au 2147483647) kj)
def A7 (C:ak):=bj (dP (a0 (l5 (bi aF (aU .Pow (au 10) (au 18) Af) qG) aF (au 0)) aW))
def alG (C:ak):=jk A6 3 (aD (bQ G6 (a0 (bQ dD (aD x0)) (au 20)))) (ah (Kv C) ar)
def alH:=bc 2 (aU .Add (aU .Mod aF (au 2147483629) kj) (au 17) ce)
def Kw (C:ak):=ah alH (ah (alG C) (ah (A7 C) ar))
def Kx (C:ak):=bY (bi aF (au 0) h7) alF ar
def alI:=bc 1 (l5 (bi (bQ dD (aD x0)) (au 0) gi) (bu x0 (au 0) bT) (au 0))
def alJ (C:ak):ST:=ah alI (ah (Kx C) (Kw C))
def Ky:bd:=⟨A6,1,alJ,false⟩
theorem alK:bJ Ky 792:=cf rfl eJ
def alL:=bI ["source","top","digit"] []
def alM:=l8 (aU .FloorDiv (bu x0 (au 0) bT) aF mi) x0 (au 0)
def alN:=bc 2 (aU .Mod (bu x0 (au 0) bT) aF kj)
def alO:=ah alN (ah alM (ah (bj aW) ar))
def alP:=bj (aU .Mod (aU .FloorDiv (aU .Mod (aU .Mult (bu x0 (au 1) bT) (bu x0 (au 1) bT) kf) (au 2147483629) kj) (au 32) mi) aF kj)
def alQ:=l8 (aU .Mod (aU .Add (aU .Mult (bu x0 (au 1) bT) (au 39373) kf) (au 7) ce) (au 2147483647) kj) x0 (au 1)
def alR:=bY (bi (bu x0 (au 0) bT) (au 0) gi) alO ar
def alS:=ah alR (ah alQ (ah alP ar))
def alT (C:ak):ST:=alS
def Kz:bd:=⟨alL,2,alT,false⟩
theorem alU:bJ Kz 799:=cf rfl ec
def qN:=bI ["source","store","trees","ahead","by_rowid","kind","root","cells","turn","octets"] ["_law_take","create_tree","range","bytes","leaf_cell","build","len","list"]
def KA (C:ak):=cA (df dX fj c1 (aD (aS C 59 (eS aF cu (aU .Add (aU .Mult (au 3) dZ kf) (au 1) ce) ey))))
def KB (C:ak):=bc 9 (aU .Mult (bQ iw (aD (dP (aD (aU .Add (au 65) dZ ce))))) (bu (dP (cG (au 0) (e9 (au 1) (au 9) (au 29) (au 40) (au 75)))) (aS C 74 (a0 x0 (au 6))) bT) kf)
def KC (C:ak):=bj (fP (eS dw cu (bQ dD (aD c1)) (HA (a0 (aU .Add bG (au 1) ce) (aU .Add (bZ C aF (aN 0 67) bf) (au 1) ce)))))
def alV (C:ak):=cA (aS C 65 (eS aF dw cu c1))
def alW (C:ak):=jk qN 8 (aD (aS C 74 (a0 x0 (au 10)))) (ah (KB C) (ah (KA C) ar))
def KD (C:ak):=ah (alW C) (ah (alV C) (ah (KC C) ar))
def alX (C:ak):=nl qN [5,6] (fP (a0 (l5 (gV b7) (au 13) (au 10)) (aS C 42 (a0 aW (l5 (gV b7) (fX 1) (fX 2))))))
def alY (C:ak):=ah (alX C) (ah (bc 7 (dP bf)) (KD C))
def alZ (C:ak):=nl qN [3,4] (fP (a0 (bZ C aF (aN 0 67) bf) (jL (aS C 74 (a0 x0 (au 2))) (au 0) eI)))
def A8 (C:ak):ST:=ah (alZ C) (alY C)
def A9:bd:=⟨qN,3,A8,false⟩
theorem al0:bJ A9 806:=g6 rfl iQ λn C a c b=>by show eb _ _ qN (A8 C) _;unfold A8;exact(ci (oC (I:=["ahead","by_rowid"]) (cD a) b (.cons (⋯) (.cons (⋯) .nil)) (λ_ L=>oN L (⋯) (⋯))) (ci (oC (I:=["kind","root"]) (cD a) b (.cons (⋯) (.cons (⋯) .nil)) (λ_ L=>oN L (⋯) (⋯))) (ci (es a b) (ci (es a b) (ci (es a b) (ci (l6 (vG (eW (cD a) (eW (cD a) (eW (cD a) (eW (abz (eW (cD a) (eW (cD a) gX)) (qH _) (⋯) (adC _) (⋯)) gX)))))) jg))))))
def al1:=bI ["store","row","octets"] ["bytes"]
def al2:=bj (vq (jL (bu aW (au 0) bT) (bu aF (au 1) bT) eI) (jL (gB aW (fF (au 3)) (fF (au 5))) (bQ iw (aD (au 2))) eI))
def al3 (C:ak):=bc 2 (bZ C x0 (aN 0 68) (aD (bu aF (au 0) bT)))
def al4 (C:ak):ST:=ah (al3 C) (ah al2 ar)
def Ba:bd:=⟨al1,2,al4,false⟩
theorem al5:bJ Ba 813:=cf rfl ec
def KE:=bI ["deed"] ["MisuseError","CorruptError"]
def al6 (C:ak):=HR (ah (cA (zX C 0)) ar) [(2,4),(1,5)]
def Bb (C:ak):ST:=ah (al6 C) (ah (bj (fX 0)) ar)
def KF:bd:=⟨KE,1,Bb,false⟩
theorem al7:bJ KF 820:=g6 rfl eJ λn C a b c=>by show eb _ _ KE (Bb C) _;unfold Bb;exact(ci (acn (ci (GN (acz b (⋯) (⋯) rfl)) jg) rfl (by exact⟨⟨_,_,v5 _ _ _,Am _,λn C h=>adS h⟩,⋯,rfl,rfl,λn C h=>IB h⟩) (by exact⟨⟨_,_,An _ _ _,Iw _,λn C h=>adR h⟩,⋯,rfl,rfl,λn C h=>IB h⟩) rfl) (gE a c))
def KG:=oP [("store",false),("trees",true),("ahead",false),("root",true)] ["list","_law_error","create_tree","_law_empty"] none (some (.ref 826,"_law_begun_right.<locals>."))
def KH (C:ak):=ah (fQ 0 1 aW x0) (ah (bj (hU true)) ar)
def KI (C:ak):=cA (df dX l7 (br x0 0 2) bf)
def KJ (C:ak):=bY (fq (bi (aS C 77 (aD (qz 2 0 [1,3]))) (fX 0) du) (bi (br x0 0 2) (dP (aD (b4 3))) du)) (ah (bj (hU false)) ar) ar
def KL (C:ak):=bY (fq (kH (gV (aS C 76 (a0 x0 (fP (a0 (b4 3) (au 10))))))) (bi (df oA oB (br (b4 1) 1 2) (a0 (b4 3) (au 0))) (au 0) eI)) (ah (bj (hU false)) ar) ar
def al8 (C:ak):=ah (KL C) (ah (KJ C) (ah (KI C) (KH C)))
def al9 (C:ak):=qk 3 (aS C 42 (a0 (b4 1) (fX 2)))
def KM (C:ak):=bY (fq (bi (br x0 0 1) aW du) (bi (br (b4 1) 1 2) vH du)) (ah (bj (hU false)) ar) ar
def ama (C:ak):=bY (fq (bi (aS C 77 (aD (qz 0 0 [1]))) (fX 4) du) (bi (aS C 77 (aD (qz 1 0 [1]))) (fX 4) du)) (ah (bj (hU false)) ar) ar
def amb (C:ak):=ah (ama C) (ah (KM C) (ah (al9 C) (al8 C)))
def amc:=bc 2 (bQ qo (aD (br x0 0 1)))
def Bc (C:ak):ST:=ah amc (amb C)
def Bd:bd:=⟨KG,2,Bc,false⟩
theorem amd:bJ Bd 827:=g6 (hq:=.inr rfl) rfl ec λn C a f b=>by show eb _ _ KG (Bc C) _;unfold Bc;exact(ci (es a b) (ci (ow (zb (za (vp (qi a (fa:=820) rfl (eW (sR (I:=⟨"_law_begun_right.<locals>.<lambda>",_,_,_,_,["trees"]⟩) (c:=826) (P:=822) (by exact⟨⋯,rfl,⟨_,rfl,⋯⟩,⋯,⋯,(.cons (⋯) .nil),λj I d e _=>s0 d e (⋯),∅,λ_=>rfl⟩)) gX) (sZ _) (sY _) (⋯) rfl) (cD a) vJ) (y9 (vp (qi a (fa:=820) rfl (eW (sR (I:=⟨"_law_begun_right.<locals>.<lambda>",_,_,_,_,["trees"]⟩) (c:=826) (P:=822) (by exact⟨⋯,rfl,⟨_,rfl,⋯⟩,⋯,⋯,(.cons (⋯) .nil),λj I d e _=>s0 d e (⋯),∅,λ_=>rfl⟩)) gX) (sZ _) (sY _) (⋯) rfl) (cD a) vJ)))) (gE a b) (gE a b)) (ci (es a b) (ci (es a b) (ci (es a b) (ci (ow (zb (za (vp (qi a (fa:=820) rfl (eW (sR (I:=⟨"_law_begun_right.<locals>.<lambda>",_,_,_,_,["trees","root"]⟩) (c:=826) (P:=822) (by exact⟨⋯,rfl,⟨_,rfl,⋯⟩,⋯,⋯,(.cons (⋯) (.cons (⋯) .nil)),λj I d e _=>s0 d e (⋯),∅,λ_=>rfl⟩)) gX) (sZ _) (sY _) (⋯) rfl) (cD a) vJ) (y9 (oS a)))) (gE a b) (gE a b)) (gE a b)))))))
def Be:=oP [("store",false),("trees",true),("row",true),("octets",false),("spare",false),("pages",false),("told",false)] ["list","_law_error"] none (some (.ref 833,"_law_ring_right.<locals>."))
def ame (C:ak):=cA (bZ C x0 (aN 0 69) (a0 (bu (b4 2) (au 0) bT) bG))
def amf:=bY (fq (bi dw (dP (a0 (fX 5) (fX 5))) du) (fq (bi (br x0 0 1) cu du) (bi (br x0 0 2) b7 du))) (ah (bj (hU false)) ar) ar
def ta (C:ak):=ah amf (ah (ame C) (ah (bj (hU true)) ar))
def Bf (C:ak):=bc 6 (dP (a0 (aS C 77 (aD (qz 3 1 [1,2]))) (aS C 77 (aD (qz 4 1 [1,2])))))
def amg:=bc 5 (bQ qo (aD (br x0 0 1)))
def amh (C:ak):=cA (bZ C x0 (aN 0 69) (a0 (bu (b4 2) (au 0) bT) (aU .Add (aU .Add (gB bG iN (fF (au 8))) (df qp qt (bu (b4 2) (au 0) bT) (a0 (au 4) (fX 6))) ce) (gB bG (fF (au 12)) iN) ce)))
def ami (C:ak):=ah (amh C) (ah amg (ah (Bf C) (ta C)))
def amj:=bY (bi (bu bG (au 0) bT) (fP (a0 (au 2) (au 5))) zB) (ah (bj (hU true)) ar) ar
def amk (C:ak):=nl Be [3,4] (fP (a0 (bZ C x0 (aN 0 68) (aD (bu (b4 2) (au 0) bT))) (bQ qo (aD (br x0 0 2)))))
def Bg (C:ak):ST:=ah (amk C) (ah amj (ami C))
def wd:bd:=⟨Be,3,Bg,false⟩
theorem aml:bJ wd 834:=g6 (hq:=.inr rfl) rfl iQ λn C a f b=>by show eb _ _ Be (Bg C) _;unfold Bg;exact(ci (oC (I:=["octets","spare"]) (cD a) b (.cons (⋯) (.cons (⋯) .nil)) (λ_ L=>oN L (⋯) (⋯))) (ci (es a b) (ci (es a b) (ci (es a b) (ci (sB (He (eW (qi a (fa:=820) rfl (eW (sR (I:=⟨"_law_ring_right.<locals>.<lambda>",_,_,_,_,["trees","row"]⟩) (c:=833) (P:=829) (by exact⟨⋯,rfl,⟨_,rfl,⋯⟩,⋯,⋯,(.cons (⋯) (.cons (⋯) .nil)),λj I d e _=>s0 d e (⋯),∅,λ_=>rfl⟩)) gX) (sZ _) (sY _) (⋯) rfl) (eW (qi a (fa:=820) rfl (eW (sR (I:=⟨"_law_ring_right.<locals>.<lambda>",_,_,_,_,["trees","row"]⟩) (c:=833) (P:=829) (by exact⟨⋯,rfl,⟨_,rfl,⋯⟩,⋯,⋯,(.cons (⋯) (.cons (⋯) .nil)),λj I d e _=>s0 d e (⋯),∅,λ_=>rfl⟩)) gX) (sZ _) (sY _) (⋯) rfl) gX))) b (⋯) (⋯)) (gE a b))))))
def Bh:bb:=⟨Iu [("store",.cell),("trees",.local),("row",.cell),("is_whole",.local),("others",.local),("spare",.local),("counted",.local),("kept",.local),("given",.local),("list",.globalImplicit),("drop_tree",.globalImplicit),("clear_tree",.globalImplicit),("entries_of",.globalImplicit),("sorted",.globalImplicit),("len",.globalImplicit),("_law_empty",.globalImplicit)] ["store","trees","row","is_whole","others","spare","counted","other","page","kept","given"],[("store",true),("trees",false),("row",true),("is_whole",false),("others",false),("spare",false),("counted",false),("kept",false),("given",false)],false,none⟩
def mm:=nt ["other","page"] [] ["store"]
theorem KN:(mm.slots.map (·.1)).Nodup:=by decide+kernel
def amm (C:ak):=cA (aS C 46 (a0 aF (bu (b4 2) (au 0) bT)))
def amn (C:ak):=bY (fq (bi (aS C 45 (a0 aF (bu (b4 2) (au 0) bT))) (bu (b4 2) (au 2) bT) du) (bi (aS C 47 (a0 aF (bu (b4 2) (au 0) bT))) (au 0) du)) (ah (bj (hU false)) ar) ar
def we:=nt ["page"] [] ["row"]
theorem amo:(we.slots.map (·.1)).Nodup:=by decide+kernel
def wf:=nt ["other","page"] [] ["store"]
theorem KO:(wf.slots.map (·.1)).Nodup:=by decide+kernel
def KP (C:ak):=bj (jL (iP wf [0] 2 (js b7) 1 none (λa=>oI wf (js (bu aF (au 3) bT)) 2 none (gh (bZ C (b4 0) (aN 0 68) (aD aW)) a) a)) c1 eI)
def amp (C:ak):=bY (fq (kH (gV (aS C 76 (a0 (b4 0) (b4 2))))) (bi (df oA oB (br aF 1 2) (a0 (bu (b4 2) (au 0) bT) (au 0))) dw oK)) (ah (bj (hU false)) ar) ar
def amq:=bY (fq (bi (bQ zv (aD (gB (br (b4 0) 0 2) (fF (bQ dD (aD cu))) iN))) dZ du) (bi (gB (br (b4 0) 0 2) iN (fF (bQ dD (aD cu)))) cu du)) (ah (bj (hU false)) ar) ar
def KQ (C:ak):=ah amq (ah (amp C) (ah (KP C) ar))
def KR (C:ak):=bc 8 (l5 (gV bG) (bQ zv (aD (bu (b4 2) (au 3) bT))) (iP we [2] 1 (js (bu (b4 2) (au 3) bT)) 1 (some (bi aF (bu (b4 0) (au 0) bT) du)) (gh aF)))
def KS (C:ak):=bY (gV bG) (ah (amm C) ar) (ah (amn C) ar)
def amr (C:ak):=bc 7 (iP mm [0] 2 (js b7) 1 none (λa=>oI mm (js (bu aF (au 3) bT)) 2 none (gh (bZ C (b4 0) (aN 0 68) (aD aW)) a) a))
def KT (C:ak):=ah (amr C) (ah (KS C) (ah (KR C) (KQ C)))
def ams:=nl Bh [5,6] (fP (a0 (bQ qo (aD (br (b4 0) 0 2))) (df oA oB (br aF 1 2) (a0 (bu (b4 2) (au 0) bT) (au 0)))))
def Bi (C:ak):ST:=ah ams (KT C)
def Bj:bd:=⟨Bh,5,Bi,false⟩
theorem amt:bJ Bj 839:=g6 rfl Ir λn C a d c=>by show eb _ _ Bh (Bi C) _;unfold Bi;exact(ci (oC (I:=["spare","counted"]) (cD a) c (.cons (⋯) (.cons (⋯) .nil)) (λ_ L=>oN L (⋯) (⋯))) (ci (acT (lJ:=["other","page"]) (by exact⟨⋯,rfl,rfl,⋯,(.cons (⋯) .nil),by decide+kernel,rfl,by decide+kernel,by decide+kernel,KN⟩) (qB (cD a)) (em:=λb=>oI mm (js (bu aF (au 3) bT)) 2 none (gh (bZ C (b4 0) (aN 0 68) (cG aW bf)) b) b) (λb=>H3 (qB (cD a)) (nr (cD a)) md H7 KN (⋯) (⋯) rfl rfl) md H6 (⋯) (⋯) c (⋯) (⋯) (λ_ L=>adz L (⋯))) (ci (es a c) (ci (sB (GA (oS a) (cD a) (oJ (lJ:=["page"]) (by exact⟨⋯,rfl,rfl,⋯,(.cons (⋯) .nil),by decide+kernel,rfl,by decide+kernel,by decide+kernel,amo⟩) (qB (cD a)) (λb=>nr (cD a)) (acM (oS a)) acS (⋯) (⋯))) c (⋯) (⋯)) (ci (es a c) (ci (es a c) (ci (l6 (Gy (oJ (lJ:=["other","page"]) (by exact⟨⋯,rfl,rfl,⋯,(.cons (⋯) .nil),by decide+kernel,rfl,by decide+kernel,by decide+kernel,KO⟩) (qB (cD a)) (em:=λb=>oI wf (js (bu aF (au 3) bT)) 2 none (gh (bZ C (b4 0) (aN 0 68) (cG aW bf)) b) b) (λb=>H3 (qB (cD a)) (nr (cD a)) md H7 KO (⋯) (⋯) rfl rfl) md H6 (⋯) (⋯)) (cD a) Hh)) jg)))))))
def jQ:=bI ["script","source","store","trees","rows","turn","row","left","root"] ["_law_pool","PageStore","Trees","_law_begun_right","range","_law_take","_law_made","entries_of","_law_ring_right","list","len","_law_gone_right","create_tree","_law_empty"]
def KU (C:ak):=cA (df dX fj b7 (aD (aS C 75 (cK aF aW bG))))
def wg (C:ak):=bY (fq (bi (aS C 47 (a0 bG (bu dw (au 0) bT))) (bu dw (au 2) bT) du) (kH (gV (aS C 79 (cK aW bG dw))))) (ah (bj (hU false)) ar) ar
def wh (C:ak):=bY (kH (gV (aS C 80 (e9 aW bG dw (jL (aS C 74 (a0 aF (au 2))) (au 0) eI) c1)))) (ah (bj (hU false)) ar) ar
def qO (C:ak):=bc 6 (df dX l7 c1 (aD (aS C 74 (a0 aF (bQ dD (aD c1))))))
def Bk (C:ak):=bj (vq (aS C 76 (a0 aW (fP (a0 dZ (au 13))))) (jL (aS C 47 (a0 bG dZ)) (au 0) eI))
def KV (C:ak):=bc 8 (aS C 42 (a0 bG (fX 1)))
def amu (C:ak):=qu jQ (bi c1 (dP bf) du) (ah (qO C) (ah (wh C) ar))
def amv (C:ak):=ah (amu C) (ah (KV C) (ah (Bk C) ar))
def amw (C:ak):=ah (bc 7 (bQ qo (aD b7))) (amv C)
def amx (C:ak):=ah (jO jQ 6 b7 (ah (wg C) ar)) (amw C)
def KW (C:ak):=jk jQ 5 (aD (aU .Add (au 1) (aS C 74 (a0 aF (au 3))) ce)) (ah (KU C) ar)
def KX (C:ak):=ah (bc 4 (dP bf)) (ah (KW C) (amx C))
def amy (C:ak):=bY (kH (gV (aS C 78 (a0 aW bG)))) (ah (bj (hU false)) ar) ar
def amz (C:ak):=bc 3 (jl C 1 35 (a0 aW aW))
def amA (C:ak):=ah (cA (bZ C aW (aN 0 70) bf)) (ah (amz C) (ah (amy C) (KX C)))
def amB (C:ak):=ah (bc 2 (jl C 0 66 (aD (au 64)))) (amA C)
def amC (C:ak):=ah (bc 1 (aS C 73 (aD x0))) (amB C)
def amD (C:ak):ST:=amC C
def lu:bd:=⟨jQ,1,amD,false⟩
theorem KY:bJ lu 846:=cf rfl eJ
end
noncomputable section
def KZ:=sX ["trees"] ["create_tree"]
theorem atD:(KZ.slots.map (·.1)).Nodup:=by decide+kernel
def K0 (C:ak):a7:=aS C 42 (a0 (b4 0) (fX 3))
def K1:bd:=⟨KZ,0,λC=>bj (K0 C),true⟩
theorem amE (L:d4) (w:dU) (r:al):∃I,nq (bR L w r) eK K1 0 I K0:=by
 refine⟨_,⟨rfl,rfl,λ_=>rfl,⋯,λn C a b=> ?_,⋯,⋯,⋯,by decide+kernel,λ_ _ _ _=> ⋯,by decide+kernel⟩⟩;exact(cD a)
def K2:=sX ["trees"] ["drop_tree"]
theorem atE:(K2.slots.map (·.1)).Nodup:=by decide+kernel
def K3 (C:ak):a7:=aS C 46 (a0 (b4 0) (au 1))
def K4:bd:=⟨K2,0,λC=>bj (K3 C),true⟩
theorem amF (L:d4) (w:dU) (r:al):∃I,nq (bR L w r) eK K4 1 I K3:=by
 refine⟨_,⟨rfl,rfl,λ_=>rfl,⋯,λn C a b=> ?_,⋯,⋯,⋯,by decide+kernel,λ_ _ _ _=> ⋯,by decide+kernel⟩⟩;exact(cD a)
def K5:=sX ["root","trees"] ["drop_tree"]
theorem atF:(K5.slots.map (·.1)).Nodup:=by decide+kernel
def K6 (C:ak):a7:=aS C 46 (a0 (b4 0) (b4 1))
def K7:bd:=⟨K5,0,λC=>bj (K6 C),true⟩
theorem amG (L:d4) (w:dU) (r:al):∃I,nq (bR L w r) eK K7 2 I K6:=by
 refine⟨_,⟨rfl,rfl,λ_=>rfl,⋯,λn C a b=> ?_,⋯,⋯,⋯,by decide+kernel,λ_ _ _ _=> ⋯,by decide+kernel⟩⟩;exact(cD a)
def K8:=sX ["row","trees"] ["entries_of"]
theorem atG:(K8.slots.map (·.1)).Nodup:=by decide+kernel
def K9 (C:ak):a7:=aS C 47 (a0 (b4 0) (bu (b4 1) (au 0) bT))
def La:bd:=⟨K8,0,λC=>bj (K9 C),true⟩
theorem amH (L:d4) (w:dU) (r:al):∃I,nq (bR L w r) eK La 3 I K9:=by
 refine⟨_,⟨rfl,rfl,λ_=>rfl,⋯,λn C a b=> ?_,⋯,⋯,⋯,by decide+kernel,λ_ _ _ _=> ⋯,by decide+kernel⟩⟩;exact(cD a)
def Lb:=sX ["row","trees"] ["clear_tree"]
theorem atH:(Lb.slots.map (·.1)).Nodup:=by decide+kernel
def Lc (C:ak):a7:=aS C 45 (a0 (b4 0) (bu (b4 1) (au 0) bT))
def Ld:bd:=⟨Lb,0,λC=>bj (Lc C),true⟩
theorem amI (L:d4) (w:dU) (r:al):∃I,nq (bR L w r) eK Ld 4 I Lc:=by
 refine⟨_,⟨rfl,rfl,λ_=>rfl,⋯,λn C a b=> ?_,⋯,⋯,⋯,by decide+kernel,λ_ _ _ _=> ⋯,by decide+kernel⟩⟩;exact(cD a)
def Le:List bd:=[IX,IZ,I0,I1,I2,I3,I4,I5,I6,I7,I8,I9,Ja,Jb,Jc,Jd,Jh,Ji,Jk,Jl,Jm,Jn,Jo,Jp,Jq,Jr,Jt,Ju,Jw,Jx,Jz,JA,JB,JC,JE,JF,JG,JH,JI,AB,JJ,AC,AE,AG,JO,AJ,JR,AM,JS,JV,JW,JX,JY,JZ,J0,J1,J2,J4,J7,Ka,Kd,Ke,Kh,AZ,Kn,A4,Kp,Kq,Kr,Ks,A5,Kt,Ku,Ky,Kz,A9,Ba,KF,Bd,wd,Bj,lu]
def Lf:List bd:=[K1,K4,K7,La,Ld]
def aA (f:Nat):Option bd:=if f<1000 then Le[f]? else Lf[f-1000]?
end
def kq:aa->Bool
 | .ref _=>false
 |_=>true
theorem qP {b:Nat->Option Nat} {a:aa} (h:kq a=true):cz b a=a:=by
 cases a<;>first|rfl|contradiction
@[irreducible] def dx (k:aa->ae->Prop) (u:List Nat) (J:ae):aa->ae->Prop:=λr z=>∃l:List Nat,l.Nodup/\(∀j∈l,u.length <= j/\j<z.length)/\k (cz (cY u l J.length) r) (c5 u l J z)
theorem Lg {k:aa->ae->Prop} {u:List Nat} {J z:ae} {r:aa}:dx k u J r z= ∃l:List Nat,l.Nodup/\(∀j∈l,u.length <= j/\j<z.length)/\k (cz (cY u l J.length) r) (c5 u l J z):=by unfold dx;rfl
theorem fR {k:aa->ae->Prop} {u:List Nat} {J z:ae} {r:aa} (h:∃l:List Nat,l.Nodup/\(∀j∈l,u.length <= j/\j<z.length)/\k (cz (cY u l J.length) r) (c5 u l J z)):dx k u J r z:=Lg▸h
theorem Bl {f n:Nat} {F:bd} {H:List aa} {J:ae} {k:aa->ae->Prop} {x:bn} (M:aA f=some F) (a:F.lam=false) (b:1 <= n) (c:H.length=F.jf) (u:List Nat) (d:u.Nodup) (E:∀i∈u,i<J.length)
  (h:fE F (az aA (n-1)) (H.map (cz (dG u))) (g8 u J) (dx k u J) (λm z=>x m (c5 u [] J z))):az aA n f H J k x:=by
 obtain⟨m,rfl⟩:∃m,n=m+1:=⟨n-1,yt (ay ..) b⟩
 unfold az;rw [M];dsimp only;rw [if_neg (by rw [a];decide)];haveI h:=(show dx k u J=_ from funext λr=>funext λz=>Lg)▸h;exact⟨c,u,d,E,h⟩
theorem fk {k:aa->ae->Prop} {J z:ae} {r:aa} (a:kq r=true) (h:k r J):dx k [] J r z:=by
 refine fR (cJ ([]) f8 (by simp) ?_);rw [qP a]
 simpa [c5,d1] using h
theorem gF {f n:Nat} {F:bd} {H:List aa} {J:ae} {k:aa->ae->Prop} {x:bn} (M:aA f=some F) (b:F.lam=false) (c:1 <= n) (d:H.length=F.jf) (g:H.all kq=true)
  (h:fE F (az aA (n-1)) H [] (dx k [] J) (λm _=>x m J)):az aA n f H J k x:=by
 refine Bl M b c d [] f8 (by simp) ?_
 haveI e:H.map (cz (dG []))=H:=by
  haveI:∀a∈H,cz (dG []) a=a:=λa i=>qP (dc.mp g a i);rw [gQ this];simp
 rw [e]
 haveI j:(λm z=>x m (c5 [] [] J z))=λm _=>x m J:=by
  simp [c5,d1]
 rw [j];exact h
def bB (p:Nat):aa->Bool
 | .ref j=>bD j p
 |_=>true
def aL (p:Nat):aB->Bool
 | .list l=>l.all (bB p)
 | .tup l=>l.all (bB p)
 | .inst _ d=>bD d p
 | .aZ _ w=>w.all (bB p)
 | .cell v=>bB p v
 | .cw _ i l=>bD i p&&l.all λq=>bD q.2 p
 | .fn _ u a=>bD u p&&a.all λq=>bD q p
 |_=>true
theorem oV {p:Nat} {b:Nat->Option Nat} (e:∀j,j<p->b j=some j) {a:aa} (h:bB p a=true):cz b a=a:=by
 cases a<;>first|rfl|skip
 rename_i j;show(match b j with|some i=>aa.ref i|none=>.dW)=_
 rw [e j (bS.mp h)]
theorem mn {d:Type} {f:d->d} {l:List d} (h:∀a∈l,f a=a):l.map f=l:=by
 rw [gQ h];simp
theorem amJ {p:Nat} {b:Nat->Option Nat} (e:∀j,j<p->b j=some j) {l:List Nat}:(l.all λq=>bD q p)=true->ge b l=some l:=by
 induction l with
 |nil=>
  intro _;exact rfl
 |cons a l B=>
  intro h;simp only [ii,eC] at h;unfold ge;rw [e a (bS.mp h.1),B h.2]
theorem amK {p:Nat} {b:Nat->Option Nat} (e:∀j,j<p->b j=some j) {l:List (Nat×Nat)}:(l.all λq=>bD q.2 p)=true->gf b l=some l:=by
 induction l with
 |nil=>
  intro _;exact rfl
 |cons a l B=>
  intro h;simp only [ii,eC] at h;unfold gf;rw [e a.2 (bS.mp h.1),B h.2]
theorem qQ {p:Nat} {b:Nat->Option Nat} (e:∀j,j<p->b j=some j) {o:aB} (h:aL p o=true):mo b o=o:=by
 induction o with
 |list l=>exact congrArg aB.list (mn λa g=>oV e (dc.mp h a g))
 |tup l=>exact congrArg aB.tup (mn λa g=>oV e (dc.mp h a g))
 |aZ c l=>exact congrArg (aB.aZ c) (mn λa g=>oV e (dc.mp h a g))
 |inst c d=>
  show(match b d with|some i=>aB.inst c i|none=>.dead)=_
  rw [e d (bS.mp h)]
 |cell v=>exact congrArg aB.cell (oV e h)
 |cw f i l=>
  haveI h:(bD i p&&l.all λq=>bD q.2 p)=true:=h;rw [eC] at h;show(match b i with|some A=>(match gf b l with|some m=>aB.cw f A m|none=>.dead)|none=>.dead)=_
  rw [e i (bS.mp h.1),amK e h.2]
 |fn j u k=>
  haveI h:(bD u p&&k.all λq=>bD q p)=true:=h;rw [eC] at h;show(match b u with|some A=>(match ge b k with|some m=>aB.fn j A m|none=>.dead)|none=>.dead)=_
  rw [e u (bS.mp h.1),amJ e h.2]
 |_=>rfl
theorem Lh {p:Nat}:∀(q m j:Nat),m <= j->j<m+q->fO j (jD m q) m=some j
 |0,m,j,a,b=>absurd a (Nat.not_le.mpr b)
 |q+1,m,j,a,b=>by
  rw [OZ];rw [sr];by_cases e:m=j
  ·subst e;rw [if_pos (uk m)]
  ·rw [if_neg (λq=>e (ug q))];exact Lh (p:=p) q (m+1) j (Tp a e) (TQ b)
theorem oW {p j:Nat} (h:j<p):dG (aI p) j=some j:=by
 rw [lP];exact Lh (p:=p) p 0 j (eF _) (Rt h)
theorem Li {p n j:Nat} {l:List Nat} (h:j<p):cY (aI p) l n j=some j:=by
 unfold cY;rw [jC,if_pos h];exact i5 h
theorem Bm {p:Nat} {W t:ae} (c:W.length=p) (d:W.all (aL p)=true):g8 (aI p) (W++t)=W:=by
 unfold g8;apply rF;intro i;rw [cm];by_cases a:i<p
 ·rw [i5 a];have b:i<W.length:=ET a c;rw [pM,da,im b,bV b,pO];rw [qQ (λj e=>oW e) (dc.mp d _ (mX b))]
 ·rw [hJ (by simp;exact jH a),hJ (by exact E0 c a)];rfl
theorem Bn {f:aB->aB}:∀(W':ae) (m:Nat) (a W t g:ae),W.length=W'.length->a.length=m->(∀o∈W',f o=o)->d1 f (jD m W'.length) (W'++g) (a++W++t)=a++W'++t
 | [],m,a,W,t,g,h,_,_=>by
  haveI:W=[]:=xQ h;subst this;rfl
 |o::W',m,a,W,t,g,h,b,M=>by
  cases W with
  |nil=>contradiction
  |cons w W=>
   show d1 f (m::jD (m+1) W'.length) (o::(W'++g)) _=_
   rw [ot];rw [M o (.head _)]
   haveI e:(a++w::W++t).set m o=(a++[o])++W++t:=by
    subst b;simp
   rw [e,Bn W' (m+1) (a++[o]) W t g (mZ h) (by simp [b]) (λo c=>M o (.tail _ c))];simp
theorem Bo {p:Nat} {l:List Nat} {W W' t g:ae} (b:W.length=p) (a:W'.length=p) (c:W'.all (aL p)=true):
  c5 (aI p) l (W++t) (W'++g)=W'++t++l.map λj=>mo (cY (aI p) l (W++t).length) ((W'++g).getD j .dead):=by
 unfold c5;congr 1;haveI:=Bn (f:=mo (cY (aI p) l (W++t).length)) W' 0 [] W t g (EU b a) rfl (λo d=>qQ (λj e=>Li e) (dc.mp c o d));rw [a,<-lP] at this
 simpa using this
theorem ez {f n p:Nat} {F:bd} {H:List aa} {W t:ae} {k:aa->ae->Prop} {x:bn} (M:aA f=some F) (c:F.lam=false) (d:1 <= n) (e:H.length=F.jf) (b:W.length=p) (g:W.all (aL p)=true) (l:H.all (bB p)=true)
  (h:fE F (az aA (n-1)) H W (dx k (aI p) (W++t)) (λm z=>x m (c5 (aI p) [] (W++t) z))):az aA n f H (W++t) k x:=by
 refine Bl M c d e (aI p) DH (λi o=>by have:=gr.mp o;simp;exact Tv this b) ?_;rw [Bm b g,mn λa r=>oV (λj q=>oW q) (dc.mp l a r)];exact h
theorem f0 {p:Nat} {k:aa->ae->Prop} {W W' t g:ae} {r:aa} (b:W.length=p) (a:W'.length=p) (c:W'.all (aL p)=true) (d:bB p r=true) (h:k r (W'++t)):dx k (aI p) (W++t) r (W'++g):=by
 refine fR (cJ ([]) f8 (by simp) ?_);rw [Bo b a c,oV (λj e=>Li e) d]
 simpa using h
theorem tb {p:Nat} {W W' t g:ae} {x:bn} {m:Nat} (b:W.length=p) (a:W'.length=p) (c:W'.all (aL p)=true) (h:x m (W'++t)):x m (c5 (aI p) [] (W++t) (W'++g)):=by
 rw [Bo b a c];simpa using h
theorem qR {p:Nat} {k:aa->ae->Prop} {W W' t g:ae} {r:aa} (l:List Nat) (b:l.Nodup) (K:∀j∈l,p <= j/\j<(W'++g).length) (c:W.length=p) (a:W'.length=p) (d:W'.all (aL p)=true)
  (h:k (cz (cY (aI p) l (W++t).length) r) (W'++t++l.map λj=>mo (cY (aI p) l (W++t).length) ((W'++g).getD j .dead))):dx k (aI p) (W++t) r (W'++g):=by
 refine fR (cJ l b (by rw [jC];exact K) ?_);rw [Bo c a d];exact h
section
variable {n:Nat} {J:ae} {k:aa->ae->Prop} {x:bn}
theorem amL {l:List Int} {i:Int} {v:Int} (N:0 <= i) (h:l[i.toNat]? =some v):eo l i=some v:=by unfold eo;rw [if_pos N];exact h
theorem Bp {l:List Int} {i a b:Int} (e:1 <= n) (c:l.length <= 16777216) (f:eo l i=some a) (g:eo l (i+1)=some b) (d:0 <= a/\a<256) (h:k (.int (a*256+b)) J):
  az aA n 3 [.bytes l,.int i] J k x:=
 gF rfl rfl e rfl rfl (And.intro c (dB f (And.intro (uq ⟨yB d,yz d⟩) (And.intro c (dB g (fk rfl h))))))
def dr (u:Int):Bool:=decide (u=13)||decide (u=10)
theorem qS {u:Int} (a:1 <= n) (h:k (.bool (dr u)) J):az aA n 8 [.int u] J k x:=by
 refine gF rfl rfl a rfl rfl ?_;unfold dr at h;by_cases e:u=13
 ·rw [decide_eq_true e] at h;exact eH (decide_eq_true e) (fk rfl h)
 ·rw [decide_eq_false e] at h;exact cn (decide_eq_false e) (fk rfl h)
theorem amM {u:Int} (a:1 <= n) (h:k (.bool (decide (u=13)||decide (u=5))) J):az aA n 9 [.int u] J k x:=by
 refine gF rfl rfl a rfl rfl ?_;by_cases e:u=13
 ·rw [decide_eq_true e] at h;exact eH (decide_eq_true e) (fk rfl h)
 ·rw [decide_eq_false e] at h;exact cn (decide_eq_false e) (fk rfl h)
theorem amN {u:Int} (a:2 <= n) (h:k (.int (if dr u then 8 else 12)) J):az aA n 10 [.int u] J k x:=by
 refine gF rfl rfl (aQ a ab) rfl rfl (qS (aM (ay ..) a ab) ?_);cases e:dr u
 ·rw [e] at h;exact fk rfl h
 ·rw [e] at h;exact fk rfl h
theorem amO {u:Int} (a:1 <= n) (h:k (.int (if u=13 then 29 else 1)) J):az aA n 11 [.int u,.int 64] J k x:=by
 refine gF rfl rfl a rfl rfl ?_;by_cases e:u=13
 ·rw [if_pos e] at h;exact eH (decide_eq_true e) (fk rfl h)
 ·rw [if_neg e] at h;exact cn (decide_eq_false e) (And.intro ∅ (And.intro ∅ (fk rfl h)))
theorem amP (a:1 <= n) (h:k (.int 0) J):az aA n 12 [.int 64] J k x:=
 gF rfl rfl a rfl rfl (And.intro ∅ (And.intro ∅ (fk rfl h)))
def dT (u a:Int):Int:=if a <= (if u=13 then 29 else 1) then a else if a%60 <= (if u=13 then 29 else 1) then a%60 else 0
theorem Lj {u a:Int} (c:2 <= n) (h:k (.int (dT u a)) J):az aA n 13 [.int u,.int 64,.int a] J k x:=by
 refine gF rfl rfl (aQ c ab) rfl rfl (amO (aM (ay ..) c ab) ?_);unfold dT at h;by_cases e:a <= (if u=13 then 29 else 1)
 ·rw [if_pos e] at h;exact eH (decide_eq_true e) (fk rfl h)
 ·rw [if_neg e] at h;refine cn (decide_eq_false e) (amP (aM (ay ..) c ab) (And.intro ∅ ?_))
  haveI z:0+(a-0)%(64-4)=a%60:=by
   rw [Int.sub_zero,O0];rfl
  by_cases b:a%60 <= (if u=13 then 29 else 1)
  ·rw [if_pos b] at h;exact eH (decide_eq_true (by rw [z];exact b)) (fk rfl (by rw [z];exact h))
  ·rw [if_neg b] at h;exact cn (decide_eq_false (by rw [z];exact b)) (fk rfl h)
end
theorem Lk {f g:Nat->Option Nat} {p:Nat} (h:∀j,j<p->∃i,f j=some i/\g i=some j) {a:aa} (c:bB p a=true):cz g (cz f a)=a:=by
 cases a<;>first|rfl|skip
 rename_i j;refine aw (h j (bS.mp c)) λi b d=> ?_;show cz g (match f j with|some i=>aa.ref i|none=>.dW)=_
 rw [b];show(match g i with|some i=>aa.ref i|none=>.dW)=_
 rw [d]
theorem amQ {f g:Nat->Option Nat} {p:Nat} (h:∀j,j<p->∃i,f j=some i/\g i=some j) {l:List Nat}:(l.all λq=>bD q p)=true->∃m,ge f l=some m/\ge g m=some l:=by
 induction l with
 |nil=>
  intro _;exact(aJ ([]) rfl rfl)
 |cons a l B=>
  intro c;simp only [ii,eC] at c;exact aw (B c.2) λm b d=>aw (h a (bS.mp c.1)) λi e k=>aJ (i::m) (by unfold ge;rw [e,b]) (by unfold ge;rw [k,d])
theorem amR {f g:Nat->Option Nat} {p:Nat} (h:∀j,j<p->∃i,f j=some i/\g i=some j) {l:List (Nat×Nat)}:(l.all λq=>bD q.2 p)=true->∃m,gf f l=some m/\gf g m=some l:=by
 induction l with
 |nil=>
  intro _;exact(aJ ([]) rfl rfl)
 |cons a l B=>
  intro c;simp only [ii,eC] at c;exact aw (B c.2) λm b d=>aw (h a.2 (bS.mp c.1)) λi e k=>aJ ((a.1,i)::m) (by unfold gf;rw [e,b]) (by unfold gf;rw [k,d])
theorem wi {f g:Nat->Option Nat} {p:Nat} (h:∀j,j<p->∃i,f j=some i/\g i=some j) {l:List aa} (c:l.all (bB p)=true):(l.map (cz f)).map (cz g)=l:=by
 rw [iE];exact mn λa b=>Lk h (dc.mp c a b)
theorem amS {f g:Nat->Option Nat} {p:Nat} (h:∀j,j<p->∃i,f j=some i/\g i=some j) {o:aB} (c:aL p o=true):mo g (mo f o)=o:=by
 induction o with
 |list l=>exact congrArg aB.list (wi h c)
 |tup l=>exact congrArg aB.tup (wi h c)
 |aZ k l=>exact congrArg (aB.aZ k) (wi h c)
 |inst k d=>
  refine aw (h d (bS.mp c)) λi a b=> ?_;show mo g (match f d with|some i=>aB.inst k i|none=>.dead)=_
  rw [a];show(match g i with|some i=>aB.inst k i|none=>.dead)=_
  rw [b]
 |cell v=>exact congrArg aB.cell (Lk h c)
 |cw t i l=>
  refine a6 λw e=> ?_;have c:(bD i p&&l.all λq=>bD q.2 p)=true:=c;rw [eC] at c;refine aw (h i (bS.mp c.1)) λA a b=>aw (amR h c.2) λm n r=>e ?_;show mo g (match f i with|some A=>(match gf f l with|some m=>aB.cw t A m|none=>.dead)|none=>.dead)=_
  rw [a,n];show(match g A with|some A=>(match gf g m with|some m=>aB.cw t A m|none=>.dead)|none=>.dead)=_
  rw [b,r]
 |fn j u s=>
  refine a6 λw e=> ?_;have c:(bD u p&&s.all λq=>bD q p)=true:=c;rw [eC] at c;refine aw (h u (bS.mp c.1)) λA a b=>aw (amQ h c.2) λm n r=>e ?_;show mo g (match f u with|some A=>(match ge f s with|some m=>aB.fn j A m|none=>.dead)|none=>.dead)=_
  rw [a,n];show(match g A with|some A=>(match ge g m with|some m=>aB.fn j A m|none=>.dead)|none=>.dead)=_
  rw [b,r]
 |_=>rfl
abbrev cL (u:List Nat):Nat->Option Nat:=λq=>u[q]?
theorem Ll {i:Nat} {u:List Nat}:∀{q:Nat} {n:Nat},u.Nodup->u[q]? =some i->fO i u n=some (n+q):=by
 induction u with
 |nil=>
  intro q n _ h;contradiction
 |cons j u B=>
  intro q n a h;rw [eD] at a;rw [sr];induction q with
  |zero=>
   simp at h;subst h;rw [if_pos (uk j)];rfl
  |succ q=>
   haveI:¬mV j i=true:=by
    intro e;haveI:=ug e;subst this;exact a.1 (cq h)
   rw [if_neg this,B a.2 h];congr 1;exact yu
theorem Lm {u:List Nat} (b:u.Nodup):∀j,j<u.length->∃i,cL u j=some i/\dG u i=some j:=λj a=>(aJ (u[j]) (bV a) (by
 haveI:=Ll (n:=0) b (bV a)
 rwa [xJ] at this))
inductive cM (f:Nat->Option Nat) (led:ae):List Nat->ae->Prop
 |nil:cM f led [] []
 |cons {i σ o W}:led[i]? =some (mo f o)->cM f led σ W->cM f led (i::σ) (o::W)
theorem cM.lt {f:Nat->Option Nat} {J:ae} {u:List Nat} {W:ae} (h:cM f J u W):∀i∈u,i<J.length:=by
 induction h with
 |nil=>intro i a;cases a
 |cons e _ B=>intro i a;cases a with
  |head=>exact(cF.mp e).1
  |tail _ h=>exact B i h
theorem cM.len {f:Nat->Option Nat} {J:ae} {u:List Nat} {W:ae} (h:cM f J u W):W.length=u.length:=by
 induction h with
 |nil=>rfl
 |cons _ _ B=>simp [B]
theorem cM.map {f g:Nat->Option Nat} {J:ae} {u:List Nat} {W:ae} (h:cM f J u W) {p:Nat} (a:∀j,j<p->∃i,f j=some i/\g i=some j) (b:W.all (aL p)=true):(u.map λi=>mo g (J.getD i .dead))=W:=by
 induction h with
 |nil=>rfl
 |cons e _ B=>
  simp only [ii,eC] at b;rw [cB,B b.2,da,e,pO,amS a b.1]
theorem oX {J:ae} {i:Nat} {o:aB} (e:J[i]? =some o):J.set i o=J:=by
 apply rF;intro j;rw [List.getElem?_set];split
 ·rename_i h;subst h;rw [if_pos (cF.mp e).1,e]
 ·rfl
theorem nx {f:Nat->Option Nat} {J:ae} {u:List Nat} {W:ae} (h:cM f J u W) {F:aB->aB} (a:∀o∈W,F o=mo f o) (g:ae):d1 F u (W++g) J=J:=by
 induction h with
 |nil=>rfl
 |cons e _ B=>
  show d1 F _ (_::(_++g)) J=J
  rw [ot];rw [a _ (.head _)];rw [oX e];exact B λo b=>a o (.tail _ b)
theorem Ln {f g:Nat->Option Nat} {p:Nat} (h:∀j,j<p->f j=g j) {a:aa} (c:bB p a=true):cz f a=cz g a:=by
 cases a<;>first|rfl|skip
 rename_i j;show(match f j with|some i=>aa.ref i|none=>.dW)=(match g j with|some i=>aa.ref i|none=>.dW)
 rw [h j (bS.mp c)]
theorem amT {f g:Nat->Option Nat} {p:Nat} (h:∀j,j<p->f j=g j) {l:List Nat}:(l.all λq=>bD q p)=true->ge f l=ge g l:=by
 induction l with
 |nil=>
  intro _;exact rfl
 |cons a l B=>
  intro c;simp only [ii,eC] at c;unfold ge;rw [h a (bS.mp c.1),B c.2]
theorem amU {f g:Nat->Option Nat} {p:Nat} (h:∀j,j<p->f j=g j) {l:List (Nat×Nat)}:(l.all λq=>bD q.2 p)=true->gf f l=gf g l:=by
 induction l with
 |nil=>
  intro _;exact rfl
 |cons a l B=>
  intro c;simp only [ii,eC] at c;unfold gf;rw [h a.2 (bS.mp c.1),B c.2]
theorem kl {f g:Nat->Option Nat} {p:Nat} (h:∀j,j<p->f j=g j) {o:aB} (c:aL p o=true):mo f o=mo g o:=by
 haveI b:∀l:List aa,l.all (bB p)=true->l.map (cz f)=l.map (cz g):=λl c=>gQ λa n=>Ln h (dc.mp c a n);induction o with
 |list l=>exact congrArg aB.list (b l c)
 |tup l=>exact congrArg aB.tup (b l c)
 |aZ k l=>exact congrArg (aB.aZ k) (b l c)
 |inst k d=>
  show(match f d with|some i=>aB.inst k i|none=>.dead)=(match g d with|some i=>aB.inst k i|none=>.dead)
  rw [h d (bS.mp c)]
 |cell v=>exact congrArg aB.cell (Ln h c)
 |cw t i l=>
  haveI c:(bD i p&&l.all λq=>bD q.2 p)=true:=c;rw [eC] at c;show(match f i with|some A=>(match gf f l with|some m=>aB.cw t A m|none=>.dead)|none=>.dead)=(match g i with|some A=>(match gf g l with|some m=>aB.cw t A m|none=>.dead)|none=>.dead)
  rw [h i (bS.mp c.1),amU h c.2]
 |fn j u e=>
  haveI c:(bD u p&&e.all λq=>bD q p)=true:=c;rw [eC] at c;show(match f u with|some A=>(match ge f e with|some m=>aB.fn j A m|none=>.dead)|none=>.dead)=(match g u with|some A=>(match ge g e with|some m=>aB.fn j A m|none=>.dead)|none=>.dead)
  rw [h u (bS.mp c.1),amT h c.2]
 |_=>rfl
theorem jm {u l:List Nat} {n p:Nat} (a:u.length=p):∀j,j<p->cY u l n j=cL u j:=λj b=>by
 unfold cY;rw [if_pos (by exact ET b a)]
theorem dQ {f n p:Nat} {F:bd} {H:List aa} {J W:ae} {k:aa->ae->Prop} {x:bn} (u:List Nat) (M:aA f=some F) (c:F.lam=false) (d:1 <= n) (e:H.length=F.jf) (a:u.Nodup) (g:u.length=p) (b:cM (cL u) J u W) (i:W.all (aL p)=true) (j:H.all (bB p)=true)
  (h:fE F (az aA (n-1)) H W (dx k u J) (λm z=>x m (c5 u [] J z))):az aA n f (H.map (cz (cL u))) J k x:=by
 subst g;refine Bl M c d (by rw [bz];exact e) u a b.lt ?_;rw [wi (Lm a) j];haveI:g8 u J=W:=b.map (Lm a) i;rw [this];exact h
theorem h8 {p:Nat} {k:aa->ae->Prop} {u:List Nat} {J W g:ae} {r:aa} (a:cM (cL u) J u W) (b:u.length=p) (c:W.all (aL p)=true) (d:kq r=true) (h:k r J):dx k u J r (W++g):=by
 refine fR (cJ ([]) f8 (λ_ h=>(c6 h).elim) ?_);rw [qP d];unfold c5;rw [nx a (λo e=>kl (jm b) (dc.mp c o e)) g]
 simpa using h
theorem Bq (m:Nat):dv 0 (m:Int) 1=(aI m).map λi=>((i:Nat):Int):=by
 unfold dv
 haveI e:(gt 0 m 1).toNat=m:=by
  unfold gt;rw [if_pos ∅];split<;>rename_i g<;>(first|exact T1 (fh (m-0-1) 1 ∅) (bp _)|exact S9 (bp _) g)
 rw [e];exact gQ λi _=>RU
theorem Lo {m i:Nat} (h:i<m):(dv 0 (m:Int) 1)[i]? =some (i:Int):=by
 rw [Bq,cm,i5 h];rfl
theorem Lp {m:Nat}:(dv 0 (m:Int) 1)[m]? =none:=by
 rw [Bq];exact hJ (by simp)
variable {V:bb} {bL p:Nat} {N:ST} {k:List aa->ae->Prop} {r:aa->ae->Prop} {x:bn} {Y:List aa} {J:ae}
theorem Lq {D:jN} {f i:Nat} (h:D J i λo=>je o (λa=>N (Y.set bL a) J (d5 V p λY J=>gC V D bL N p f (i+1) Y J k r x) r x) (k Y J)):gC V D bL N p (f+1) i Y J k r x:=h
theorem oY {a b c v:Int} {f i:Nat} (h:(dv a b c)[i]? =some v) (d:N (Y.set bL (.int v)) J (d5 V p λY J=>gC V (fZ a b c) bL N p f (i+1) Y J k r x) r x):gC V (fZ a b c) bL N p (f+1) i Y J k r x:=by
 show je ((dv a b c)[i]?.map aa.int) ..
 rw [h];exact d
theorem qT {m:Nat} (I:Nat->List aa->ae->Prop) (a:I 0 Y J) (b:∀i Y J,i<m->I i Y J->∀K:List aa->ae->Prop,(∀Y J,I (i+1) Y J->K Y J)->N (Y.set bL (.int i)) J (d5 V p K) r x) (c:∀Y J,I m Y J->k Y J):
  ∃f,gC V (fZ 0 (m:Int) 1) bL N p f 0 Y J k r x:=by
 haveI:∀q i Y J,i+q=m->I i Y J->gC V (fZ 0 m 1) bL N p (q+1) i Y J k r x:=by
  intro q;induction q with
  |zero=>
   intro i Y J e h;subst e;show je ((dv 0 i 1)[i]?.map aa.int) ..
   rw [Lp];exact c Y J h
  |succ q B=>
   intro i Y J e h;show je ((dv 0 m 1)[i]?.map aa.int) ..
   rw [Lo (by exact r1 e)];exact b i Y J (r1 e) h _ λX aj d=>B (i+1) X aj (r2 e) d
 exact⟨m+1,this m 0 Y J (uJ) a⟩
theorem mq {n:Nat} {l:List aa} (I:Nat->List aa->ae->Prop) (d:∀i Y J,I i Y J->J[n]? =some (.list l)) (g:I 0 Y J) (j:∀i a Y J,l[i]? =some a->I i Y J->∀K:List aa->ae->Prop,(∀Y J,I (i+1) Y J->K Y J)->N (Y.set bL a) J (d5 V p K) r x) (m:∀Y J,I l.length Y J->k Y J):
  ∃f,gC V (kM n) bL N p f 0 Y J k r x:=by
 haveI b:∀Y J i K,I i Y J->kM n J i K=K l[i]? :=λY J i K h=>by
  unfold kM;rw [d i Y J h];rfl
 haveI:∀q i Y J,i+q=l.length->I i Y J->gC V (kM n) bL N p (q+1) i Y J k r x:=by
  intro q;induction q with
  |zero=>
   refine λi Y J e h=>Lq ?_;rw [b _ _ _ _ h,hJ (by exact uL e)];subst e;exact m Y J h
  |succ q B=>
   refine λi Y J e h=>Lq ?_;haveI c:l[i]? =some l[i]:=bV (r1 e);rw [b _ _ _ _ h,c];exact j i _ Y J c h _ λX aj o=>B (i+1) X aj (r2 e) o
 exact⟨l.length+1,this l.length 0 Y J (uJ) g⟩
section
variable {n j:Nat} {J t:ae} {k:aa->ae->Prop} {x:bn}
def d6 (l:List Int):Prop:=l.length <= 16777216/\ ∀b∈l,0 <= b/\b<256
def bK (l:List Int) (i:Int):Int:=l.getD i.toNat 0
theorem lv {l:List Int} {i:Int} (N:0 <= i) (a:i<l.length):eo l i=some (bK l i):=by
 refine amL N ?_;unfold bK;rw [da,bV (by exact Fu (bp _) N a)];rfl
theorem d6.at {l:List Int} (h:d6 l) (i:Int):0 <= bK l i/\bK l i<256:=by
 unfold bK;rw [da];induction e:l[i.toNat]? with
 |none=>exact⟨∅,∅⟩
 |some v=>exact h.2 v (cq e)
def dy (l:List Int) (i:Int):Int:=bK l i*256+bK l (i+1)
def b8 (l:List Int) (i:Int):Int:=dy l i*65536+dy l (i+2)
theorem oZ {l:List Int} (h:d6 l) (i:Int):0 <= dy l i/\dy l i<65536:=by
 exact Xq (h.at i) (h.at (i+1))
theorem Lr {l:List Int} (h:d6 l) (i:Int):0 <= b8 l i:=by
 exact WG (oZ h i) (oZ h (i+2))
theorem Ls {l:List Int} {i:Int} (c:1 <= n) (a:d6 l) (N:0 <= i) (b:i+1<l.length) (h:k (.int (dy l i)) J):az aA n 3 [.bytes l,.int i] J k x:=
 Bp c a.1 (lv N (r4 b)) (lv (iq N ab) b) (a.at i) h
theorem kN {l:List Int} (a:J[j]? =some (.cv l)):cM (cL [j]) J [j] [.cv l]:=.cons a .nil
theorem fm:[j].Nodup:=by simp
theorem wj {l:List Int} {i:Int} (e:1 <= n) (c:J[j]? =some (.cv l)) (b:d6 l) (N:0 <= i) (d:i+1<l.length) (h:k (.int (dy l i)) J):az aA n 3 [.ref j,.int i] J k x:=
 have a:=b.at i
 dQ (H:=[.ref 0,.int i]) [j] rfl rfl e rfl fm rfl (kN c) rfl rfl
  (And.intro b.1 (dB (lv N (r4 d)) (And.intro (uq ⟨yB a,yz a⟩) (And.intro b.1 (dB (lv (iq N ab) d) (h8 (kN c) rfl rfl rfl h))))))
theorem amV {l:List Int} {i:Int} (b:2 <= n) (c:d6 l) (N:0 <= i) (d:i+3<l.length) (h:k (.int (b8 l i)) J):az aA n 4 [.bytes l,.int i] J k x:=
 have a:=oZ c i
 gF rfl rfl (aQ b ab) rfl rfl (Ls (aM (ay ..) b ab) c N (uS d) (And.intro (uq ⟨E7 a,E1 a⟩) (Ls (aM (ay ..) b ab) c (iq N ab) (uU d) (fk rfl h))))
theorem wk {l:List Int} {i:Int} (b:2 <= n) (d:J[j]? =some (.cv l)) (c:d6 l) (N:0 <= i) (e:i+3<l.length) (h:k (.int (b8 l i)) J):az aA n 4 [.ref j,.int i] J k x:=
 have a:=oZ c i
 dQ (H:=[.ref 0,.int i]) [j] rfl rfl (aQ b ab) rfl fm rfl (kN d) rfl rfl
  (wj (aM (ay ..) b ab) rfl c N (uS e) (And.intro (uq ⟨E7 a,E1 a⟩) (wj (aM (ay ..) b ab) rfl c (iq N ab) (uU e) (h8 (kN d) rfl rfl rfl h))))
theorem Lu {b:Int} (N:0 <= b) (a:b<128):(((((0:Int)*2^(7:Int).toNat).toNat|||(((b.toNat&&&(127:Int).toNat:Nat):Int)).toNat:Nat)):Int)=b:=by
 haveI e:b.toNat&&&(127:Int).toNat=b.toNat:=by
  haveI:=asJ b.toNat 7;haveI c:(127:Int).toNat=2^7-1:=rfl;rw [c,this];exact OJ (EW (bp _) a)
 rw [e];haveI X:((0:Int)*2^(7:Int).toNat).toNat=0:=by rfl
 rw [X,Nat.zero_or];exact Wh (bp _) (bp _) N
theorem Lv:gZ (0,9,1):=by unfold gZ;decide
theorem Lw {l:List Int} {i:Int} (e:1 <= n) (b:d6 l) (N:0 <= i) (c:i<l.length) (d:bK l i<128) (h:k (.ref J.length) (J++[.tup [.int (bK l i),.int (i+1)]])):
  az aA n 1 [.bytes l,.int i] J k x:=by
 haveI a:=(b.at i).1
 refine ez (W:=[]) rfl rfl e rfl rfl rfl rfl (And.intro Lv (Exists.intro (0+1) (oY rfl
  (And.intro b.1 (cn (decide_eq_false (Fg c)) (And.intro b.1 (dB (lv N c) (And.intro ∅ (And.intro ∅ (And.intro ∅ (And.intro a (And.intro ∅ (And.intro ∅ (And.intro (asK _) (eH (decide_eq_true d) (And.intro (bg rfl) ?_))))))))))))))))
 rw [Lu a d];exact qR (W':=[]) [0] ∅ (by simp) rfl rfl rfl h
theorem lw {p:Nat} {u l:List Nat} {W g:ae} {r:aa} (a:l.Nodup) (K:∀j∈l,p <= j/\j<(W++g).length) (b:cM (cL u) J u W) (c:u.length=p) (d:W.all (aL p)=true)
  (h:k (cz (cY u l J.length) r) (J++l.map λj=>mo (cY u l J.length) ((W++g).getD j .dead))):dx k u J r (W++g):=by
 subst c;refine fR (cJ l a K ?_);unfold c5;rw [nx b (λo e=>kl (jm rfl) (dc.mp d o e)) g];exact h
theorem wl {l:List Int} {i:Int} (f:1 <= n) (c:J[j]? =some (.cv l)) (b:d6 l) (N:0 <= i) (d:i<l.length) (e:bK l i<128) (h:k (.ref (J.length+0)) (J++[.tup [.int (bK l i),.int (i+1)]])):
  az aA n 1 [.ref j,.int i] J k x:=by
 haveI a:=(b.at i).1
 refine dQ (H:=[.ref 0,.int i]) [j] rfl rfl f rfl fm rfl (kN c) rfl rfl (And.intro Lv (Exists.intro (0+1) (oY rfl
  (And.intro b.1 (cn (decide_eq_false (Fg d)) (And.intro b.1 (dB (lv N d) (And.intro ∅ (And.intro ∅ (And.intro ∅ (And.intro a (And.intro ∅ (And.intro ∅ (And.intro (asK _) (eH (decide_eq_true e) (And.intro (bg rfl) ?_))))))))))))))))
 rw [Lu a e];exact lw (W:=[.cv l]) (l:=[1]) ∅ (by simp) (kN c) rfl rfl h
theorem amW {i:Int} (a:1 <= n) (b:i<65536) (h:k (.int i) J):az aA n 2 [.int i] J k x:=
 gF rfl rfl a rfl rfl (And.intro ∅ (And.intro ∅ (cn (decide_eq_false (UZ (fh _ 2 ∅) b)) (fk rfl h))))
theorem Lx {l m:List Int} {g:ae} (a:J[j]? =some (.cv l)) (h:k .none (J.set j (.cv m))):dx k [j] J .none (.cv m::g):=by
 refine fR (cJ ([]) f8 (by simp) ?_);show k .none (d1 _ [j] (.cv m::g) J++[])
 rw [cO];exact h
def put2 (l:List Int) (i v:Int):List Int:=(l.set i.toNat (v/256)).set (i+1).toNat (v%256)
theorem Br {l:List Int} {i v:Int} (f:1 <= n) (a:J[j]? =some (.cv l)) (b:l.length <= 16777216) (N:0 <= i) (d:i+1<l.length) (g:0 <= v) (c:v<65536) (h:k .none (J.set j (.cv (put2 l i v)))):az aA n 5 [.ref j,.int i,.int v] J k x:=
 have e:(l.set i.toNat (v/256)).length=l.length:=e3
 dQ (H:=[.ref 0,.int i,.int v]) [j] rfl rfl f rfl fm rfl (kN a) rfl rfl
  (And.intro ∅ (And.intro ∅ (And.intro b (And.intro N (And.intro (r4 d) (And.intro (Re (fh _ 256 ∅) g) (And.intro (RQ (fh _ 256 ∅) c) (And.intro ∅ (And.intro (eG e b ab) (And.intro (iq N ab) (And.intro (Wa d e) (And.intro (Qw (fh _ 256 ∅)) (And.intro (Qy (fh _ 256 ∅)) (Lx a h))))))))))))))
def f4 (v:Int):List Int:=[v/65536/256,v/65536%256,v%65536/256,v%65536%256]
theorem tc {v:Int} (a:3 <= n) (b:0 <= v) (c:v<4294967296) (h:k (.bytes (f4 v)) J):az aA n 7 [.int v] J k x:=
 gF rfl rfl (aQ a ab) rfl rfl (And.intro ∅ (And.intro ∅
  (dQ (H:=[.ref 0,.int 0,.int v]) [0] rfl rfl (aM (ay ..) a ab) rfl fm rfl (.cons rfl .nil) rfl rfl
   (And.intro ∅ (And.intro ∅ (Br (n8 (ay n 1) (ay (n-1) 1) a ab) rfl ∅ ∅ ∅ (RA (fh _ 65536 ∅) b) (SZ (fh _ 65536 ∅) c)
    (And.intro ∅ (Br (n8 (ay n 1) (ay (n-1) 1) a ab) rfl (bg rfl) ∅ (asL (by show(0:Int)<4-3;decide)) (Qz (fh _ 65536 ∅)) (QJ (fh _ 65536 ∅))
     (Lx rfl (And.intro (bg rfl) (fk rfl h)))))))))))
end
section
variable {n j:Nat} {J t:ae} {k:aa->ae->Prop} {x:bn}
theorem amX {d:Type} {l:List d} {a m:Int} (N:0 <= a) (b:0 <= m) (c:a+m <= l.length):((dK l (some a) (some (a+m))).length:Int)=m:=by
 haveI e:dq l.length a=a.toNat:=by unfold dq;rw [if_pos (by exact gw N ab),k1 (by exact Ws (bp _) c b)]
 haveI f:dq l.length (a+m)=(a+m).toNat:=by unfold dq;rw [if_pos (by exact SQ N b),k1 (by exact Vh (bp _) c)]
 show(((l.drop (dq l.length a)).take (dq l.length (a+m)-dq l.length a)).length)=m
 rw [e,f,iD,lQ];exact X0 (bp _) (bp _) (ay ..) (ay ..) (ew ..) c N b
theorem Bs {a:Nat}:[a,a+1].Nodup:=by simp
theorem Ly {L c:Nat} {w:List aa} {g:ae} (b:J[L]? =some (.aZ c [])) (a:J[L+1]? =some (.inst c L)) (M:w.map (cz (cY [L,L+1] [] J.length))=w) (h:k .none (J.set L (.aZ c w))):dx k [L,L+1] J .none (.aZ c w:: .inst c 0::g):=by
 refine fR (cJ ([]) f8 (by simp) ?_);show k .none ((J.set L (.aZ c (w.map (cz (cY [L,L+1] [] J.length))))).set (L+1) (.inst c L)++[])
 rw [M,cO,oX (by rw [mS (by exact yq)];exact a)];exact h
theorem Bt {L c:Nat} (a:J[L]? =some (.aZ c [])) (b:J[L+1]? =some (.inst c L)):cM (cL [L,L+1]) J [L,L+1] [.aZ c [],.inst c 0]:=.cons a (.cons b .nil)
def o0 (a:aa):Prop:=a= .none\/ ∃i,a= .int i
theorem Lz {L:Nat} {s a y:Int} {w:aa} {z:List Int} (d:1 <= n) (b:J[L]? =some (.aZ 4 [])) (c:J[L+1]? =some (.inst 4 L)) (e:o0 w) (h:k .none (J.set L (.aZ 4 [.int s,w,.int a,.bytes z,.int y]))):
  az aA n 14 [.ref (L+1),.int s,w,.int a,.bytes z,.int y] J k x:=by
 rcases e with rfl|f
 ·exact dQ (H:=[.ref 1,.int s,.none,.int a,.bytes z,.int y]) (p:=2) [L,L+1] rfl rfl d rfl Bs rfl (Bt b c) rfl rfl
   ⟨rfl,rfl,rfl,rfl,rfl,rfl,rfl,rfl,rfl,rfl,rfl,rfl,rfl,rfl,rfl,Ly b c rfl h⟩
 ·obtain⟨i,rfl⟩:=f
  exact dQ (H:=[.ref 1,.int s,.int i,.int a,.bytes z,.int y]) (p:=2) [L,L+1] rfl rfl d rfl Bs rfl (Bt b c) rfl rfl
   ⟨rfl,rfl,rfl,rfl,rfl,rfl,rfl,rfl,rfl,rfl,rfl,rfl,rfl,rfl,rfl,Ly b c rfl h⟩
def mr (u a:Int):Int:=if dr u then a else a+4
def km (u a:Int):Int:=if u=13 then mr u a+1+1 else mr u a+1
def o6 (l:List Int) (u a:Int):Int:=bK l (mr u a)
def ms (l:List Int) (u a:Int):Int:=dT u (o6 l u a)
def wm (l:List Int) (u a:Int):Int:=if ms l u a<o6 l u a then b8 l (km u a+ms l u a) else 0
structure Bu (l:List Int) (cT a:Int):Prop where
 td:0 <= a
 kind:cT=2\/cT=10\/cT=13
 size:o6 l cT a<128
 row:cT=13->bK l (mr cT a+1)<128
 fin:km cT a+ms l cT a+(if ms l cT a<o6 l cT a then 4 else 0) <= l.length
theorem o7 {u s:Int} (h:0 <= s):0 <= dT u s:=by
 unfold dT;generalize (if u=13 then(29:Int) else 1)=q;split
 ·exact h
 ·split
  ·exact Qv (fh _ 60 ∅)
  ·decide
theorem amY {l:List Int} {u a:Int} (b:d6 l):0 <= ms l u a:=o7 (b.at _).1
def Bv (l:List Int) (u a:Int) (c:aB):Prop:=∃s w z,o0 w/\(z.length:Int)=ms l u a/\c= .aZ 4 [.int s,w,.int (o6 l u a),.bytes z,.int (wm l u a)]
theorem Bw {l:List Int} {q u s a:Int} {w b:aa} {g:ae} {Y:List aa} {K:List aa->ae->Prop} (o:2 <= n) (r:(∃t,g=[t])\/ ∃t p,g=[t,p]) (v:o0 w) (f:d6 l) (hq:0 <= q) (C:0 <= a) (d:q+dT u a+(if dT u a<a then 4 else 0) <= l.length)
  (h:∀z c e,(z.length:Int)=dT u a->k (.ref (g.length+4)) (.cv l::(g++[c,.aZ 4 [.int s,w,.int a,.bytes z,.int (if dT u a<a then b8 l (q+dT u a) else 0)],.inst 4 (g.length+2),.tup [.ref (g.length+3),.int e]]))):
  ah (Jg (az aA n)) (ah (Jf (az aA n)) (Je (az aA n))) [.ref 0,.int q,.int u,.int 64,.int s,w,.int 0,b,.int a,.aR,.aR] (.cv l::g) K k x:=by
 haveI y:=o7 (u:=u) C;refine Lj o ?_;generalize dT u a=m at d y h;have j:=amX hq y (by split at d<;>(first|exact F9 d ab|exact F9 d ab));have B:=by haveI:=f.1;split at d<;>(first|exact Gd d j hq this ab|exact Gd d j hq this ab)
 haveI A:=T2 j;by_cases e:m<a
 ·rw [if_pos e] at d h;rcases v with rfl| ⟨i,rfl⟩<;>rcases r with⟨t,rfl⟩| ⟨t,p,rfl⟩<;>
  exact⟨f.1,B,eH (decide_eq_true e) ⟨f.1,cn (decide_eq_false (Ep d)) (wk o rfl f (Qj j hq) (Ql d)
    ⟨f.1,cn (decide_eq_false (Ep d)) ⟨B,cn (decide_eq_false A) (Lz (aQ o ab) rfl rfl (by first|exact .inl rfl|exact .inr ⟨_,rfl⟩) ⟨bg rfl,h _ _ _ j⟩)⟩⟩)⟩⟩
 ·rw [if_neg e] at d h;rcases v with rfl| ⟨i,rfl⟩<;>rcases r with⟨t,rfl⟩| ⟨t,p,rfl⟩<;>
  exact⟨f.1,B,cn (decide_eq_false e)
    ⟨f.1,cn (decide_eq_false (Qk d)) ⟨B,cn (decide_eq_false A) (Lz (aQ o ab) rfl rfl (by first|exact .inl rfl|exact .inr ⟨_,rfl⟩) ⟨bg rfl,h _ _ _ j⟩)⟩⟩⟩
theorem amZ {l:List Int} {a u:Int} (b:3 <= n) (p:J[j]? =some (.cv l)) (f:d6 l) (m:Bu l u a) (h:∀c e,Bv l u a c->k (.ref (J.length+0)) (J++[.tup [.ref (J.length+1),.int e],.inst 4 (J.length+2),c])):
  az aA n 16 [.ref j,.int a,.int u,.int 64] J k x:=by
 have N:=m.td;have r:=amY (u:=u) (a:=a) f;have s:=(f.at (mr u a)).1;have t:=m.size;have d:=m.row;have M:=m.fin;refine dQ (H:=[.ref 0,.int a,.int u,.int 64]) [j] rfl rfl (aQ b ab) rfl fm rfl (kN p) rfl rfl ?_;unfold Bv at h;rcases m.kind with rfl|rfl|rfl
 ·have e:km 2 a=a+4+1:=rfl;have i:a+4+1 <= l.length:=yX M r (rU ∅ ∅) e;refine qS (aM (ay _ _) b ab) ⟨gq f.1 (dA _),cn (decide_eq_false (Vz i)) (wk (aM (ay _ _) b ab) rfl f N (yW i ab) ?_)⟩;refine wl (aM (ay _ _) b ab) rfl f (iq N ab) (yW i ab) t ⟨rfl,?_⟩;exact Bw (q:=km 2 a) (Y:=[]) (g:=[_]) (aM (ay _ _) b ab) (.inl ⟨_,rfl⟩) (.inl rfl) f (by rw [e];exact u8 N ab) s M λz c e o=>lw (l:=[5,4,3]) ∅ (by simp) (kN p) rfl rfl (h _ e (gv _ _ z (.inl rfl) o rfl))
 ·have e:km 10 a=a+1:=rfl;have i:a+1 <= l.length:=yX M r (rU ∅ ∅) e;refine qS (aM (ay _ _) b ab) ?_;refine wl (aM (ay _ _) b ab) rfl f (gw N ab) (Ud i) t ⟨rfl,?_⟩;exact Bw (q:=km 10 a) (Y:=[]) (g:=[_]) (aM (ay _ _) b ab) (.inl ⟨_,rfl⟩) (.inl rfl) f (by rw [e];exact iq N ab) s M λz c e o=>lw (l:=[5,4,3]) ∅ (by simp) (kN p) rfl rfl (h _ e (gv _ _ z (.inl rfl) o rfl))
 ·have e:km 13 a=a+1+1:=rfl;have i:a+1+1 <= l.length:=yX M r (rU ∅ ∅) e;refine qS (aM (ay _ _) b ab) ?_;refine wl (aM (ay _ _) b ab) rfl f (gw N ab) (UJ i) t ⟨rfl,?_⟩;refine wl (aM (ay _ _) b ab) rfl f (iq N ab) (yW i ab) (d rfl) ⟨rfl,?_⟩;refine amW (aM (ay _ _) b ab) (by have:=d rfl;show bK l (a+1)<65536;exact OM this ∅) ?_;exact Bw (q:=km 13 a) (Y:=[]) (g:=[_,_]) (aM (ay _ _) b ab) (.inr ⟨_,_,rfl⟩) (.inr ⟨_,rfl⟩) f (by rw [e];exact u8 N ab) s M λz c e o=>lw (l:=[6,5,4]) ∅ (by simp) (kN p) rfl rfl (h _ e (gv _ _ z (.inr ⟨_,rfl⟩) o rfl))
end
section
variable {V:bb} {bL p:Nat} {N:ST} {em:iO} {k:List aa->ae->Prop} {r:aa->ae->Prop} {x:bn} {Y:List aa} {J W g:ae}
def te (p:Nat):aa->aa
 | .ref j=>if j<p then .ref j else .dW
 |a=>a
theorem Bx {p j:Nat}:∀(q m:Nat),m+q <= j->fO j (jD m q) m=none
 |0,m,h=>rfl
 |q+1,m,h=>by
  rw [OZ];rw [sr];rw [if_neg (by intro e;haveI:=ug e;exact T5 h this)];exact Bx (p:=p) q (m+1) (TN h)
theorem am0 {p:Nat} (a:aa):cz (dG (aI p)) a=te p a:=by
 cases a<;>first|rfl|skip
 rename_i j;show(match dG (aI p) j with|some i=>aa.ref i|none=>.dW)=if j<p then .ref j else .dW
 by_cases h:j<p
 ·rw [oW h,if_pos h]
 ·rw [if_neg h]
  haveI:dG (aI p) j=none:=by
   rw [lP];exact Bx (p:=p) p 0 (EO h)
  rw [this]
theorem LA (t:∀(i:Nat) (y:ax) (j:Nat),V.slots[i]? =some (y,true)->Y[i]? =some (.ref j)->j<p) (b:W.length=p) (c:W.all (aL p)=true) (h:k (Y.map (te p)) W):d5 V p k Y (W++g):=by
 haveI z:kg p []=aI p:=cO _;refine⟨by simp;exact EM b,[],f8,by simp,λi y d=> ?_,?_⟩
 ·induction e:Y[i]? with
  |none=>trivial
  |some a=>
   induction a with
   |ref j=>rw [z];exact gr.mpr (t i y j d e)
   |_=>trivial
 ·rw [z,Bm b c,gQ λa _=>am0 a];exact h
theorem am3 {a:aa} (h:bB p a=true):te p a=a:=by
 cases a<;>first|rfl|skip
 exact if_pos (bS.mp h)
theorem fH (b:Y.all (bB p)=true) (c:W.length=p) (d:W.all (aL p)=true) (h:k Y W):d5 V p k Y (W++g):=
 LA (λi y j _ e=>bS.mp (dc.mp b _ (cq e))) c d (by rw [mn λa h=>am3 (dc.mp b a h)];exact h)
theorem am4 (M:(V.slots.all λq=> !q.2)=true) (a:W.length=p) (b:W.all (aL p)=true) (h:k (Y.map (te p)) W):d5 V p k Y (W++g):=
 LA (λi y j c _=>by haveI:=dc.mp M _ (cq c);contradiction) a b h
theorem LB {D:jN} {c:Option de} {f i:Nat} {d:List aa->ae->Prop} (h:D J i λo=>je o (λa=>z0 c (Y.set bL a) J (λb J=>jI b (em (Y.set bL a) J (d5 V p λY J=>gD V D bL c em p f (i+1) Y J d))
   (gD V D bL c em p f (i+1) (Y.set bL a) J d)) (λ_ _=>False)) (d Y J)):gD V D bL c em p (f+1) i Y J d:=h
theorem wn {D:jN} {l:List aa} (I:Nat->List aa->ae->Prop) (b:∀Y J i K,I i Y J->D J i K=K l[i]?) (d:I 0 Y J) (g:∀i a Y J,l[i]? =some a->I i Y J->∀K:List aa->ae->Prop,(∀Y J,I (i+1) Y J->K Y J)->em (Y.set bL a) J (d5 V p K)) (j:∀Y J,I l.length Y J->k Y J):
  ∃f,gD V D bL none em p f 0 Y J k:=by
 haveI:∀q i Y J,i+q=l.length->I i Y J->gD V D bL none em p (q+1) i Y J k:=by
  intro q;induction q with
  |zero=>
   refine λi Y J e h=>LB ?_;rw [b _ _ _ _ h,hJ (by exact uL e)];subst e;exact j Y J h
  |succ q B=>
   refine λi Y J e h=>LB ?_;haveI c:l[i]? =some l[i]:=bV (r1 e);rw [b _ _ _ _ h,c];exact g i _ Y J c h _ λX aj m=>B (i+1) X aj (r2 e) m
 exact⟨l.length+1,this l.length 0 Y J (uJ) d⟩
theorem am5 {m:Nat} {i:Nat} {K:Option aa->Prop}:fZ 0 (m:Int) 1 J i K=K (((aI m).map λ(i:Nat)=>aa.int (i:Int))[i]?):=by
 show K ((dv 0 m 1)[i]?.map aa.int)=_
 rw [Bq,<-cm,iE];rfl
theorem By {m:Nat} (I:Nat->List aa->ae->Prop) (d:I 0 Y J) (e:∀i Y J,i<m->I i Y J->∀K:List aa->ae->Prop,(∀Y J,I (i+1) Y J->K Y J)->em (Y.set bL (.int i)) J (d5 V p K)) (g:∀Y J,I m Y J->k Y J):
  ∃f,gD V (fZ 0 (m:Int) 1) bL none em p f 0 Y J k:=by
 refine wn I (λ_ _ _ _ _=>am5) d (λi a Y J b h=> ?_) (λY J h=>g Y J (by simpa using h));have c:=by haveI:=(cF.mp b).1;simpa using this
 rw [cm,i5 c] at b;obtain rfl:=bl b;exact e i Y J c h
end
section
variable {n j:Nat} {J t:ae} {k:aa->ae->Prop} {x:bn}
def mu (l:List Int):Int:=if 5<bK l 0 then 8 else 12
def gj (l:List Int) (i:Int):Int:=dy l (mu l+2*i)
structure gG (l:List Int):Prop where
 eL:d6 l
 len:(l.length:Int)=64
 kind:bK l 0=2\/bK l 0=5\/bK l 0=10\/bK l 0=13
 cnt:mu l+2*dy l 3 <= 64
 Bz:∀i,0 <= i->i<dy l 3->mu l+2*dy l 3 <= gj l i/\gj l i+4 <= 64
def eA (l:List Int):List Int:=if dr (bK l 0) then [] else(aI (dy l 3).toNat).map (λ(i:Nat)=>b8 l (gj l (i:Int)))++[b8 l 8]
abbrev qU (l:List Int) (a:Int):ae:=[.inst 3 1,.aZ 3 [.ref 2,.int a,.int 64,.int 0],.cv l]
def iR (J:ae) (j:Nat) (l:List Int) (a:Int):Prop:=∃B R,J[j]? =some (.inst 3 B)/\J[B]? =some (.aZ 3 [.ref R,.int a,.int 64,.int 0])/\J[R]? =some (.cv l)
variable {l:List Int} {a:Int}
def aB.BB (o:aB):Nat:=by
 cases o
 case inst=>exact 0
 case aZ=>exact 1
 all_goals exact 2
theorem BC {i j:Nat} {a b:aB} (h:J[i]? =some a) (g:J[j]? =some b) (n:mV a.BB b.BB=false:=by rfl):i≠j:=λe=>Nat.ne_of_beq_eq_false n (congrArg aB.BB (bl (h.symm.trans ((congrArg (λi=>J[i]?) e).trans g))))
theorem am6 {a b c:Nat} (h:a≠b) (g:a≠c) (k:b≠c):[a,b,c].Nodup:=.cons (am (by exact⟨h,g,trivial⟩)) (.cons (am (by exact⟨k,trivial⟩)) (.cons (am (by exact trivial)) .nil))
theorem BD {j B R d p:Nat} {w:List aa} {l:List Int} (N:J[j]? =some (.inst d p)) (a:J[B]? =some (.aZ d w)) (b:J[R]? =some (.cv l)):[j,B,R].Nodup:=am6 (BC N a) (BC N b) (BC a b)
theorem iR.sees (d:iR J j l a):∃B R,[j,B,R].Nodup/\cM (cL [j,B,R]) J [j,B,R] (qU l a):=dN d λB R N b c=>c7 B R (BD N b c) (.cons N (.cons b (.cons c .nil)))
theorem iR.here {g:ae}:iR (qU l a++g) 0 l a:=(dt 1 2 rfl rfl rfl)
theorem gG.qc (P:gG l):8 <= mu l/\mu l <= 12:=by unfold mu;split<;>(first|exact QZ|exact Rb)
theorem gG.LC (P:gG l):0 <= dy l 3:=(oZ P.eL 3).1
theorem tf (c:1 <= n) (d:iR J j l a) (P:gG l) (h:k (.int (bK l 0)) J):az aA n 18 [.ref j] J k x:=by
 refine cV d.sees λB R f b=>dQ (H:=[.ref 0]) [j,B,R] rfl rfl c rfl f rfl b rfl rfl (gu rfl rfl rfl rfl P.eL.1 (dB (lv ∅ (by haveI:=P.len;exact uP this)) (cn ?_ (h8 b rfl rfl rfl h))));rcases P.kind with e|e|e|e<;>rw [e]<;>rfl
theorem am7 (b:2 <= n) (d:iR J j l a) (P:gG l) (h:k (.bool (dr (bK l 0))) J):az aA n 19 [.ref j] J k x:=by
 exact cV d.sees λB R e c=>dQ (H:=[.ref 0]) [j,B,R] rfl rfl (aQ b ab) rfl e rfl c rfl rfl ⟨rfl,tf (aM (ay ..) b ab) .here P (qS (aM (ay ..) b ab) (h8 c rfl rfl rfl h))⟩
theorem am8 (b:2 <= n) (d:iR J j l a) (P:gG l) (h:k (.bool (decide (bK l 0=13)||decide (bK l 0=5))) J):az aA n 20 [.ref j] J k x:=by
 exact cV d.sees λB R e c=>dQ (H:=[.ref 0]) [j,B,R] rfl rfl (aQ b ab) rfl e rfl c rfl rfl ⟨rfl,tf (aM (ay ..) b ab) .here P (amM (aM (ay ..) b ab) (h8 c rfl rfl rfl h))⟩
theorem qV (b:2 <= n) (d:iR J j l a) (P:gG l) (h:k (.int (dy l 3)) J):az aA n 21 [.ref j] J k x:=by
 exact cV d.sees λB R e c=>dQ (H:=[.ref 0]) [j,B,R] rfl rfl (aQ b ab) rfl e rfl c rfl rfl (i8 rfl rfl rfl rfl (wj (aM (ay ..) b ab) rfl P.eL ∅ (by haveI:=P.len;exact F3 this ab) (h8 c rfl rfl rfl h)))
theorem am9 (c:1 <= n) (d:iR J j l a) (P:gG l) (h:k (.int (mu l)) J):az aA n 22 [.ref j] J k x:=by
 refine cV d.sees λB R f b=>dQ (H:=[.ref 0]) [j,B,R] rfl rfl (aQ c ab) rfl f rfl b rfl rfl (gu rfl rfl rfl rfl P.eL.1 (dB (lv ∅ (by haveI:=P.len;exact uP this)) ?_));unfold mu at h;by_cases e:5<bK l 0
 ·rw [if_pos e] at h;exact eH (decide_eq_true e) ⟨rfl,rfl,h8 b rfl rfl rfl h⟩
 ·rw [if_neg e] at h;exact cn (decide_eq_false e) ⟨rfl,rfl,h8 b rfl rfl rfl h⟩
theorem ana (b:3 <= n) (d:iR J j l a) (P:gG l) (h:k (.int (b8 l 8)) J):az aA n 23 [.ref j] J k x:=by
 exact cV d.sees λB R e c=>dQ (H:=[.ref 0]) [j,B,R] rfl rfl (aQ b ab) rfl e rfl c rfl rfl (i8 rfl rfl rfl rfl (wk (aM (ay ..) b ab) rfl P.eL ∅ (by haveI:=P.len;exact F3 this ab) (h8 c rfl rfl rfl h)))
theorem anb (c:1 <= n) (d:iR J j l a) (e:l.length <= 16777216) (h:k (.bytes l) J):az aA n 24 [.ref j] J k x:=by
 exact cV d.sees λB R f b=>dQ (H:=[.ref 0]) [j,B,R] rfl rfl (aQ c ab) rfl f rfl b rfl rfl (dd rfl rfl e (h8 b rfl rfl rfl h))
theorem LD {i:Int}:(-(2^64:Int)<2/\(2:Int)<2^64)\/(-(2^64:Int)<i/\i<2^64):=.inl ∅
theorem LF {i:Int} (b:3 <= n) (d:iR J j l a) (P:gG l) (N:0 <= i) (c:i<dy l 3) (h:k (.int (gj l i)) J):az aA n 25 [.ref j,.int i] J k x:=by
 refine cV d.sees λB R g e=> ?_
 haveI f:=P.Bz i N c;exact dQ (H:=[.ref 0,.int i]) [j,B,R] rfl rfl (aQ b ab) rfl g rfl e rfl rfl
  (cn (decide_eq_false (m9 N)) ⟨rfl,qV (aM (ay ..) b ab) .here P (cn (decide_eq_false (Q7 c)) ⟨rfl,am9 (aM (ay ..) b ab) .here P
   (dd rfl rfl LD (wj (aM (ay ..) b ab) rfl P.eL (U0 P.qc N) (XD P.cnt P.len c) ⟨rfl,qV (aM (ay ..) b ab) .here P ⟨LD,cn (decide_eq_false (VM f)) (bv rfl rfl (cn (decide_eq_false (Vq f)) (h8 e rfl rfl rfl h)))⟩⟩))⟩)⟩)
theorem anc {i:Int} (b:4 <= n) (d:iR J j l a) (P:gG l) (N:0 <= i) (p:i<dy l 3) (q:Bu l (bK l 0) (gj l i)) (h:∀c,Bv l (bK l 0) (gj l i) c->k (.ref (J.length+0)) (J++[.inst 4 (J.length+1),c])):az aA n 26 [.ref j,.int i] J k x:=by
 refine cV d.sees λB R r f=> ?_
 refine dQ (H:=[.ref 0,.int i]) [j,B,R] rfl rfl (aQ b ab) rfl r rfl f rfl rfl
  (dd rfl rfl rfl (LF (aM (ay ..) b ab) .here P N p ⟨rfl,tf (aM (ay ..) b ab) .here P (bv rfl rfl (amZ (aM (ay ..) b ab) rfl P.eL q ?_))⟩))
 intro c e t;refine ff t λs w z g u y=> ?_;obtain rfl:=y;refine⟨rfl,?_⟩;haveI m:=h _ (gv s w z g u rfl);rcases g with rfl|o
 ·exact lw (W:=qU l a) (l:=[4,5]) ∅ (by simp) f rfl rfl m
 ·refine jF o λv A=> ?_;clear o;obtain rfl:=A;exact lw (W:=qU l a) (l:=[4,5]) ∅ (by simp) f rfl rfl m
theorem ane {i:Nat} (b:4 <= n) (d:iR J j l a) (P:gG l) (f:i<(dy l 3).toNat+1) (h:k (.int (if i=(dy l 3).toNat then b8 l 8 else b8 l (gj l (i:Int)))) J):az aA n 27 [.ref j,.int (i:Int)] J k x:=by
 refine cV d.sees λB R o c=> ?_;haveI g:=P.LC;refine dQ (H:=[.ref 0,.int i]) [j,B,R] rfl rfl (aQ b ab) rfl o rfl c rfl rfl ⟨rfl,qV (aM (ay ..) b ab) .here P ?_⟩;by_cases e:i=(dy l 3).toNat
 ·rw [if_pos e] at h;exact eH (decide_eq_true (Vg (bp _) g e)) ⟨rfl,ana (aM (ay ..) b ab) .here P (h8 c rfl rfl rfl h)⟩
 ·rw [if_neg e] at h;haveI m:=P.Bz i (gR) (FI (bp _) f e);exact cn (decide_eq_false (UN (bp _) e)) (dd rfl rfl rfl (LF (aM (ay ..) b ab) .here P (gR) (FI (bp _) f e) (wk (aM (ay ..) b ab) rfl P.eL (Xd m P.qc g) (Xu m P.len) (h8 c rfl rfl rfl h))))
end
theorem cM.append {f:Nat->Option Nat} {J:ae} {u c:List Nat} {W V:ae} (h:cM f J u W) (a:cM f J c V):cM f J (u++c) (W++V):=by
 induction h with
 |nil=>exact a
 |cons e _ B=>exact .cons e B
theorem LG {f:Nat->Option Nat} {p:Nat}:∀(W:ae) (a t:ae) (m:Nat),a.length=m->m+W.length=p->(∀j,j<p->f j=some j)->W.all (aL p)=true->cM f (a++W++t) (jD m W.length) W
 | [],a,t,m,_,_,_,_=>.nil
 |o::W,a,t,m,b,d,M,c=>by
  simp only [ii,eC] at c;refine .cons ?_ ?_
  ·rw [qQ M c.1,bX,eE (by exact QR b),b,iF];rfl
  ·haveI:=LG W (a++[o]) t (m+1) (by simp [b]) (by exact r2 d) M c.2
   simpa using this
theorem LH {f:Nat->Option Nat} {p:Nat} {W t:ae} (a:W.length=p) (M:∀j,j<p->f j=some j) (b:W.all (aL p)=true):cM f (W++t) (aI p) W:=by
 haveI:=LG W [] t 0 rfl (by exact Ru a) M b;haveI this:=lP.symm▸a▸this
 simpa using this
theorem LI {p:Nat} {c:List Nat}:∀j,j<p->cL (aI p++c) j=some j:=λj a=>by
 unfold cL;rw [im (by simpa using a)];exact i5 a
theorem o8 {F:aB->aB}:∀(u c:List Nat) (W V J:ae),W.length=u.length->d1 F (u++c) (W++V) J=d1 F c V (d1 F u W J)
 | [],c,W,V,J,h=>by
  induction W with
  |nil=>show d1 F c V J=d1 F c V (d1 F [] [] J);rw [show d1 F [] [] J=J by rfl]
  |cons _ _=>contradiction
 |i::u,c,[],V,J,h=>by contradiction
 |i::u,c,o::W,V,J,h=>by
  show d1 F (i::(u++c)) (o::(W++V)) J=d1 F c V (d1 F (i::u) (o::W) J)
  rw [ot];rw [o8 u c W V _ (mZ h)];cases c with
  |nil=>cases V<;>rfl
  |cons _ _=>cases V<;>rfl
theorem jn {f n p:Nat} {F:bd} {H:List aa} {W t V:ae} {k:aa->ae->Prop} {x:bn} (c:List Nat) (M:aA f=some F) (j:F.lam=false) (l:1 <= n) (o:H.length=F.jf) (q:W.length=p) (r:(W++V).all (aL (p+c.length))=true) (d:W.all (aL p)=true) (g:H.all (bB (p+c.length))=true)
  (s:c.Nodup) (C:∀i∈c,p <= i) (u:cM (cL (aI p++c)) (W++t) c V)
  (h:fE F (az aA (n-1)) H (W++V) (dx k (aI p++c) (W++t)) (λm z=>x m (c5 (aI p++c) [] (W++t) z))):az aA n f (H.map (cz (cL (aI p++c)))) (W++t) k x:=by
 refine dQ (aI p++c) M j l o ?_ (by simp) ((LH q LI d).append u) r g h;rw [eq];exact⟨DH,s,λa g b v e=>by haveI:=gr.mp g;haveI:=C b v;exact Uh (by assumption) e this⟩
theorem LJ {p:Nat} {W W' t V g:ae} {c:List Nat} (n:W.length=p) (a:W'.length=p) (u:W'.all (aL p)=true) (b:V.all (aL (p+c.length))=true) (C:∀i∈c,p <= i) (v:cM (cL (aI p++c)) (W++t) c V):
  c5 (aI p++c) [] (W++t) (W'++V++g)=W'++t:=by
 unfold c5;rw [bX,o8 _ _ _ _ _ (by simp [a])]
 haveI w:∀m,d1 (mo (cY (aI p++c) [] m)) (aI p) W' (W++t)=W'++t:=λm=>by
  haveI h:=Bn (f:=mo (cY (aI p++c) [] m)) W' 0 [] W t [] (EU n a) rfl (λo q=>qQ (λj r=>by rw [jm (p:=p+c.length) (by simp) j (RH r)];exact LI j r) (dc.mp u o q));rw [a,<-lP,cO] at h;exact h
 rw [w]
 haveI l:=by
  haveI:∀{d k},(∀i∈d,p <= i)->cM (cL (aI p++c)) (W++t) d k->cM (cL (aI p++c)) (W'++t) d k:=by
   intro d k s h;induction h with
   |nil=>exact .nil
   |cons e _ B=>
    refine .cons ?_ (B λi x=>s i (.tail _ x));haveI:=s _ (.head _);rw [eE (by(first|exact EV n this|exact EV a this))] at e⊢;rw [a];rw [n] at e;exact e
  exact this C v
 rw [nx l (λo q=>kl (jm (by simp)) (dc.mp b o q)) g];simp
theorem jR {p:Nat} {W W' t V g:ae} {c:List Nat} {k:aa->ae->Prop} {r:aa} (d:W.length=p) (a:W'.length=p) (e:W'.all (aL p)=true) (b:V.all (aL (p+c.length))=true) (C:∀i∈c,p <= i) (f:cM (cL (aI p++c)) (W++t) c V) (j:kq r=true) (h:k r (W'++t)):
  dx k (aI p++c) (W++t) r (W'++V++g):=by
 refine fR (cJ ([]) f8 (λ_ h=>(c6 h).elim) ?_);rw [LJ d a e b C f,qP j];exact h
abbrev W4 (P:List (List Int)) (S:List Int):ae:=[.inst 0 1,.aZ 0 [.int 64,.ref 2,.ref 3],.list (P.map .bytes),.list (S.map .int)]
abbrev W7 (P:List (List Int)) (S:List Int) (D:List (Int×Int)):ae:=[.inst 0 1,.aZ 0 [.int 64,.ref 2,.ref 3],.list (P.map .bytes),.list (S.map .int),.inst 1 5,.aZ 1 [.ref 0,.ref 0,.ref 6],.dict D]
theorem LK {p:Nat} (P:List (List Int)):(P.map aa.bytes).all (bB p)=true:=by
 rw [OI];exact dc.mpr λ_ _=>rfl
theorem tg {p:Nat} (S:List Int):(S.map aa.int).all (bB p)=true:=by
 rw [OI];exact dc.mpr λ_ _=>rfl
theorem cg {p:Nat} {P:List (List Int)} {S:List Int}:(W4 P S).all (aL (p+4))=true:=by
 show(bD 1 (p+4)&&((true&&(bD 2 (p+4)&&(bD 3 (p+4)&&true)))&&((P.map aa.bytes).all (bB (p+4))&&((S.map aa.int).all (bB (p+4))&&true))))=true
 rw [LK,tg];rfl
theorem cC {p:Nat} {P:List (List Int)} {S:List Int} {D:List (Int×Int)}:(W7 P S D).all (aL (p+7))=true:=by
 show(W4 P S++([.inst 1 5,.aZ 1 [.ref 0,.ref 0,.ref 6],.dict D]:ae)).all (aL (p+7))=true
 rw [O2,(cg)];rfl
def aE (P:List (List Int)) (a:Int):List Int:=P.getD (a-1).toNat []
def cN:List Int:=eg 64 0
section
variable {n:Nat} {t:ae} {k:aa->ae->Prop} {x:bn} {P:List (List Int)} {S:List Int} {D:List (Int×Int)} {a:Int}
theorem wo (a:1 <= n) (I:P.length <= 16000000) (h:k (.int P.length) (W4 P S++t)):az aA n 67 [.ref 0] (W4 P S++t) k x:=
 ez rfl rfl a rfl rfl (cg) rfl (dd rfl rfl (by rw [bz];exact bE I ab) (f0 rfl rfl (cg) rfl (by rw [bz];exact h)))
theorem anf (b:1 <= a) (c:a <= P.length):eo (P.map aa.bytes) (a-1)=some (.bytes (aE P a)):=by
 unfold eo;rw [if_pos (by exact EA b),cm];unfold aE;rw [da,bV (by exact uV (bp _) b c)];rfl
theorem o9 (d:1 <= n) (I:P.length <= 16000000) (b:1 <= a) (c:a <= P.length) (h:k (.bytes (aE P a)) (W4 P S++t)):az aA n 68 [.ref 0,.int a] (W4 P S++t) k x:=
 have e:(P.map aa.bytes).length=P.length:=bz _
 ez rfl rfl d rfl rfl (cg) rfl (cn (decide_eq_false (Ew b)) (dd rfl rfl (eG e I ab) (cn (decide_eq_false (yH e c)) (dd rfl rfl (eG e I ab) (dB (anf b c) (f0 rfl rfl (cg) rfl h))))))
theorem pa {l:List Int} (g:1 <= n) (I:P.length <= 16000000) (b:(l.length:Int)=64) (c:1 <= a) (d:a <= P.length) (h:k .none (W4 (P.set (a-1).toNat l) S++t)):az aA n 69 [.ref 0,.int a,.bytes l] (W4 P S++t) k x:=
 have e:(P.map aa.bytes).length=P.length:=bz _;have f:(P.map aa.bytes).set (a-1).toNat (.bytes l)=(P.set (a-1).toNat l).map aa.bytes:=(asj ..).symm
 ez rfl rfl g rfl rfl (cg) rfl (dd (nb b ab) rfl rfl (cn (decide_eq_false (SN b)) (cn (decide_eq_false (Ew c)) (dd rfl rfl (eG e I ab) (cn (decide_eq_false (yH e d)) (gu rfl rfl (eG e I ab) (EA c) (Vx e d) (f0 (W':=[.inst 0 1,.aZ 0 [.int 64,.ref 2,.ref 3],.list ((P.map aa.bytes).set (a-1).toNat (.bytes l)),.list (S.map .int)]) rfl rfl (by rw [f];exact cg) rfl (by rw [f];exact h))))))))
theorem LL {q:aa->ae->Prop} (I:P.length <= 16000000) (h:∀g,q (.int (P.length+1)) (W4 (P++[cN]) S++g)):fE A5 (az aA n) [.ref 0] (W4 P S) q x:=by
 haveI e:(P.map aa.bytes).length=P.length:=bz _;haveI a:(P.map aa.bytes)++[aa.bytes cN]=(P++[cN]).map aa.bytes:=by rw [db];rfl
 haveI X:((P.map aa.bytes)++[aa.bytes cN]).length=P.length+1:=by simp
 refine xU rfl rfl trivial rfl rfl ∅ ∅ (eG e I ab) rfl rfl (sd X I ab) ?_;show q (.int (((P.map aa.bytes)++[aa.bytes cN]).length)) [.inst 0 1,.aZ 0 [.int 64,.ref 2,.ref 3],.list ((P.map aa.bytes)++[aa.bytes cN]),.list (S.map .int)]
 rw [X,a];exact h []
theorem wq (a:1 <= n) (I:P.length <= 16000000) (h:k (.int (P.length+1)) (W4 (P++[cN]) S++t)):az aA n 70 [.ref 0] (W4 P S++t) k x:=
 ez rfl rfl a rfl rfl (cg) rfl (LL I λg=>f0 rfl rfl (cg) rfl h)
theorem ang (b:2 <= n) (I:P.length <= 16000000) (p:S=[]) (h:k (.int (P.length+1)) (W4 (P++[cN]) S++t)):az aA n 71 [.ref 0] (W4 P S++t) k x:=
 ez rfl rfl (aQ b ab) rfl rfl (cg) rfl (dd rfl rfl (bg rfl) (dB (a:=true) (by rw [p];rfl) ⟨rfl,wq (aM (ay ..) b ab) I (f0 rfl rfl (cg) rfl h)⟩))
theorem th {l r:List aa} (h:l.length≠r.length):kL l r=some false:=by unfold kL;rw [if_neg h]
theorem anh {v:Int} (b:1 <= n) (p:S.length <= 16000000) (h:k (.int v) (W4 P S++t)):az aA n 71 [.ref 0] (W4 P (S++[v])++t) k x:=by
 haveI e:((S++[v]).map aa.int).length=S.length+1:=by simp
 haveI a:((S++[v]).map aa.int).dropLast=S.map aa.int:=by simp
 haveI X:((S++[v]).map aa.int).getLast?=some (.int v):=by simp
 exact ez rfl rfl b rfl rfl (cg) rfl (dd rfl rfl (bg rfl) (dB (th (by rw [e];exact Nat.succ_ne_zero _)) (i8 rfl rfl trivial (sd e p ab) (dB X (f0 (W':=[.inst 0 1,.aZ 0 [.int 64,.ref 2,.ref 3],.list (P.map .bytes),.list ((S++[v]).map aa.int).dropLast]) rfl rfl (by rw [a];exact cg) rfl (by rw [a];exact h))))))
theorem ws {l:List Int} (h:a∉l):l.contains a=false:=by
 rw [asx];exact λe=>h (xt.mp e)
theorem BE (c:1 <= n) (I:P.length <= 16000000) (p:S.length <= 16000000) (N:a∉S) (d:2 <= a) (f:a <= P.length) (h:k .none (W4 P (S++[a])++t)):az aA n 72 [.ref 0,.int a] (W4 P S++t) k x:=by
 haveI e:(P.map aa.bytes).length=P.length:=bz _;haveI g:(S.map aa.int).length=S.length:=bz _;haveI b:S.map aa.int++[aa.int a]=(S++[a]).map aa.int:=by rw [db];rfl
 exact ez rfl rfl c rfl rfl (cg) rfl ⟨rfl,rfl,S,rfl,cn (ws N) (cn (decide_eq_false (Ex d)) (dd rfl rfl (eG e I ab) (cn (decide_eq_false (yH e f)) (i8 rfl rfl trivial (eG g p ab) (f0 (W':=[.inst 0 1,.aZ 0 [.int 64,.ref 2,.ref 3],.list (P.map aa.bytes),.list (S.map aa.int++[aa.int a])]) rfl rfl (by rw [b];exact cg) rfl (by rw [b];exact h))))))⟩
theorem ani (a b c d:Int):KFB.value [a,b,c,d]=(a*256+b)*65536+(c*256+d):=by
 exact XH
theorem anj {l:List Int} (h:4 <= l.length):dK l (some 0) (some (0+4))=[bK l 0,bK l 1,bK l 2,bK l 3]:=by
 match l,h with
 |a::b::c::d::r,_=>
  rfl
theorem ank {l:List Int} (b:1 <= n) (a:(l.length:Int)=64) (h:k (.int (b8 l 0)) (W4 P S++t)):az aA n 30 [.bytes l,.int 0] (W4 P S++t) k x:=by
 haveI e:=anj (Rz a);refine ez rfl rfl b rfl rfl (cg) rfl (And.intro (λq=>by contradiction) (And.intro (nb a ab) (And.intro (by rw [e];exact(by decide:4 <= 8)) ?_)));rw [e,ani];exact f0 rfl rfl (cg) rfl h
inductive Ch (P:List (List Int)):Int->List Int->Prop
 |nil:Ch P 0 []
 |cons {p:Int} {r:List Int}:2 <= p->p <= P.length->((aE P p).length:Int)=64->Ch P (b8 (aE P p) 0) r->Ch P p (p::r)
theorem anl {s:Int} (a:1 <= n) {J:ae} (h:k (.int ((s+59)/60)) J):az aA n 31 [.int 64,.int s] J k x:=by
 refine gF rfl rfl a rfl rfl ⟨∅,∅,fk rfl ?_⟩;haveI e:s+(64-4)-1=s+59:=Sz;rw [e];exact h
theorem anm {J:ae} (b:2 <= n) (I:P.length <= 16000000) (c:2 <= a) (d:a <= P.length) (h:k .none (W4 P S++t)):az aA n 32 [.ref 0,.int a] (W4 P S++t) k x:=
 ez rfl rfl (aQ b ab) rfl rfl (cg) rfl (cn (decide_eq_false (Ex c)) ⟨rfl,wo (aM (ay ..) b ab) I (cn (decide_eq_false (Fh d)) (f0 rfl rfl (cg) rfl h))⟩)
theorem LM {b:Nat->Option Nat} (S:List Int):(S.map aa.int).map (cz b)=S.map aa.int:=by
 rw [iE];exact gQ λ_ _=>rfl
theorem ds {p:Nat} {W g:ae} (h:W.all (aL p)=true) (a:g.all (aL p)=true):(W++g).all (aL p)=true:=by rw [O2,h,a];rfl
theorem qW {p L m:Nat} (h:p <= m) (b:m+1 <= L):∀j∈[m],p <= j/\j<L:=λj a=>by rw [dj] at a;subst a;exact⟨h,b⟩
theorem Ch.inv {q:Int} {r:List Int} (h:Ch P q r):(q=0/\r=[])\/ ∃b,r=q::b/\2 <= q/\q <= P.length/\((aE P q).length:Int)=64/\Ch P (b8 (aE P q) 0) b:=by
 induction h with
 |nil=>exact .inl ⟨rfl,rfl⟩
 |cons a b c d=>exact .inr ⟨_,rfl,a,b,c,d⟩
theorem ann {first s:Int} {c:List Int} (v:3 <= n) (I:P.length <= 16000000) (H:Ch P first c) (y:c.Nodup) (B:(s+59)/60=c.length) (m:c.length <= 1000) (h:k (.ref ((W4 P S++t).length+0)) (W4 P S++t++[.list (c.map .int)])):az aA n 33 [.ref 0,.int first,.int s] (W4 P S++t) k x:=by
 refine ez (p:=4) rfl rfl (aQ v ab) rfl rfl (cg) rfl (gu (bg rfl) (bg rfl) rfl rfl rfl (anl (by exact aM (ay ..) v ab) ⟨?_,?_⟩))
 ·rw [B];exact X7 m
 rw [B];refine qT (λi Y J=>∃(d A:List Int) (q:Int) (a:aa),c=d++A/\d.length=i/\Ch P q A/\bB 6 a=true/\Y=[.ref 0,.int first,.int s,.ref 4,.int q,a]/\J=W4 P S++[.list (d.map .int),.tup [.ref 4,.int first]]) (m7 ([]) c first .aR rfl rfl H rfl rfl rfl) ?_ ?_
 ·intro i Y J L C K F;refine rR C λd A q a o w hq M N g=> ?_;clear C;rcases hq.inv with⟨_,e⟩|hq
  ·exact absurd L (by rw [o,e,cO,w];exact mW i)
  ·refine xV hq λr e D E O Q=> ?_;have o:=o.trans (congrArg _ e)
   haveI j:=λR=>by
    have y:=(congrArg List.Nodup o).mp y;rw [eq] at y;exact y.2.2 q R q (.head _) rfl
   have m:=gq (Nat.le_of_eq (congrArg List.length o).symm) m;haveI m:=kZ▸a9▸m;obtain rfl:=N;obtain rfl:=g;refine anm (J:=[]) (aM (ay ..) v ab) I D E (aJ d rfl (cn (ws j) (dd trivial (by rw [bz];exact Tb m) rfl (o9 (aM (ay ..) v ab) I (gw D ab) E (ank (aM (ay ..) v ab) O ?_)))));haveI u:d.map aa.int++[aa.int q]=(d++[q]).map aa.int:=by rw [db];rfl
   refine fH (Y:=[.ref 0,.int first,.int s,.ref 4,.int (b8 (aE P q) 0),.int i]) (W:=W4 P S++[.list (d.map .int++[.int q]),.tup [.ref 4,.int first]]) rfl rfl ?_ (F _ _ ?_)
   ·rw [u];refine ds (cg) ?_;show(((d++[q]).map aa.int).all (bB 6)&&(true&&true))=true
    rw [tg];rfl
   ·exact m7 (d++[q]) r _ (.int i) (by rw [o,bX];rfl) (by rw [a9,w];rfl) Q rfl rfl (by rw [<-u])
 ·intro Y J G;refine rR G λd A q a z w hq M f l=> ?_;clear G
  haveI u:=by
   haveI:=congrArg List.length z;haveI this:=a9▸this;exact xQ (Tj this w)
  have X:c=d:=by rw [z,u,cO]
  subst d;obtain rfl:q=0:=hq.inv.elim (λh=>h.1) λh=>by haveI h:=u▸h;exact xV h λ_ e _ _ _ _=>by contradiction
  clear hq z w u;obtain rfl:=f;obtain rfl:=l;refine qR [4] fm (qW (bg rfl) (bg rfl)) rfl rfl (cg) ?_;haveI X:∀b,mo b (.list (c.map .int))= .list (c.map .int):=λb=>congrArg aB.list (LM c);show k _ (W4 P S++t++[mo _ (.list (c.map .int))])
  rw [X];exact h
end
section
variable {n:Nat} {t:ae} {k:aa->ae->Prop} {x:bn} {P:List (List Int)} {S:List Int} {D:List (Int×Int)} {a:Int}
theorem ano {first s:Int} {c:List Int} (d:4 <= n) (I:P.length <= 16000000) (z:Ch P first c) (g:(S++c).Nodup) (B:(s+59)/60=c.length) (C:S.length+c.length <= 16000000) (m:c.length <= 1000) (E:∀q∈c,2 <= q/\q <= P.length) (h:k (.int c.length) (W7 P (S++c) D++t)):az aA n 34 [.ref 4,.int first,.int s] (W7 P S D++t) k x:=by
 refine ez (p:=7) rfl rfl (aQ d ab) rfl rfl (cC) rfl (bv rfl rfl (ann (t:=[.inst 1 5,.aZ 1 [.ref 0,.ref 0,.ref 6],.dict D]) (aM (ay ..) d ab) I z (eq.mp g).2.1 B m (mq (n:=7) (l:=c.map .int) (λi Y J=>∃a,bB 8 a=true/\Y=[.ref 4,.int first,.int s,.ref 7,a]/\J=W7 P (S++c.take i) D++[.list (c.map .int)]) ?_ (cJ .aR rfl rfl (by rw [xR,cO];rfl)) ?_ ?_)))
 ·intro i Y J o;refine cU o λa r G H=> ?_;clear o;obtain rfl:=G;obtain rfl:=H;rfl
 ·intro i v Y J f L K F;refine cU L λa r M O=> ?_;obtain rfl:=M;obtain rfl:=O;replace f:=cm▸f;refine aw (gP.mp f) λq hq Q=> ?_;obtain rfl:=Q;haveI y:c.take (i+1)=c.take i++[q]:=by rw [List.take_succ,hq];rfl
  haveI b:=E q (cq hq)
  haveI j:=λR=>by
   haveI u:((S++c.take i)++c.drop i).Nodup:=by rw [bX,m3];exact g
   rw [eq] at u;exact u.2.2 q R q (by rw [Ol ((cF.mp hq).1)];rw [(cF.mp hq).2];exact .head _) rfl
  refine dd rfl rfl rfl (BE (aM (ay ..) d ab) I (by rw [a9,iD];exact UR (ew ..) C) j b.1 b.2 ?_);refine fH (Y:=[.ref 4,.int first,.int s,.ref 7,.int q]) (W:=W7 P (S++c.take i++[q]) D++[.list (c.map .int)]) rfl rfl ?_ (F _ _ (cJ _ rfl rfl ?_))
  ·refine ds (cC) ?_;show((c.map aa.int).all (bB 8)&&true)=true
   rw [tg];rfl
  ·rw [y,bX]
 ·intro Y J w;refine cU w λa r N A=> ?_;clear w;obtain rfl:=N;obtain rfl:=A;haveI e:c.take (c.map aa.int).length=c:=by rw [bz,kA]
  rw [e];refine⟨by rw [bz];exact bE m ab,f0 rfl rfl (cC) rfl ?_⟩;rw [bz];exact h
theorem LN {p L m b a:Nat} (h:p <= m) (c:m+1 <= L) (i:p <= b) (A:b+1 <= L) (j:p <= a) (r:a+1 <= L):∀q∈[m,b,a],p <= q/\q<L:=λq hq=>by
 simp only [cb,c6,or_false] at hq;rcases hq with rfl|rfl|rfl
 ·exact⟨h,c⟩
 ·exact⟨i,A⟩
 ·exact⟨j,r⟩
theorem LO {L:Nat} {l:List Int} {J:ae} (c:1 <= n) (d:J[L]? =some (.aZ 3 [])) (b:J[L+1]? =some (.inst 3 L)) (e:l.length <= 16777216) (f:a≠1) (h:k .none (J.set L (.aZ 3 [.ref (J.length+0),.int a,.int 64,.int 0])++[.cv l])):
  az aA n 17 [.ref (L+1),.bytes l,.int a,.int 64] J k x:=by
 refine dQ (H:=[.ref 1,.bytes l,.int a,.int 64]) [L,L+1] rfl rfl c rfl Bs rfl (Bt d b) rfl rfl
  ⟨e,rfl,rfl,rfl,rfl,rfl,rfl,rfl,rfl,rfl,rfl,rfl,rfl,cn (decide_eq_false f) (fR (cJ ([2]) fm (by simp) ?_))⟩
 show k .none ((J.set L (.aZ 3 [.ref (J.length+0),.int a,.int 64,.int 0])).set (L+1) (.inst 3 L)++[.cv l])
 rw [oX (by rw [mS (by exact yq)];exact b)];exact h
theorem BF {J:ae} (a:1 <= n) (h:k (.int 64) (W7 P S D++t)):az aA n 36 [.ref 4] (W7 P S D++t) k x:=
 ez rfl rfl a rfl rfl (cC) rfl (i8 rfl rfl rfl rfl (f0 rfl rfl (cC) rfl h))
abbrev wt (L:Nat) (l:List Int) (a:Int):ae:=[.inst 3 (L+1),.aZ 3 [.ref (L+2),.int a,.int 64,.int 0],.cv l]
theorem ti (b:2 <= n) (I:P.length <= 16000000) (c:2 <= a) (d:a <= P.length) (e:(aE P a).length <= 16777216) (h:k (.ref ((W7 P S D++t).length+0)) (W7 P S D++t++wt (W7 P S D++t).length (aE P a) a)):az aA n 37 [.ref 4,.int a] (W7 P S D++t) k x:=
 ez rfl rfl (aQ b ab) rfl rfl (cC) rfl
  (cn (decide_eq_false (QT c)) (dd rfl rfl rfl (wo (aM (ay ..) b ab) I (cn (decide_eq_false (Fh d)) (dd rfl rfl rfl (o9 (aM (ay ..) b ab) I (gw c ab) d ⟨rfl,BF (J:=[]) (aM (ay ..) b ab) (LO (aM (ay ..) b ab) rfl rfl e (lW c)
   (qR (g:=[.aZ 3 [.ref 9,.int a,.int 64,.int 0],.inst 3 7,.cv (aE P a)]) [8,7,9] ∅ (LN (bg rfl) (bg rfl) (bg rfl) (bg rfl) (bg rfl) (bg rfl)) rfl rfl (cC) h))⟩))))))
end
section
variable {n j:Nat} {J t:ae} {k:aa->ae->Prop} {x:bn} {P:List (List Int)} {S l:List Int} {D:List (Int×Int)} {a u:Int}
def dk (u:Int):List Int:=put2 (cN.set 0 u) 5 64
theorem anp {B R:Nat} (d:2 <= n) (N:J[j]? =some (.inst 3 B)) (b:J[B]? =some (.aZ 3 [.ref R,.int a,.int 64,.int 0])) (f:J[R]? =some (.cv l)) (c:(l.length:Int)=64) (g:0 <= u/\u<256) (h:k .none (J.set R (.cv (dk u)))):az aA n 29 [.ref j,.int u] J k x:=by
 haveI e:List.take (kC 0) l++eg (64-0:Int).toNat 0++List.drop (kC 64) l=cN:=by
  haveI X:List.drop (kC 64) l=[]:=List.drop_eq_nil_of_le (nb c ab);rw [X];rfl
 refine dQ (H:=[.ref 0,.int u]) (W:=qU l a) [j,B,R] rfl rfl (aQ d ab) rfl (BD N b f) rfl (.cons N (.cons b (.cons f .nil))) rfl rfl ⟨rfl,rfl,rfl,rfl,∅,∅,rfl,rfl,rfl,rfl,rfl,rfl,∅,∅,p7 c ab,rfl,nb c ab,rfl,rfl,rfl,rfl,?_⟩;rw [e];refine xU ∅ ∅ ∅ g.1 g.2 rfl rfl rfl rfl rfl rfl (Br (aM (ay ..) d ab) rfl (bg rfl) ∅ (asL (by show(0:Int)<64-6;decide)) ∅ ∅ (fR (cJ ([]) f8 (λ_ h=>(c6 h).elim) ?_)));show k .none (((J.set j (.inst 3 B)).set B (.aZ 3 [.ref R,.int a,.int 64,.int 0])).set R (.cv (dk u))++[])
 rw [oX N,oX b,cO];exact h
theorem LP (b:3 <= n) (c:a≠1) (d:0 <= u/\u<256) (h:k (.ref ((W7 P S D++t).length+0)) (W7 P S D++t++wt (W7 P S D++t).length (dk u) a)):az aA n 38 [.ref 4,.int a,.int u] (W7 P S D++t) k x:=
 ez rfl rfl (aQ b ab) rfl rfl (cC) rfl
  ⟨rfl,BF (J:=[]) (aM (ay ..) b ab) ⟨∅,∅,cn (decide_eq_false c) ⟨rfl,BF (J:=[]) (aM (ay ..) b ab) (LO (aM (ay ..) b ab) rfl rfl (bg rfl) c ⟨rfl,anp (aM (ay ..) b ab) rfl rfl rfl rfl d
   (qR [8,7,9] ∅ (LN (bg rfl) (bg rfl) (bg rfl) (bg rfl) (bg rfl) (bg rfl)) rfl rfl (cC) h)⟩)⟩⟩⟩
def tj (W t:ae) (j:Nat) (l:List Int) (a:Int):Prop:=∃B R,7 <= j/\7 <= B/\7 <= R/\(W++t)[j]? =some (.inst 3 B)/\(W++t)[B]? =some (.aZ 3 [.ref R,.int a,.int 64,.int 0])/\(W++t)[R]? =some (.cv l)
abbrev qX (l:List Int) (a:Int):ae:=[.inst 3 8,.aZ 3 [.ref 9,.int a,.int 64,.int 0],.cv l]
theorem tj.sees {W:ae} (h:tj W t j l a):∃B R,[j,B,R].Nodup/\(∀i∈[j,B,R],7 <= i)/\cM (cL (aI 7++[j,B,R])) (W++t) [j,B,R] (qX l a):=uz h λB R b e f N c d=>dt B R (BD N c d) (am (by exact⟨b,e,f,trivial⟩)) (.cons N (.cons c (.cons d .nil)))
theorem wu:(qX l a).all (aL 10)=true:=rfl
theorem BG:(W7 P S D++qX l a).all (aL 10)=true:=ds (cC) wu
theorem LQ (b:2 <= n) (d:tj (W7 P S D) t j l a) (I:P.length <= 16000000) (c:2 <= a) (g:a <= P.length) (e:(l.length:Int)=64) (h:k .none (W7 (P.set (a-1).toNat l) S D++t)):az aA n 39 [.ref 4,.ref j] (W7 P S D++t) k x:=by
 refine dN d.sees λB R i C f=> ?_
 exact jn (H:=[.ref 4,.ref 7]) [j,B,R] (F:=AB) rfl rfl (aQ b ab) rfl rfl BG (cC) rfl i C f
  ⟨rfl,anb (aM (ay ..) b ab) (dt 8 9 rfl rfl rfl) (nb e ab) ⟨rfl,rfl,cn (decide_eq_false (Ey c)) (gu rfl rfl rfl rfl rfl (pa (aM (ay ..) b ab) I e (gw c ab) g
   (jR (W':=W7 (P.set (a-1).toNat l) S D) rfl rfl (cC) wu C f rfl h)))⟩⟩
def d8 (D:List (Int×Int)) (a:Int):List (Int×Int):=qr D a ((ji D a).getD 0+1)
theorem LR (b:1 <= n) (c:D.length <= 100000) (h:k .none (W7 P S (d8 D a)++t)):az aA n 40 [.ref 4,.int a] (W7 P S D++t) k x:=
 ez rfl rfl b rfl rfl (cC) rfl (ux rfl rfl trivial rfl rfl c (f0 (W':=W7 P S (d8 D a)) rfl rfl (cC) rfl h))
def pb (P:List (List Int)) (y a:Int) (c:List Int):Prop:=(y=0/\c=[])\/(y≠0/\Ch P y c/\(a+59)/60=c.length)
theorem anq {B:Nat} {s a y:Int} {w:aa} {z:List Int} (d:1 <= n) (N:J[j]? =some (.inst 4 B)) (b:J[B]? =some (.aZ 4 [.int s,w,.int a,.bytes z,.int y])) (i:o0 w) (f:z.length <= 16777216) (h:k (.int (a-z.length)) J):az aA n 15 [.ref j] J k x:=by
 have g:[j,B].Nodup:=by
  haveI:j≠B:=by intro e;subst e;replace b:=N▸b;cases b
  simp [this]
 rcases i with rfl|l
 ·haveI c:cM (cL [j,B]) J [j,B] [.inst 4 1,.aZ 4 [.int s,.none,.int a,.bytes z,.int y]]:=.cons N (.cons b .nil);exact dQ (H:=[.ref 0]) [j,B] rfl rfl d rfl g rfl c rfl rfl (gu rfl rfl rfl rfl f (h8 c rfl rfl rfl h))
 ·obtain⟨v,rfl⟩:=l;haveI c:cM (cL [j,B]) J [j,B] [.inst 4 1,.aZ 4 [.int s,.int v,.int a,.bytes z,.int y]]:=.cons N (.cons b .nil);exact dQ (H:=[.ref 0]) [j,B] rfl rfl d rfl g rfl c rfl rfl (gu rfl rfl rfl rfl f (h8 c rfl rfl rfl h))
theorem anr {s a y:Int} {w:aa} {z c:List Int} {q:aa->ae->Prop} (g:o0 w) (f:4 <= n) (I:P.length <= 16000000) (b:pb P y (a-z.length) c) (d:z.length <= 16777216) (i:(S++c).Nodup) (j:S.length+c.length <= 16000000) (k:c.length <= 1000) (G:∀q∈c,2 <= q/\q <= P.length)
  (h:q .none (W7 P (S++c) D++([.inst 4 8,.aZ 4 [.int s,w,.int a,.bytes z,.int y]]:ae))):fE AC (az aA n) [.ref 4,.ref 7] (W7 P S D++([.inst 4 8,.aZ 4 [.int s,w,.int a,.bytes z,.int y]]:ae)) q x:=by
 rcases b with l|m
 ·obtain⟨rfl,rfl⟩:=l;rw [cO] at h;exact bv rfl rfl h
 ·refine dp m λN b e=> ?_
  exact bv rfl rfl (eH (decide_eq_true N) (dd rfl rfl rfl (anq (aQ f ab) rfl rfl g d
   (ano f I b i e j k G h))))
theorem ans {B:Nat} {s a y:Int} {w:aa} {z c:List Int} (f:o0 w) (l:5 <= n) (b:7 <= j) (u:7 <= B) (N:(W7 P S D++t)[j]? =some (.inst 4 B)) (g:(W7 P S D++t)[B]? =some (.aZ 4 [.int s,w,.int a,.bytes z,.int y])) (I:P.length <= 16000000) (E:pb P y (a-z.length) c) (d:z.length <= 16777216) (F:(S++c).Nodup) (H:S.length+c.length <= 16000000) (J:c.length <= 1000) (G:∀q∈c,2 <= q/\q <= P.length)
  (h:k .none (W7 P (S++c) D++t)):az aA n 41 [.ref 4,.ref j] (W7 P S D++t) k x:=by
 have m:[j,B].Nodup:=by
  haveI:j≠B:=by intro e;subst e;replace g:=N▸g;cases g
  simp [this]
 haveI C:∀i∈[j,B],7 <= i:=by simp [b,u]
 haveI A:∀r,o0 r->aL 9 (.aZ 4 [.int s,r,.int a,.bytes z,.int y])=true:=λr f=>by rcases f with rfl| ⟨v,rfl⟩<;>rfl
 have o:=by show(true&&(aL 9 _&&true))=true;rw [A w f];rfl
 haveI K:cz (cL (aI 7++[j,B])) w=w:=by rcases f with rfl| ⟨v,rfl⟩<;>rfl
 haveI p:cM (cL (aI 7++[j,B])) (W7 P S D++t) [j,B] [.inst 4 8,.aZ 4 [.int s,w,.int a,.bytes z,.int y]]:=.cons N (.cons (by show _=some (aB.aZ 4 [.int s,cz _ w,.int a,.bytes z,.int y]);rw [K];exact g) .nil)
 exact jn (V:=[.inst 4 8,.aZ 4 [.int s,w,.int a,.bytes z,.int y]]) [j,B] rfl rfl (aQ l ab) rfl rfl (ds (cC) o) (cC) rfl m C p
  (anr f (aM (ay ..) l ab) I E d F H J G (jR (W':=W7 P (S++c) D) (V:=[.inst 4 8,.aZ 4 [.int s,w,.int a,.bytes z,.int y]]) rfl rfl (cC) o C p rfl h))
end
section
variable {n j:Nat} {J t:ae} {k:aa->ae->Prop} {x:bn} {P:List (List Int)} {S l:List Int} {D:List (Int×Int)} {a u:Int} {b:Int}
theorem jS {b:Nat->Option Nat} {S:List Int}:mo b (.list (S.map .int))= .list (S.map .int):=congrArg aB.list (LM S)
theorem et {p:Nat} {S:List Int}:aL p (.list (S.map .int))=true:=tg S
def ny (l:List Int) (i:Nat):Int:=if i=(dy l 3).toNat then b8 l 8 else b8 l (gj l (i:Int))
theorem ant {m i:Nat} (a:i<m+1) (b:dy l 3=m):((aI (m+1)).map (ny l))=(aI m).map (λ(i:Nat)=>b8 l (gj l (i:Int)))++[b8 l 8]:=by
 haveI e:(dy l 3).toNat=m:=Fe (bp _) b;rw [m4,db];congr 1
 ·exact gQ λi a=>by unfold ny;rw [if_neg (by haveI:=gr.mp a;exact WA (bp _) e this)]
 ·unfold ny;simp [e]
theorem LS (q:5 <= n) (d:iR J j l b) (Q:gG l) (h:k (.ref (J.length+0)) (J++[.list ((eA l).map .int)])):az aA n 28 [.ref j] J k x:=by
 refine cV d.sees λB R v s=> ?_
 have p:∀L g,L=eA l->dx k [j,B,R] J (.ref 4) (qU l b++(.cell (.ref 0):: .list (L.map .int)::g)):=λL g e=>by
  subst e;refine lw (l:=[4]) fm (qW (bg rfl) (bg rfl)) s rfl rfl ?_;show k (.ref (J.length+0)) (J++[mo _ (.list ((eA l).map .int))])
  rw [jS];exact h
 refine dQ (H:=[.ref 0]) [j,B,R] rfl rfl (aQ q ab) rfl v rfl s rfl rfl ⟨rfl,am7 (aM (ay ..) q ab) (dt 1 2 rfl rfl rfl) Q ?_⟩;unfold eA at p;cases e:dr (bK l 0)
 ·rw [e] at p;obtain⟨m,r⟩:∃m:Nat,dy l 3=m:=⟨(dy l 3).toNat,by have:=Q.LC;exact Tz (bp _) this⟩
  have A:dy l 3+1=(m+1:Nat):=Vn r;have o:=Q.cnt;have t:=Q.qc;have w:=ant (m:=m) (i:=0) (lY ab) r;have c:(dy l 3).toNat=m:=Fe (bp _) r;rw [c] at p;refine cJ ([3]) rfl rfl (qV (aM (ay ..) q ab) (dt 1 2 rfl rfl rfl) Q ?_);show gZ (0,dy l 3+1,1)/\ ∃f,gD Ax (fZ 0 (dy l 3+1) 1) 1 none (gh (bZ (az aA (n-1)) (b4 0) (aN 3 27) (cG (bH 1) bf)) 4) 5 f 0 [.ref 3,.aR] [.inst 3 1,.aZ 3 [.ref 2,.int b,.int 64,.int 0],.cv l,.cell (.ref 0),.list []] _
  rw [A];refine⟨by unfold gZ;exact Yq (bp _) t o c,By (λi Y J=>∃a,bB 5 a=true/\Y=[.ref 3,a]/\J=[.inst 3 1,.aZ 3 [.ref 2,.int b,.int 64,.int 0],.cv l,.cell (.ref 0),.list (((aI i).map (ny l)).map .int)]) (cJ .aR rfl rfl rfl) ?_ ?_⟩
  ·intro i Y J u y K F;refine cU y λa z C D=> ?_;obtain rfl:=C;obtain rfl:=D;refine⟨rfl,ane (aM (ay ..) q ab) (dt 1 2 rfl rfl rfl) Q (by rw [c];exact u) ⟨by simp;exact XU (bp _) t o c u,?_⟩⟩;refine fH (Y:=[.ref 3,.int i]) (W:=[.inst 3 1,.aZ 3 [.ref 2,.int b,.int 64,.int 0],.cv l,.cell (.ref 0),.list (((aI i).map (ny l)).map .int++[.int (ny l i)])]) rfl rfl ?_ (F _ _ (cJ _ rfl rfl ?_))
   ·show(((((aI i).map (ny l)).map aa.int)++[aa.int (ny l i)]).all (bB 5)&&true)=true
    rw [O2,tg];rfl
   ·rw [m4,db,db];rfl
  ·intro Y J E;refine cU E λa z G H=> ?_;obtain rfl:=G;obtain rfl:=H;exact p _ [] w
 ·haveI p:=e▸p;exact⟨bg rfl,p [] [] rfl⟩
def BH (p m:Nat):aa->aa
 | .ref j=>if j<p then .ref j else if j=m then .ref p else .dW
 |a=>a
theorem BI {j m:Nat} (u:List Nat):∀(q:Nat),fO j (u++[m]) q=(match fO j u q with
  |some i=>some i
  |none=>if mV m j then some (q+u.length) else none):=by
 induction u with
 |nil=>
  intro q;exact rfl
 |cons i u B=>
  intro q
  show(if mV i j then some q else fO j (u++[m]) (q+1))=(match(if mV i j then some q else fO j u (q+1)) with
   |some i=>some i
   |none=>if mV m j then some (q+(u.length+1)) else none)
  cases mV i j
  ·show fO j (u++[m]) (q+1)=(match fO j u (q+1) with|some i=>some i|none=>if mV m j then some (q+(u.length+1)) else none)
   rw [B (q+1),asM,xS 1]
  ·rfl
theorem wv {p m:Nat} (c:p <= m) (a:aa):cz (dG (aI p++[m])) a=BH p m a:=by
 cases a<;>first|rfl|skip
 rename_i j;show(match dG (aI p++[m]) j with|some i=>aa.ref i|none=>.dW)=if j<p then .ref j else if j=m then .ref p else .dW
 haveI e:dG (aI p++[m]) j=_:=BI (aI p) 0;rw [e];by_cases h:j<p
 ·rw [show fO j (aI p) 0=some j from oW h,if_pos h]
 ·rw [if_neg h]
  haveI:fO j (aI p) 0=none:=by
   rw [lP];exact Bx (p:=p) p 0 (EO h)
  rw [this];by_cases b:j=m
  ·subst b;rw [if_pos rfl,jC,xJ];rw [if_pos (uk j)]
  ·rw [if_neg b];rw [if_neg (λe=>b (ug e).symm)]
theorem LU {V:bb} {p m:Nat} {K:List aa->ae->Prop} {Y:List aa} {W g:ae} {o:aB} (M:(V.slots.all λq=> !q.2)=true) (d:W.length=p) (f:W.all (aL p)=true) (k:p <= m) (l:(W++g)[m]? =some o) (n:aL p o=true) (h:K (Y.map (BH p m)) (W++[o])):d5 V p K Y (W++g):=by
 have b:∀j,j<p->dG (aI p++[m]) j=some j:=λj c=>by
  haveI:=BI (j:=j) (m:=m) (aI p) 0;unfold dG;rw [this,show fO j (aI p) 0=some j from oW c]
 refine⟨by simp;exact EM d,[m],fm,λi b=> ?_,λi y r=> ?_,?_⟩
 ·rw [dj] at b;subst b;exact⟨k,(cF.mp l).1⟩
 ·haveI:=dc.mp M _ (cq r);contradiction
 ·unfold kg;rw [gQ λa _=>wv k a]
  haveI e:g8 (aI p++[m]) (W++g)=W++[o]:=by
   unfold g8;rw [db];congr 1
   ·exact(LH d (λj _=>rfl) f).map (λj c=>(aJ j rfl (b j c))) f
   ·show [mo _ ((W++g).getD m .dead)]=[o]
    rw [da,l,pO,qQ b n]
  rw [e];exact h
end
section
variable {n j:Nat} {J t:ae} {k:aa->ae->Prop} {x:bn} {P:List (List Int)} {S l:List Int} {D:List (Int×Int)} {a u O:Int}
structure gH (P:List (List Int)) (a:Int):Prop where
 lo:2 <= a
 ix:a <= P.length
 node:gG (aE P a)
inductive f1 (P:List (List Int)):List Int->List Int->Option (List Int)->Prop
 |done {f}:f1 P f [] (some f)
 |bad {f a st}:a∈f->0 <= a/\a<1000->f.length <= 1000->st.length <= 1000->f1 P f (a::st) none
 |step {f a st r}:a∉f->f.length <= 1000->st.length <= 1000->gH P a->f1 P (f++[a]) (eA (aE P a)++st) r->f1 P f (a::st) r
theorem ww (Q:gG l):(eA l).length <= 100:=by
 haveI:=Q.cnt;haveI:=Q.qc;unfold eA;split
 ·simp
 ·simp;exact Vd (by assumption) (by assumption)
abbrev nz (n:Nat) (O:Int):=nk qL (bi (bH 3) (dP bf) du) (JM (az aA n)) 10
theorem NJ (i:List Int) (a:Int):((a::i).reverse.map aa.int).getLast?=some (.int a):=by simp
theorem LV (i:List Int) (a:Int):((a::i).reverse.map aa.int).dropLast=i.reverse.map .int:=by simp
theorem LW (i a:List Int):i.reverse.map aa.int++(a.map aa.int).reverse=(a++i).reverse.map .int:=by simp
def Fin (P:List (List Int)) (S:List Int) (D:List (Int×Int)) (O:Int) (k:List aa->ae->Prop) (x:bn):Option (List Int)->Prop
 |some f=>∀a j g,k [.ref 4,.int O,.ref 7,.ref a,.ref 9,j] (W7 P S D++(.list (f.map .int)::g))
 |none=>∀g,x 1 (W7 P S D++g)
theorem anu {k:List aa->ae->Prop} {r:aa->ae->Prop} {f i:List Int} {q se:List Int} {j:aa} (p:6 <= n) (I:P.length <= 16000000) (o:∀b,se.contains b=f.contains b) (l:se.length=f.length) (M:f.length <= 1000) (d:i.length <= 1000) (c:Nat)
  (h:(a∈f->(0 <= a/\a<1000)/\ ∀g,x 1 (W7 P S D++g))/\(a∉f->gH P a/\nz n O c [.ref 4,.int O,.ref 7,.ref 10,.ref 9,.int a] (W7 P S D++[.list ((f++[a]).map .int),.list (i.reverse.map .int),.set (a::se),.list ((eA (aE P a)++i).reverse.map .int)]) k r x)):
  nz n O (c+1) [.ref 4,.int O,.ref 7,.ref 8,.ref 9,j] (W7 P S D++[.list (f.map .int),.list ((a::i).reverse.map .int),.set se]) k r x:=by
 have s:f.map aa.int++[aa.int a]=(f++[a]).map aa.int:=by simp
 refine⟨bg rfl,dB (th (by simp)) (bv trivial (by simp;exact bE d ab) (dB (NJ i a) ?_))⟩;rw [LV];refine⟨eG l M ab,?_⟩;rw [o a];by_cases e:a∈f
 ·exact eH (xt.mpr e) ⟨(h.1 e).1,(h.1 e).2 _⟩
 ·refine fp (h.2 e) λG t=> ?_;refine cn (ws e) (gu trivial (eG l M ab) trivial (by rw [bz];exact bE M ab) rfl ?_);rw [s];refine ti (aQ p ab) I G.lo G.ix G.node.eL.1 ⟨rfl,LS (aQ p ab) (dt 12 13 rfl rfl rfl) G.node (dd rfl (by rw [bz];exact gq (ww G.node) ∅) (by have:=ww G.node;simp;exact u9 this d ab) ?_)⟩;rw [LW]
  have T:d5 qL 10 (λY J=>nz n O c Y J k r x) [.ref 4,.int O,.ref 7,.ref 16,.ref 9,.int a] (W7 P S D++[.list ((f++[a]).map .int),.list (i.reverse.map .int),.set (a::se)]++([.list [],.inst 3 12,.aZ 3 [.ref 13,.int a,.int 64,.int 0],.cv (aE P a),.list ((eA (aE P a)).map .int),.list ((eA (aE P a)).map .int).reverse,.list ((eA (aE P a)++i).reverse.map .int)])):=by
   refine LU (m:=16) rfl rfl (ds (cC) (by show(aL 10 (.list _)&&(aL 10 (.list _)&&true))=true;rw [et,et];rfl)) ∅ rfl et ?_;exact t
  exact T
theorem LX {k:List aa->ae->Prop} {r:aa->ae->Prop} {f i:List Int} {q se:List Int} {j:aa} (p:6 <= n) (I:P.length <= 16000000) (o:∀b,se.contains b=f.contains b) (l:se.length=f.length) (M:f.length <= 1000) (d:i.length <= 1000) (c:Nat)
  (h:(a∈f->(0 <= a/\a<1000)/\ ∀g,x 1 (W7 P S D++g))/\(a∉f->gH P a/\nz n O c [.ref 4,.int O,.ref 7,.ref 10,.ref 9,.int a] (W7 P S D++[.list ((f++[a]).map .int),.list (q.map .int),.set (a::se),.list ((eA (aE P a)++i).reverse.map .int)]) k r x)):
  nz n O (c+1) [.ref 4,.int O,.ref 7,.ref 10,.ref 9,j] (W7 P S D++[.list (f.map .int),.list (q.map .int),.set se,.list ((a::i).reverse.map .int)]) k r x:=by
 have s:f.map aa.int++[aa.int a]=(f++[a]).map aa.int:=by simp
 refine⟨bg rfl,dB (th (by simp)) (bv trivial (by simp;exact bE d ab) (dB (NJ i a) ?_))⟩;rw [LV];refine⟨eG l M ab,?_⟩;rw [o a];by_cases e:a∈f
 ·exact eH (xt.mpr e) ⟨(h.1 e).1,(h.1 e).2 _⟩
 ·refine fp (h.2 e) λG t=> ?_;refine cn (ws e) (gu trivial (eG l M ab) trivial (by rw [bz];exact bE M ab) rfl ?_);rw [s];refine ti (aQ p ab) I G.lo G.ix G.node.eL.1 ⟨rfl,LS (aQ p ab) (dt 13 14 rfl rfl rfl) G.node (dd rfl (by rw [bz];exact gq (ww G.node) ∅) (by have:=ww G.node;simp;exact u9 this d ab) ?_)⟩;rw [LW]
  have T:d5 qL 10 (λY J=>nz n O c Y J k r x) [.ref 4,.int O,.ref 7,.ref 17,.ref 9,.int a] (W7 P S D++[.list ((f++[a]).map .int),.list (q.map .int),.set (a::se)]++([.list (i.reverse.map .int),.list [],.inst 3 13,.aZ 3 [.ref 14,.int a,.int 64,.int 0],.cv (aE P a),.list ((eA (aE P a)).map .int),.list ((eA (aE P a)).map .int).reverse,.list ((eA (aE P a)++i).reverse.map .int)])):=by
   refine LU (m:=17) rfl rfl (ds (cC) (by show(aL 10 (.list _)&&(aL 10 (.list _)&&true))=true;rw [et,et];rfl)) ∅ rfl et ?_;exact t
  exact T
theorem anv {k:List aa->ae->Prop} {r:aa->ae->Prop} {f:List Int} {q se d:List Int} {j:aa} (b:d=[]) (h:∀c j g,k [.ref 4,.int O,.ref 7,.ref c,.ref 9,j] (W7 P S D++(.list (f.map .int)::g))):
  nz n O 1 [.ref 4,.int O,.ref 7,.ref 10,.ref 9,j] (W7 P S D++[.list (f.map .int),.list (q.map .int),.set se,.list (d.map .int)]) k r x:=
 ⟨bg rfl,dB (a:=true) (by rw [b];rfl) (h ..)⟩
theorem anw {k:List aa->ae->Prop} {r:aa->ae->Prop} (s:6 <= n) (I:P.length <= 16000000):∀{f i u},f1 P f i u->∀{q se:List Int} {j:aa},(∀b,se.contains b=f.contains b)->se.length=f.length->Fin P S D O k x u->
  ∃c,nz n O c [.ref 4,.int O,.ref 7,.ref 10,.ref 9,j] (W7 P S D++[.list (f.map .int),.list (q.map .int),.set se,.list (i.reverse.map .int)]) k r x:=by
 intro f i u h;induction h with
 |done=>intro q se j d g l;exact⟨1,anv rfl l⟩
 |bad m t o p=>intro q se j d g l;exact⟨1,LX s I d g o p 0 ⟨λ_=>⟨t,l⟩,λe=>(e m).elim⟩⟩
 | @step f a i r m o p G _ B=>
  intro q se j d g l;obtain⟨c,v⟩:=B (se:=a::se) (λb=>by rw [rI,d b,asd];simp [or_comm]) (by simp [g]) l;exact⟨c+1,LX s I d g o p c ⟨λe=>(m e).elim,λ_=>⟨G,v⟩⟩⟩
theorem LY {q:aa->ae->Prop} {u:Option (List Int)} (d:6 <= n) (I:P.length <= 16000000) (a:f1 P [] [O] u) (h:match u with
   |some f=>∀g,q (.ref 7) (W7 P S D++(.list (f.map .int)::g))
   |none=>∀g,x 1 (W7 P S D++g)):fE AG (az aA n) [.ref 4,.int O] (W7 P S D) q x:=by
 refine bv (bg rfl) (bg rfl) ?_;cases a with
 |bad i=>cases i
 |step i m o G a=>
  obtain⟨c,l⟩:=anw (k:=λY J=>ah (bj (bH 2)) ar Y J (λx z=>q .none z) q x) d I a (λb=>rfl) rfl (by
   induction u with
   |none=>exact h
   |some f=>exact λp j g=>h g)
  exact⟨c+1,anu (i:=[]) (q:=[]) d I (λ_=>rfl) rfl ∅ ∅ c (And.intro (λe=>(c6 e).elim) (λ_=>And.intro G l))⟩
theorem LZ {f:List Int} (a:7 <= n) (I:P.length <= 16000000) (b:f1 P [] [O] (some f)) (h:k (.ref ((W7 P S D++t).length+0)) (W7 P S D++t++[.list (f.map .int)])):az aA n 43 [.ref 4,.int O] (W7 P S D++t) k x:=by
 refine ez rfl rfl (aQ a ab) rfl rfl (cC) rfl (LY (aM (ay ..) a ab) I b λg=>qR [7] fm (qW (dA _) (by simp)) rfl rfl (cC) ?_);show k _ (W7 P S D++t++[mo _ (.list (f.map .int))])
 rw [jS];exact h
theorem L0 (a:7 <= n) (I:P.length <= 16000000) (b:f1 P [] [O] none) (h:x 1 (W7 P S D++t)):az aA n 43 [.ref 4,.int O] (W7 P S D++t) k x:=
 ez rfl rfl (aQ a ab) rfl rfl (cC) rfl (LY (aM (ay ..) a ab) I b λg=>tb rfl rfl (cC) h)
end
section
variable {n j:Nat} {J t:ae} {k:aa->ae->Prop} {x:bn} {P:List (List Int)} {S l:List Int} {D:List (Int×Int)} {a u O:Int}
def jo (l:List Int):Int:=if bK l 0=5 then 0 else dy l 3
structure jX (P:List (List Int)) (l:List Int) (cs:List (List Int)):Prop where
 inner:bK l 0=5->cs=[]
 len:bK l 0≠5->(cs.length:Int)=dy l 3
 cell:bK l 0≠5->∀(i:Nat) (c:List Int),cs[i]? =some c->Bu l (bK l 0) (gj l i)/\pb P (wm l (bK l 0) (gj l i)) (o6 l (bK l 0) (gj l i)-ms l (bK l 0) (gj l i)) c/\c.length <= 1000
theorem gO {d:Type} {l:List d} {i:Nat} {a:d} (h:l[i]? =some a):l.take (i+1)=l.take i++[a]:=by
 rw [OE,h];rfl
theorem BK {d:Type} {S a b:List d} (h:(S++(a++b)).Nodup):(S++a).Nodup:=by
 rw [<-bX] at h;exact(eq.mp h).1
theorem L1 {a:List (List Int)} {i:Nat} {c:List Int} (h:a[i]? =some c):a.flatten=(a.take i).flatten++c++(a.drop (i+1)).flatten:=by
 haveI e:a=a.take (i+1)++a.drop (i+1):=(m3 ..).symm;rw [gO h] at e;haveI:=congrArg List.flatten e
 simpa using this
theorem anx {y:List (List Int)} (A:6 <= n) (I:P.length <= 16000000) (d:tj (W7 P S D) t j l a) (Q:gG l) (H:jX P l y) (W:(S++y.flatten).Nodup) (hl:S.length+y.flatten.length <= 16000000) (hr:∀q∈y.flatten,2 <= q/\q <= P.length)
  (h:k (.int (jo l)) (W7 P (S++y.flatten) D++t)):az aA n 44 [.ref 4,.ref j] (W7 P S D++t) k x:=by
 refine dN d.sees λB R m C L=>jn (H:=[.ref 4,.ref 7]) (p:=7) [j,B,R] rfl rfl (aQ A ab) rfl rfl BG (cC) rfl m C L ⟨rfl,tf (aM (ay ..) A ab) (dt 8 9 rfl rfl rfl) Q ?_⟩;by_cases e:bK l 0=5
 ·haveI X:=H.inner e;subst X;unfold jo at h;replace h:=(if_pos e)▸h;simp only [DS,cO] at h;exact eH (decide_eq_true e) (jR rfl rfl (cC) wu C L rfl h)
 ·unfold jo at h;rw [if_neg e] at h;haveI M:=H.len e;refine cn (decide_eq_false e) ⟨rfl,qV (aM (ay ..) A ab) (dt 8 9 rfl rfl rfl) Q ?_⟩;show gZ (0,dy l 3,1)/\ ∃f,gC AH (fZ 0 (dy l 3) 1) 3 (ah (JN (az aA (n-1))) ar) 10 f 0 [.ref 4,.ref 7,.int (dy l 3),.aR] (W7 P S D++qX l a) ..
  rw [<-M] at h⊢;refine⟨Yp Q.qc Q.cnt M,qT (λi Y J=>∃b,bB 10 b=true/\Y=[.ref 4,.ref 7,.int y.length,b]/\J=W7 P (S++(y.take i).flatten) D++qX l a) (cJ .aR rfl rfl (by rw [xR,DS,cO])) ?_ ?_⟩
  ·intro i Y J Z bC K F;refine cU bC λb hb q2 q3=> ?_;clear bC;obtain rfl:=q2;obtain rfl:=q3;haveI E:=bV Z;refine dp (H.cell e i _ E) λN g2 g3=> ?_;generalize y[i]=c at E g2 g3;haveI u:=L1 E;haveI T:∀q∈c,q∈y.flatten:=λq hq=>by rw [u];simp [hq]
   haveI r:=by
    haveI:=congrArg List.length u;rw [a9,a9] at this;exact WL hl this
   haveI U:((S++(y.take i).flatten)++c).Nodup:=by
    rw [u] at W;rw [bX];exact BK W
   refine⟨rfl,anc (aM (ay ..) A ab) (dt 8 9 rfl rfl rfl) Q (gR) (VI M Z) N ?_⟩;intro o cx;refine ff cx λs w z v e1 q5=> ?_;obtain rfl:=q5;refine ans (j:=10) (B:=11) v (aM (ay ..) A ab) ∅ ∅ rfl rfl I (by rw [e1];exact g2) ?_ U (by rw [a9];exact Ft r) g3 (λq hq=>hr q (T q hq)) ?_
   ·haveI h4:=N.fin;haveI h5:=Q.len;haveI G:=N.td
    haveI O:0 <= km (bK l 0) (gj l i):=by
     unfold km mr;split<;>split<;>(first|exact u8 G ab|exact Sj G|exact iq G ab|exact u8 G ab)
    exact qC e1 h4 h5 O (rU ∅ ∅)
   ·refine fH (g:=[_,_]) rfl rfl BG (F _ _ (cJ _ rfl rfl ?_));rw [gO E];simp
  ·intro Y J eQ;refine cU eQ λb hb ch eY=> ?_;clear eQ;obtain rfl:=ch;obtain rfl:=eY;rw [kA];exact jR (W':=W7 P (S++y.flatten) D) (V:=qX l a) rfl rfl (cC) wu C L rfl h
end
section
variable {n j:Nat} {J t:ae} {k:aa->ae->Prop} {x:bn} {P:List (List Int)} {S l f:List Int} {D:List (Int×Int)} {a u O:Int}
def fb (P:List (List Int)) (f:List Int):Int:=(f.map λa=>jo (aE P a)).sum
theorem L2 (f:List Int) (a:Int):fb P (f++[a])=fb P f+jo (aE P a):=by unfold fb;simp
theorem gH.BL {a:Int} (G:gH P a):(aE P a).length <= 16777216:=G.node.eL.1
theorem L3 {q:aa->ae->Prop} (d:7 <= n) (I:P.length <= 16000000) (p:f1 P [] [O] (some f)) (M:∀a∈f,gH P a) (h:∀g,q (.int (fb P f)) (W7 P S D++g)):fE AM (az aA n) [.ref 4,.int O] (W7 P S D) q x:=by
 refine LZ (t:=[]) (aQ d ab) I p (mq (n:=7) (l:=f.map .int) (λi Y J=>∃a b,Y=[.ref 4,.int O,.int (fb P (f.take i)),a,b]/\kq a=true/\te 8 b=b/\J=W7 P S D++[.list (f.map .int)]) ?_ (iH .aR .aR rfl rfl rfl rfl) ?_ ?_)
 ·intro i Y J k;refine f9 k λa b r m o s=> ?_;clear k;obtain rfl:=r;obtain rfl:=s;rfl
 ·intro i v Y J j u K F;refine f9 u λa b w m o A=> ?_;obtain rfl:=w;obtain rfl:=A;replace j:=cm▸j;refine aw (gP.mp j) λq hq y=> ?_;obtain rfl:=y;haveI G:=M q (cq hq);refine⟨rfl,ti (aQ d ab) I G.lo G.ix G.BL ⟨rfl,tf (aQ d ab) (dt 9 10 rfl rfl rfl) G.node ?_⟩⟩
  haveI c:∀T,T=fb P (f.take i)+jo (aE P q)->d5 AL 8 K [.ref 4,.int O,.int T,.int q,.ref 8] (W7 P S D++[.list (f.map .int)]++wt 8 (aE P q) q):=λT e=>by
   subst e;refine am4 rfl rfl (ds (cC) (by show(aL 8 (.list _)&&true)=true;rw [et];rfl)) (F _ _ (iH (.int q) .dW ?_ rfl rfl rfl));rw [(gO hq),L2];rfl
  unfold jo at c;by_cases e:bK (aE P q) 0=5
  ·rw [if_pos e,O3] at c;exact cn (decide_eq_false (QU e)) (c _ rfl)
  ·rw [if_neg e] at c;exact eH (decide_eq_true e) ⟨rfl,qV (aQ d ab) (dt 9 10 rfl rfl rfl) G.node (c _ rfl)⟩
 ·intro Y J z;refine f9 z λa b N m o L=> ?_;obtain rfl:=N;obtain rfl:=L;haveI e:f.take (f.map aa.int).length=f:=by rw [bz,kA]
  rw [e];exact h [.list (f.map .int)]
theorem anz (b:8 <= n) (I:P.length <= 16000000) (c:f1 P [] [O] (some f)) (M:∀a∈f,gH P a) (h:k (.int (fb P f)) (W7 P S D++t)):az aA n 47 [.ref 4,.int O] (W7 P S D++t) k x:=
 ez rfl rfl (aQ b ab) rfl rfl (cC) rfl (L3 (aM (ay ..) b ab) I c M λg=>f0 rfl rfl (cC) rfl h)
theorem anA (a:8 <= n) (I:P.length <= 16000000) (b:f1 P [] [O] none) (h:x 1 (W7 P S D++t)):az aA n 47 [.ref 4,.int O] (W7 P S D++t) k x:=
 ez rfl rfl (aQ a ab) rfl rfl (cC) rfl (L0 (aM (ay ..) a ab) I b (tb rfl rfl (cC) h))
theorem anB {d:Type} (a:d) (r:List d):dK (a::r) (some 1) none=r:=by
 exact n3 (dA _)
def mE (l:List Int):Int:=if(decide (bK l 0=13)||decide (bK l 0=5))=true then 13 else 10
theorem anC {q:aa->ae->Prop} {c:Int->List (List Int)} {y:List Int} (E:8 <= n) (I:P.length <= 16000000) (hw:f1 P [] [O] (some (O::y))) (M:∀a∈O::y,gH P a) (hF:∀a∈O::y,jX P (aE P a) (c a))
  (hD:D.length <= 100000) (Z:(S++(((O::y).map λa=>(c a).flatten).flatten++y)).Nodup) (hl:S.length+((((O::y).map λa=>(c a).flatten).flatten).length+y.length) <= 16000000) (hr:∀q∈((O::y).map λa=>(c a).flatten).flatten,2 <= q/\q <= P.length)
  (h:∀g,q (.int (fb P (O::y))) (W7 (P.set (O-1).toNat (dk (mE (aE P O)))) (S++(((O::y).map λa=>(c a).flatten).flatten++y)) (d8 D O)++g)):fE AJ (az aA n) [.ref 4,.int O] (W7 P S D) q x:=by
 have d:=M O (.head _);refine LZ (aQ E ab) I hw ⟨rfl,ti (aQ E ab) I d.lo d.ix d.BL ⟨rfl,am8 (aQ E ab) (dt 9 10 rfl rfl rfl) d.node ?_⟩⟩;generalize kv:O::y=w at*;generalize ru:(w.map λa=>(c a).flatten)=B at*
 have R:∀L,L=mE (aE P O)->JP (az aA n) [.ref 4,.int O,.int 0,.ref 7,.int L,.aR] (W7 P S D++[.list (w.map .int)]++wt 8 (aE P O) O) (λ_ z=>q .none z) q x:=by
  intro L jy;refine mq (l:=w.map .int) (λi Y J=>∃b,bB 11 b=true/\Y=[.ref 4,.int O,.int (fb P (w.take i)),.ref 7,.int L,b]/\J=W7 P (S++(B.take i).flatten) D++([.list (w.map .int),.inst 3 9,.aZ 3 [.ref 10,.int O,.int 64,.int 0],.cv (aE P O)])) ?_ (cJ .aR rfl rfl (by rw [xR,DS,cO];rfl)) ?_ ?_
  ·intro i Y J bC;refine cU bC λb Q ee q3=> ?_;clear bC;obtain rfl:=ee;obtain rfl:=q3;rfl
  ·intro i v Y J V cx K F;refine cU cx λb Q N eY=> ?_;clear cx;obtain rfl:=N;obtain rfl:=eY;rw [cm] at V;refine aw (gP.mp V) λp H q2=> ?_;obtain rfl:=q2;have G:=M p (cq H);have k:=hF p (cq H);have j0:B[i]? =some (c p).flatten:=by rw [<-ru,cm,H];rfl
   have u:=L1 j0;have T:∀q∈(c p).flatten,q∈B.flatten:=λq hq=>by rw [u];exact cQ _ (dn _ hq)
   have r:=by
    have:=congrArg List.length u;rw [a9,a9] at this;exact Xb hl this
   have U:((S++(B.take i).flatten)++(c p).flatten).Nodup:=by
    rw [bX];rw [u] at Z;exact BK (BK Z)
   refine⟨rfl,ti (aQ E ab) I G.lo G.ix G.BL ?_⟩;refine anx (j:=11) (aQ E ab) I (lT 12 13 ∅ ∅ ∅ rfl rfl rfl) G.node k U (by rw [a9];exact Ft r) (λq hq=>hr q (T q hq)) ?_;refine fH (Y:=[.ref 4,.int O,.int (fb P (w.take i)+jo (aE P p)),.ref 7,.int L,.int p]) (W:=W7 P (S++(B.take i).flatten++(c p).flatten) D++([.list (w.map .int),.inst 3 9,.aZ 3 [.ref 10,.int O,.int 64,.int 0],.cv (aE P O)])) rfl rfl (ds (cC) (by show(aL 11 (.list _)&&true)=true;rw [et];rfl)) (F _ _ (cJ (.int p) rfl ?_ ?_))
   ·rw [gO H,L2]
   ·rw [gO j0,kD,bX];simp
  ·intro Y J eQ;refine cU eQ λb Q f A=> ?_;clear eQ;obtain rfl:=f;obtain rfl:=A;have e1:w.take (w.map aa.int).length=w:=by rw [bz,kA]
   have e2:B.take (w.map aa.int).length=B:=by
    have:(w.map aa.int).length=B.length:=by rw [<-ru];simp
    rw [this,kA]
   rw [e1,e2];have X:dK (w.map aa.int) (some 1) none=y.map .int:=by rw [<-kv];exact anB ..
   have e4:w.length <= 16777216:=by rw [<-kv,kZ];exact UC hl
   refine⟨by rw [bz];exact e4,?_⟩;rw [X];refine mq (n:=11) (l:=y.map .int) (λi Y J=>∃b,bB 12 b=true/\Y=[.ref 4,.int O,.int (fb P w),.ref 7,.int L,b]/\J=W7 P (S++B.flatten++y.take i) D++([.list (w.map .int),.inst 3 9,.aZ 3 [.ref 10,.int O,.int 64,.int 0],.cv (aE P O),.list (y.map .int)]:ae)) ?_ (cJ b ?_ rfl (by rw [xR,cO];rfl)) ?_ ?_
   ·intro i Y J xf;refine cU xf λb Q C m=> ?_;clear xf;obtain rfl:=C;obtain rfl:=m;rfl
   ·cases b<;>first|rfl|skip
    exact bS.mpr (ass (bS.mp Q))
   ·intro i v Y J V o K F;obtain⟨b,Q,rfl,rfl⟩:=o;rw [cm] at V;refine aw (gP.mp V) λp H ch=> ?_;obtain rfl:=ch;have G:=M p (by rw [<-kv];exact .tail _ (cq H));have hi:=(cF.mp H).1
    have s:=λhm=>by
     have h2:((S++B.flatten++y.take i)++y.drop i).Nodup:=by rw [bX,m3,bX];exact Z
     rw [eq] at h2;exact h2.2.2 p hm p (by rw [Ol hi,(cF.mp H).2];exact .head _) rfl
    refine dd rfl rfl rfl (BE (aQ E ab) I (by rw [a9,a9,iD];exact VW (ew ..) hl) s G.lo G.ix ?_);refine fH (W:=W7 P (S++B.flatten++y.take i++[p]) D++([.list (w.map .int),.inst 3 9,.aZ 3 [.ref 10,.int O,.int 64,.int 0],.cv (aE P O),.list (y.map .int)]:ae)) rfl rfl (ds (cC) (by show(aL 12 (.list _)&&(true&&(true&&(true&&(aL 12 (.list _)&&true)))))=true;rw [et,et];rfl)) (F _ _ (cJ _ rfl rfl ?_));rw [gO H,<-bX]
   ·intro Y J t;obtain⟨b,Q,rfl,rfl⟩:=t;have e5:y.take (y.map aa.int).length=y:=by rw [bz,kA]
    rw [e5,bX];have hk:0 <= L/\L<256:=by rw [jy];unfold mE;split<;>decide
    refine bv rfl rfl (LP (aQ E ab) (by have:=d.lo;exact lW this) hk ?_);refine LQ (j:=12) (aQ E ab) ⟨13,14,∅,∅,∅,rfl,rfl,rfl⟩ I d.lo d.ix rfl ⟨rfl,LR (aQ E ab) hD ?_⟩;rw [jy];exact h _
 unfold mE at R;cases e:(decide (bK (aE P O) 0=13)||decide (bK (aE P O) 0=5))
 ·rw [e] at R;exact R _ rfl
 ·rw [e] at R;exact R _ rfl
end
section
variable {n j:Nat} {J t:ae} {k:aa->ae->Prop} {x:bn} {P:List (List Int)} {S l f:List Int} {D:List (Int×Int)} {a u O:Int}
structure BM (P:List (List Int)) (S:List Int) (D:List (Int×Int)) (O:Int) (rest:List Int) (pc:Int->List (List Int)):Prop where
 lx:P.length <= 16000000
 walk:f1 P [] [O] (some (O::rest))
 ok:∀a∈O::rest,gH P a
 fr:∀a∈O::rest,jX P (aE P a) (pc a)
 tl:D.length <= 100000
 cP:(S++(((O::rest).map λa=>(pc a).flatten).flatten++rest)).Nodup
 len:S.length+((((O::rest).map λa=>(pc a).flatten).flatten).length+rest.length) <= 16000000
 gI:∀q∈((O::rest).map λa=>(pc a).flatten).flatten,2 <= q/\q <= P.length
def mF (O:Int) (b:List Int) (c:Int->List (List Int)):List Int:=((O::b).map λa=>(c a).flatten).flatten++b
variable {aY:List Int} {c:Int->List (List Int)}
abbrev qY (P:List (List Int)) (O:Int):List (List Int):=P.set (O-1).toNat (dk (mE (aE P O)))
theorem L4 (a:9 <= n) (C:BM P S D O aY c) (h:k (.int (fb P (O::aY))) (W7 (qY P O) (S++mF O aY c) (d8 D O)++t)):az aA n 45 [.ref 4,.int O] (W7 P S D++t) k x:=
 ez rfl rfl (aQ a ab) rfl rfl (cC) rfl (anC (aM (ay ..) a ab) C.lx C.walk C.ok C.fr C.tl C.cP C.len C.gI λg=>f0 rfl rfl (cC) rfl h)
theorem anD (a:8 <= n) (I:P.length <= 16000000) (b:f1 P [] [O] none) (h:x 1 (W7 P S D++t)):az aA n 45 [.ref 4,.int O] (W7 P S D++t) k x:=
 ez rfl rfl (aQ a ab) rfl rfl (cC) rfl (L0 (aM (ay ..) a ab) I b (tb rfl rfl (cC) h))
theorem anE (a:10 <= n) (C:BM P S D O aY c) (N:O∉S++mF O aY c) (b:(S++mF O aY c).length <= 16000000) (h:k .none (W7 (qY P O) (S++mF O aY c++[O]) (d8 D O)++t)):az aA n 46 [.ref 4,.int O] (W7 P S D++t) k x:=by
 haveI G:=C.ok O (.head _);haveI e:(qY P O).length=P.length:=e3 ..
 exact ez rfl rfl (aQ a ab) rfl rfl (cC) rfl (cn (decide_eq_false (by haveI:=G.lo;exact Ey this)) (L4 (aM (ay ..) a ab) C (dd rfl rfl rfl (BE (aM (ay ..) a ab) (by rw [e];exact C.lx) b N G.lo (by rw [e];exact G.ix)
  (f0 (W':=W7 (qY P O) (S++mF O aY c++[O]) (d8 D O)) rfl rfl (cC) rfl h)))))
theorem anF (a:1 <= n) (h:x 2 (W7 P S D++t)):az aA n 46 [.ref 4,.int 1] (W7 P S D++t) k x:=
 ez rfl rfl a rfl rfl (cC) rfl (tb rfl rfl (cC) h)
theorem anG (a:1 <= n) (h:x 2 (W7 P S D++t)):az aA n 42 [.ref 4,.str 3] (W7 P S D++t) k x:=
 ez rfl rfl a rfl rfl (cC) rfl ⟨trivial,tb rfl rfl (cC) h⟩
inductive pd (P:List (List Int)) (S:List Int):Int->List (List Int)->List Int->Prop
 |more:S=[]->pd P S (P.length+1) (P++[cN]) S
 |again {v s}:S=s++[v]->pd P S v P s
theorem L5 {W:List (List Int)} {a:List Int} {v:Int} (b:2 <= n) (I:P.length <= 16000000) (p:S.length <= 16000000) (T:pd P S v W a) (h:k (.int v) (W4 W a++t)):az aA n 71 [.ref 0] (W4 P S++t) k x:=by
 induction T with
 |more e=>exact ang b I e h
 |again e=>subst e;exact anh (aQ b ab) (by rw [a9] at p;exact SS p) h
theorem L6 {q:aa->ae->Prop} {W:List (List Int)} {d:List Int} {v:Int} {c:Bool} (b:4 <= n) (I:P.length <= 15000000) (p:S.length <= 16000000) (k:D.length <= 100000) (T:pd P S v W d) (e:2 <= v/\v <= W.length) (w:W.length <= 16000000)
  (h:∀g,q (.int v) (W7 (W.set (v-1).toNat (dk (if c then 13 else 10))) d (d8 D v)++g)):fE AE (az aA n) [.ref 4,.str (if c then 1 else 2)] (W7 P S D) q x:=by
 haveI f:∀u,u=(if c then 13 else 10)->∀a,JL (az aA n) [.ref 4,a,.int v,.int u] (W7 W d D) (λ_ z=>q .none z) q x:=by
  refine λu i a=>bv rfl rfl (LP (aQ b ab) (TW e) (by rw [i];cases c<;>decide) (LQ (j:=7) (aQ b ab) (lT 8 9 ∅ ∅ ∅ rfl rfl rfl) w e.1 e.2 rfl ⟨rfl,LR (aQ b ab) k ?_⟩));rw [i];exact h _
 cases c
 ·exact dd rfl rfl rfl (L5 (aQ b ab) (bE I ab) p T (f 10 rfl _))
 ·exact dd rfl rfl rfl (L5 (aQ b ab) (bE I ab) p T (f 13 rfl _))
theorem L7 {W:List (List Int)} {a:List Int} {v:Int} {c:Bool} (b:5 <= n) (I:P.length <= 15000000) (p:S.length <= 16000000) (d:D.length <= 100000) (T:pd P S v W a) (e:2 <= v/\v <= W.length) (w:W.length <= 16000000)
  (h:k (.int v) (W7 (W.set (v-1).toNat (dk (if c then 13 else 10))) a (d8 D v)++t)):az aA n 42 [.ref 4,.str (if c then 1 else 2)] (W7 P S D++t) k x:=
 ez rfl rfl (aQ b ab) rfl rfl (cC) rfl (L6 (aM (ay ..) b ab) I p d T e w λg=>f0 rfl rfl (cC) rfl h)
end
section
variable {n j:Nat} {J t:ae} {k:aa->ae->Prop} {x:bn} {P:List (List Int)} {S l f:List Int} {D:List (Int×Int)} {a u:Int}
theorem anH {a:Int} (N:0 <= a) (b:a<128):((((a%18446744073709551616).toNat&&&(127:Int).toNat:Nat)):Int)=a:=by
 haveI c:(127:Int).toNat=2^7-1:=rfl;rw [(asN N (by exact EZ b)),c,asJ,OJ (by exact EW (bp _) b)];exact uQ (bp _) N
theorem BN (f:1 <= n) (N:0 <= a) (c:a<128) (h:k (.bytes [a]) J):az aA n 0 [.int a] J k x:=by
 haveI e:a%18446744073709551616=a:=asN N (EZ c);haveI q:a%18446744073709551616/2^kC 7=0:=by rw [e];exact Int.ediv_eq_zero_of_lt N c
 haveI b:¬(2^kC 56 <= a%18446744073709551616):=by
  rw [e];haveI:(2:Int)^kC 56=72057594037927936:=rfl;exact UO c this
 refine gF rfl rfl f rfl rfl (gu ∅ ∅ ∅ ∅ ∅ (cn (decide_eq_false b) (gu trivial (by rw [e];exact N) ∅ ∅ ∅ ?_)));rw [q,anH N c];exact⟨1,trivial,bg rfl,[a],rfl,bg rfl,λi d=>by rw [dj] at d;exact Vp N c d,fk rfl h⟩
def eX (r:List Int):Int:=2+max 4 (r.length:Int)
theorem qZ (a:1 <= n) (b:l.length <= 16777216) (h:k (.int (eX l)) J):az aA n 48 [.bytes l] J k x:=
 gF rfl rfl a rfl rfl ⟨b,fk rfl h⟩
def cH (y:List (List Int)):Int:=(y.map eX).sum
theorem q6 {o:aB} (a:J[j]? =some o) (b:mo (cL [j]) o=o):cM (cL [j]) J [j] [o]:=.cons (by rw [b];exact a) .nil
theorem anI {b:Nat->Option Nat} (S:List (List Int)):(S.map aa.bytes).map (cz b)=S.map aa.bytes:=by
 rw [iE];exact gQ λ_ _=>rfl
theorem gJ {b:Nat->Option Nat} {S:List (List Int)}:mo b (.list (S.map .bytes))= .list (S.map .bytes):=congrArg aB.list (anI S)
theorem eM {p:Nat} {S:List (List Int)}:aL p (.list (S.map .bytes))=true:=LK S
theorem gK {p:Nat} {S:List (List Int)}:([.list (S.map .bytes)]:ae).all (aL p)=true:=by show(aL p (.list _)&&true)=true;rw [eM];rfl
theorem q7 {y:List (List Int)} (c:2 <= n) (s:J[j]? =some (.list (y.map .bytes))) (d:∀r∈y,r.length <= 1000) (g:y.length <= 1000) (h:k (.int (cH y)) J):az aA n 49 [.ref j] J k x:=by
 haveI m:=q6 s gJ;refine dQ (H:=[.ref 0]) [j] rfl rfl (aQ c ab) rfl fm rfl m gK rfl (aJ ([]) rfl (wn (l:=y.map .bytes) (λi Y J=>∃b,bB 2 b=true/\Y=[b]/\J=[.list (y.map .bytes),.list (((y.take i).map eX).map .int)]) ?_ (cJ .aR rfl rfl rfl) ?_ ?_))
 ·intro Y J i K o;refine cU o λb p t u=> ?_;clear o;obtain rfl:=t;obtain rfl:=u;rfl
 ·intro i v Y J a w K F;refine cU w λb p N z=> ?_;obtain rfl:=N;obtain rfl:=z;replace a:=cm▸a;refine aw (gP.mp a) λq hq B=> ?_;obtain rfl:=B;haveI:=d q (cq hq);haveI C:((y.take i).map eX).map aa.int++[aa.int (eX q)]=((y.take (i+1)).map eX).map .int:=by rw [gO hq];simp
  refine qZ (aM (ay ..) c ab) (bE this ab) ⟨by simp;exact yS (ew ..) g ab,?_⟩;rw [C];exact fH rfl rfl (by show(aL 2 (.list _)&&(aL 2 (.list _)&&true))=true;rw [eM,et];rfl) (F _ _ (cJ (.bytes q) rfl rfl rfl))
 ·intro Y J D;refine cU D λb p f A=> ?_;obtain rfl:=f;obtain rfl:=A;haveI e:y.take (y.map aa.bytes).length=y:=by rw [bz,kA]
  rw [e];refine lS (y.map eX) rfl (by simp;exact bE g ab) (λi E=>(aw (dz.mp E) λr G H=> ?_)) (h8 m rfl gK rfl h);obtain rfl:=H;haveI:=d r G;exact WE (fg ..) this
theorem L8 (b:1 <= n) (c:a≠1) (h:k (.int 0) J):az aA n 50 [.int a] J k x:=
 gF rfl rfl b rfl rfl (cn (decide_eq_false c) (fk rfl h))
def wx (u:Int):Int:=64-(if dr u then 8 else 12)
theorem mv (b:3 <= n) (c:a≠1) (h:k (.int (wx u)) J):az aA n 51 [.int a,.int u,.int 64] J k x:=
 gF rfl rfl (aQ b ab) rfl rfl (L8 (aM (ay ..) b ab) c (amN (aM (ay ..) b ab) (fk rfl h)))
theorem anJ (a:3 <= n) (b:d6 l) (c:4 <= l.length) (h:k (.int (b8 l 0)) J):az aA n 52 [.bytes l] J k x:=
 gF rfl rfl (aQ a ab) rfl rfl (amV (aM (ay ..) a ab) b ∅ (yM c ab) (fk rfl h))
theorem anK {d:Type} {l:List d} (h:4 <= l.length):dK l (some 4) none=l.drop 4:=by
 haveI e:dq l.length 4=4:=by
  exact k1 h
 show(l.drop (dq l.length 4)).take (l.length-dq l.length 4)=_
 rw [e];exact n3 (by simp)
theorem anL {v:Int} (a:4 <= n) (b:l.length <= 1000) (d:4 <= l.length) (e:0 <= v) (c:v<4294967296) (h:k (.bytes (f4 v++l.drop 4)) J):az aA n 53 [.bytes l,.int v] J k x:=by
 refine gF rfl rfl (aQ a ab) rfl rfl (tc (aM (ay ..) a ab) e c ⟨bE b ab,?_⟩);rw [anK d];refine⟨by simp;haveI:(f4 v).length=4:=rfl;exact UP (ay ..) this b,fk rfl h⟩
theorem anM (a:2 <= n) (b:d6 l) (c:2 <= l.length) (N:bK l 0<128) (d:bK l 1<128) (h:k (.int (bK l 1)) J):az aA n 54 [.bytes l] J k x:=
 gF rfl rfl (aQ a ab) rfl rfl (Lw (aM (ay ..) a ab) b ∅ (Rj c) N ⟨rfl,Lw (aM (ay ..) a ab) b ∅ (yM c ab) d ⟨rfl,fk rfl h⟩⟩)
def q9 (J:ae) (m j:Nat) (u:Int) (y:List (List Int)) (right:Int):Prop:=∃B R,m <= j/\m <= B/\m <= R/\J[j]? =some (.inst 5 B)/\J[B]? =some (.aZ 5 [.int u,.ref R,.int right])/\J[R]? =some (.list (y.map .bytes))
variable {y:List (List Int)} {right:Int}
abbrev nA (p:Nat) (u:Int) (y:List (List Int)) (right:Int):ae:=[.inst 5 (p+1),.aZ 5 [.int u,.ref (p+2),.int right],.list (y.map .bytes)]
theorem q9.sees {W:ae} (d:q9 (W++t) 4 j u y right):∃B R,[j,B,R].Nodup/\(∀i∈[j,B,R],4 <= i)/\cM (cL (aI 4++[j,B,R])) (W++t) [j,B,R] (nA 4 u y right):=by
 refine a6 λm f=>uz d λB R b g h N c a=>f (dt B R ?_ ?_ (.cons N (.cons c (.cons (by rw [gJ];exact a) .nil))))
 ·haveI k:j≠B:=by intro e;subst e;replace c:=N▸c;cases c
  haveI l:j≠R:=by intro e;subst e;replace a:=N▸a;cases a
  have O:B≠R:=by intro e;subst e;replace a:=c▸a;cases a
  simp [k,l,O]
 ·simp [b,g,h]
theorem BO:(nA 4 u y right).all (aL 7)=true:=by show(true&&(true&&(aL 7 (.list _)&&true)))=true;rw [eM];rfl
theorem L9:(W4 P S++nA 4 u y right).all (aL 7)=true:=ds (cg) BO
theorem BP {L R:Nat} (d:1 <= n) (c:J[L]? =some (.aZ 5 [])) (b:J[L+1]? =some (.inst 5 L)) (a:J[R]? =some (.list (y.map .bytes))) (h:k .none (J.set L (.aZ 5 [.int u,.ref R,.int right]))):az aA n 55 [.ref (L+1),.int u,.ref R,.int right] J k x:=by
 haveI f:[R,L,L+1].Nodup:=by
  have g:R≠L:=by intro e;subst e;rw [c] at a;exact nomatch a
  haveI i:R≠L+1:=by intro e;subst e;rw [b] at a;exact nomatch a
  simp [g,i]
 haveI j:cM (cL [R,L,L+1]) J [R,L,L+1] [.list (y.map .bytes),.aZ 5 [],.inst 5 1]:=.cons (by rw [gJ];exact a) (.cons c (.cons b .nil));refine dQ (H:=[.ref 2,.int u,.ref 0,.int right]) [R,L,L+1] rfl rfl d rfl f rfl j (by show(aL 3 (.list _)&&true)=true;rw [eM];rfl) rfl (rO rfl rfl rfl rfl rfl rfl rfl rfl rfl (fR (cJ ([]) f8 (λ_ h=>(c6 h).elim) ?_)));show k .none (((J.set R (mo _ (.list (y.map .bytes)))).set L (.aZ 5 [.int u,.ref R,.int right])).set (L+1) (.inst 5 L)++[])
 rw [gJ,oX a,cO,oX (by rw [mS (by exact yq)];exact b)];exact h
theorem anN (b:4 <= n) (d:q9 (W4 P S++t) 4 j u y right) (e:a≠1) (f:∀r∈y,r.length <= 1000) (g:y.length <= 1000) (h:k (.bool (decide (cH y <= wx u))) (W4 P S++t)):az aA n 56 [.ref 0,.int a,.ref j] (W4 P S++t) k x:=by
 refine dN d.sees λB R i C c=> ?_
 exact jn (H:=[.ref 0,.int a,.ref 4]) (p:=4) [j,B,R] rfl rfl (aQ b ab) rfl rfl L9 (cg) rfl i C c
  (bv rfl rfl (q7 (aM (ay ..) b ab) rfl f g (i8 rfl rfl rfl rfl (mv (aM (ay ..) b ab) e (jR rfl rfl (cg) BO C c rfl h)))))
end
section
variable {n j:Nat} {J t:ae} {k:aa->ae->Prop} {x:bn} {P:List (List Int)} {S l f:List Int} {D:List (Int×Int)} {a u:Int} {y:List (List Int)} {right:Int}
def dE (r:List Int):List Int:=r++eg (max 0 (4-(r.length:Int))).toNat 0
def cI (y:List (List Int)):Int:=((y.map dE).flatten.length:Int)
def f2 (v:Int):List Int:=qs (kC 2) v
def h9 (y:List (List Int)) (i:Nat):List Int:=f2 (64-cI (y.take (i+1)))
def kO (u:Int) (y:List (List Int)) (right:Int):List Int:=
 let h:=[u,0,0]++f2 (y.length:Int)++f2 (64-cI y)++[0]
 if dr u then h else h++f4 right
def iS (u:Int) (y:List (List Int)) (right:Int):List Int:=kO u y right++((aI y.length).map (h9 y)).flatten
def aO (u:Int) (y:List (List Int)) (right:Int):List Int:=iS u y right++eg (64-cI y-(iS u y right).length).toNat 0++(y.map dE).reverse.flatten
theorem Ma (v:Int):(f2 v).length=2:=by rfl
theorem ra (r:List Int):((dE r).length:Int)=max 4 (r.length:Int):=by
 unfold dE;rw [a9,pS];exact Wn (fg ..) (bp _) (fg ..)
theorem wy (y:List (List Int)) (r:List Int):cI (y++[r])=cI y+(dE r).length:=by
 unfold cI;simp
theorem wz:∀y:List (List Int),cH y=2*y.length+cI y
 | []=>rfl
 |r::y=>by
  haveI h:=wz y;unfold cH cI at*;simp only [cB,DT,kZ,i6,a9];rw [h];exact X5 (fg ..) (ra r)
theorem nB (y:List (List Int)):0 <= cI y:=gR
theorem anO (a b:List (List Int)):cI (a++b)=cI a+cI b:=by
 unfold cI;rw [db,kD,a9];exact Uf
theorem tm (y:List (List Int)) (i:Nat):cI (y.take i) <= cI y:=by
 haveI h:=anO (y.take i) (y.drop i);rw [m3] at h;haveI:=nB (y.drop i);exact Tf this h
theorem tn (y:List (List Int)):∀m,(((aI m).map (h9 y)).flatten).length=2*m
 |0=>rfl
 |m+1=>by
  rw [m4,db,kD,a9,tn y m];exact RD
theorem BQ (u:Int) (y:List (List Int)) (right:Int):(kO u y right).length=if dr u then 8 else 12:=by
 unfold kO;dsimp only;split<;>rfl
theorem wA (u:Int) (y:List (List Int)) (right:Int):(iS u y right).length=(if dr u then 8 else 12)+2*y.length:=by
 unfold iS;rw [a9,BQ,tn]
theorem BR:∀C:List (List Int),rl (C.map aa.bytes)=some C
 | []=>rfl
 |c::C=>by
  show(rl (C.map aa.bytes)).map (c:: ·)=some (c::C)
  rw [BR C];rfl
theorem anP (C:List (List Int)):rl (C.map aa.bytes).reverse=some C.reverse:=by rw [<-uo];exact BR _
theorem anQ {d:Type} (l:List d):dK l none (some 0)=[]:=by
 rfl
structure eB (u:Int) (y:List (List Int)) (right:Int):Prop where
 fit:cH y <= wx u
 BS:0 <= u/\u<256
 rb:0 <= right/\right<4294967296
theorem eB.sum (w:eB u y right):2*y.length+cI y <= 64-(if dr u then 8 else 12):=by
 haveI:=w.fit;haveI:=wz y;exact Xi this (by assumption)
theorem anR {y:List (List Int)} {r:List Int} (h:r∈y):r.length <= y.flatten.length:=by
 induction y with
 |nil=>cases h
 |cons q y B=>
  rw [i6,a9];cases h with
  |head=>exact kb
  |tail _ h=>haveI:=B h;exact EL this
theorem eB.len (w:eB u y right):∀r∈y,r.length <= 64:=λr b=>by
 haveI a:=w.sum;haveI c:(dE r).length <= (y.map dE).flatten.length:=anR (io b);haveI d:=ra r;unfold cI at a;exact Ys (fg ..) a c d (rU ∅ ∅)
theorem eB.many (w:eB u y right):y.length <= 32:=by
 exact Yt w.sum (nB y) (rU ∅ ∅)
theorem nC (w:eB u y right):((aO u y right).length:Int)=64:=by
 haveI a:=w.sum;haveI b:=wA u y right
 haveI c:((y.map dE).reverse.flatten.length)=cI y:=by
  unfold cI;rw [ur,ur,uo,O4]
 unfold aO;rw [a9,a9,pS];cases e:dr u<;>rw [e] at a b<;>simp only [xz,if_false,if_true] at a b<;>(first|exact Ye (bp _) a c b|exact Yd (bp _) a c b)
theorem BU (W:6 <= n) (I:P.length <= 16000000) (hj:q9 (W4 P S++t) 4 j u y right) (h2:2 <= a) (h3:a <= P.length) (U:(aE P a).length <= 16777216) (w:eB u y right) (h:k .none (W4 (P.set (a-1).toNat (aO u y right)) S++t)):az aA n 57 [.ref 0,.int a,.ref j] (W4 P S++t) k x:=by
 refine a6 λH_ e_=> ?_;refine dN hj.sees λB R nd C hs=> ?_;have f:=w.sum;have d:=w.many;have bh:=w.len;have q:=nB y;have s:(8:Int) <= (if dr u then 8 else 12):=by split<;>decide
 refine e_ ?_
 refine jn (H:=[.ref 0,.int a,.ref 4]) (p:=4) [j,B,R] rfl rfl (aQ W ab) rfl rfl L9 (cg) rfl nd C hs
  (anN (t:=nA 4 u y right) (aM (ay _ _) W ab) (lT 5 6 ∅ ∅ ∅ rfl rfl rfl) (lW h2) (λr Z=>by have:=bh r Z;exact bE this ab) (bE d ab) ?_)
 refine cn (by rw [decide_eq_true w.fit];rfl) (bv rfl rfl (L8 (aM (ay _ _) W ab) (lW h2) (uy (bg rfl) rfl (bg rfl) (bg rfl) (bg rfl) rfl rfl rfl ?_)));refine mq (l:=y.map .bytes) (λi Y J=>∃b c,kq b=true/\kq c=true/\Y=[.ref 0,.int a,.ref 4,.int 64,.int 0,.ref 8,.ref 9,.int (64-cI (y.take i)),b,c,.aR,.aR]/\J=W4 P S++nA 4 u y right++([.tup [.int 64,.int 0],.list (((aI i).map (h9 y)).map .bytes),.list (((y.take i).map dE).map .bytes),.tup [.ref 8,.ref 9,.int 64]])) ?_ (iH .aR .aR rfl rfl rfl rfl) ?_ ?_
 ·intro i Y J bC;refine f9 bC λb c hb hc q4 q5=> ?_;clear bC;obtain rfl:=q4;obtain rfl:=q5;rfl
 ·intro i v Y J hv cx K F;refine f9 cx λb c hb hc mI A=> ?_;obtain rfl:=mI;obtain rfl:=A;rw [cm] at hv;refine aw (gP.mp hv) λr Z q2=> ?_;obtain rfl:=q2;have hi:=(cF.mp Z).1;have N:=bh r (cq Z);have hp:=ra r;have e1:cI (y.take (i+1))=cI (y.take i)+(dE r).length:=by rw [gO Z,wy]
  have h5:=tm y (i+1);have G:=nB (y.take i);have e2:(64-cI (y.take i))-((dE r).length)=64-cI (y.take (i+1)):=Wz e1;have X:((aI i).map (h9 y)).map aa.bytes++[aa.bytes (f2 (64-cI (y.take (i+1))))]=((aI (i+1)).map (h9 y)).map .bytes:=by rw [m4];simp [h9]
  have e4:((y.take i).map dE).map aa.bytes++[aa.bytes (dE r)]=((y.take (i+1)).map dE).map .bytes:=by rw [gO Z];simp
  refine⟨bE N ab,Rn (fg _ _),R2 (fg _ _),by rw [pS];exact Vy (fg _ _) (bp _) N,(by show(dE r).length <= _;exact Yu (fg ..) hp N),trivial,trivial,∅,∅,(by show 0 <= (64-cI (y.take i))-((dE r).length);exact Yv s f h5 e1),(by show(64-cI (y.take i))-((dE r).length)<65536;exact Us G),by simp;first|exact Gg hi d|exact Gh (ew ..) d,trivial,by simp;first|exact Gg hi d|exact Gh (ew ..) d,?_⟩;show d5 qM 11 K [.ref 0,.int a,.ref 4,.int 64,.int 0,.ref 8,.ref 9,.int ((64-cI (y.take i))-((dE r).length)),.bytes r,.bytes (dE r),.aR,.aR] (W4 P S++nA 4 u y right++([.tup [.int 64,.int 0],.list (((aI i).map (h9 y)).map aa.bytes++[aa.bytes (f2 ((64-cI (y.take i))-((dE r).length:Int)))]),.list (((y.take i).map dE).map aa.bytes++[aa.bytes (dE r)]),.tup [.ref 8,.ref 9,.int 64]]:ae))
  rw [e2,X,e4];refine fH (g:=[]) rfl rfl ?_ (F _ _ ⟨_,_,rfl,rfl,rfl,rfl⟩);refine ds (ds (cg) ?_) ?_
  ·show(true&&(true&&(aL 11 (.list _)&&true)))=true;rw [eM];rfl
  ·show(true&&(aL 11 (.list _)&&(aL 11 (.list _)&&true)))=true;rw [eM,eM];rfl
 ·intro Y J eQ;refine f9 eQ λb c hb hc O L=> ?_;obtain rfl:=O;obtain rfl:=L;have e1:y.take (y.map aa.bytes).length=y:=by rw [bz,kA]
  rw [e1,bz];have o:(y.map aa.bytes).length=y.length:=bz _;refine⟨rfl,rfl,bg rfl,[u,0,0],rfl,bg rfl,?_,rfl,rfl,eG o d ab,trivial,∅,∅,gR,(by show((y.map aa.bytes).length:Int)<65536;exact TU o d),bg rfl,trivial,∅,∅,(by exact Yw s f),(by show 64-cI y<65536;exact Er q),bg rfl,∅,∅,bg rfl,?_⟩
  ·intro i hi;have:=w.BS;simp only [cb,c6,or_false] at hi;exact WP this hi
  rw [o]
  have aY:∀hd,hd=kO u y right->ah (J3 (az aA (n-1))) (AP (az aA (n-1))) [.ref 0,.int a,.ref 4,.int 64,.int 0,.ref 8,.ref 9,.int (64-cI y),b,c,.bytes hd,.aR] (W4 P S++nA 4 u y right++([.tup [.int 64,.int 0],.list (((aI y.length).map (h9 y)).map .bytes),.list ((y.map dE).map .bytes),.tup [.ref 8,.ref 9,.int 64],.list [.int u,.int 0,.int 0]]:ae)) (λ_ z=>dx k (aI 4++[j,B,R]) (W4 P S++t) .none z) (dx k (aI 4++[j,B,R]) (W4 P S++t)) (λm z=>x m (c5 (aI 4++[j,B,R]) [] (W4 P S++t) z)):=by
   intro hd T;have D:=wA u y right;have f5:=nC w;have H:=BQ u y right;have Q:(if dr u then 8 else 12) <= 12:=by split<;>decide
   subst T;refine⟨rfl,o9 (aM (ay _ _) W ab) I (gw h2 ab) h3 ⟨U,?_⟩⟩;rw [anQ]
   have ef:(y.map dE).reverse.flatten.length=(cI y).toNat:=by
    unfold cI;rw [ur,ur,uo,O4];exact Q6 (bp _)
   refine⟨(by rw [H];show 0+_ <= _;exact yR Q ab),trivial,dB (BR _) ⟨by rw [tn];exact RT d,(by show(kO u y right).length+_ <= _;rw [H,tn];exact UG Q d),?_⟩⟩;show AP (az aA (n-1)) [.ref 0,.int a,.ref 4,.int 64,.int 0,.ref 8,.ref 9,.int (64-cI y),b,c,.bytes (kO u y right),.bytes (iS u y right)] _ _ _ _
   have M:0 <= 64-cI y-((iS u y right).length:Int):=by
    rw [D];split at f<;>rename_i e<;>simp only [e]<;>simp<;>(first|exact Gb f ab|exact Gb f ab)
   refine⟨trivial,by simp;exact bE d ab,rfl,VQ M q,M,UK q,by rw [pS];exact Xx (bp _) M q,trivial,dB (anP _) ⟨by rw [ef];exact VG (bp _) M,(by show(iS u y right++eg (64-cI y-(iS u y right).length).toNat 0).length+_ <= _;rw [ef,a9,pS];exact XS (bp _) (bp _) M q),?_⟩⟩;have E:((y.map dE).map aa.bytes).reverse=(y.map dE).reverse.map .bytes:=uo.symm;refine pa (aM (ay _ _) W ab) I f5 (gw h2 ab) h3 ?_;exact jR (W':=W4 (P.set (a-1).toNat (aO u y right)) S) (V:=nA 4 u y right) rfl rfl (cg) BO C hs rfl h
  have hh:kO u y right=if dr u then [u,0,0]++f2 (y.length:Int)++f2 (64-cI y)++[0] else [u,0,0]++f2 (y.length:Int)++f2 (64-cI y)++[0]++f4 right:=rfl
  refine⟨rfl,rfl,qS (aM (ay _ _) W ab) ?_⟩;cases e:dr u
  ·rw [e] at hh;exact⟨rfl,rfl,tc (aM (ay _ _) W ab) w.rb.1 w.rb.2 ⟨bg rfl,aY _ hh.symm⟩⟩
  ·rw [e] at hh;exact aY _ hh.symm
end
section
variable {n j:Nat} {J t:ae} {k:aa->ae->Prop} {x:bn} {P:List (List Int)} {S l f:List Int} {D:List (Int×Int)} {a u:Int} {y:List (List Int)} {right:Int}
def iy (D:Int) (a:List Int):List Int:=f4 D++a++eg (60-(a.length:Int)).toNat 0
theorem nD (v:Int):(f4 v).length=4:=rfl
theorem wB {D:Int} {a:List Int} (h:a.length <= 60):((iy D a).length:Int)=64:=by
 unfold iy;rw [a9,a9,pS];exact Wk (bp _) h
theorem BV {K:List aa->ae->Prop} {r:aa->ae->Prop} {o a:List Int} {V e b d:Int} (f:3 <= n) (I:P.length <= 16000000) (g:1 <= e) (i:e <= P.length) (c:a.length <= 60) (M:0 <= d/\d<4294967296)
  (h:K [.ref 0,.bytes o,.int 60,.int V,.int d,.int b,.bytes a,.int d] (W4 (P.set (e-1).toNat (iy d a)) S)):
  ah (J5 (az aA n)) (ah (bc 4 (bH 7)) ar) [.ref 0,.bytes o,.int 60,.int V,.int e,.int b,.bytes a,.int d] (W4 P S) K r x:=
 ⟨rfl,tc (aQ f ab) M.1 M.2 (gu (yR c ab) (bE c ab) (R6 c) (Rk) (by rw [a9,pS];exact Vu (bp _) c) (pa (aQ f ab) I (wB c) g i h))⟩
def nE (m:Int) (o:List Int):List (List Int):=if o.length <= 60 then [iy 0 o] else [iy (m+2) (o.take 60),iy 0 (o.drop 60)]
theorem anS {o:List Int} (h:o.length <= 60):dK o (some 0) (some (0+60))=o:=by
 haveI z:dq o.length 0=0:=by unfold dq;rw [if_pos ∅];exact Nat.zero_min _
 haveI a:dq o.length (0+60)=o.length:=asO h;show(o.drop (dq o.length 0)).take (dq o.length (0+60)-dq o.length 0)=o
 rw [z,a];simp
theorem anT {o:List Int} (h:60 <= o.length):dK o (some 0) (some (0+60))=o.take 60:=by
 haveI a:dq o.length (0+60)=60:=k1 h;show(o.drop (dq o.length 0)).take (dq o.length (0+60)-dq o.length 0)=_
 rw [a];rfl
theorem anU {o:List Int} (h:60 <= o.length) (a:o.length <= 120):dK o (some 60) (some (60+60))=o.drop 60:=by
 haveI z:dq o.length 60=60:=k1 h;haveI b:dq o.length (60+60)=o.length:=asO a;show(o.drop (dq o.length 60)).take (dq o.length (60+60)-dq o.length 60)=_
 rw [z,b];exact n3 (by simp)
theorem Mb {m:Int} (N:1 <= m) (a:m <= 60):dv 0 m 60=[0]:=by
 unfold dv
 haveI e:(gt 0 m 60).toNat=1:=by
  unfold gt;rw [if_pos ∅];split<;>rename_i g<;>(first|exact VN (fh (m-0-1) 60 ∅) (bp _) N a|exact TV (bp _) N g)
 rw [e];rfl
theorem BW {m:Int} (N:60<m) (a:m <= 120):dv 0 m 60=[0,60]:=by
 unfold dv
 haveI e:(gt 0 m 60).toNat=2:=by
  unfold gt;rw [if_pos ∅];split<;>rename_i g<;>(first|exact VZ (fh (m-0-1) 60 ∅) (bp _) N a|exact T9 (bp _) N g)
 rw [e];rfl
theorem BX {V:bb} {e p:Nat} {N:ST} {d:List aa->ae->Prop} {r:aa->ae->Prop} {Y:List aa} {a b c:Int} {f i:Nat} (h:(dv a b c)[i]? =none) (g:d Y J):gC V (fZ a b c) e N p (f+1) i Y J d r x:=by
 show je ((dv a b c)[i]?.map aa.int) ..
 rw [h];exact g
theorem Mc (P:List (List Int)) (z l:List Int):(P++[z]).set (((P.length:Int)+1-1).toNat) l=P++[l]:=by
 haveI e:((P.length:Int)+1-1).toNat=P.length:=ES (bp _);rw [e,i7 _ _ (dA _),iF];rfl
theorem anV {o:List Int} (c:4 <= n) (I:P.length <= 1000000) (g:1 <= o.length) (b:o.length <= 120) (h:k (.int (P.length+1)) (W4 (P++nE P.length o) S++t)):az aA n 58 [.ref 0,.bytes o] (W4 P S++t) k x:=by
 haveI d:∀z:List Int,(P++[z]).length=P.length+1:=λz=>a9;refine ez rfl rfl (aQ c ab) rfl rfl (cg) rfl (dd rfl rfl rfl (wq (aM (ay ..) c ab) (bE I ab) (bv (bE b ab) (Yb b) ?_)));show ∃f,gC AR (fZ 0 o.length 60) 5 (J6 (az aA (n-1))) 4 f 0 [.ref 0,.bytes o,.int 60,.int (P.length+1),.int (P.length+1),.aR,.aR,.aR] (W4 (P++[cN]) S) ..
 unfold nE at h;by_cases e:o.length <= 60
 ·rw [if_pos e] at h;refine⟨0+1+1,oY (by rw [Mb (by exact EG g) (by exact r7 e ab)];rfl) (bv (bE e ab) (bE e ab) (cn (decide_eq_false (by exact TB e)) ?_))⟩;rw [anS e];refine BV (aM (ay ..) c ab) (by rw [d];exact kE I ab) (n9 ab) (by rw [d];exact yA) e ∅ ?_;rw [Mc];exact fH rfl rfl (cg) (BX (by rw [Mb (by exact EG g) (by exact r7 e ab)];rfl) (f0 (W':=W4 (P++[iy 0 o]) S) rfl rfl (cg) rfl h))
 ·rw [if_neg e] at h;refine⟨0+1+1+1,oY (by rw [BW (by exact yv e) (by exact r7 b ab)];rfl) (bv (bE b ab) (bE b ab) (eH (decide_eq_true (by exact TC e)) ⟨rfl,wq (aM (ay ..) c ab) (by rw [d];exact kE I ab) ?_⟩))⟩;rw [anT (ED e)];refine BV (aM (ay ..) c ab) (by simp;exact bE I ab) (n9 ab) (by simp) (O5 ..) (by rw [d];exact Xk I) ?_
  haveI D:(P++[cN]++[cN]).set (((P.length:Int)+1-1).toNat) (iy (((P++[cN]).length)+1) (o.take 60))=P++[iy (P.length+2) (o.take 60),cN]:=by
   haveI X:((P.length:Int)+1-1).toNat=P.length:=ES (bp _);haveI i:(((P++[cN]).length)+1:Int)=P.length+2:=by rw [d];exact TF
   rw [X,i,bX,i7 _ _ (dA _),iF];rfl
  rw [D];refine fH rfl rfl (cg) (oY (by rw [BW (by exact yv e) (by exact r7 b ab)];rfl) (bv (bE b ab) (bE b ab) (cn (decide_eq_false (by exact TY b)) ?_)));rw [anU (ED e) b];refine BV (aM (ay ..) c ab) (by simp;exact bE I ab) (n9 ab) (by simp;exact SD) (by simp;exact bE b ab) ∅ ?_
  haveI a:(P++[iy (P.length+2) (o.take 60),cN]).set ((((P++[cN]).length)+1-1:Int).toNat) (iy 0 (o.drop 60))=P++[iy (P.length+2) (o.take 60),iy 0 (o.drop 60)]:=by
   haveI X:((((P++[cN]).length)+1-1:Int).toNat)=P.length+1:=by rw [d];exact UM (bp _)
   rw [X,i7 _ _ (by exact lX ab),ip];rfl
  rw [a];exact fH rfl rfl (cg) (BX (by rw [BW (by exact yv e) (by exact r7 b ab)];rfl) (f0 (W':=W4 (P++[iy (P.length+2) (o.take 60),iy 0 (o.drop 60)]) S) rfl rfl (cg) rfl h))
theorem wC {o:List Int} {m:Int} (N:0 <= m) (h:m <= o.length):dK o (some m) none=o.drop m.toNat:=by
 haveI z:dq o.length m=m.toNat:=by unfold dq;rw [if_pos N];exact k1 (Ff (bp _) h)
 show(o.drop (dq o.length m)).take (o.length-dq o.length m)=_
 rw [z];exact n3 (by simp)
theorem wD {o:List Int} {m:Int} (N:0 <= m) (h:m <= o.length):dK o none (some m)=o.take m.toNat:=by
 haveI z:dq o.length m=m.toNat:=by unfold dq;rw [if_pos N];exact k1 (Ff (bp _) h)
 show(o.drop 0).take (dq o.length m-0)=_
 rw [z];rfl
def gm (u w:Int) (o:List Int) (m:Int):List Int:=
 (if u=13 then [(o.length:Int)]++[w] else [(o.length:Int)])++o.take (dT u o.length).toNat++(if dT u o.length<o.length then f4 (m+1) else [])
def kP (u:Int) (o:List Int) (m:Int):List (List Int):=if dT u o.length<o.length then nE m (o.drop (dT u o.length).toNat) else []
theorem BY {u s:Int} (h:0 <= s):dT u s <= s:=by
 unfold dT;generalize (if u=13 then(29:Int) else 1)=q;split
 ·exact Qr
 ·split
  ·exact Uo (fh _ 60 ∅) (by assumption) (by assumption)
  ·exact h
theorem anW {o:List Int} {w:Int} (f:6 <= n) (I:P.length <= 1000000) (c:o.length <= 75) (i:0 <= w/\w<128) (h:k (.bytes (gm u w o P.length)) (W4 (P++kP u o P.length) S++t)):az aA n 59 [.ref 0,.int u,.int w,.bytes o] (W4 P S++t) k x:=by
 haveI a:=o7 (u:=u) (s:=o.length) (gR);haveI b:=BY (u:=u) (s:=o.length) (gR)
 haveI g:∀d,(d.length <= 2)->d=(if u=13 then [(o.length:Int)]++[w] else [o.length])->ah (J9 (az aA (n-1))) (J8 (az aA (n-1))) [.ref 0,.int u,.int w,.bytes o,.bytes d,.aR] (W4 P S) (λ_ z=>dx k (aI 4) (W4 P S++t) .none z) (dx k (aI 4) (W4 P S++t)) (λm z=>x m (c5 (aI 4) [] (W4 P S++t) z)):=by
  refine λd D l=>dd rfl rfl (bE c ab) (Lj (aM (ay ..) f ab) ?_);unfold gm kP at h;rw [<-l] at h;generalize dT u o.length=m at a b h;refine⟨bE c ab,?_⟩;rw [wD a b];refine⟨by rw [iD];exact WN (bp _) (ew ..) D c,bE c ab,?_⟩;by_cases e:m<o.length
  ·rw [if_pos e,if_pos e] at h;refine eH (decide_eq_true e) ⟨bE c ab,?_⟩;rw [wC a b];exact anV (aM (ay ..) f ab) I (by rw [lQ];exact VH (bp _) (ay ..) a e) (by rw [lQ];exact Ua (bp _) (ay ..) c) (tc (aM (ay ..) f ab) (n9 ab) (TR I) ⟨by rw [a9,iD];exact WZ (bp _) (ew ..) D c,f0 rfl rfl (cg) rfl h⟩)
  ·rw [if_neg e,if_neg e,cO,cO] at h;exact cn (decide_eq_false e) (f0 rfl rfl (cg) rfl h)
 refine ez rfl rfl (aQ f ab) rfl rfl (cg) rfl ⟨bE c ab,BN (aM (ay ..) f ab) (gR) (r6 c ab) ?_⟩;by_cases e:u=13
 ·rw [if_pos e] at g;exact eH (decide_eq_true e) (BN (aM (ay ..) f ab) i.1 i.2 ⟨bg rfl,g _ (dA _) rfl⟩)
 ·rw [if_neg e] at g;exact cn (decide_eq_false e) (g _ (by simp) rfl)
end
section
variable {n j:Nat} {J t:ae} {k:aa->ae->Prop} {x:bn} {P:List (List Int)} {S l f:List Int} {D:List (Int×Int)} {a u:Int} {y:List (List Int)} {right:Int}
theorem Md {c p:Nat} (h:c <= p):aI c++jD c (p-c)=aI p:=by
 haveI e:=@asP 0 c (p-c);rw [xJ,Nat.add_sub_cancel' h] at e;rw [lP,lP,e]
theorem anX (b:Nat->Option Nat) (u c:List Nat) (J:ae):((u++c).map λi=>mo b (J.getD i .dead))=(u.map λi=>mo b (J.getD i .dead))++(c.map λi=>mo b (J.getD i .dead)):=db
theorem aqD (b:aB->aB):∀(W g:ae),((aI W.length).map λi=>b ((W++g).getD i .dead))=W.map b:=λW g=>by
 apply rF;intro i;rw [cm,cm];by_cases a:i<W.length
 ·rw [i5 a]
  (rw [pM,da,im a,bV a,pO];rfl)
 ·rw [hJ (by simp;exact jH a),hJ (by exact jH a)];rfl
theorem BZ {V:bb} {c p m:Nat} {K:List aa->ae->Prop} {Y X:List aa} {W W' g:ae} {o o':aB} (N:c <= p) (M:(V.slots.all λq=> !q.2)=true) (k:W.length=p) (j:p <= m) (l:(W++g)[m]? =some o) (f:W.map (mo (dG (aI p++[m])))=W') (t:mo (dG (aI p++[m])) o=o') (d:Y.map (BH p m)=X) (h:K X (W'++[o'])):d5 V c K Y (W++g):=by
 haveI z:kg c (jD c (p-c)++[m])=aI p++[m]:=by unfold kg;rw [<-bX,Md N]
 refine⟨by simp;exact E9 k N,jD c (p-c)++[m],?_,λi n=> ?_,λi y u=> ?_,?_⟩
 ·rw [eq];exact⟨asQ,fm,λa r b s e=>by rw [O6] at r;rw [dj] at s;exact Xa (ay ..) r s e j⟩
 ·rw [cR,O6,dj] at n;exact XE (ay ..) n ((cF.mp l).1) N j
 ·haveI:=dc.mp M _ (cq u);contradiction
 ·rw [z,gQ λa _=>wv j a,d]
  haveI e:g8 (aI p++[m]) (W++g)=W'++[o']:=by
   unfold g8;rw [anX];congr 1
   ·rw [<-f,<-k,aqD]
   ·show [mo _ ((W++g).getD m .dead)]=[o']
    rw [da,l,pO,t]
  rw [e];exact h
theorem wE {V:bb} {c p:Nat} {K:List aa->ae->Prop} {Y:List aa} {W g:ae} (N:c <= p) (d:Y.all (bB p)=true) (b:W.length=p) (f:W.all (aL p)=true) (h:K Y W):d5 V c K Y (W++g):=by
 have z:kg c (jD c (p-c))=aI p:=by unfold kg;rw [Md N]
 refine⟨by simp;exact E9 b N,jD c (p-c),asQ,λi e=> ?_,λi y m=> ?_,?_⟩
 ·rw [O6] at e;rw [a9];exact WH (ay ..) e b
 ·induction k:Y[i]? with
  |none=>trivial
  |some a=>
   induction a with
   |ref j=>
    rw [z];exact gr.mpr (bS.mp (dc.mp d _ (cq k)))
   |_=>trivial
 ·rw [z,Bm b f,mn λa h=>oV (λj l=>oW l) (dc.mp d a h)];exact h
def a8 (b m:Nat):List Int:=(aI m).map λi=>((b+i+1:Nat):Int)
theorem Me {m:Nat} (a:2 <= n) (I:P.length+m <= 1000000) (h:k (.ref ((W4 P S++t).length+0)) (W4 (P++eg m cN) S++t++[.list ((a8 P.length m).map .int)])):az aA n 62 [.ref 0,.int m] (W4 P S++t) k x:=by
 refine ez rfl rfl (aQ a ab) rfl rfl (cg) rfl (cJ ([4]) rfl (Ya I) (By (λi Y J=>∃b,bB 6 b=true/\Y=[.ref 4,b]/\J=W4 (P++eg i cN) S++([.cell (.ref 0),.list ((a8 P.length i).map .int)])) (cJ .aR rfl rfl (by rw [asR,cO];rfl)) ?_ ?_))
 ·intro i Y J c d K F;refine cU d λb f g j=> ?_;clear d;obtain rfl:=g;obtain rfl:=j;haveI e:(P++eg i cN).length=P.length+i:=by simp
  haveI l:(a8 P.length i).map aa.int++[.int (((P++eg i cN).length)+1)]=(a8 P.length (i+1)).map .int:=by
   rw [e];unfold a8;rw [m4];simp
  haveI X:P++eg i cN++[cN]=P++eg (i+1) cN:=by rw [bX,List.replicate_succ']
  refine⟨rfl,wq (aM (ay ..) a ab) (by rw [e];exact Vf I c) ⟨by unfold a8;simp;exact UH I c,?_⟩⟩;rw [l,X];exact fH rfl rfl (ds (cg) (by show(true&&(aL 6 (.list _)&&true))=true;rw [et];rfl)) (F _ _ (cJ _ rfl rfl rfl))
 ·intro Y J o;refine cU o λb f p q=> ?_;obtain rfl:=p;obtain rfl:=q;refine qR [5] fm (qW (bg rfl) (bg rfl)) rfl rfl (cg) ?_;show k _ (W4 (P++eg m cN) S++t++[mo _ (.list ((a8 P.length m).map .int))])
  rw [jS];exact h
theorem pe (y:List (List Int)) (r:List Int):cH (y++[r])=cH y+eX r:=by unfold cH;simp
theorem to (r:List Int):0 <= eX r:=Rm (fg ..)
theorem Mf (y:List (List Int)) (i:Nat):cH (y.take i) <= cH y:=by
 haveI:(y.take i).length <= y.length:=List.length_take_le' ..;exact XZ (wz (y.take i)) (wz y) (tm y i) this
theorem Mg {A:List (List Int)} {b c:List Int} {E:Int} (B:2 <= n) (M:J[j]? =some (.list ((A++[b]++[c]).map .bytes))) (O:∀r∈A++[b]++[c],r.length <= 1000) (I:A.length <= 1000) (P:cH (A++[b]) <= E) (Q:E<cH (A++[b]++[c]))
  (h:k (.ref (J.length+0)) (J++[.tup [.ref (J.length+1),.ref (J.length+2)],.list [.ref (J.length+3),.ref (J.length+4)],.list [.bytes b],.list (A.map .bytes),.list [.bytes c]])):az aA n 61 [.ref j,.int E] J k x:=by
 have L:=q6 M gJ;generalize a:A++[b]++[c]=f at*;have G:f.length=A.length+2:=by rw [<-a];simp
 have d:f.take (A.length+1)=A++[b]:=by rw [<-a];exact O7 (a9)
 refine dQ (H:=[.ref 0,.int E]) [j] rfl rfl (aQ B ab) rfl fm rfl L gK rfl (dd (bg rfl) (bg rfl) (bg rfl) ?_);refine mq (l:=f.map .bytes) (λi Y J=>(i <= A.length+1/\ ∃v,kq v=true/\Y=[.ref 0,.int E,.ref 2,.ref 3,.int (cH (f.take i)),v,.aR]/\J=[.list (f.map .bytes),.list ((f.take i).map .bytes),.list [.ref 1],.list []])\/(i=A.length+2/\Y=[.ref 0,.int E,.ref 2,.ref 3,.int 0,.bytes c,.aR]/\J=[.list (f.map .bytes),.list ((A++[b]).map .bytes),.list [.ref 1,.ref 4],.list [.bytes c],.list []])) ?_ (.inl ⟨ob ab,.aR,rfl,rfl,rfl⟩) ?_ ?_
 ·rintro i Y J (⟨_,v,_,rfl,rfl⟩| ⟨_,rfl,rfl⟩)<;>rfl
 ·rintro i v Y J H (⟨t,w,U,rfl,rfl⟩| ⟨t,rfl,rfl⟩) K F
  ·rw [cm] at H;refine aw (gP.mp H) λr z R=> ?_;obtain rfl:=R;have N:=O r (cq z);have y:=gO z;refine qZ (aM (ay ..) B ab) (bE N ab) ?_;by_cases e:i=A.length+1
   ·subst e
    have o:=by
     rw [<-a,eE (by simp)] at z;simp at z;exact z.symm
    subst o;have u:f.take (A.length+1+1)=f:=n3 (SH G);have s:E<cH (f.take (A.length+1))+eX r:=by rw [<-pe,<-y,u];exact Q
    refine eH (decide_eq_true s) (bv (bg rfl) (bg rfl) (dB (th (by rw [bz,d];simp)) (gu trivial (bg rfl) trivial (bg rfl) (bg rfl) ?_)));refine BZ (p:=4) (m:=5) (W:=[.list (f.map .bytes),.list ((f.take (A.length+1)).map .bytes),.list [.ref 1,.ref 5],.list [.bytes r]]) (dA _) rfl rfl ∅ rfl (W':=[.list (f.map .bytes),.list ((f.take (A.length+1)).map .bytes),.list [.ref 1,.ref 4],.list [.bytes r]]) ?_ rfl rfl (F _ _ (.inr ⟨rfl,rfl,?_⟩))
    ·show [mo _ (.list (f.map .bytes)),mo _ (.list ((f.take (A.length+1)).map .bytes)),.list [.ref 1,.ref 4],.list [.bytes r]]=_
     rw [gJ,gJ]
    ·rw [d];rfl
   ·have C:cH (f.take i)+eX r <= E:=by
     rw [<-pe,<-y];have S:f.take (i+1)=(f.take (A.length+1)).take (i+1):=by rw [List.take_take,k1 (by exact Fv t e)]
     have:=Mf (f.take (A.length+1)) (i+1);rw [<-S,d] at this;exact Ss P this
    refine cn (decide_eq_false (SI C)) (dd (bg rfl) trivial (by rw [bz,iD];exact U7 (ew ..) t I) (qZ (aM (ay ..) B ab) (bE N ab) ?_));have T:(f.take i).map aa.bytes++[.bytes r]=(f.take (i+1)).map .bytes:=by rw [y];simp
    show d5 AS 4 K [.ref 0,.int E,.ref 2,.ref 3,.int (cH (f.take i)+eX r),.bytes r,.aR] ([.list (f.map .bytes),.list ((f.take i).map aa.bytes++[.bytes r]),.list [.ref 1],.list []])
    rw [T,<-pe,<-y];exact fH rfl rfl (by show(aL 4 (.list _)&&(aL 4 (.list _)&&true))=true;rw [eM,eM];rfl) (F _ _ (.inl ⟨Fv t e,_,rfl,rfl,rfl⟩))
  ·have:=(cF.mp H).1;rw [bz] at this;exact(Yx t this G).elim
 ·rintro Y J (⟨t,_⟩| ⟨_,rfl,rfl⟩)
  ·rw [bz] at t;exact(Yy t G).elim
  ·have q:((A++[b]).map aa.bytes).getLast?=some (.bytes b):=by simp
   have D:((A++[b]).map aa.bytes).dropLast=A.map .bytes:=by simp
   refine rO (bg rfl) (bg rfl) (bg rfl) trivial (bg rfl) trivial (bg rfl) trivial (by simp;exact bE I ab) (dB q ?_);rw [D];refine gu (bg rfl) (bg rfl) trivial (bg rfl) (bg rfl) ?_;refine lw (g:=[.list (A.map .bytes),.list [.ref 1,.ref 4],.list [.bytes b],.list [.bytes c],.list [],.tup [.ref 2,.ref 3]]) (l:=[6,2,3,1,4]) ∅ ?_ L rfl gK ?_
   ·exact Mo.am (gu ⟨bg rfl,bg rfl⟩ ⟨bg rfl,bg rfl⟩ ⟨bg rfl,bg rfl⟩ ⟨bg rfl,bg rfl⟩ ⟨bg rfl,bg rfl⟩ trivial)
   ·show k _ (J++[.tup [.ref (J.length+1),.ref (J.length+2)],.list [.ref (J.length+3),.ref (J.length+4)],.list [.bytes b],mo _ (.list (A.map .bytes)),.list [.bytes c]])
    rw [gJ];exact h
end
section
variable {n j:Nat} {J t:ae} {k:aa->ae->Prop} {x:bn} {P:List (List Int)} {S l f:List Int} {D:List (Int×Int)} {a u:Int} {y:List (List Int)} {right:Int}
theorem wF {d:Type} {l:List d} {a:d} (h:l.getLast?=some a):eo l (-1)=some a:=by
 haveI b:l≠[]:=by intro e;subst e;contradiction
 unfold eo;rw [if_neg ∅];haveI h:=asb▸h;haveI e:(-1+(l.length:Int)).toNat=l.length-1:=SK (bp _) (ay ..);rw [if_pos (by exact RR (k4.mpr b)),e];exact h
abbrev aT (q:List (List Int)):aB:=.list (q.map .bytes)
def d7 (i:Nat):Nat:=if i=0 then 1 else 2+i
def fo (e:Nat):List aa:=(aI e).map λi=>.ref (d7 i)
def eN (f:List (List Int)) (d:List (List (List Int))):ae:=aT f::aT (d.headD []):: .list (fo d.length)::d.tail.map aT
variable {f:List (List Int)} {d Q:List (List (List Int))} {q:List (List Int)}
theorem Mh:∀{d:List (List (List Int))} {i:Nat} {q:List (List Int)},d[i]? =some q->(eN f d)[d7 i]? =some (aT q)
 |p::R,0,q,h=>by simp at h;subst h;rfl
 |p::R,i+1,q,h=>by
  haveI h:=by simpa using h
  unfold eN d7;haveI e:2+(i+1)=i+3:=Ez;rw [e];show(R.map aT)[i]? =_
  rw [cm,h];rfl
theorem wG:∀{d:List (List (List Int))},d≠[]->(eN f d).length=2+d.length
 | [],h=>(h rfl).elim
 |p::R,_=>by unfold eN;simp;exact R8
theorem anY:∀{Q:List (List (List Int))} {q o:List (List Int)},(eN f (Q++[q])).set (d7 Q.length) (aT o)=eN f (Q++[o])
 | [],q,o=>rfl
 |p::R,q,o=>by
  unfold eN d7;haveI e:2+(p::R).length=R.length+3:=Ez;rw [e];show aT f::aT p:: .list (fo _)::((R++[q]).map aT).set R.length (aT o)=aT f::aT p:: .list (fo _)::(R++[o]).map aT
  rw [db,db,i7 _ _ (by simp)];haveI a:R.length-(R.map aT).length=0:=by simp
  rw [a];haveI X:(p::R++[q]).length=(p::R++[o]).length:=by rw [a9,a9];rfl
  rw [X];rfl
theorem anZ (e:Nat):(fo (e+1)).getLast?=some (.ref (d7 e)):=by unfold fo;rw [m4];simp
theorem Mi:(eN f d)[2]? =some (.list (fo d.length)):=rfl
theorem tp {f:List aa->Prop} {o:Option aB} {l:List aa} (e:o=some (.list l)) (h:f l):oj f o:=by subst e;exact h
theorem B1 {f t:List aa->Prop} {b z:List Int->Prop} {o:Option aB} {l:List aa} (e:o=some (.list l)) (h:f l):qd f t b z o:=by subst e;exact h
theorem NK {J:ae} {b:aa->ae->Prop} {f:List aa} {a:Nat} (c:J[2]? =some (.list f)) (d:f.length <= 16777216) (e:f.getLast?=some (.ref a)) (h:b (.ref a) J):bT (.ref 2) (.int (-1)) J b:=
 B1 c ⟨d,dB (wF e) h⟩
theorem Mj {J:ae} {b:aa->ae->Prop} {a:Nat} {q:List aa} {v:aa} (h:J[a]? =some (.list q)) (hq:q.length <= 16777000) (c:b .none (J.set a (.list (q++[v])))):dX (.ref a) J/\fj [.ref a,v] J b:=
 ⟨tp h trivial,tp h ⟨hq,c⟩⟩
theorem Ml {J:ae} {b:Bool->Prop} {a m:Nat} {q r:List aa} (h:J[a]? =some (.list q)) (c:J[m]? =some (.list r)) (d:q.length≠r.length) (e:b true):du (.ref a) (.ref m) J b:=by
 refine(?_:sM _ _ J[a]?);rw [h];exact tp c (dB (th d) e)
theorem an0:∀{d:List (List (List Int))},d≠[]->(eN f d).all (aL (2+d.length))=true:=by
 intro d l
 haveI b:(fo d.length).all (bB (2+d.length))=true:=by
  rw [dc];refine λa c=>aw (dz.mp c) λi e g=> ?_;obtain rfl:=g;haveI:=gr.mp e;refine bS.mpr ?_;unfold d7;split<;>(first|exact uW ab|exact yw this)
 haveI h:(d.tail.map aT).all (aL (2+d.length))=true:=by
  rw [dc];refine λo j=>aw (dz.mp j) λq _ k=> ?_;obtain rfl:=k;exact eM
 show(aL _ (aT f)&&(aL _ (aT _)&&((fo d.length).all (bB (2+d.length))&&(d.tail.map aT).all (aL (2+d.length)))))=true
 rw [b,h,eM,eM];rfl
theorem an1 {V:bb} {K:List aa->ae->Prop} {Y:List aa} {g:aB} {r:List Int} (M:(V.slots.all λq=> !q.2)=true) (b:d≠[]) (k:Y.all (bB 3)=true) (h:K Y (eN f (d++[[r]]))):
  d5 V 3 K Y ((eN f d).set 2 (.list (fo d.length++[.ref (2+d.length+1)]))++[g,aT [r]]):=by
 have n:=wG (f:=f) b;have c:=k4.mpr b;have l:((eN f d).set 2 (.list (fo d.length++[.ref (2+d.length+1)]))).length=2+d.length:=by rw [e3,n]
 refine BZ (p:=2+d.length) (m:=2+d.length+1) (W':=aT f::aT (d.headD []):: .list (fo (d.length+1))::d.tail.map aT) (o':=aT [r]) (X:=Y) (Q4 c) M l (ys) ?_ ?_ gJ ?_ ?_
 ·rw [eE (by exact SG l),l];have:2+d.length+1-(2+d.length)=1:=RC (ay ..);rw [this];rfl
 ·show mo _ (aT f)::mo _ (aT (d.headD []))::mo _ (.list (fo d.length++[.ref (2+d.length+1)]))::(d.tail.map aT).map (mo _)=_
  rw [gJ,gJ,iE];have o:(mo (dG (aI (2+d.length)++[2+d.length+1])))∘aT=aT:=by funext q;exact gJ
  rw [o]
  have s:mo (dG (aI (2+d.length)++[2+d.length+1])) (.list (fo d.length++[.ref (2+d.length+1)]))= .list (fo (d.length+1)):=by
   show aB.list (_)=_
   congr 1;rw [db];unfold fo;rw [m4,db,iE];congr 1
   ·refine gQ λi j=> ?_;have:=gr.mp j;show cz _ (.ref (d7 i))=_
    rw [wv (by exact ys)];show(if d7 i<2+d.length then aa.ref (d7 i) else _)=_
    rw [if_pos (by unfold d7;split<;>(first|exact uW ab|exact yw this))]
   ·show [cz _ (.ref (2+d.length+1))]=_
    rw [wv (by exact ys)];show [if 2+d.length+1<2+d.length then _ else if 2+d.length+1=2+d.length+1 then aa.ref (2+d.length) else .dW]=_
    rw [if_neg (by exact Ro),if_pos rfl];show _=[aa.ref (d7 d.length)]
    unfold d7;rw [if_neg (by exact QW c)]
  rw [s]
 ·refine mn λa h=> ?_;have:=dc.mp k a h;cases a<;>first|rfl|skip
  rename_i i;have j:=bS.mp this;show(if i<2+d.length then aa.ref i else _)=_
  rw [if_pos (by exact SU c j)]
 ·have e:eN f (d++[[r]])=(aT f::aT (d.headD []):: .list (fo (d.length+1))::d.tail.map aT)++[aT [r]]:=by
   induction d with
   |nil=>exact(b rfl).elim
   |cons p R=>unfold eN;simp
  rw [<-e];exact h
theorem Mm {i:Nat} (h:i<d.length):d7 i<2+d.length:=by unfold d7;split<;>(first|exact uW ab|exact yw h)
structure tq (f:List (List Int)) (room:Int) (d:List (List (List Int))):Prop where
 ne:d≠[]
 flat:d.flatten=f
 full:∀q∈d,q≠[]
 fit:∀q∈d,cH q <= room
theorem aqE {d:Type} (L:List d) (g e W o:d) (h:2<L.length):((L++[g]++[e]).set 2 o).set (L.length+1) W=L.set 2 o++[g,W]:=by
 rw [bX,xO _ _ h,i7 _ _ (by simp)];haveI:L.length+1-(L.set 2 o).length=1:=by simp
 rw [this];rfl
theorem an2 {d:Type} (L:List d) (g e o:d) (h:2<L.length):((L++[g]++[e]).set 2 o)[L.length+1]? =some e:=by
 rw [bX,xO _ _ h,eE (by simp)];haveI:L.length+1-(L.set 2 o).length=1:=by simp
 rw [this];rfl
theorem an3 {d:Type} (L:List d) (g e o:d) (h:2<L.length):((L++[g]++[e]).set 2 o)[2]? =some o:=by
 rw [bX,xO _ _ h,im (by simpa using h)];exact ua h
structure Pack (f:List (List Int)) (room:Int) (Q:List (List (List Int))) (q:List (List Int)):Prop where
 flat:Q.flatten++q=f
 full:∀p∈Q,p≠[]
 B2:∀p∈Q,cH p <= room
 fit:cH q <= room
 start:q=[]->f=[]
theorem Mn {C:ak} {K:List aa->ae->Prop} {J:ae} {E p:Int} {f q:List aa} {a:Nat} {r:List Int} (u:aa->ae->Prop) (b:J[2]? =some (.list f)) (c:f.length <= 16777216) (d:f.getLast?=some (.ref a)) (h:J[a]? =some (.list q)) (hq:q.length <= 16777000)
  (F:K [.ref 0,.int E,.ref 2,.int p,.bytes r] (J.set a (.list (q++[.bytes r])))):Kb C [.ref 0,.int E,.ref 2,.int p,.bytes r] J K u x:=
 NK b c d (Mj h hq F)
theorem an4 {K:List aa->ae->Prop} {u:aa->ae->Prop} {f a:List (List Int)} {Q:List (List (List Int))} {q:List (List Int)} {r:List Int} {E:Int} {v:aa} (G:1 <= n) (I:r.length <= 1000) (L:eX r <= E) (H:Pack f E Q q) (M:f.length <= 1000)
  (F:∀m o,Pack (f++[r]) E m o->K [.ref 0,.int E,.ref 2,.int (cH o),.bytes r] (eN a (m++[o]))):
  Kc (az aA n) [.ref 0,.int E,.ref 2,.int (cH q),.bytes r] (eN a (Q++[q])) (d5 s8 3 K) u x:=by
 have N:Q++[q]≠[]:=by simp
 have c:(Q++[q]).length=Q.length+1:=a9;have hq:(eN a (Q++[q]))[d7 Q.length]? =some (aT q):=Mh (by simp);have J:(eN a (Q++[q])).length=2+(Q.length+1):=by rw [wG N,c]
 have D:q.length <= 1000:=by
  have:=congrArg List.length H.flat;rw [a9] at this;exact T7 this M
 have d:Q.length <= 1000:=by
  have:=by
   have P:∀Q:List (List (List Int)),(∀p∈Q,p≠[])->Q.length <= Q.flatten.length:=by
    intro Q;induction Q with
    |nil=>intro _;exact dA _
    |cons p R B=>
     intro h;have S:=B λp w=>h p (.tail _ w);have A:=k4.mpr (h p (.head _));rw [i6,a9,kZ];exact yD A S
   exact P Q H.full
  have A:=congrArg List.length H.flat;rw [a9] at A;exact Vt A M this
 have k:(fo (Q++[q]).length).length <= 16777216:=by unfold fo;rw [c];simp;exact bE d ab
 have l:(fo (Q++[q]).length).getLast?=some (.ref (d7 Q.length)):=by rw [c];exact anZ _
 refine qZ G (bE I ab) ?_;by_cases e:E<cH q+eX r
 ·have j:q≠[]:=by
   intro z;subst z;have:cH []=0:=rfl;exact UQ e this L
  refine eH (decide_eq_true e) (NK Mi k l ⟨bg rfl,Ml (q:=q.map .bytes) (r:=[]) ?_ ?_ ?_ ?_⟩)
  ·rw [im (by rw [J];have:=Mm (i:=Q.length) (Rw c);exact U5 this c)];exact hq
  ·rw [eE (dA _),iF];rfl
  ·rw [bz];exact DB (k4.mpr j)
  have s:(fo (Q++[q]).length).length <= 16777000:=by unfold fo;rw [c];simp;exact bE d ab
  have b:2<(eN a (Q++[q])).length:=by rw [J];exact QF
  have T:(eN a (Q++[q])++[aB.list []]).length=(eN a (Q++[q])).length+1:=by simp
  refine dd trivial (bg rfl) s ?_;rw [T];refine Mn (C:=az aA n) u (an3 _ _ _ _ b) (by rw [a9];show _+1 <= _;exact kE s ab) (by simp) (an2 (eN a (Q++[q])) (aB.list []) (aB.list []) (.list (fo (Q++[q]).length++[.ref ((eN a (Q++[q])).length+1)])) b) (bg rfl) (qZ G (bE I ab) ?_);rw [aqE _ _ _ _ _ b,J,<-c];refine an1 rfl N rfl ?_;have y:cH [r]=eX r:=by unfold cH;simp
  have:=F (Q++[q]) [r] ⟨by rw [<-H.flat];simp,λp w=> ?_,λp w=> ?_,by rw [y];exact L,λh=>by contradiction⟩
  ·rw [y] at this;rw [O0];exact this
  ·rw [cR,dj] at w;rcases w with w|rfl
   ·exact H.full p w
   ·exact j
  ·rw [cR,dj] at w;rcases w with w|rfl
   ·exact H.B2 p w
   ·exact H.fit
 ·refine cn (decide_eq_false e) (Mn (C:=az aA n) u Mi k l hq (by rw [bz];exact bE D ab) (qZ G (bE I ab) ?_));have U:q.map aa.bytes++[.bytes r]=(q++[r]).map .bytes:=by simp
  rw [U];show d5 s8 3 K [.ref 0,.int E,.ref 2,.int (cH q+eX r),.bytes r] ((eN a (Q++[q])).set (d7 Q.length) (aT (q++[r])))
  rw [anY,<-pe];have t:Q++[q++[r]]≠[]:=by simp
  have A:=an0 (f:=a) t;have V:=wG (f:=a) t;have O:=wE (V:=s8) (g:=[]) (by simp;exact QG) (by show(bD 0 _&&(true&&(bD 2 _&&true)))=true;rw [bS.mpr (by exact uW ab),bS.mpr (by simp)];rfl) V A (F Q (q++[r]) ⟨by rw [<-H.flat];simp,H.full,H.B2,by rw [pe];exact SJ e,λh=>by simp at h⟩);rw [cO] at O;exact O
theorem an5 {y:List (List Int)} {E:Int} (R:2 <= n) (Z:J[j]? =some (aT y)) (hl:∀r∈y,r.length <= 1000/\eX r <= E) (P:y.length <= 1000) (bN:y≠[]) (B:0 <= E)
  (h:∀d,tq y E d->k (.ref (J.length+0)) (J++(.list ((aI d.length).map λi=>.ref (J.length+(1+i)))::d.map aT))):az aA n 60 [.ref j,.int E] J k x:=by
 have S:=q6 Z gJ;refine dQ (H:=[.ref 0,.int E]) [j] rfl rfl (aQ R ab) rfl fm rfl S gK rfl (bv (bg rfl) (bg rfl) ?_);refine mq (l:=y.map .bytes) (λi Y J=>∃Q q v,kq v=true/\Pack (y.take i) E Q q/\Y=[.ref 0,.int E,.ref 2,.int (cH q),v]/\J=eN y (Q++[q])) ?_ (k7 ([]) ([]) .aR rfl ⟨rfl,λp M=>(c6 M).elim,λp M=>(c6 M).elim,B,λ_=>rfl⟩ rfl rfl) ?_ ?_
 ·intro i Y J T;refine k6 T λQ q v O H q5 t=> ?_;clear T;obtain rfl:=q5;obtain rfl:=t;rfl
 ·intro i v Y J O cx K F;refine k6 cx λQ q w hw H A s=> ?_;obtain rfl:=A;obtain rfl:=s;replace O:=cm▸O;refine aw (gP.mp O) λr U q2=> ?_;obtain rfl:=q2;have N:=hl r (cq U);exact an4 (v:=w) (aM (ay ..) R ab) N.1 N.2 H (by rw [iD];exact yS (ew ..) P ab) λm o C=>F _ _ (k7 m o _ rfl (by rw [gO U];exact C) rfl rfl)
 ·intro Y aj eQ;refine k6 eQ λQ q w hw H L u=> ?_;obtain rfl:=L;obtain rfl:=u;rw [bz,kA] at H
  have I:tq y E (Q++[q]):=by
   refine⟨by simp,by rw [<-H.flat];simp,λp M=> ?_,λp M=> ?_⟩<;>rw [cR,dj] at M<;>rcases M with M|rfl
   ·exact H.full p M
   ·exact λe=>bN (H.start e)
   ·exact H.B2 p M
   ·exact H.fit
  have V:=h _ I;generalize Q++[q]=d at I V;have hL:=wG (f:=y) I.ne;have c:=k4.mpr I.ne
  have W:(2::(aI d.length).map d7).Nodup:=by
   rw [eD];refine⟨λP=> ?_,?_⟩
   ·refine aw (dz.mp P) λi _ e=> ?_;unfold d7 at e;split at e<;>(first|exact Qt e|exact S6 e (by assumption))
   ·exact uh.mpr (asS.imp λ{a b} g e=>by
     unfold d7 at e;split at e<;>split at e<;>(first|exact Qn g (by assumption)|exact Q2 e|exact TH e g))
  have D:∀i,i<d.length->dG (2::(aI d.length).map d7) (d7 i)=some (1+i):=by
   intro i G;have:=Ll (n:=0) (q:=i+1) W (by rw [fA,cm,i5 G];rfl);unfold dG;rw [this];congr 1;exact QX
  have z:eN y d=[aT y]++(aT (d.headD []):: .list (fo d.length)::d.tail.map aT):=rfl;refine lw W ?_ S rfl gK ?_
  ·intro q hq;rw [<-z,hL];rw [cb] at hq;rcases hq with rfl|hq
   ·exact⟨yP ab,Q3 c⟩
   ·refine aw (dz.mp hq) λi G ch=> ?_;obtain rfl:=ch;have:=gr.mp G;have h2:=Mm this;exact⟨by unfold d7;split<;>(first|exact yP ab|exact vc ab),h2⟩
  ·rw [<-z];have e1:cz (cY [j] (2::(aI d.length).map d7) J.length) (.ref 2)= .ref (J.length+0):=rfl;rw [cB,iE]
   have e2:mo (cY [j] (2::(aI d.length).map d7) J.length) ((eN y d).getD 2 .dead)= .list ((aI d.length).map λi=>.ref (J.length+(1+i))):=by
    show aB.list ((fo d.length).map _)=_
    unfold fo;rw [iE];congr 1;refine gQ λi G=> ?_;have G:=gr.mp G;show(match cY [j] (2::(aI d.length).map d7) J.length (d7 i) with|some i=>aa.ref i|none=>.dW)=_
    have X:cY [j] (2::(aI d.length).map d7) J.length (d7 i)=some (J.length+(1+i)):=by
     unfold cY;rw [if_neg (by unfold d7;split<;>(first|exact Qq|exact QC)),D i G];rfl
    rw [X]
   have e4:(aI d.length).map ((λq=>mo (cY [j] (2::(aI d.length).map d7) J.length) ((eN y d).getD q .dead))∘d7)=d.map aT:=by
    apply rF;intro i;rw [cm,cm];by_cases G:i<d.length
    ·rw [i5 G,bV G];show some (mo _ ((eN y d).getD (d7 i) .dead))=some (aT _)
     rw [da,Mh (bV G)];exact congrArg some gJ
    ·rw [hJ (by simp;exact jH G),hJ (by exact jH G)];rfl
   rw [e2,e4];exact V
end
section
variable {n j:Nat} {J t:ae} {k:aa->ae->Prop} {x:bn} {P:List (List Int)} {S l f:List Int} {D:List (Int×Int)} {a u:Int} {y:List (List Int)} {right:Int}
def mG:aa->Bool
 | .aR=>false
 | .dW=>false
 |_=>true
theorem kr {a:aa->ae->Prop} {b:Nat} {l:List aa} {i:Int} {v:aa} (h:J[b]? =some (.list l)) (c:l.length <= 16777216) (d:eo l i=some v) (f:mG v=true) (e:a v J):bT (.ref b) (.int i) J a:=by
 refine B1 h ⟨c,dB d ?_⟩;cases v<;>first|exact e|contradiction
theorem nF {a:aa->ae->Prop} {b:Nat} {l:List aa} (h:J[b]? =some (.list l)) (c:l.length <= 16777216) (d:a (.int l.length) J):dD [.ref b] J a:=B1 h ⟨c,d⟩
theorem ib {a:aa->ae->Prop} {Y:List aa} {i c:Nat} {v:aa} (b:Y[i]? =some (.ref c)) (h:J[c]? =some (.cell v)) (e:mG v=true) (d:a v J):b4 i Y J a x:=by
 unfold b4;rw [b];refine(?_:vo a J J[c]?);rw [h];cases v<;>first|exact d|contradiction
theorem an6 {a:aa->ae->Prop} {b:Nat} {l:List aa} {z c:Option Int} (h:J[b]? =some (.list l)) (d:l.length <= 16777216) (e:a (.ref J.length) (J++[.list (dK l z c)])):vC z c (.ref b) J a:=by
 unfold vC;dsimp only;rw [h];exact⟨d,e⟩
theorem tr {b:aa->ae->Prop} {a:Nat} {q:List aa} {v:aa} (h:J[a]? =some (.list q)) (hq:q.length <= 16777000) (c:b .none (J.set a (.list (q++[v])))):fj [.ref a,v] J b:=(Mj h hq c).2
theorem ly {p b:Nat} (h:p <= b) {a:aa} (c:bB p a=true):bB b a=true:=by
 cases a<;>first|rfl|skip
 exact bS.mpr (i4 (bS.mp c) h)
theorem rd {d:Type} {f g:d->Bool} {l:List d} (h:∀a,f a=true->g a=true) (c:l.all f=true):l.all g=true:=dc.mpr λa b=>h a (dc.mp c a b)
theorem an7 {p b:Nat} (h:p <= b) {o:aB} (c:aL p o=true):aL b o=true:=by
 have g:∀{q:Nat},bD q p=true->bD q b=true:=λe=>bS.mpr (i4 (bS.mp e) h);induction o with
 |list l=>exact rd (λa=>ly h) c
 |tup l=>exact rd (λa=>ly h) c
 |aZ _ l=>exact rd (λa=>ly h) c
 |inst _ d=>exact g c
 |cell v=>exact ly h c
 |cw f i l=>
  haveI c:(bD i p&&l.all λq=>bD q.2 p)=true:=c;rw [eC] at c;show(bD i b&&l.all λq=>bD q.2 b)=true
  rw [g c.1,rd (λa=>g) c.2];rfl
 |fn j u k=>
  haveI c:(bD u p&&k.all λq=>bD q p)=true:=c;rw [eC] at c;show(bD u b&&k.all λq=>bD q b)=true
  rw [g c.1,rd (λa=>g) c.2];rfl
 |_=>rfl
theorem kn {p b:Nat} (h:p <= b) {W:ae} (c:W.all (aL p)=true):W.all (aL b)=true:=rd (λo=>an7 h) c
theorem Mp {p:Nat} {W W' t V g:ae} {c l:List Nat} {k:aa->ae->Prop} {r:aa} (n:l.Nodup) (K:∀j∈l,p+c.length <= j/\j<(W'++V++g).length) (q:W.length=p) (a:W'.length=p) (f:W'.all (aL p)=true) (b:V.all (aL (p+c.length))=true) (C:∀i∈c,p <= i) (m:cM (cL (aI p++c)) (W++t) c V)
  (h:k (cz (cY (aI p++c) l (W++t).length) r) (W'++t++l.map λj=>mo (cY (aI p++c) l (W++t).length) ((W'++V++g).getD j .dead))):
  dx k (aI p++c) (W++t) r (W'++V++g):=by
 refine fR (cJ l n (λj d=>by haveI:=K j d;rw [a9,jC];exact this) ?_)
 haveI s:c5 (aI p++c) l (W++t) (W'++V++g)=W'++t++l.map λj=>mo (cY (aI p++c) l (W++t).length) ((W'++V++g).getD j .dead):=by
  haveI X:d1 (mo (cY (aI p++c) l (W++t).length)) (aI p++c) (W'++V++g) (W++t)=W'++t:=by
   haveI v:c5 (aI p++c) [] (W++t) (W'++V++g)=d1 (mo (cY (aI p++c) [] (W++t).length)) (aI p++c) (W'++V++g) (W++t):=by unfold c5;simp
   rw [<-(LJ (g:=g) q a f b C m),v];rw [bX];haveI w:(W'++V).length=(aI p++c).length:=by rw [a9,a,m.len];simp
   haveI x:∀(u:List Nat) (U J:ae),U.length=u.length->U.all (aL (p+c.length))=true->d1 (mo (cY (aI p++c) l (W++t).length)) u (U++g) J=d1 (mo (cY (aI p++c) [] (W++t).length)) u (U++g) J:=by
    intro u;induction u with
    |nil=>intro U J h _;induction U with
     |nil=>rfl
     |cons _ _=>contradiction
    |cons i u B=>
     intro U J h e;induction U with
     |nil=>contradiction
     |cons o U=>
      simp only [ii,eC] at e;show d1 _ (i::u) (o::(U++g)) J=d1 _ (i::u) (o::(U++g)) J
      rw [ot];rw [kl (λj d=>(jm (by simp) j d).trans (jm (by simp) j d).symm) e.1];exact B U _ (mZ h) e.2
   rw [<-bX];exact x _ _ _ w (ds (kn (by exact kb) f) b)
  unfold c5;rw [X]
 rw [s];exact h
end
section
variable {n j:Nat} {J t:ae} {k:aa->ae->Prop} {x:bn} {P:List (List Int)} {S l f:List Int} {D:List (Int×Int)} {a u:Int} {y:List (List Int)} {right:Int}
theorem pf {d:Type} (L:List d) (a:d):(L++[a])[L.length]? =some a:=by rw [eE (dA _),iF];rfl
theorem pg (L:ae) (a b:aB):(L++[a,b])[L.length]? =some a:=by rw [eE (dA _),iF];rfl
theorem re (L:ae) (a b:aB):(L++[a,b])[L.length+1]? =some b:=by rw [eE (by exact lX ab),ip];rfl
theorem B3 (L:ae) (a b c:aB):(L++[a,b]).set L.length c=L++[c,b]:=by rw [i7 _ _ (dA _),iF];rfl
theorem eu {d:Type} {L g:List d} {i:Nat} {a:d} (h:L[i]? =some a):(L++g)[i]? =some a:=by
 rw [im (cF.mp h).1];exact h
theorem jT {d:Type} {L:List d} {i:Nat} {a:d} (h:L[i]? =some a):i<L.length:=(cF.mp h).1
def iT (P:List (List Int)) (a:List (List Int)) (e k:Nat):List (List Int):=P++(a.take k++eg (e-k) cN)
theorem an8 {a:List (List Int)} {e k:Nat} (b:a.length=e) (c:k <= e):(iT P a e k).length=P.length+e:=by
 unfold iT;simp;exact Tk (ew ..) (ay ..) b
theorem an9 {a:List (List Int)} {e k:Nat} {q:List Int} (c:a.length=e) (hq:a[k]? =some q):(iT P a e k).set (P.length+k) q=iT P a e (k+1):=by
 haveI b:=jT hq;unfold iT;rw [i7 _ _ (by exact kb),ip,i7 _ _ (O5 ..)];haveI d:k-(a.take k).length=0:=by simp;exact Sc (ew ..) (ay ..) b
 haveI f:e-k=(e-(k+1))+1:=U8 (ay ..) (ay ..) b c;rw [d,f,List.replicate_succ,gO hq];simp
theorem aoa {a:List (List Int)} {e k:Nat} (d:a.length=e) (c:k<e):(b:Int)->b=P.length+k+1->(Mine.aE (iT P a e k) b).length=64:=by
 intro b z;haveI X:(b-1).toNat=P.length+k:=WD (bp _) z;unfold Mine.aE iT;rw [X,da,eE (by exact kb),ip,eE (O5 ..)];haveI f:k-(a.take k).length=0:=by simp;exact Uj (ew ..) (ay ..) c d
 haveI g:e-k=(e-(k+1))+1:=Tq (ay ..) (ay ..) c;rw [f,g];rfl
theorem B4 {b m i:Nat} (h:i<m):(a8 b m)[i]? =some ((b+i+1:Nat):Int):=by
 unfold a8;rw [cm,i5 h];rfl
theorem kQ {d:Type} {l:List d} {i:Nat} {v:d} (h:l[i]? =some v):eo l (i:Int)=some v:=by
 exact h
structure Mq (ag:ae) (aob on e:Nat) (Mr:Nat->Nat) (ia:List (List (List Int))) (Ms:List (List Int)):Prop where
 wH:ag[aob]? =some (.list ((aI e).map λi=>.ref (Mr i+7)))
 many:ia.length=e
 ft:∀i q,ia[i]? =some q->ag[Mr i]? =some (aT q)
 mid:ag[on]? =some (.list (Ms.map .bytes))
 cl:ag.all (aL (ag.length+7))=true
 small:e <= 1000/\Ms.length <= 1000
abbrev SL (P:List (List Int)) (S:List Int) (f:List (List Int)) (mb:Nat) (a:aa) (U:ae):ae:=W4 P S++(aT f:: .cell (.ref (mb+7)):: .cell a::U)
variable {f s:List (List Int)} {d:List (List (List Int))} {U:ae} {m mb e:Nat} {w:Nat->Nat} {E:Int}
theorem B5 {a:aa} {p:Nat} (c:p=U.length+7) (b:U.all (aL p)=true) (d:mb+7<p) (e:bB p a=true):(SL P S f mb a U).all (aL p)=true:=by
 refine ds (kn (p:=4) (by exact u0 c ab) (cg)) ?_;show(aL p (aT f)&&(bD (mb+7) p&&(bB p a&&U.all (aL p))))=true
 rw [eM,bS.mpr d,e,b];rfl
theorem aoc {K:List aa->ae->Prop} {r:aa->ae->Prop} {A:aa} (hn:7 <= n) (hv:bB (U.length+7) A=true) (I:P.length+e <= 1000000) (Z:1 <= P.length) (H:Mq U m mb e w d s) (hw:∀q∈d,eB u q 0)
  (F:∀t,K [.ref 0,.int u,.ref 4,.int E,.ref 5,.ref (m+7),A,.ref 6,t] (SL (P++d.map λq=>aO u q 0) S f mb (.ref (U.length+7)) (U++[.list ((a8 P.length e).map .int)]))):
  AX (az aA n) [.ref 0,.int u,.ref 4,.int E,.ref 5,.ref (m+7),A,.ref 6,.aR] (SL (P++eg e cN) S f mb (.ref (U.length+7)) (U++[.list ((a8 P.length e).map .int)])) K r x:=by
 have b:=jT H.wH;have T:=jT H.mid;have G:(U++[aB.list ((a8 P.length e).map .int)])[U.length]? =some (.list ((a8 P.length e).map .int)):=pf _ _;have h:(U++[aB.list ((a8 P.length e).map .int)]).all (aL (U.length+8))=true:=ds (kn (by exact yK ab) H.cl) (by show(aL _ (.list _)&&true)=true;rw [et];rfl);have C:(U++[aB.list ((a8 P.length e).map .int)]).length=U.length+1:=a9;have N:((aI e).map λi=>aa.ref (w i+7)).length=e:=by simp
 have j:=H.small;dsimp only [AX,jk,pu,bQ,cG,aD,a0,cK,eS,e9,bf,bH,x0,aF,aW,bG,b7,cu,dw,c1,dZ,ey,fM,fA];refine nF (eu (g:=[aB.list ((a8 P.length e).map .int)]) H.wH) (yG j N) ?_;rw [N];refine⟨by unfold gZ;dsimp only;exact Yf j,?_⟩;have z:P++eg e cN=iT P (d.map λq=>aO u q 0) e 0:=by unfold iT;simp
 have X:P++(d.map λq=>aO u q 0)=iT P (d.map λq=>aO u q 0) e e:=by
  unfold iT;rw [iF,asR,cO,n3 (by rw [bz,H.many];exact dA _)]
 rw [z];rw [X] at F;refine qT (λi Y J=>∃t,bB 5 t=true/\Y=[.ref 0,.int u,.ref 4,.int E,.ref 5,.ref (m+7),A,.ref 6,t]/\J=SL (iT P (d.map λq=>aO u q 0) e i) S f mb (.ref (U.length+7)) (U++[.list ((a8 P.length e).map .int)])) (cJ .aR rfl rfl rfl) ?_ ?_
 ·intro i Y J hi bC K' Q;refine cU bC λt V q2 q3=> ?_;clear bC;obtain rfl:=q2;obtain rfl:=q3;obtain⟨q,hq⟩:∃q,d[i]? =some q:=⟨d[i]'(by rw [H.many];exact hi),bV _⟩
  have a:(d.map λq=>aO u q 0).length=e:=by rw [bz,H.many]
  have at1:=jT (H.ft i q hq);have D:=an8 (P:=P) (k:=i) a (Ev hi);dsimp only [ek,ga,gb,fN,hK,gc,la,k9,gT,hN,hY,hM,kK,lp,kJ,lq,Ki,ah,ar,cA,jl,aS,cG,aD,a0,cK,eS,e9,bf,bH,x0,aF,aW,bG,b7,cu,dw,c1,dZ,ey,au,bu,fM,fA,rM,rN];generalize l:SL (iT P (d.map λq=>aO u q 0) e i) S f mb (.ref (U.length+7)) (U++[.list ((a8 P.length e).map .int)])=J;have o:J.length=U.length+8:=by rw [<-l];show(U++_).length+7=_;rw [C]
  have B:J[6]? =some (.cell (.ref (U.length+7))):=by rw [<-l];rfl
  have O:J[U.length+7]? =some (.list ((a8 P.length e).map .int)):=by rw [<-l];exact G
  have gp:J[m+7]? =some (.list ((aI e).map λi=>.ref (w i+7))):=by rw [<-l];exact eu (g:=[aB.list ((a8 P.length e).map .int)]) H.wH
  have R:J[w i+7]? =some (aT q):=by rw [<-l];exact eu (g:=[aB.list ((a8 P.length e).map .int)]) (H.ft i q hq)
  refine ib (c:=6) rfl B rfl (kr O (by rw [bz];unfold a8;simp;exact yC j) (kQ (v:=.int ((P.length+i+1:Nat):Int)) (by rw [cm,B4 hi];rfl)) rfl (kr gp (yG j N) (kQ (v:=.ref (w i+7)) (by rw [cm,i5 hi];rfl)) rfl ?_));refine BP (L:=J.length) (R:=w i+7) (y:=q) (aQ hn ab) (pg _ _ _) (re _ _ _) (eu R) ?_;rw [B3];have e1:J++[aB.aZ 5 [.int u,.ref (w i+7),.int 0],aB.inst 5 J.length]=W4 (iT P (d.map λq=>aO u q 0) e i) S++((aT f:: .cell (.ref (mb+7)):: .cell (.ref (U.length+7))::(U++[.list ((a8 P.length e).map .int)]))++[aB.aZ 5 [.int u,.ref (w i+7),.int 0],aB.inst 5 J.length]):=by rw [<-l];rfl
  have M:q9 (J++[aB.aZ 5 [.int u,.ref (w i+7),.int 0],aB.inst 5 J.length]) 4 (J.length+1) u q 0:=(lT J.length (w i+7) (RW o) (u0 o ab) (ob ab) (re _ _ _) (pg _ _ _) (eu R))
  show az aA n 57 [.ref 0,.int ((P.length+i+1:Nat):Int),.ref (J.length+1)] (J++[aB.aZ 5 [.int u,.ref (w i+7),.int 0],aB.inst 5 J.length]) _ x
  rw [e1] at M⊢;refine BU (u:=u) (y:=q) (right:=0) (aQ hn ab) (by rw [D];exact Tw I) M (by have:=H.small;exact Fi Z) (by rw [D];exact Wd hi) (by rw [aoa (k:=i) a hi _ (by exact Fw)];decide) (hw q (cq hq)) ?_;have e2:(((P.length+i+1:Nat):Int)-1).toNat=P.length+i:=Fq (bp _);rw [e2,an9 a (by rw [cm,hq];rfl)];refine fH (V:=nw) (p:=(U++[aB.list ((a8 P.length e).map .int)]).length+7) (k:=K') (Y:=[.ref 0,.int u,.ref 4,.int E,.ref 5,.ref (m+7),A,.ref 6,.int i]) (W:=SL (iT P (d.map λq=>aO u q 0) e (i+1)) S f mb (.ref (U.length+7)) (U++[.list ((a8 P.length e).map .int)])) (g:=[aB.aZ 5 [.int u,.ref (w i+7),.int 0],aB.inst 5 J.length]) ?_ rfl ?_ (Q _ _ (cJ _ rfl rfl rfl))
  ·rw [C];show(bD 0 _&&(true&&(bD 4 _&&(true&&(bD 5 _&&(bD (m+7) _&&(bB _ A&&(bD 6 _&&true))))))))=true
   rw [bS.mpr (by exact vd ab),bS.mpr (by exact vd ab),bS.mpr (by exact vd ab),bS.mpr (by exact EX b),bS.mpr (by exact vd ab),ly (by exact FR ab) hv];rfl
  ·exact B5 rfl (by rw [C];exact h) (by rw [C];exact EX T) (bS.mpr (by rw [C];exact QY))
 ·intro Y J cx;refine cU cx λt V ch eY=> ?_;clear cx;obtain rfl:=ch;obtain rfl:=eY;exact F t
end
section
variable {n j:Nat} {J t:ae} {k:aa->ae->Prop} {x:bn} {P:List (List Int)} {S l f:List Int} {D:List (Int×Int)} {a u:Int} {y:List (List Int)} {right:Int}
variable {f s:List (List Int)} {d:List (List (List Int))} {U:ae} {m mb e:Nat} {w:Nat->Nat} {E:Int}
def dR (b:Nat) (s:List (List Int)):List (List Int):=(aI s.length).map λi=>f4 ((b+i+1:Nat):Int)++s.getD i []
theorem Mt {K:List aa->ae->Prop} {r:aa->ae->Prop} {A:aa} (hn:7 <= n) (hv:bB (U.length+7) A=true) (I:P.length+e <= 1000000) (Z:1 <= P.length) (H:Mq U m mb e w d s) (hw:∀q∈d,eB u q 0) (he:1 <= e) (z:s.length <= e) (G:∀q∈s,q.length <= 1000)
  (h:r (.ref (U.length+9)) (SL (P++d.map λq=>aO u q 0) S f mb (.ref (U.length+7)) (U++[.list ((a8 P.length e).map .int),aT (dR P.length s),.tup [.ref (U.length+8),.int ((P.length+e:Nat):Int)]]))):
  wa (az aA n) [.ref 0,.int u,.ref 4,.int E,.ref 5,.ref (m+7),A,.ref 6,.aR] (SL P S f mb .aR U) K r x:=by
 have T:=jT H.mid;have j:=H.small;have N:((aI e).map λi=>aa.ref (w i+7)).length=e:=by simp
 have rp:((a8 P.length e).map aa.int).length=e:=by unfold a8;simp
 have C:(U++[aB.list ((a8 P.length e).map .int)]).length=U.length+1:=by simp
 refine nF H.wH (yG j N) ?_;rw [N];refine Me (aQ hn ab) I ?_;refine aoc hn hv I Z H hw λt=> ?_;generalize ard:(P++d.map λq=>aO u q 0)=D at h⊢;dsimp only [ek,ga,gb,fN,hK,gc,la,k9,gT,hN,hY,hM,kK,lp,kJ,lq,Kj,ah,ar,aS,cG,aD,a0,cK,eS,e9,bf,bH,x0,aF,aW,bG,b7,cu,dw,c1,dZ,ey,au,bu,fM,fA,bj,fP,iP,bQ,oH,pu,oD,vL,gW];refine aJ ([6,5]) rfl (ib rfl rfl rfl (nF (by show(U++[aB.list ((a8 P.length e).map .int)])[mb]? =_;exact eu H.mid) (by rw [bz];exact Fa j) ?_));rw [bz];refine⟨by unfold gZ;dsimp only;exact Yg j,?_⟩;have M:(SL D S f mb (.ref (U.length+7)) (U++[.list ((a8 P.length e).map .int)])).length=U.length+8:=by show(U++_).length+7=_;rw [C]
 rw [M]
 have y:∀X:aB,SL D S f mb (.ref (U.length+7)) (U++[.list ((a8 P.length e).map .int)])++[X]=SL D S f mb (.ref (U.length+7)) (U++[.list ((a8 P.length e).map .int),X]):=λX=>by
  show W4 D S++(aT f:: .cell (.ref (mb+7)):: .cell (.ref (U.length+7))::(U++[.list ((a8 P.length e).map .int)]++[X]))=_
  rw [bX];rfl
 rw [y];refine By (λi Y J=>∃b,bB 5 b=true/\Y=[.ref 6,.ref 5,b]/\J=SL D S f mb (.ref (U.length+7)) (U++[.list ((a8 P.length e).map .int),.list (((aI i).map λi=>f4 (P.length+i+1:Nat)++s.getD i []).map .bytes)])) (cJ .aR rfl rfl rfl) ?_ ?_
 ·intro i Y J hi bC K' Q;refine cU bC λb hb q2 q3=> ?_;obtain rfl:=q2;obtain rfl:=q3;obtain⟨q,hq⟩:∃q,s[i]? =some q:=⟨s[i],bV hi⟩
  have c:=G q (cq hq);have R:s.getD i []=q:=by rw [da,hq];rfl
  dsimp only [ek,ga,gb,fN,hK,gc,la,k9,gT,hN,hY,hM,kK,lp,kJ,lq,gh,aU,aS,cG,aD,a0,cK,eS,e9,bf,bu,bH,x0,aF,aW,bG,b7,cu,dw,c1,dZ,ey,fM,fA,rM,rN];generalize B:(aI i).map (λi=>f4 (P.length+i+1:Nat)++s.getD i [])=k;have V:k.length=i:=by rw [<-B];simp
  generalize l:SL D S f mb (.ref (U.length+7)) (U++[.list ((a8 P.length e).map .int),.list (k.map .bytes)])=J;have are:∀{i:Nat} {o:aB},U[i]? =some o->J[i+7]? =some o:=λ{i o} h=>by rw [<-l];exact eu (L:=U) h
  have O:J[U.length+7]? =some (.list ((a8 P.length e).map .int)):=by rw [<-l];exact pg U ..
  have gl:J[U.length+8]? =some (.list (k.map .bytes)):=by rw [<-l];exact re U ..
  refine ib rfl (by rw [<-l];rfl) rfl ?_;dsimp only [ek,ga,gb,fN,gc,bH,x0,aF,aW,bG,b7,cu,dw,c1,dZ,ey,bu,bf,cG,aD,a0,cK,eS,e9,aS,aU,fM,fA];refine kr O (by rw [rp];exact yC j) (kQ (by rw [cm,B4 (by exact yy hi z)];rfl)) rfl ?_;dsimp only [ek,ga,gb,fN,gc,bH,x0,aF,aW,bG,b7,cu,dw,c1,dZ,ey,bu,bf,cG,aD,a0,cK,eS,e9,aS,aU,fM,fA];refine tc (aQ hn ab) (rZ) (Xl I hi z) ?_;dsimp only [ek,ga,gb,fN,gc,bH,x0,aF,aW,bG,b7,cu,dw,c1,dZ,ey,bu,bf,cG,aD,a0,cK,eS,e9,aS,aU,fM,fA];refine ib rfl (by rw [<-l];rfl) rfl ?_;dsimp only [ek,ga,gb,fN,gc,bH,x0,aF,aW,bG,b7,cu,dw,c1,dZ,ey,bu,bf,cG,aD,a0,cK,eS,e9,aS,aU,fM,fA];refine(kr (are H.mid) (by rw [bz];exact Fa j) (kQ (v:=aa.bytes q) (by rw [cm,hq];rfl)) rfl ⟨by rw [nD];exact yR c ab,tr gl (by rw [bz];exact Wr j hi V) ?_⟩)
  have e1:J.set (U.length+8) (.list (k.map aa.bytes++[.bytes (f4 (P.length+i+1:Nat)++q)]))=SL D S f mb (.ref (U.length+7)) (U++[.list ((a8 P.length e).map .int),.list (((aI (i+1)).map λi=>f4 (P.length+i+1:Nat)++s.getD i []).map .bytes)]):=by
   rw [<-l,m4,db,B,db];show W4 D S++(aT f:: .cell (.ref (mb+7)):: .cell (.ref (U.length+7))::(U++[aB.list ((a8 P.length e).map .int),aB.list (k.map .bytes)]).set (U.length+1) _)=_
   rw [i7 _ _ (by exact lX ab),ip];show _=W4 D S++(aT f:: .cell (.ref (mb+7)):: .cell (.ref (U.length+7))::(U++[.list ((a8 P.length e).map .int),.list (k.map .bytes++[aa.bytes (f4 (P.length+i+1:Nat)++s.getD i [])])]))
   rw [R];rfl
  rw [e1];have F:∀X:aB,(U++[aB.list ((a8 P.length e).map .int),X]).length=U.length+2:=λX=>by simp
  have:=fH (V:=AW) (p:=U.length+9) (Y:=[.ref 6,.ref 5,.int i]) (g:=[]) ?_ ?_ ?_ (Q _ _ (cJ _ rfl rfl rfl))
  ·rw [cO] at this;exact this
  ·show(bD 6 _&&(bD 5 _&&(true&&true)))=true
   rw [bS.mpr (by exact lY ab),bS.mpr (by exact lY ab)];rfl
  ·show(U++_).length+7=_;rw [F]
  ·refine B5 (by rw [F]) (ds (kn (by exact yK ab) H.cl) (by show(aL _ (.list _)&&(aL _ (.list _)&&true))=true;rw [et,eM];rfl)) (RV T) (bS.mpr (QD))
 ·intro Y J cx;refine cU cx λb hb ch eY=> ?_;clear cx;obtain rfl:=ch;obtain rfl:=eY;have O:(SL D S f mb (.ref (U.length+7)) (U++[.list ((a8 P.length e).map .int),aT (dR P.length s)]))[U.length+7]? =some (.list ((a8 P.length e).map .int)):=pg U ..;refine ib (J:=SL D S f mb (.ref (U.length+7)) (U++[.list ((a8 P.length e).map .int),aT (dR P.length s)])) rfl rfl rfl (kr O (by rw [rp];exact yC j) (wF (a:=.int (P.length+e:Nat)) ?_) rfl ⟨bg rfl,?_⟩)
  ·unfold a8;obtain⟨W,rfl⟩:∃W,e=W+1:=⟨e-1,yt (ay ..) he⟩
   rw [m4];simp;first|exact Vi|exact congrArg _ Vi
  ·have e5:∀X:aB,SL D S f mb (.ref (U.length+7)) (U++[.list ((a8 P.length e).map .int),aT (dR P.length s)])++[X]=SL D S f mb (.ref (U.length+7)) (U++[.list ((a8 P.length e).map .int),aT (dR P.length s),X]):=λX=>by
    show W4 D S++(aT f:: .cell (.ref (mb+7)):: .cell (.ref (U.length+7))::(U++[.list ((a8 P.length e).map .int),aT (dR P.length s)]++[X]))=_
    rw [bX];rfl
   have e6:(SL D S f mb (.ref (U.length+7)) (U++[.list ((a8 P.length e).map .int),aT (dR P.length s)])).length=U.length+9:=by
    show(U++_).length+7=_;simp
   rw [e5,e6];exact h
end
section
variable {n j:Nat} {J t:ae} {k:aa->ae->Prop} {x:bn} {P:List (List Int)} {S l f:List Int} {D:List (Int×Int)} {a u:Int} {y:List (List Int)} {right:Int}
variable {f s:List (List Int)} {d:List (List (List Int))} {U:ae} {m mb e:Nat} {w:Nat->Nat} {E:Int}
theorem aod (a b:Nat):dG [a,b] a=some 0:=by
 unfold dG fO;rw [if_pos (uk a)]
theorem aoe {a b:Nat} (h:a≠b):dG [a,b] b=some 1:=by
 unfold dG fO fO;rw [if_neg (λe=>h (ug e)),if_pos (uk b)]
theorem Mu {D l:List (List Int)} {b:Int} {a:aa} {o:aB} (C:∀i∈[j],4 <= i) (g:cM (cL (aI 4++[j])) (W4 P S++t) [j] [aT f]) (h:k (.ref ((W4 P S++t).length+0)) (W4 D S++t++[.tup [.ref ((W4 P S++t).length+1),.int b],aT l])):
  dx k (aI 4++[j]) (W4 P S++t) (.ref (U.length+9)) (SL D S f mb a (U++[o,aT l,.tup [.ref (U.length+8),.int b]])):=by
 haveI c:SL D S f mb a (U++[o,aT l,.tup [.ref (U.length+8),.int b]])=W4 D S++[aT f]++(.cell (.ref (mb+7)):: .cell a::(U++[o,aT l,.tup [.ref (U.length+8),.int b]])):=rfl
 haveI s:(SL D S f mb a (U++[o,aT l,.tup [.ref (U.length+8),.int b]]))[U.length+8]? =some (aT l):=by
  show(U++_)[U.length+1]? =_
  rw [eE (by exact lX ab),ip];rfl
 haveI O:(SL D S f mb a (U++[o,aT l,.tup [.ref (U.length+8),.int b]]))[U.length+9]? =some (.tup [.ref (U.length+8),.int b]):=by
  show(U++_)[U.length+2]? =_
  rw [eE (by exact lX ab),ip];rfl
 haveI d:cY (aI 4++[j]) [U.length+9,U.length+8] (W4 P S++t).length (U.length+8)=some ((W4 P S++t).length+1):=by
  unfold cY;rw [aoe (by exact QE)];rfl
 haveI e:cY (aI 4++[j]) [U.length+9,U.length+8] (W4 P S++t).length (U.length+9)=some ((W4 P S++t).length+0):=by
  unfold cY;rw [aod];rfl
 rw [c] at s O⊢;refine Mp (l:=[U.length+9,U.length+8]) (by simp) ?_ rfl rfl (cg) gK C g ?_
 ·exact Mo.am ⟨⟨ob ab,jT O⟩,⟨ob ab,jT s⟩,trivial⟩
 ·show k (match cY _ _ _ (U.length+9) with|some i=>aa.ref i|none=>.dW) (W4 D S++t++[mo _ ((W4 D S++[aT f]++_).getD (U.length+9) .dead),mo _ ((W4 D S++[aT f]++_).getD (U.length+8) .dead)])
  rw [e,da,da,s,O];show k _ (W4 D S++t++[.tup [(match cY _ _ _ (U.length+8) with|some i=>aa.ref i|none=>.dW),.int b],mo _ (aT l)])
  rw [d,gJ];exact h
theorem jU (a:(W4 P S++t)[j]? =some (aT f)):cM (cL (aI 4++[j])) (W4 P S++t) [j] [aT f]:=.cons (by rw [gJ];exact a) .nil
theorem aof {A:List (List Int)} {b c:List Int} (a:8 <= n) (u:4 <= j) (f:(W4 P S++t)[j]? =some (aT (A++[b]++[c]))) (g:∀r∈A++[b]++[c],r.length <= 1000) (v:A.length <= 1000) (o:cH (A++[b]) <= 56) (y:56<cH (A++[b]++[c])) (z:cH [c] <= 56) (I:P.length <= 900000) (Z:1 <= P.length)
  (h:k (.ref ((W4 P S++t).length+0)) (W4 (P++[aO 10 A 0,aO 10 [c] 0]) S++t++[.tup [.ref ((W4 P S++t).length+1),.int ((P.length+2:Nat):Int)],aT (dR P.length [b])])):az aA n 63 [.ref 0,.int 10,.ref j] (W4 P S++t) k x:=by
 haveI C:∀i∈[j],4 <= i:=λi p=>by rw [dj] at p;exact p5 u p
 haveI Q:=by
  haveI:=pe A b;haveI:=to b;exact F4 this (by assumption) o (ab)
 refine jn (H:=[.ref 0,.int 10,.ref 4]) [j] (F:=AZ) rfl rfl (aQ a ab) rfl rfl (ds (cg) gK) (cg) rfl fm C (jU f)
  (bv rfl rfl (mv (aM (ay ..) a ab) ∅ ⟨bg rfl,Mg (aM (ay ..) a ab) rfl g v o y ⟨rfl,?_⟩⟩))
 refine Mt (A:=.aR) (U:=[.list [],.tup [.ref 9,.ref 10],.list [.ref 11,.ref 12],.list [.bytes b],aT A,aT [c]]) (m:=2) (mb:=3) (e:=2) (w:=λi=>4+i) (d:=[A,[c]]) (s:=[b]) (aM (ay ..) a ab) rfl (kE I ab) Z ⟨rfl,rfl,?_,rfl,?_,∅,bg rfl⟩ ?_ ∅ (by simp) ?_ ?_
 ·exact λi q hq=>rT (P:=λi q=>([.list [],.tup [.ref 9,.ref 10],.list [.ref 11,.ref 12],.list [.bytes b],aT A,aT [c]]:ae)[4+i]? =some (aT q)) (l:=[A,[c]]) ⟨rfl,rfl,trivial⟩ i q hq
 ·show(true&&(true&&(true&&(true&&(aL _ (aT A)&&(true&&true))))))=true
  rw [eM];rfl
 ·exact Mo.am (bv ⟨Q,∅,∅⟩ ⟨z,∅,∅⟩ trivial)
 ·intro q hq;rw [dj] at hq;subst hq;exact g q (by simp)
 ·exact Mu C (jU f) h
theorem aog {y:List (List (List Int))} {r:List (List Int)} (h:r∈y):r.length <= y.flatten.length:=by
 induction y with
 |nil=>cases h
 |cons q y B=>
  rw [i6,a9];cases h with
  |head=>exact kb
  |tail _ h=>haveI:=B h;exact EL this
def f3 (q:List (List Int)):List Int:=[bK (q.getLastD []) 1]
theorem aoh {d:Type} (l:List d) (h:l≠[]):dK l none (some (-1))=l.dropLast:=by
 rw [xE];rfl
structure B6 (r:List Int):Prop where
 eL:d6 r
 two:2 <= r.length
 B7:bK r 0<128
 wI:bK r 1<128
 len:r.length <= 1000
 cost:eX r <= 56
theorem aoi {e i:Nat} {f:Nat->aa} (h:i<e-1):((aI e).map f).dropLast[i]? =some (f i):=by
 rw [xE,List.getElem?_take,if_pos (by simpa using h),cm,i5 (by exact EJ (ay ..) h)];rfl
theorem aoj {y:List (List Int)} (hn:8 <= n) (i3:4 <= j) (hj:(W4 P S++t)[j]? =some (aT y)) (hl:∀r∈y,B6 r) (hm:y.length <= 100) (bN:y≠[]) (I:P.length <= 900000) (Z:1 <= P.length)
  (h:∀d,tq y 56 d->k (.ref ((W4 P S++t).length+0)) (W4 (P++d.map λq=>aO 13 q 0) S++t++[.tup [.ref ((W4 P S++t).length+1),.int ((P.length+d.length:Nat):Int)],aT (dR P.length (d.dropLast.map f3))])):az aA n 63 [.ref 0,.int 13,.ref j] (W4 P S++t) k x:=by
 have C:∀i∈[j],4 <= i:=λi hi=>by rw [dj] at hi;exact p5 i3 hi
 refine jn (H:=[.ref 0,.int 13,.ref 4]) (p:=4) [j] rfl rfl (aQ hn ab) rfl rfl (ds (cg) gK) (cg) rfl fm C (jU hj)
  (bv rfl rfl (mv (aM (ay _ _) hn ab) ∅ ⟨bg rfl,an5 (aM (ay _ _) hn ab) rfl (λr hr=>⟨(hl r hr).len,(hl r hr).cost⟩) (bE hm ab) bN ∅ λd H=> ?_⟩))
 have hk:=h d H;have he:1 <= d.length:=k4.mpr H.ne
 have u:d.length <= 100:=by
  have h2:∀Q:List (List (List Int)),(∀p∈Q,p≠[])->Q.length <= Q.flatten.length:=by
   intro Q;induction Q with
   |nil=>intro _;exact dA _
   |cons p R B=>
    intro h;have h1:=B λp hp=>h p (.tail _ hp);have h3:=k4.mpr (h p (.head _));rw [i6,a9,kZ];exact yD h3 h1
  have:=h2 d H.full;rw [H.flat] at this;exact sb hm this ab
 generalize Da:(dx k (aI 4++[j]) (W4 P S++t))=E;generalize arf:(λ(m:Nat) (z:ae)=>x m (c5 (aI 4++[j]) [] (W4 P S++t) z))=XX;show AV (az aA (n-1)) [.ref 0,.int 13,.ref 4,.int 56,.ref 5,.ref 8,.aR,.ref 6,.aR] (SL P S y 0 .aR (.list []:: .list ((aI d.length).map λi=>aa.ref (8+(1+i)))::d.map aT)) (λY J=>wa (az aA (n-1)) Y J (λ_ z=>E .none z) E XX) E XX
 have arh:((aI d.length).map λi=>aa.ref (8+(1+i)))=(aI d.length).map λi=>aa.ref ((2+i)+7):=gQ λi _=>by congr 1;exact RE
 rw [arh]
 have c:((aI d.length).map λi=>aa.ref ((2+i)+7)).all (bB (d.length+9))=true:=by
  rw [dc];intro a ha;refine aw (dz.mp ha) λi hi q2=> ?_;obtain rfl:=q2;have:=gr.mp hi;exact bS.mpr (SF this)
 have ari:(d.map aT).all (aL 0)=true:=by
  rw [dc];intro o ho;obtain⟨q,_,rfl⟩:=dz.mp ho;exact eM
 have w:∀i,i<d.length-1->((aI d.length).map λi=>aa.ref ((2+i)+7)).dropLast[i]? =some (.ref ((2+i)+7)):=λi hi=>aoi hi;generalize W:((aI d.length).map λi=>aa.ref ((2+i)+7))=s at c w⊢;have N:s.length=d.length:=by rw [<-W];simp
 have arj:=k4.mp (R9 he N)
 have ark:s.dropLast.all (bB (d.length+9))=true:=by
  rw [dc] at c⊢;exact λa ha=>c a (O8 _ ha)
 have X:∀M:List (List Int),(aB.list (M.map .bytes):: .list s::(d.map aT++[.list s.dropLast])).all (aL (d.length+9))=true:=λM=>by
  show(aL _ (aT M)&&(s.all (bB _)&&(d.map aT++[aB.list s.dropLast]).all (aL _)))=true
  rw [eM,c,ds (kn (by exact ob ab) ari) (by show(s.dropLast.all (bB _)&&true)=true;rw [ark];rfl)];rfl
 have T:∀M:List (List Int),(aB.list (M.map .bytes):: .list s::(d.map aT++[.list s.dropLast])).length=d.length+3:=λM=>by simp
 have U:∀(M:List (List Int)) i q,d[i]? =some q->(aB.list (M.map .bytes):: .list s::(d.map aT++[.list s.dropLast]))[2+i]? =some (aT q):=λM i q hq=>by
  rw [xS 2 i];show(d.map aT++[aB.list s.dropLast])[i]? =_
  exact eu (by rw [cm,hq];rfl)
 have fV:∀q∈d,∀r∈q,r∈y:=λq hq r hr=>by rw [<-H.flat];exact n4.mpr (aJ q hq hr)
 have bW:∀A,bB (d.length+10) A=true->wa (az aA (n-1)) [.ref 0,.int 13,.ref 4,.int 56,.ref 5,.ref 8,A,.ref 6,.aR] (SL P S y 0 .aR (.list ((d.dropLast.map f3).map .bytes):: .list s::(d.map aT++[.list s.dropLast]))) (λ_ z=>E .none z) E XX:=by
  intro A hv;refine Mt (aM (ay _ _) hn ab) (by rw [T];exact hv) (by exact u9 u I ab) Z ⟨by rw [<-W];rfl,rfl,U _,rfl,?_,by simp;exact SC u⟩ ?_ he (by simp) ?_ ?_
  ·rw [T];exact kn (by exact FR ab) (X _)
  ·exact λq hq=>⟨H.fit q hq,∅,∅⟩
  ·intro q hq;obtain⟨p,_,rfl⟩:=dz.mp hq;exact bg rfl
  ·rw [<-Da];exact Mu C (jU hj) hk
 dsimp only [AV,jO,gB,G0,GZ,GY,ek,iN,fF,gW,au,bH,x0,aF,aW,bG,b7,cu,dw,c1,dZ,ey,fM,fA];refine an6 (J:=SL P S y 0 .aR (.list []:: .list s::d.map aT)) (b:=8) rfl (eG N u ab) ?_;rw [aoh s arj];have hL:(SL P S y 0 .aR (.list []:: .list s::d.map aT)).length=d.length+9:=by show(d.map aT).length+9=_;rw [bz]
 have O:(SL P S y 0 .aR (.list []:: .list s::d.map aT)++[aB.list s.dropLast])[d.length+9]? =some (.list s.dropLast):=by rw [<-hL];exact pf _ _
 have N4:∀M:List (List Int),(SL P S y 0 .aR (.list (M.map .bytes):: .list s::(d.map aT++[.list s.dropLast]))).length=d.length+10:=λM=>by
  show(d.map aT++[aB.list s.dropLast]).length+9=_
  rw [a9,bz];rfl
 rw [hL];refine tp O ?_;show ∃f,gC nw (kM (d.length+9)) 6 (ah (AU (az aA (n-1))) ar) (SL P S y 0 .aR (aT []:: .list s::(d.map aT++[.list s.dropLast]))).length f 0 [.ref 0,.int 13,.ref 4,.int 56,.ref 5,.ref 8,.aR,.ref 6,.aR] (SL P S y 0 .aR (aT []:: .list s::(d.map aT++[.list s.dropLast]))) _ _ _
 rw [N4];have N5:s.dropLast.length=d.length-1:=by rw [O9,N]
 refine mq (l:=s.dropLast) (λi Y J=>∃A,bB (d.length+10) A=true/\Y=[.ref 0,.int 13,.ref 4,.int 56,.ref 5,.ref 8,A,.ref 6,.aR]/\J=SL P S y 0 .aR (aT ((d.take i).map f3):: .list s::(d.map aT++[.list s.dropLast]))) ?_ (cJ .aR rfl rfl rfl) ?_ ?_
 ·intro i Y J bC;refine cU bC λA V ch q3=> ?_;clear bC;obtain rfl:=ch;obtain rfl:=q3;show(d.map aT++[aB.list s.dropLast])[d.length]? =_
  rw [eE (by simp)];simp
 ·intro i v Y J hv cx K F;refine cU cx λA V ee eY=> ?_;clear cx;obtain rfl:=ee;obtain rfl:=eY;have hi:=jT hv;rw [N5] at hi;have ev:=by rw [w i hi] at hv;exact(bl hv).symm
  subst ev;obtain⟨q,hq⟩:∃q,d[i]? =some q:=⟨d[i],bV (EJ (ay _ _) hi)⟩
  have L:=cq hq
  obtain⟨r,hr⟩:∃r,q.getLast?=some r:=by
   induction e:q.getLast? with
   |none=>exact(H.full q L (List.getLast?_eq_none_iff.mp e)).elim
   |some r=>exact⟨r,rfl⟩
  have G:=hl r (fV q L r (Pa hr));have arl:f3 q=[bK r 1]:=by unfold f3;rw [Pb,hr];rfl
  have D:q.length <= 1000:=by
   have h1:=aog L;rw [H.flat] at h1;exact sb hm h1 ab
  dsimp only [ek,ga,gb,fN,hK,gc,la,k9,gT,hN,hY,hM,kK,lp,kJ,lq,AU,ah,ar,cA,df,aS,cG,aD,a0,cK,eS,e9,bf,bH,x0,aF,aW,bG,b7,cu,dw,c1,dZ,ey,au,gW,bu,fM,fA,rM,rN];refine ib rfl rfl rfl ?_;refine⟨trivial,kr (U _ i q hq) (by rw [bz];exact bE D ab) (wF (by rw [List.getLast?_map,hr];rfl)) rfl (anM (aM (ay _ _) hn ab) G.eL G.two G.B7 G.wI (BN (aM (ay _ _) hn ab) (G.eL.at 1).1 G.wI ?_))⟩;dsimp only [ek,ga,gb,fN,gc,kJ,bf];refine tr rfl (by simp;exact yS (ew _ _) u ab) ?_;have e6:((d.take i).map f3).map aa.bytes++[.bytes [bK r 1]]=((d.take (i+1)).map f3).map .bytes:=by rw [gO hq,<-arl];simp
  rw [e6];have:=fH (V:=nw) (g:=[]) ?_ (N4 _) ?_ (F _ _ ⟨.ref ((2+i)+7),bS.mpr (Fb (ay _ _) hi),rfl,rfl⟩)
  ·rw [cO] at this;exact this
  ·show(bD 0 _&&(true&&(bD 4 _&&(true&&(bD 5 _&&(bD 8 _&&(bD ((2+i)+7) _&&(bD 6 _&&(true&&true)))))))))=true
   rw [bS.mpr (by exact lY ab),bS.mpr (by exact lY ab),bS.mpr (by exact lY ab),bS.mpr (by exact lY ab),bS.mpr (by exact Fb (ay _ _) hi),bS.mpr (by exact lY ab)];rfl
  ·exact B5 (by rw [T]) (kn (by exact yK ab) (X _)) (QH) rfl
 ·intro Y J eQ;obtain⟨A,V,rfl,rfl⟩:=eQ;rw [N5];have:=bW A V;rw [xE] at this;exact this
end
section
variable {n j:Nat} {J t:ae} {k:aa->ae->Prop} {x:bn} {P:List (List Int)} {S l f:List Int} {D:List (Int×Int)} {a u:Int} {y:List (List Int)} {right:Int}
theorem aok {V:bb} {d p:Nat} {em:iO} {e:List aa->ae->Prop} {Y:List aa} {a b c v:Int} {f i:Nat} (h:(dv a b c)[i]? =some v) (g:em (Y.set d (.int v)) J (d5 V p λY J=>gD V (fZ a b c) d none em p f (i+1) Y J e)):gD V (fZ a b c) d none em p (f+1) i Y J e:=by
 show je ((dv a b c)[i]?.map aa.int) ..
 rw [h];exact g
theorem aol {V:bb} {e p:Nat} {em:iO} {d:List aa->ae->Prop} {Y:List aa} {a b c:Int} {f i:Nat} (h:(dv a b c)[i]? =none) (g:d Y J):gD V (fZ a b c) e none em p (f+1) i Y J d:=by
 show je ((dv a b c)[i]?.map aa.int) ..
 rw [h];exact g
theorem Mv {l:List Int} (h:d6 l) (i:Int):b8 l i<4294967296:=by
 exact WX (oZ h i) (oZ h (i+2))
theorem B8 {P:List (List Int)} {q:List Int} {r:List (List Int)} {i:Int} (h:i=P.length+1):aE (P++q::r) i=q:=by
 unfold aE;haveI e:(i-1).toNat=P.length:=Fs (bp _) h;rw [e,da,eE (dA _),iF];rfl
theorem aom {A:List (List Int)} {b c:List Int} (hn:8 <= n) (i3:4 <= j) (hj:(W4 P S++t)[j]? =some (aT (A++[b]++[c]))) (hl:∀r∈A++[b]++[c],r.length <= 1000) (hm:A.length <= 1000) (h1:cH (A++[b]) <= 52) (h2:52<cH (A++[b]++[c])) (hc:cH [c] <= 52) (hb:d6 b) (N6:4 <= b.length) (hr:0 <= right/\right<4294967296) (I:P.length <= 900000) (Z:1 <= P.length)
  (h:k (.ref ((W4 P S++t).length+0)) (W4 (P++[aO 5 A (b8 b 0),aO 5 [c] right]) S++t++[.tup [.ref ((W4 P S++t).length+1),.int ((P.length+2:Nat):Int)],aT [f4 ((P.length+1:Nat):Int)++b.drop 4]])):az aA n 64 [.ref 0,.int 5,.ref j,.int right] (W4 P S++t) k x:=by
 have C:∀i∈[j],4 <= i:=λi hi=>by rw [dj] at hi;exact p5 i3 hi
 have Q:=by have:=pe A b;have:=to b;exact F4 this (by assumption) h1 (ab)
 have v:=hl b (by simp);have w1:eB 5 A (b8 b 0):=⟨Q,∅,Lr hb 0,Mv hb 0⟩
 have w2:eB 5 [c] right:=⟨hc,∅,hr⟩
 refine jn (H:=[.ref 0,.int 5,.ref 4,.int right]) (p:=4) [j] rfl rfl (aQ hn ab) rfl rfl (ds (cg) gK) (cg) rfl fm C (jU hj)
  (bv rfl rfl (mv (aM (ay _ _) hn ab) ∅ (Mg (aM (ay _ _) hn ab) rfl hl hm h1 h2 ⟨rfl,⟨bg rfl,Me (aM (ay _ _) hn ab) (kE I ab) ?_⟩⟩)))
 generalize Da:(dx k (aI 4++[j]) (W4 P S++t))=E;generalize arf:(λ(m:Nat) (z:ae)=>x m (c5 (aI 4++[j]) [] (W4 P S++t) z))=XX;show wc (az aA (n-1)) [.ref 0,.int 5,.ref 4,.int right,.ref 8,.ref 5,.ref 6,.aR,.aR] (W4 (P++[cN,cN]) S++([aT (A++[b]++[c]),.cell (.ref 9),.cell (.ref 12),.tup [.ref 8,.ref 9],.list [.ref 10,.ref 11],.list [.bytes b],aT A,aT [c],.list ((a8 P.length 2).map .int)]:ae)) (λY J=>ah (wb (az aA (n-1))) ar Y J (λ_ z=>E .none z) E XX) E XX
 generalize y:([aT (A++[b]++[c]),.cell (.ref 9),.cell (.ref 12),.tup [.ref 8,.ref 9],.list [.ref 10,.ref 11],.list [.bytes b],aT A,aT [c],.list ((a8 P.length 2).map .int)]:ae)=T
 have arm:T.all (aL 13)=true:=by
  rw [<-y];show(aL 13 (aT _)&&(true&&(true&&(true&&(true&&(true&&(aL 13 (aT _)&&(aL 13 (aT _)&&true))))))))=true
  rw [eM,eM,eM];rfl
 have H:∀W:List (List Int),(W4 W S++T).length=13:=λW=>by rw [<-y];rfl
 have N7:∀W:List (List Int),(W4 W S++T).all (aL 13)=true:=λW=>ds (cg) arm;have g5:∀W:List (List Int),(W4 W S++T)[5]? =some (.cell (.ref 9)):=λW=>by rw [<-y];rfl
 have B:∀W:List (List Int),(W4 W S++T)[6]? =some (.cell (.ref 12)):=λW=>by rw [<-y];rfl
 have s:∀W:List (List Int),(W4 W S++T)[8]? =some (.list [.ref 10,.ref 11]):=λW=>by rw [<-y];rfl
 have O:∀W:List (List Int),(W4 W S++T)[9]? =some (.list [.bytes b]):=λW=>by rw [<-y];rfl
 have N8:∀W:List (List Int),(W4 W S++T)[12]? =some (.list ((a8 P.length 2).map .int)):=λW=>by rw [<-y];rfl
 have R:∀(W:List (List Int)) a q,[A,[c]][a]? =some q->(W4 W S++T)[10+a]? =some (aT q):=λW a q hq=>rT (P:=λa q=>(W4 W S++T)[10+a]? =some (aT q)) (l:=[A,[c]]) ⟨by rw [<-y];rfl,by rw [<-y];rfl,trivial⟩ a q hq
 have bW:ah (wb (az aA (n-1))) ar [.ref 0,.int 5,.ref 4,.int right,.ref 8,.ref 5,.ref 6,.int 1,.int right] (W4 (P++[aO 5 A (b8 b 0),aO 5 [c] right]) S++T) (λ_ z=>E .none z) E XX:=by
  have lK:E (.ref 14) (W4 (P++[aO 5 A (b8 b 0),aO 5 [c] right]) S++T++[aT [f4 ((P.length+1:Nat):Int)++b.drop 4],.tup [.ref 13,.int ((P.length+2:Nat):Int)]]):=by
   rw [<-y,<-Da];refine Mp (W':=W4 (P++[aO 5 A (b8 b 0),aO 5 [c] right]) S) (V:=[aT (A++[b]++[c])]) (l:=[14,13]) ∅ ?_ rfl rfl (cg) gK C (jU hj) h;exact Mo.am (bv ⟨bg rfl,bg rfl⟩ ⟨bg rfl,bg rfl⟩ trivial)
  generalize ard:P++[aO 5 A (b8 b 0),aO 5 [c] right]=D at lK⊢;have d:=H D;have N9:=N7 D;have h5:=g5 D;have G:=B D;have f:=O D;have e:=N8 D;generalize W4 D S++T=L at lK d N9 h5 G f e⊢;dsimp only [ek,ga,gb,fN,hK,gc,la,k9,gT,hN,hY,hM,kK,lp,kJ,lq,wb,ah,ar,aS,cG,aD,a0,cK,eS,e9,bf,bH,x0,aF,aW,bG,b7,cu,dw,c1,dZ,ey,au,bu,fM,fA,bj,fP,iP,bQ,oH,pu,oD,vL,gW];refine aJ ([6,5]) rfl (ib rfl h5 rfl (nF f (bg rfl) ⟨(by show gZ (0,1,1);unfold gZ;decide),?_⟩));rw [d];have xk:∀X:aB,(L++[X])[13]? =some X:=λX=>by rw [<-d];exact pf _ _
  have r0:(dv 0 (([aa.bytes b].length:Nat):Int) 1)[0]? =some 0:=Lo (m:=1) ∅;have N:=Lp (m:=1);refine⟨0+1+1,aok r0 ?_⟩;show gh _ 13 [.ref 6,.ref 5,.int 0] (L++[.list []]) (d5 _ _ λY J=>gD A1 (fZ 0 (([aa.bytes b].length:Nat):Int) 1) 2 none _ 14 (0+1) (0+1) Y J _)
  dsimp only [ek,ga,gb,fN,hK,gc,la,k9,gT,hN,hY,hM,kK,lp,kJ,lq,gh,aS,cG,aD,a0,cK,eS,e9,bf,bH,x0,aF,aW,bG,b7,cu,dw,c1,dZ,ey,bu,fM,fA];refine ib rfl (eu h5) rfl (kr (eu f) (bg rfl) (kQ rfl) rfl ?_);dsimp only [ek,ga,gb,fN,gc,og,gT,hK,hY,hM,hN,bH,x0,aF,aW,bG,b7,cu,dw,c1,dZ,ey,bu,bf,cG,aD,a0,cK,eS,e9,aS,aU,fM,fA];refine ib rfl (eu G) rfl ?_;dsimp only [ek,ga,gb,fN,gc,og,gT,hK,hY,hM,hN,bH,x0,aF,aW,bG,b7,cu,dw,c1,dZ,ey,bu,bf,cG,aD,a0,cK,eS,e9,aS,aU,fM,fA];refine kr (eu e) (bg rfl) (kQ rfl) rfl ?_;dsimp only [ek,ga,gb,fN,gc,og,gT,hK,hY,hM,hN,bH,x0,aF,aW,bG,b7,cu,dw,c1,dZ,ey,bu,bf,cG,aD,a0,cK,eS,e9,aS,aU,fM,fA];refine(anL (aM (ay _ _) hn ab) v N6 (iJ ab) (yU I ab) (tr (xk _) (bg rfl) ?_))
  have arn:(L++[aB.list []]).set 13 (.list ([]++[aa.bytes (f4 ((P.length+1:Nat):Int)++b.drop 4)]))=L++[aT [f4 ((P.length+1:Nat):Int)++b.drop 4]]:=by
   rw [i7 _ _ (by exact nf d ab),d];rfl
  rw [arn];rw [<-cO (L++[aT [f4 ((P.length+1:Nat):Int)++b.drop 4]])];refine fH rfl (by rw [a9,d];rfl) (ds (kn ∅ N9) gK) (aol N ?_);refine ib rfl (eu G) rfl (kr (eu e) (bg rfl) (wF rfl) rfl ⟨bg rfl,?_⟩);have aro:(L++[aT [f4 ((P.length+1:Nat):Int)++b.drop 4]]).length=14:=by rw [a9,d];rfl
  rw [aro,bX];exact lK
 have wr:∀(K:List aa->ae->Prop) (a:Nat) (W:List (List Int)) (q:List (List Int)) (u:Int),a<2->[A,[c]][a]? =some q->W.length=P.length+2->(aE W (P.length+a+1)).length=64->eB 5 q u->K [.ref 0,.int 5,.ref 4,.int right,.ref 8,.ref 5,.ref 6,.int a,.int u] (W4 (W.set (P.length+a) (aO 5 q u)) S++T)->
   ah (A0 (az aA (n-1))) ar [.ref 0,.int 5,.ref 4,.int right,.ref 8,.ref 5,.ref 6,.int a,.int u] (W4 W S++T) (d5 s9 13 K) E XX:=by
  intro K a W q u Db hq w U hw F;have arp:((P.length+a+1:Nat):Int)=P.length+a+1:=Fw;have o:=R W a q hq;have arq:[aa.ref 10,.ref 11][a]? =some (.ref (10+a)):=P7 (P:=λa=>[aa.ref 10,.ref 11][a]? =some (.ref (10+a))) Db rfl rfl;have d:=H W;have G:=B W;have g:=s W;have e:=N8 W;have e1:W4 W S++T++[aB.aZ 5 [.int 5,.ref (10+a),.int u],aB.inst 5 13]=W4 W S++(T++[aB.aZ 5 [.int 5,.ref (10+a),.int u],aB.inst 5 13]):=bX ..;generalize hL:W4 W S++T=L at*;dsimp only [ek,ga,gb,fN,hK,gc,la,k9,gT,hN,hY,hM,kK,lp,kJ,lq,A0,ah,ar,cA,jl,aS,cG,aD,a0,cK,eS,e9,bf,bH,x0,aF,aW,bG,b7,cu,dw,c1,dZ,ey,au,bu,fM,fA];refine ib rfl G rfl (kr e (bg rfl) (kQ (by rw [cm,B4 Db];rfl)) rfl (kr g (bg rfl) (kQ arq) rfl ?_));refine BP (aM (ay _ _) hn ab) (pg _ _ _) (re _ _ _) (eu o) ?_;rw [B3];have M:q9 (L++[aB.aZ 5 [.int 5,.ref (10+a),.int u],aB.inst 5 L.length]) 4 (L.length+1) 5 q u:=(lT L.length (10+a) (Rd d) (FO d ab) (vc ab) (re _ _ _) (pg _ _ _) (eu o))
  show az aA (n-1) 57 [.ref 0,.int ((P.length+a+1:Nat):Int),.ref (L.length+1)] (L++[aB.aZ 5 [.int 5,.ref (10+a),.int u],aB.inst 5 L.length]) _ XX
  rw [d] at M⊢;rw [e1] at M⊢;refine BU (aM (ay _ _) hn ab) (sd w I ab) M (Fi Z) (Ww Db w) (by rw [arp,U];decide) hw ?_;have e2:(((P.length+a+1:Nat):Int)-1).toNat=P.length+a:=Fq (bp _);rw [e2,<-bX];exact fH rfl (H _) (N7 _) F
 show wc (az aA (n-1)) [.ref 0,.int 5,.ref 4,.int right,.ref 8,.ref 5,.ref 6,.aR,.aR] (W4 (P++[cN,cN]) S++T) _ E XX
 dsimp only [wc,jk,pu,bQ,cG,aD,a0,cK,eS,e9,bf,bH,x0,aF,aW,bG,b7,cu,dw,c1,dZ,ey,fM,fA];refine nF (s _) (bg rfl) ⟨by unfold gZ;decide,?_⟩;rw [H];refine⟨0+1+1+1,oY rfl ?_⟩;dsimp only [ek,ga,gb,fN,hK,gc,la,k9,gT,hN,hY,hM,kK,lp,kJ,lq,Km,Kl,Kk,ah,ar,bc,bY,bi,bQ,aS,bu,cG,aD,a0,cK,eS,e9,bf,bH,x0,aF,aW,bG,b7,cu,dw,c1,dZ,ey,fM,fA,rM,rN];have z2:(P++[cN,cN]).length=P.length+2:=by simp
 refine ib rfl (g5 _) rfl (nF (O _) (bg rfl) ?_);dsimp only [h7,jM,cp,lh,hM,hN,hK,gT,bc,ah,ar,aS,bu,bH,x0,aF,aW,bG,b7,cu,dw,c1,dZ,ey,cG,aD,a0,cK,eS,e9,bf,hY,ek,fM,fA,rM,rN];refine eH (decide_eq_true (by show(0:Int)<1;decide)) (ib rfl (g5 _) rfl ?_);dsimp only [ek,ga,gb,fN,gc,og,gT,hK,hY,hM,hN,bH,x0,aF,aW,bG,b7,cu,dw,c1,dZ,ey,bu,bf,cG,aD,a0,cK,eS,e9,aS,aU,fM,fA];refine kr (O _) (bg rfl) (kQ rfl) rfl ?_;dsimp only [ek,ga,gb,fN,gc,og,gT,hK,hY,hM,hN,bH,x0,aF,aW,bG,b7,cu,dw,c1,dZ,ey,bu,bf,cG,aD,a0,cK,eS,e9,aS,aU,fM,fA];refine anJ (aM (ay _ _) hn ab) hb N6 ?_;refine wr _ 0 (P++[cN,cN]) A (b8 b 0) ∅ rfl z2 (by rw [B8 (by exact Uv)];rfl) w1 ?_
 have s1:(P++[cN,cN]).set (P.length+0) (aO 5 A (b8 b 0))=P++[aO 5 A (b8 b 0),cN]:=by
  rw [i7 _ _ (by exact lX ab),Nat.add_zero,iF];rfl
 rw [s1];refine oY rfl ?_;dsimp only [ek,ga,gb,fN,hK,gc,la,k9,gT,hN,hY,hM,kK,lp,kJ,lq,ah,ar,bc,bY,bi,bQ,aS,bu,cG,aD,a0,cK,eS,e9,bf,bH,x0,aF,aW,bG,b7,cu,dw,c1,dZ,ey,fM,fA,rM,rN];refine ib rfl (g5 _) rfl (nF (O _) (bg rfl) ?_);dsimp only [h7,jM,cp,lh,hM,hN,hK,gT,bc,ah,ar,aS,bu,bH,x0,aF,aW,bG,b7,cu,dw,c1,dZ,ey,cG,aD,a0,cK,eS,e9,bf,hY,ek,fM,fA,rM,rN];refine cn (decide_eq_false (by show ¬(1:Int)<1;decide)) ?_;have z3:(P++[aO 5 A (b8 b 0),cN]).length=P.length+2:=by simp
 have p3:aE (P++[aO 5 A (b8 b 0),cN]) ((P.length:Int)+(1:Nat)+1)=cN:=by
  have:P++[aO 5 A (b8 b 0),cN]=(P++[aO 5 A (b8 b 0)])++cN::[]:=by simp
  rw [this];exact B8 (by simp)
 refine wr _ 1 (P++[aO 5 A (b8 b 0),cN]) [c] right ∅ rfl z3 (by rw [p3];rfl) w2 ?_
 have s2:(P++[aO 5 A (b8 b 0),cN]).set (P.length+1) (aO 5 [c] right)=P++[aO 5 A (b8 b 0),aO 5 [c] right]:=by
  rw [i7 _ _ (by exact lX ab),ip];rfl
 rw [s2];refine BX rfl ?_;exact bW
end
section
variable {n j:Nat} {J t:ae} {k:aa->ae->Prop} {x:bn} {P:List (List Int)} {S l f:List Int} {D:List (Int×Int)} {a u O:Int} {y:List (List Int)} {right:Int}
theorem Mw {T:ae} {b:Nat} {l:List (List Int)} {K:ae->Prop} (i:6 <= n) (I:P.length <= 16000000) (k:(W4 P S++T)[b]? =some (aT l)) (c:4 <= b) (m:2 <= O) (o:O <= P.length) (U:(aE P O).length <= 16777216) (w:eB u l right)
  (h:∀g,K (W4 (P.set (O-1).toNat (aO u l right)) S++(T++g))):
  az aA n 55 [.ref ((W4 P S++T).length+1),.int u,.ref b,.int right] (W4 P S++T++[.aZ 5 [],.inst 5 (W4 P S++T).length]) (λf aj=>match f with
   | .none=>az aA n 57 [.ref 0,.int O,.ref ((W4 P S++T).length+1)] aj (λa J=>match a with
    | .ref n=>False
    | .dW=>False
    |x=>K J) x
   |_=>False) x:=by
 haveI d:4 <= (W4 P S++T).length:=by show 4 <= T.length+4;exact ob ab
 haveI N:=λX Y=>pg (W4 P S++T) X Y;haveI j:=λX Y=>re (W4 P S++T) X Y;haveI p:=λX Y Z=>B3 (W4 P S++T) X Y Z;haveI e:=λX Y=>eu (g:=[X,Y]) k;generalize (W4 P S++T).length=L at*;refine BP (aQ i ab) (N ..) (j ..) (e ..) ?_;rw [p];exact BU i I (lT L b (yQ d ab) (aQ d ab) (aQ c ab) (j ..) (N ..) (e ..)) m o U w (h _)
theorem B9 {T:ae} {b:Nat} {l:List (List Int)} {K:List aa->ae->Prop} {r:aa->ae->Prop} {G:Int} (a:6 <= n) (I:P.length <= 16000000) (d:(W4 P S++T)[b]? =some (aT l)) (c:4 <= b) (e:2 <= O) (f:O <= P.length) (U:(aE P O).length <= 16777216) (w:eB G l right)
  (h:∀g,K [.ref 0,.int O,.int u,.ref 4,.int 64,.ref b,.int right,.int G] (W4 (P.set (O-1).toNat (aO G l right)) S++(T++g))):
  A3 (az aA n) [.ref 0,.int O,.int u,.ref 4,.int 64,.ref b,.int right,.int G] (W4 P S++T) K r x:=by
 exact Mw a I d c e f U w h
theorem aon (a:7 <= n) (I:P.length <= 16000000) (e:4 <= j) (b:(W4 P S++t)[j]? =some (aT y)) (c:2 <= O) (f:O <= P.length) (U:(aE P O).length <= 16777216) (w:eB u y 0)
  (h:k .none (W4 (P.set (O-1).toNat (aO u y 0)) S++t)):az aA n 65 [.ref 0,.int O,.int u,.ref j] (W4 P S++t) k x:=by
 have C:∀i∈[j],4 <= i:=λi d=>by rw [dj] at d;exact p5 e d
 refine jn (H:=[.ref 0,.int O,.int u,.ref 4]) [j] (F:=A4) rfl rfl (aQ a ab) rfl rfl (ds (cg (p:=1)) gK) (cg) rfl fm C (jU b)
  (bv rfl rfl (q7 (aM (ay ..) a ab) rfl (λr l=>by haveI:=w.len r l;exact bE this ab) (by haveI:=w.many;exact bE this ab) (mv (aM (ay ..) a ab) (lW c) (eH (decide_eq_true w.fit) ?_))))
 exact Mw (T:=[aT y]) (aM (ay ..) a ab) I rfl ∅ c f U w λg=>jR (W':=W4 (P.set (O-1).toNat (aO u y 0)) S) (g:=g) rfl rfl (cg) gK C (jU b) rfl h
theorem Ca {T:ae} {b p:Nat} {l:List (List Int)} {K:List aa->ae->Prop} {r:aa->ae->Prop} {G:Int} {c:Nat} {N:ST} (a:6 <= n) (d:(W4 P S++T)[b]? =some (aT l)) (e:2 <= O) (w:eB G l right)
  (h:K [.ref 0,.int O,.int u,.ref 4,.int 64,.ref b,.int right,.int G] (W4 P S++T)):
  nk oU (bi (aS (az aA n) 49 (cG (bH 5) bf)) (aS (az aA n) 51 (cG (bH 1) (cG (bH 7) (cG (bH 4) bf)))) gi) N p (c+1) [.ref 0,.int O,.int u,.ref 4,.int 64,.ref b,.int right,.int G] (W4 P S++T) K r x:=
 q7 (aQ a ab) d (λr f=>by haveI:=w.len r f;exact bE this ab) (by haveI:=w.many;exact bE this ab) (mv (aQ a ab) (lW e) (cn (decide_eq_false (by haveI:=w.fit;exact Q8 this)) h))
theorem Cb {P E:List (List Int)} {q:List Int} (a:2 <= O) (b:O <= P.length):(P++E).set (O-1).toNat q=P.set (O-1).toNat q++E:=xO _ _ (FC (bp _) a b)
theorem Cc {P E:List (List Int)} (a:2 <= O) (b:O <= P.length):aE (P++E) O=aE P O:=by
 unfold aE;rw [da,im (by exact FC (bp _) a b),<-da]
theorem aoo {A:List (List Int)} {b c:List Int} (d:9 <= n) (z:4 <= j) (o:(W4 P S++t)[j]? =some (aT (A++[b]++[c]))) (l:∀r∈A++[b]++[c],r.length <= 40) (q:A.length <= 100) (B:cH (A++[b]) <= 56) (v:56<cH (A++[b]++[c])) (I:P.length <= 900000) (f:2 <= O) (a:O <= P.length) (U:(aE P O).length <= 16777216)
  (h:k .none (W4 (P.set (O-1).toNat (aO 2 (dR P.length [b]) (P.length+2:Nat))++[aO 10 A 0,aO 10 [c] 0]) S++t)):az aA n 65 [.ref 0,.int O,.int 10,.ref j] (W4 P S++t) k x:=by
 haveI C:∀i∈[j],4 <= i:=λi y=>by rw [dj] at y;exact p5 z y
 haveI X:cH [c]=eX c:=by unfold cH;simp
 haveI u:dR P.length [b]=[f4 (P.length+0+1:Nat)++b]:=rfl
 haveI w:eB 2 (dR P.length [b]) (P.length+2):=by
  refine⟨?_,∅,iJ ab,yU I ab⟩;rw [u];haveI e:cH [f4 (P.length+0+1:Nat)++b]=eX (f4 (P.length+0+1:Nat)++b):=by unfold cH;simp
  rw [e];unfold eX wx;rw [a9];exact UL (fg ..) (l b (by simp))
 haveI s:(P++[aO 10 A 0,aO 10 [c] 0]).length=P.length+2:=a9
 refine jn (H:=[.ref 0,.int O,.int 10,.ref 4]) (p:=4) [j] rfl rfl (aQ d ab) rfl rfl (ds (cg) gK) (cg) rfl fm C (jU o)
  (bv rfl rfl (q7 (aM (ay ..) d ab) rfl (λr m=>by haveI:=l r m;exact bE this ab) (by simp;exact bE q ab) (mv (aM (ay ..) d ab) (lW f) (cn (decide_eq_false (EB v)) ?_))))
 refine aof (aM (ay ..) d ab) ∅ rfl (λr m=>by haveI:=l r m;exact bE this ab) (bE q ab) B v (by rw [X];exact S8 (fg ..) (l c (dn _ (.head _)))) I (Fj f a) ⟨rfl,1,Ca (aM (ay ..) d ab) rfl f w (B9 (b:=6) (aM (ay ..) d ab) (by rw [s];exact kE I ab) rfl ∅ f (by rw [s];exact UT a) (by rw [Cc f a];exact U) w λg=> ?_)⟩;rw [Cb f a];exact jR (W':=W4 (P.set (O-1).toNat (aO 2 (dR P.length [b]) (P.length+2))++[aO 10 A 0,aO 10 [c] 0]) S) (V:=[aT (A++[b]++[c])]) rfl rfl (cg) gK C (jU o) rfl h
inductive wJ (P:List (List Int)) (O:Int) (ia:List (List (List Int))):List (List Int)->Prop
 |low:ia.length <= 8->wJ P O ia (P.set (O-1).toNat (aO 5 (dR P.length (ia.dropLast.map f3)) (P.length+ia.length:Nat))++ia.map λq=>aO 13 q 0)
 |high {A b c}:ia.length=9->dR P.length (ia.dropLast.map f3)=A++[b]++[c]->wJ P O ia (P.set (O-1).toNat (aO 5 [f4 ((P.length+9+1:Nat):Int)++b.drop 4] (P.length+9+2:Nat))++((ia.map λq=>aO 13 q 0)++[aO 5 A (b8 b 0),aO 5 [c] (P.length+9:Nat)]))
theorem Cd (b:Nat) (s:List (List Int)):(dR b s).length=s.length:=by unfold dR;simp
theorem Mx {b:Nat} {s:List (List Int)} (h:∀m∈s,m.length=1):∀q∈dR b s,q.length=5:=by
 refine λq hq=>aw (dz.mp hq) λi a c=> ?_;obtain rfl:=c;haveI a:=gr.mp a;rw [a9,nD,da,bV a,pO,h _ (mX a)]
theorem tt {l:List (List Int)}:(∀q∈l,q.length=5)->cH l=7*l.length:=by
 induction l with
 |nil=>
  intro _;exact rfl
 |cons q l B=>
  intro h;haveI B:=B λp a=>h p (.tail _ a);unfold cH at*;rw [cB,DT,B];unfold eX;rw [(h q (.head _))];exact WF (fg ..)
theorem My {d:Type} {l:List d} (k:Nat) (h:l.length=k+2):∃A b c,l=A++[b]++[c]/\A.length=k:=by
 have e:(l.drop k).length=2:=by rw [lQ,h,ip]
 cases q:l.drop k with
 |nil=>haveI e:=q▸e;contradiction
 |cons b r=>
  induction r with
  |nil=>haveI e:=q▸e;exact nomatch e
  |cons c r=>
   rw [q] at e;induction r with
   |cons=>exact nomatch e
   |nil=>exact rP (l.take k) b c (by rw [bX];exact(m3 k l).symm.trans (congrArg _ q)) (by rw [iD,h];exact k1 (rK ..))
theorem ph {v:Int} (N:0 <= v) (c:v<4294967296):∀b∈f4 v,0 <= b/\b<256:=by
 intro b a;unfold f4 at a;simp only [cb,c6,or_false] at a;exact X9 (fh _ 65536 ∅) (fh _ 256 ∅) (fh _ 256 ∅) a N c
theorem aop (hn:10 <= n) (i3:4 <= j) (hj:(W4 P S++t)[j]? =some (aT y)) (hl:∀r∈y,B6 r) (hm:y.length <= 9) (bN:y≠[]) (h2:56<cH y) (I:P.length <= 800000) (f:2 <= O) (a:O <= P.length) (U:(aE P O).length <= 16777216)
  (h:∀d W,tq y 56 d->wJ P O d W->k .none (W4 W S++t)):az aA n 65 [.ref 0,.int O,.int 13,.ref j] (W4 P S++t) k x:=by
 have C:∀i∈[j],4 <= i:=λi hi=>by rw [dj] at hi;exact p5 i3 hi
 refine jn (H:=[.ref 0,.int O,.int 13,.ref 4]) (p:=4) (V:=[aT y]) [j] rfl rfl (aQ hn ab) rfl rfl (ds (cg) gK) (cg) rfl fm C (jU hj)
  (bv rfl rfl (q7 (aM (ay _ _) hn ab) rfl (λr hr=>(hl r hr).len) (bE hm ab) (mv (aM (ay _ _) hn ab) (lW f) (cn (decide_eq_false (by show ¬_ <= (56:Int);exact EB h2)) ?_))))
 refine aoj (t:=[aT y]) (aM (ay _ _) hn ab) ∅ rfl hl (bE hm ab) bN (bE I ab) (Fj f a) λd H=>⟨rfl,?_⟩
 have M:=λW=>h d W H;have he:=k4.mpr H.ne
 have u:d.length <= 9:=by
  have h2:∀Q:List (List (List Int)),(∀p∈Q,p≠[])->Q.length <= Q.flatten.length:=by
   intro Q;induction Q with
   |nil=>intro _;exact dA _
   |cons p R B=>
    intro h;have h1:=B λp hp=>h p (.tail _ hp);have h3:=k4.mpr (h p (.head _));rw [i6,a9,kZ];exact yD h3 h1
  have:=h2 d H.full;rw [H.flat] at this;exact sb hm this ab
 have G:(d.dropLast.map f3).length=d.length-1:=by rw [bz,O9]
 have h5:∀q∈dR P.length (d.dropLast.map f3),q.length=5:=Mx λm hm=>by
  refine aw (dz.mp hm) λq _ ch=> ?_;obtain rfl:=ch;rfl
 have b6:=Cd P.length (d.dropLast.map f3);have N:=tt h5;have s:(P++d.map λq=>aO 13 q 0).length=P.length+d.length:=by simp
 have T:∀q∈dR P.length (d.dropLast.map f3),d6 q:=by
  intro q hq;refine⟨by rw [h5 q hq];decide,?_⟩;unfold dR at hq;refine aw (dz.mp hq) λi hi q2=> ?_;obtain rfl:=q2;have hi:=gr.mp hi;intro b hb;rw [cR] at hb;rcases hb with hb|hb
  ·exact ph (rZ) (XA (ay _ _) hi G I u) b hb
  ·rw [da,bV hi,pO,List.getElem_map] at hb;have L:d.dropLast[i]'(by simpa using hi)∈d:=O8 _ (mX _);generalize d.dropLast[i]'(by simpa using hi)=q at hb L;unfold f3 at hb;rw [dj] at hb;subst hb
   have:d6 (q.getLastD []):=by
    rw [Pb];induction e:q.getLast? with
    |none=>exact⟨∅,λb hb=>(c6 hb).elim⟩
    |some r=>exact(hl r (by rw [<-H.flat];exact n4.mpr (aJ q L (Pa e)))).eL
   exact this.at 1
 generalize Z:dR P.length (d.dropLast.map f3)=l at*;by_cases D:d.length <= 8
 ·have w:eB 5 l (P.length+d.length:Nat):=⟨by rw [N,b6,G];show _ <= (52:Int);exact TT (ay _ _) D,∅,RF,VS D I⟩
  have hb:=M _ (.low D);rw [Z] at hb;refine⟨1,Ca (aM (ay _ _) hn ab) rfl f w ?_⟩;refine B9 (b:=6) (aM (ay _ _) hn ab) (by rw [s];exact u9 D I ab) rfl ∅ f (by rw [s];exact U3 a) (by rw [Cc f a];exact U) w λg=> ?_;rw [Cb f a];exact jR (W':=W4 (P.set (O-1).toNat (aO 5 l (P.length+d.length:Nat))++d.map λq=>aO 13 q 0) S) (V:=[aT y]) rfl rfl (cg) gK C (jU hj) rfl hb
 ·have E:d.length=9:=Sl u D;refine m6 (My 6 (by rw [b6,G,E])) λA b c Oa F=> ?_;have hb:=M _ (.high E (Z.trans Oa));subst Oa;have Ob:b∈A++[b]++[c]:=by simp
  have X:c∈A++[b]++[c]:=by simp
  have v:=h5 b Ob;have arr:cH (A++[b])=49:=by rw [tt λq hq=>h5 q (cQ _ hq)];simp [F]
  have Oc:cH (A++[b]++[c])=56:=by rw [N];simp [F]
  have ars:cH [c]=7:=by rw [tt λq hq=>h5 q (dn _ hq)];rfl
  have w:eB 5 [f4 ((P.length+9+1:Nat):Int)++b.drop 4] (P.length+9+2:Nat):=by
   refine⟨?_,∅,FV ab,U4 I⟩;rw [tt λq hq=>by rw [dj] at hq;subst hq;rw [a9,nD,lQ,v]];show(7:Int)*1 <= 52;decide
  rw [E] at s⊢;refine⟨1+1,q7 (aM (ay _ _) hn ab) rfl (λr hr=>by have:=h5 r hr;exact nf this ab) (by simp;exact nf F ab) (mv (aM (ay _ _) hn ab) (lW f) (eH (decide_eq_true (by show(52:Int)<_;exact Eu Oc)) ?_))⟩;refine aom (j:=6) (aM (ay _ _) hn ab) ∅ rfl (λr hr=>by have:=h5 r hr;exact nf this ab) (nf F ab) (FP arr ab) (Eu Oc) (FP ars ab) (T b Ob) (FO v ab) ⟨iJ ab,yU I ab⟩ (by rw [s];exact kE I ab) (by rw [s];exact ob ab) ⟨rfl,?_⟩;rw [s];generalize hE:(P++d.map λq=>aO 13 q 0)++[aO 5 A (b8 b 0),aO 5 [c] ((P.length+9:Nat):Int)]=K;have Od:K.length=P.length+11:=by rw [<-hE,a9,s];rfl
  show d5 oU 7 (λY J=>nk oU (bi (aS (az aA (n-1)) 49 (cG (bH 5) bf)) (aS (az aA (n-1)) 51 (cG (bH 1) (cG (bH 7) (cG (bH 4) bf)))) gi) (ah (Ko (az aA (n-1))) ar) 7 1 Y J (λY J=>ah (A3 (az aA (n-1))) ar Y J (λ_ z=>dx k (aI 4++[j]) (W4 P S++t) .none z) (dx k (aI 4++[j]) (W4 P S++t)) λm z=>x m (c5 (aI 4++[j]) [] (W4 P S++t) z)) (dx k (aI 4++[j]) (W4 P S++t)) λm z=>x m (c5 (aI 4++[j]) [] (W4 P S++t) z)) [.ref 0,.int O,.int 13,.ref 4,.int 64,.ref 8,.int ((P.length+9+2:Nat):Int),.int 5] (W4 K S++[aT y,.tup [.ref 6,.int ((P.length+9:Nat):Int)],aT (A++[b]++[c])]++[.tup [.ref 8,.int ((P.length+9+2:Nat):Int)],aT [f4 ((P.length+9+1:Nat):Int)++b.drop 4]])
  refine BZ (m:=8) (dA _) rfl rfl ∅ rfl (W':=W4 K S++[aT y,.tup [.ref 6,.int ((P.length+9:Nat):Int)],aT (A++[b]++[c])]) ?_ rfl rfl ?_
  ·refine mn λo ho=>qQ (λj hj=> ?_) (dc.mp (ds (cg (p:=3)) (by show(aL _ (aT _)&&(true&&(aL _ (aT _)&&true)))=true;rw [eM,eM];rfl)) o ho);have:=BI (j:=j) (m:=8) (aI 7) 0;unfold dG;rw [this,show fO j (aI 7) 0=some j from oW hj]
  ·refine Ca (aM (ay _ _) hn ab) rfl f w ?_;refine B9 (aM (ay _ _) hn ab) (sd Od I ab) rfl ∅ f (VB Od a) (by rw [<-hE,bX,Cc f a];exact U) w λg=> ?_;rw [<-hE,bX,Cb f a];exact jR (W':=W4 (P.set (O-1).toNat (aO 5 [f4 ((P.length+9+1:Nat):Int)++b.drop 4] (P.length+9+2:Nat))++((d.map λq=>aO 13 q 0)++[aO 5 A (b8 b 0),aO 5 [c] (P.length+9:Nat)])) S) (V:=[aT y]) rfl rfl (cg) gK C (jU hj) rfl hb
end
variable {P:List (List Int)} {S l f:List Int} {a u:Int} {y:List (List Int)} {right:Int}
theorem tu {A B C:List Int} {i d:Int} (N:0 <= d) (hd:d<B.length) (a:i=A.length+d):bK (A++B++C) i=bK B d:=by
 unfold bK;haveI e:i.toNat=A.length+d.toNat:=Xe (bp _) (bp _) N a;rw [e,bX,da,da,eE (rK ..),ip,im (by exact Fu (bp _) N hd)]
theorem wK {A B C:List Int} {i d:Int} (N:0 <= d) (hd:d+1<B.length) (a:i=A.length+d):dy (A++B++C) i=dy B d:=by
 unfold dy;rw [tu N (r4 hd) a,tu (d:=d+1) (iq N ab) hd (by exact Wt a)]
theorem wL {A B C:List Int} {i d:Int} (N:0 <= d) (hd:d+3<B.length) (a:i=A.length+d):b8 (A++B++C) i=b8 B d:=by
 unfold b8;rw [wK N (uS hd) a,wK (d:=d+2) (iq N ab) (uU hd) (by exact Wu a)]
theorem aoq (v:Int):f2 v=[v/256%256,v%256]:=rfl
theorem Mz {v:Int} (N:0 <= v) (a:v<65536):dy (f2 v) 0=v:=by
 exact Wg N a
theorem Ce {v:Int} (N:0 <= v) (a:v<4294967296):b8 (f4 v) 0=v:=by
 exact XI (fh _ 65536 ∅) (fh _ 256 ∅) (fh _ 256 ∅)
theorem Cf (v:Int):∀b∈f2 v,0 <= b/\b<256:=by
 rw [aoq];exact Mo.am ⟨⟨us _ ∅,ut _ ∅⟩,⟨us _ ∅,ut _ ∅⟩,trivial⟩
theorem wM:aO u y right=[u,0,0]++(f2 (y.length:Int)++(f2 (64-cI y)++[0]++((if dr u then [] else f4 right)++(((aI y.length).map (h9 y)).flatten++eg (64-cI y-(iS u y right).length).toNat 0++(y.map dE).reverse.flatten)))):=by
 unfold aO iS kO;cases dr u<;>rfl
theorem lz:bK (aO u y right) 0=u:=by
 rw [wM];rfl
theorem tv (w:eB u y right):dy (aO u y right) 3=y.length:=by
 rw [wM,<-bX,wK (d:=0) ∅ (by rw [Ma];decide) (by rfl),Mz (by exact gR) (by exact r6 w.many ab)]
theorem aor (w:eB u y right) (h:dr u=false):b8 (aO u y right) 8=right:=by
 haveI e:∀A B C D F G:List Int,A++(B++(C++D++(F++G)))=(A++B++C++D)++F++G:=by simp [bX]
 rw [wM,h,if_neg ∅,e,wL (d:=0) ∅ (by rw [nD];decide) (by rfl),Ce w.rb.1 w.rb.2]
theorem Cg (a:u=2\/u=5\/u=10\/u=13):mu (aO u y right)=if dr u then 8 else 12:=by
 rcases a with rfl|rfl|rfl|rfl<;>rfl
theorem aos {m i:Nat} (h:i<m):aI m=aI i++i::(jD (i+1) (m-i-1)):=by
 rw [lP,lP,show m=i+(m-i-1+1) by exact Tr (ay ..) (ay ..) h,<-asP,OZ,xJ];congr 3;exact Uz (ay ..) (ay ..) (ay ..) (ay ..)
theorem Ci (w:eB u y right) (c:u=2\/u=5\/u=10\/u=13) {i:Nat} (f:i<y.length):gj (aO u y right) i=64-cI (y.take (i+1)):=by
 haveI a:=w.sum;haveI b:=tm y (i+1);unfold gj;rw [Cg c];unfold aO iS;rw [aos f,db,cB,kD,i6]
 haveI e:kO u y right++(((aI i).map (h9 y)).flatten++(h9 y i++((jD (i+1) (y.length-i-1)).map (h9 y)).flatten))=(kO u y right++((aI i).map (h9 y)).flatten)++h9 y i++((jD (i+1) (y.length-i-1)).map (h9 y)).flatten:=by
  simp only [bX]
 rw [e,bX,bX];rw [wK (d:=0) ∅ (by unfold h9;rw [Ma];decide) (by rw [a9,BQ,tn];cases dr u<;>rfl<;>omega)];refine Mz ?_ ?_<;>(split at a<;>(first|exact vb a b ab|exact vb a b ab|exact Er (nB (y.take (i+1)))))
theorem MA {i:Nat} {r:List Int} (h:y[i]? =some r):(y.map dE).reverse.flatten=((y.drop (i+1)).map dE).reverse.flatten++dE r++((y.take i).map dE).reverse.flatten:=by
 haveI e:y=y.take i++r::y.drop (i+1):=by
  obtain⟨a,rfl⟩:=cF.mp h;rw [asT,m3]
 conv=>lhs;rw [e]
 simp [db,List.reverse_append,kD]
theorem aot (q:List (List Int)):((q.map dE).reverse.flatten.length:Int)=cI q:=by
 unfold cI;rw [ur,ur,uo,O4]
theorem aou (w:eB u y right) {i:Nat} {r:List Int} (h:y[i]? =some r):∃X Y,aO u y right=X++dE r++Y/\(X.length:Int)=64-cI (y.take (i+1)):=by
 refine c7 (iS u y right++eg (64-cI y-(iS u y right).length).toNat 0++((y.drop (i+1)).map dE).reverse.flatten) (((y.take i).map dE).reverse.flatten) ?_ ?_
 ·unfold aO;rw [MA h];simp only [bX]
 ·haveI a:=nC w;unfold aO at a;rw [MA h] at a;haveI b:cI (y.take (i+1))=cI (y.take i)+(dE r).length:=by rw [gO h,wy]
  simp only [a9,DI] at a⊢;exact Yk a (aot (y.take i)) b
theorem aov {r:List Int} {d:Int} (N:0 <= d) (a:d<r.length):bK (dE r) d=bK r d:=by
 haveI:=tu (A:=[]) (C:=eg (max 0 (4-(r.length:Int))).toNat 0) N a (i:=d) (by simp);exact this
theorem Cj (w:eB u y right) (b:u=2\/u=5\/u=10\/u=13) {i:Nat} {r:List Int} (h:y[i]? =some r) {d:Int} (N:0 <= d) (a:d<r.length):bK (aO u y right) (gj (aO u y right) i+d)=bK r d:=by
 rw [Ci w b ((cF.mp h).1)];refine cV (aou w h) λX Y e c=> ?_;haveI:=ra r;rw [e,tu N (WJ (fg ..) this a) (by exact Wc c),aov N a]
theorem MB (w:eB u y right) (a:u=2\/u=5\/u=10\/u=13) {i:Nat} {r:List Int} (h:y[i]? =some r) {d:Int} (N:0 <= d) (b:d+1<r.length):dy (aO u y right) (gj (aO u y right) i+d)=dy r d:=by
 unfold dy;rw [Cj w a h N (r4 b),DJ,Cj w a h (by exact iq N ab) b]
theorem MC (w:eB u y right) (a:u=2\/u=5\/u=10\/u=13) {i:Nat} {r:List Int} (h:y[i]? =some r) {d:Int} (N:0 <= d) (b:d+3<r.length):b8 (aO u y right) (gj (aO u y right) i+d)=b8 r d:=by
 unfold b8;rw [MB w a h N (uS b),DJ,MB w a h (by exact iq N ab) (by exact uU b)]
theorem MD {L:List (List Int)} (h:∀r∈L,∀b∈r,(0:Int) <= b/\b<256):∀b∈L.flatten,0 <= b/\b<256:=λb a=>by
 exact aw (n4.mp a) λr c a=>h r c b a
theorem ME (m:Nat):∀b∈eg m (0:Int),0 <= b/\b<256:=λb a=>by
 rw [(asU.mp a).2];decide
theorem jp {A B:List Int} (h:∀b∈A,0 <= b/\b<256) (c:∀b∈B,0 <= b/\b<256):∀b∈A++B,0 <= b/\b<256:=λb a=>by
 rcases cR.mp a with a|a
 ·exact h b a
 ·exact c b a
structure gL (u:Int) (y:List (List Int)) (right:Int):Prop where
 wr:eB u y right
 kind:u=2\/u=5\/u=10\/u=13
 eL:∀r∈y,d6 r
 four:dr u=false->∀r∈y,4 <= r.length
theorem gL.node (W:gL u y right):gG (aO u y right) where
 eL:=by
  refine⟨by have:=nC W.wr;exact nb this ab,?_⟩;unfold aO iS kO;refine jp (jp (jp ?_ (MD λr a=> ?_)) (ME _)) (MD λr a=> ?_)
  ·have e:∀b∈[u,0,0]++f2 (y.length:Int)++f2 (64-cI y)++[0],0 <= b/\b<256:=by
    refine jp (jp (jp ?_ (Cf _)) (Cf _)) (by simp);have:=W.wr.BS;simp;exact this
   dsimp only;split
   ·exact e
   ·exact jp e (ph W.wr.rb.1 W.wr.rb.2)
  ·obtain⟨i,_,rfl⟩:=dz.mp a;exact Cf _
  ·obtain⟨q,hq,rfl⟩:=dz.mp (up.mp a);exact jp (W.eL q hq).2 (ME _)
 len:=nC W.wr
 kind:=by rw [lz];exact W.kind
 cnt:=by
  have c:=W.wr.sum;have d:=nB y;rw [Cg W.kind,tv W.wr];split at c<;>simp only [*,ite_true]<;>(first|exact Xg c d|omega)
 Bz:=by
  intro i N c;rw [tv W.wr] at c⊢;obtain⟨m,rfl⟩:=nQ N;have f:m<y.length:=by exact yx c
  have g:=W.wr.sum;have d:=tm y (m+1);obtain⟨r,a⟩:∃r,y[m]? =some r:=⟨_,bV f⟩
  have h:cI (y.take (m+1))=cI (y.take m)+(dE r).length:=by rw [gO a,wy]
  have j:=ra r;have k:=nB (y.take m);rw [Cg W.kind,Ci W.wr W.kind f];split at g<;>simp only [*,ite_true]<;>constructor<;>(first|exact Ym (fg _ _) g j h d|exact Qo (fg _ _) k|omega)
theorem Ck (h:dr u=true):eA (aO u y right)=[]:=by
 unfold eA;rw [lz,if_pos h]
theorem MF (W:gL u y right) (h:dr u=false):eA (aO u y right)=y.map (λr=>Mine.b8 r 0)++[right]:=by
 unfold eA;rw [lz,if_neg (by rw [h];decide),aor W.wr h,tv W.wr];congr 1;apply rF;intro i;rw [cm,cm,Int.toNat_natCast];by_cases a:i<y.length
 ·obtain⟨r,b⟩:∃r,y[i]? =some r:=⟨_,bV a⟩
  rw [i5 a,b];show some (Mine.b8 ..)=some _
  haveI:=MC W.wr W.kind b (d:=0) ∅ (yM (W.four h r (cq b)) ab);rw [O3] at this;rw [this]
 ·rw [hJ (by simpa using a),hJ (by simpa using a)];rfl
theorem aow (h:u=10\/u=13):dk u=aO u [] 0:=by
 rcases h with rfl|rfl<;>decide
theorem aox (h:u=10\/u=13):gL u [] 0 where
 wr:=⟨by rcases h with rfl|rfl<;>decide,by rcases h with rfl|rfl<;>decide,∅⟩
 kind:=by rcases h with rfl|rfl<;>simp
 eL:=by simp
 four:=by simp
variable {P W:List (List Int)} {S l f:List Int} {a u:Int} {y:List (List Int)} {right:Int}
inductive dL (P:List (List Int)):List Int->List Int->Prop
 |nil:dL P [] []
 |cons {a st xs}:gH P a->dL P (eA (aE P a)++st) xs->dL P (a::st) (a::xs)
theorem dL.app {i m a b:List Int} (h:dL P i m) (c:dL P a b):dL P (i++a) (m++b):=by
 induction h with
 |nil=>exact c
 |cons G _ B=>exact .cons G (bX .. ▸B)
theorem dL.len {i m:List Int} (h:dL P i m):i.length <= m.length:=by
 induction h with
 |nil=>exact dA _
 |cons G _ B=>simp at B⊢;exact RG B
theorem dL.ok {i m:List Int} (h:dL P i m):∀a∈m,gH P a:=by
 induction h with
 |nil=>exact λ_ h=>(c6 h).elim
 |cons G _ B=>
  intro a b;rcases cb.mp b with rfl|b
  ·exact G
  ·exact B a b
theorem dL.walk {i m:List Int} (h:dL P i m):∀{f b:List Int} {r:Option (List Int)},(f++m).Nodup->f.length+m.length+b.length <= 1000->f1 P (f++m) b r->f1 P f (i++b) r:=by
 induction h with
 |nil=>intro f b r d _ w;rwa [cO] at w
 | @cons a i m G R B=>
  intro f b r d c w;haveI e:f++a::m=(f++[a])++m:=by simp
  haveI g:=R.len;refine .step ?_ (SX c) (by simp at g c⊢;exact Wq c g) G ?_
  ·rw [eq] at d;exact λM=>d.2.2 a M a (.head _) rfl
  ·exact(bX (eA (aE P a)) i b)▸(B (by rwa [<-e]) (by simp at c⊢;exact Vr c) (by rwa [<-e]))
theorem gH.frame (G:gH P a) (h:aE W a=aE P a) (b:P.length <= W.length):gH W a:=⟨G.lo,by haveI:=G.ix;exact yE this b,by rw [h];exact G.node⟩
theorem dL.frame {i m:List Int} (h:dL P i m) (c:∀a∈m,aE W a=aE P a) (d:P.length <= W.length):dL W i m:=by
 induction h with
 |nil=>exact .nil
 | @cons a i m G _ B=>exact .cons (G.frame (c a (.head _)) d) (by rw [c a (.head _)];exact B λb e=>c b (.tail _ e))
theorem dL.leaf (G:gH P a) (h:eA (aE P a)=[]):dL P [a] [a]:=.cons G (by rw [h];exact .nil)
theorem dL.node {m:List Int} (G:gH P a) (h:dL P (eA (aE P a)) m):dL P [a] (a::m):=.cons G (by rwa [cO])
theorem Ch.frame {p:Int} {c:List Int} (h:Ch P p c) (d:∀a∈c,aE W a=aE P a) (e:P.length <= W.length):Ch W p c:=by
 induction h with
 |nil=>exact .nil
 | @cons p r f g i _ B=>exact .cons f (yE g e) (by rw [d p (.head _)];exact i) (by rw [d p (.head _)];exact B λb j=>d b (.tail _ j))
theorem pb.frame {y b:Int} {c:List Int} (h:pb P y b c) (d:∀a∈c,aE W a=aE P a) (e:P.length <= W.length):pb W y b c:=by
 rcases h with h|f
 ·exact .inl h
 ·refine dp f λg i j=> ?_;exact .inr ⟨g,i.frame d e,j⟩
theorem lA (b m k:Nat):a8 b (m+k)=a8 b m++a8 (b+m) k:=by
 unfold a8;rw [List.range_add,db,iE];congr 1;apply gQ;exact λi _=>Wp
theorem tw {b m:Nat} {q:Int}:q∈a8 b m<->(b:Int)<q/\q <= b+m:=by
 unfold a8;rw [dz];constructor
 ·intro a;refine aw a λi c d=> ?_;clear a;obtain rfl:=d;haveI:=gr.mp c;exact XK this
 ·exact λh=>aJ ((q-b-1).toNat) (gr.mpr (Xo (bp _) h)) (XY (bp _) h)
theorem MG (b m:Nat):(a8 b m).Pairwise (· < ·):=by
 unfold a8;rw [uh];exact asS.imp λh=>by exact Wx h
theorem wN (b m:Nat):(a8 b m).Nodup:=(MG b m).imp λh=>by exact QO h
theorem wO (b m:Nat):(a8 b m).length=m:=by unfold a8;simp
theorem MH (b:Nat):a8 b 1=[((b+1:Nat):Int)]:=rfl
inductive jq (P:List (List Int)) (u:Int):List Int->List Int->Prop
 |mk {o pre c:List Int} {m Cm:Int}:(pre.length:Int)=(if dr u then 0 else 4)->(∀b∈pre,0 <= b/\b<256)->(∀b∈o,0 <= b/\b<256)->o.length <= 75->0 <= Cm/\Cm<128->0 <= m/\m<1000000->pb P (if dT u o.length<o.length then m+1 else 0) (o.length-dT u o.length) c->c.length <= 2->jq P u (pre++gm u Cm o m) c
theorem jq.frame {r c:List Int} (h:jq P u r c) (b:∀a∈c,aE W a=aE P a) (d:P.length <= W.length):jq W u r c:=by
 obtain⟨e,f,i,j,k,G,O,g⟩:=h;exact⟨e,f,i,j,k,G,O.frame b d,g⟩
theorem Cn {u w m:Int} {o:List Int}:((gm u w o m).length:Int)=(if u=13 then 2 else 1)+dT u o.length+(if dT u o.length<o.length then 4 else 0):=by
 haveI N:=o7 (u:=u) (s:=o.length) (gR);haveI a:=BY (u:=u) (s:=o.length) (gR);unfold gm;split<;>split<;>simp [f4]<;>(first|exact XB (bp _) (ew ..) N (by assumption)|exact XC (bp _) (ew ..) a (by assumption)|exact Xy (bp _) (ew ..) N (by assumption)|exact Xz (bp _) (ew ..) a (by assumption))
theorem jq.eL {r c:List Int} (h:jq P u r c):d6 r:=by
 obtain⟨f,i,j,d,k,G,O,g⟩:=h;rename_i o a m w;haveI e:=Cn (u:=u) (w:=w) (m:=m) (o:=o);haveI N:=BY (u:=u) (s:=o.length) (gR);constructor
 ·rw [a9];haveI:=by split at f<;>(first|exact FW f ab|exact FW f ab)
  split at e<;>split at e<;>(first|exact Gf e this (by assumption) d (ab)|exact Ge e this N d ab|exact Gf e this (by assumption) d (ab)|exact Ge e this N d ab)
 ·refine jp i (jp (jp ?_ λb l=>j b (OF l)) ?_)
  ·split<;>simp<;>(first|exact Xc k d|exact r6 d ab)
  ·split
   ·exact ph (E4 G) (Fk G)
   ·exact λ_ h=>(c6 h).elim
theorem MI {u w m:Int} {o:List Int}:bK (gm u w o m) 0=o.length:=by
 unfold gm;split<;>rfl
theorem MJ {w m:Int} {o:List Int}:bK (gm 13 w o m) 1=w:=by
 rfl
theorem aoy {u w m:Int} {o:List Int} (a:0 <= m/\m<1000000) (h:dT u o.length<o.length):b8 (gm u w o m) ((if u=13 then 2 else 1)+dT u o.length)=m+1:=by
 haveI e:((if u=13 then [(o.length:Int)]++[w] else [o.length]).length:Int)=(if u=13 then 2 else 1):=by split<;>rfl
 unfold gm;rw [if_pos h,<-cO (_++f4 _)];rw [wL (d:=0) ∅ (by rw [nD];decide),Ce (by exact E4 a) (by exact Fk a)];rw [a9,DI,e,iD];exact Xr (bp _) (ew ..) (o7 (gR)) h
theorem MK {M:List (List Int)} (W:gL u y right) (Q:u≠5) (S:M.length=y.length) (X:∀(i:Nat) r c,y[i]? =some r->M[i]? =some c->jq P u r c):jX P (aO u y right) M where
 inner:=by intro h;rw [lz] at h;exact(Q h).elim
 len:=by intro _;rw [tv W.wr,S]
 cell:=by
  intro _ i c T;rw [lz];have U:i<y.length:=by rw [<-S];exact(cF.mp T).1
  obtain⟨r,k⟩:∃r,y[i]? =some r:=⟨_,bV U⟩
  have R:=X i r c k T;have p:=Ci W.wr W.kind U;have f:=W.wr.sum;have j:=tm y (i+1);have J:cI (y.take (i+1))=cI (y.take i)+(dE r).length:=by rw [gO k,wy]
  have v:=ra r;have D:=nB (y.take i);have A:=λ{d:Int}=>Cj W.wr W.kind k (d:=d);have F:=λ{d:Int}=>MC W.wr W.kind k (d:=d);have Y:=nC W.wr;generalize gj (aO u y right) i=H at*;generalize aO u y right=l at*;refine a6 λH_ Z=> ?_;obtain⟨h1,h2,h3,h4,E,G,O,g⟩:=R;refine Z ?_;rename_i o a m w;have K:=Cn (u:=u) (w:=w) (m:=m) (o:=o);have b:=o7 (u:=u) (s:=(o.length:Int)) (by exact gR)
  have hq:mr u H=H+a.length:=by
   unfold mr;rw [h1];cases dr u<;>simp
  have n:=λ{d:Int} (N:0 <= d) (hd:d<(gm u w o m).length)=>(tu (A:=a) (B:=gm u w o m) (C:=[]) (i:=a.length+d) N hd rfl)
  have x:=λ{d:Int} (N:0 <= d) (hd:d+3<(gm u w o m).length)=>(wL (A:=a) (B:=gm u w o m) (C:=[]) (i:=a.length+d) N hd rfl)
  simp only [cO] at n x;rw [a9] at v;simp only [a9,DI] at A F
  have z:bK l (mr u H)=o.length:=by
   have:=n (d:=0) ∅ (by split at K<;>split at K<;>(first|exact p9 K b ab|exact p9 K b ab|exact p9 K b ab|exact p9 K b ab));rw [hq,A (by exact gR) (by split at K<;>split at K<;>(first|exact vg K b ab|exact vg K b ab|exact vg K b ab|exact vg K b ab)),show(a.length:Int)=a.length+0 by exact Rl,this,MI]
  have e:o6 l u H=o.length:=z;have q:ms l u H=dT u o.length:=by unfold ms;rw [e]
  have t:km u H=H+a.length+(if u=13 then 2 else 1):=by
   unfold km;rw [hq];split<;>(first|exact U1|exact Uu)
  have I:wm l u H=if dT u o.length<o.length then m+1 else 0:=by
   unfold wm;rw [q,e];by_cases L:dT u o.length<(o.length:Int)
   ·rw [if_pos L] at K;rw [if_pos L,if_pos L,t,<-aoy (u:=u) (w:=w) G L];have:=x (d:=(if u=13 then 2 else 1)+dT u o.length) (by split<;>(first|exact FS b ab|exact FS b ab)) (by exact VR K);rw [<-this];have:=F (d:=a.length+((if u=13 then 2 else 1)+dT u o.length)) (by split<;>(first|exact FZ b ab|exact FZ b ab)) (by exact Xv K);rw [<-this];congr 1;exact Wv
   ·rw [if_neg L,if_neg L]
  refine⟨⟨?_,?_,?_,?_,?_⟩,?_,by exact bE g ab⟩
  ·rw [p];split at f<;>(first|exact vb f j ab|exact vb f j ab)
  ·rcases W.kind with h|h|h|h
   ·exact .inl h
   ·exact(Q h).elim
   ·exact .inr (.inl h)
   ·exact .inr (.inr h)
  ·rw [e];exact r6 h4 ab
  ·intro V;rw [if_pos V] at K;have:=n (d:=1) ∅ (by split at K<;>(first|exact p9 K b ab|exact p9 K b ab));rw [hq,DJ,A (by exact n9 ab) (by split at K<;>(first|exact Gc K b ab|exact Gc K b ab)),this,V,MJ];exact E.2
  ·rw [t,q,e,Y];exact Yn (fg _ _) K v D p J
  ·rw [I,e,q];exact O
theorem wP:jX P (aO 5 y right) [] where
 inner:=λ_=>rfl
 len:=λh=>(h lz).elim
 cell:=λh=>(h lz).elim
variable {P W:List (List Int)} {S l f:List Int} {a u:Int} {y:List (List Int)} {right:Int}
structure d0 (P:List (List Int)) (root u n:Int) (own:List Int):Prop where
 ex:∃rest pc,dL P [root] (root::rest)/\(∀a∈root::rest,jX P (aE P a) (pc a))/\fb P (root::rest)=n/\(root::mF root rest pc).Perm own
 kind:mE (aE P root)=u
 cP:own.Nodup
 len:own.length <= 40
 gI:∀q∈own,2 <= q/\q <= P.length
 ring:dr (bK (aE P root) 0)=false->∃Co y right xs,aE P root=aO Co y right/\gL Co y right/\dr Co=false/\dL P (y.map λr=>b8 r 0) xs/\(root::xs).Nodup/\(∀q∈xs,q∈own)
variable {O n:Int} {d:List Int}
theorem jX.frame {a:List (List Int)} (h:jX P l a) (d:∀q∈a.flatten,aE W q=aE P q) (e:P.length <= W.length):jX W l a where
 inner:=h.inner
 len:=h.len
 cell:=λf i c b=>by
  obtain⟨g,j,k⟩:=h.cell f i c b;exact⟨g,j.frame (λq hq=>d q (n4.mpr ⟨c,cq b,hq⟩)) e,k⟩
theorem aoz {f:List Int} (h:∀q∈f,aE W q=aE P q):fb W f=fb P f:=by
 unfold fb;rw [gQ λa b=>by rw [h a b]]
theorem d0.frame (T:d0 P O u n d) (b:∀q∈d,aE W q=aE P q) (g:P.length <= W.length):d0 W O u n d:=by
 refine a6 λo i=>f9 T.ex λl c p r s h=> ?_;haveI j:=h.subset (.head _)
 have k:∀q∈O::l,q∈d:=λq hq=>by
  rcases cb.mp hq with rfl|hq
  ·exact j
  ·exact h.subset (.tail _ (dn _ hq))
 refine i ⟨(iH l c (p.frame (λq hq=>b q (k q hq)) g) (λa e=> ?_) ((aoz λq hq=>b q (k q hq)).trans s) h),by rw [b O j];exact T.kind,T.cP,T.len,λq hq=>⟨(T.gI q hq).1,by haveI:=(T.gI q hq).2;exact yE this g⟩,?_⟩
 ·rw [b a (k a e)];exact(r a e).frame (λq hq=>b q ((λa e q hq=>h.subset (.tail _ (cQ _ (n4.mpr ⟨_,io e,hq⟩)))) a e q hq)) g
 ·rw [b O j];exact λt=>a6 λo i=>rR (T.ring t) λf y right m v w x z A B=>i (m7 f y right m v w x (z.frame (λq hq=>b q (B q hq)) g) A B)
abbrev CS:=List (Int×List (List Int))
theorem Cp:∀{b:CS},(b.map (·.1)).Nodup->∀z∈b,b.lookup z.1=some z.2
 | [],_,z,h=>(c6 h).elim
 |y::b,a,z,h=>by
  rw [cB,eD] at a;rcases cb.mp h with rfl|h
  ·exact List.lookup_cons_self
  ·rw [xC]
   haveI:(z.1==y.1)=false:=by
    rw [beq_eq_false_iff_ne];exact λe=>a.1 (e▸io h)
   rw [this];exact Cp a.2 z h
theorem wQ {b i:CS} {c:List (List Int)} (w:b=(O,c)::i) (l:dL P [O] (b.map (·.1))) (x:∀z∈b,jX P (aE P z.1) z.2) (o:fb P (b.map (·.1))=n) (g:(b.map (·.1)++(b.map λz=>z.2.flatten).flatten).Perm d)
  (h:mE (aE P O)=u) (v:d.Nodup) (p:d.length <= 40) (j:∀q∈d,2 <= q/\q <= P.length)
  (s:dr (bK (aE P O) 0)=false->∃f y right m,aE P O=aO f y right/\gL f y right/\dr f=false/\dL P (y.map λr=>b8 r 0) m/\(O::m).Nodup/\(∀q∈m,q∈d)):d0 P O u n d:=by
 have k:=(eq.mp (g.nodup_iff.mpr v)).1;haveI e:b.map (·.1)=O::i.map (·.1):=by rw [w];rfl
 refine⟨(iH (i.map (·.1)) (λa=>(b.lookup a).getD []) (by rw [<-e];exact l) ?_ (by rw [<-e];exact o) ?_),h,v,p,j,s⟩
 ·rw [<-e];refine λa A=>aw (dz.mp A) λz t B=> ?_;obtain rfl:=B;show jX P _ ((b.lookup z.1).getD [])
  rw [Cp k z t];exact x z t
 ·unfold mF;rw [<-e,iE]
  haveI C:b.map ((λa=>((b.lookup a).getD []).flatten)∘(·.1))=b.map λz=>z.2.flatten:=gQ λz t=>by
   show((b.lookup z.1).getD []).flatten=_
   rw [Cp k z t];rfl
  rw [C];refine .trans ?_ g;rw [e];exact .cons _ DU
theorem Cq (w:eB u y right):jo (aO u y right)=if u=5 then 0 else(y.length:Int):=by
 unfold jo;rw [lz,tv w]
theorem aoA:mE (aO u y right)=if(decide (u=13)||decide (u=5))=true then 13 else 10:=by
 unfold mE;rw [lz]
abbrev eO:=List (List Int×List Int)
def nG (P:List (List Int)) (u:Int) (v:eO):Prop:=∀z∈v,jq P u z.1 z.2
theorem ML {v:eO} (I:aE P a=aO u (v.map (·.1)) right) (W:gL u (v.map (·.1)) right) (e:u≠5) (f:nG P u v):jX P (aE P a) (v.map (·.2)):=by
 rw [I];refine MK W e (by simp) λi r c b d=> ?_;rw [cm] at b d;induction m:v[i]? with
 |none=>rw [m] at b;contradiction
 |some z=>
  rw [m] at b d;obtain rfl:=bl b;obtain rfl:=bl d;exact f z (cq m)
theorem tx (W:gL u y right) (h:aE P a=aO u y right) (b:2 <= a) (c:a <= P.length):gH P a:=⟨b,c,by rw [h];exact W.node⟩
theorem MM {v:eO} (a:u=10\/u=13) (I:aE P O=aO u (v.map (·.1)) 0) (W:gL u (v.map (·.1)) 0) (f:nG P u v) (g:(O::(v.map (·.2)).flatten).Perm d) (i:d.Nodup) (p:d.length <= 40) (j:∀q∈d,2 <= q/\q <= P.length):d0 P O u v.length d:=by
 haveI b:=j O (g.subset (.head _));have c:dr u=true:=by rcases a with rfl|rfl<;>rfl
 refine wQ (b:=[(O,v.map (·.2))]) rfl (dL.leaf (tx W I b.1 b.2) (by rw [I];exact Ck c)) ?_ ?_ ?_ ?_ i p j ?_
 ·intro z e;rw [dj.mp e];exact ML I W (by rcases a with rfl|rfl<;>decide) f
 ·show jo (aE P O)+0=v.length
  rw [I,Cq W.wr,if_neg (by rcases a with rfl|rfl<;>decide),bz,O3]
 ·simpa using g
 ·rw [I];rcases a with rfl|rfl<;>rfl
 ·rw [I,lz,c];exact λh=>absurd h ∅
variable {P W:List (List Int)} {S l f:List Int} {a u:Int} {y:List (List Int)} {right:Int} {O n:Int} {d:List Int}
theorem wR {v:Int} {x:List Int} (N:0 <= v) (a:v<4294967296):b8 (f4 v++x) 0=v:=by
 haveI:=wL (A:=[]) (B:=f4 v) (C:=x) (d:=0) (i:=0) ∅ (by rw [nD];decide) (by rfl);rw [asV] at this;rw [this,Ce N a]
theorem ty {m:Nat} {s:List (List Int)} (h:m+s.length<1000000):(dR m s).map (λr=>b8 r 0)=a8 m s.length:=by
 unfold dR a8;rw [iE];apply gQ;intro i a;haveI:=gr.mp a;exact wR (rZ) (yO h this ab)
def lB (b:Nat):List eO->CS
 | []=>[]
 |z::v=>(((b+1:Nat):Int),z.map (·.2))::lB (b+1) v
theorem Cr (b m:Nat):a8 b (m+1)=((b+1:Nat):Int)::a8 (b+1) m:=by
 rw [xS m 1,lA];rfl
theorem ko:∀(b:Nat) (a:List eO),(lB b a).map (·.1)=a8 b a.length
 |b,[]=>rfl
 |b,z::v=>by
  show _::(lB (b+1) v).map (·.1)=_
  rw [ko (b+1) v,kZ,Cr]
theorem tz:∀(b:Nat) (a:List eO),((lB b a).map λz=>z.2.flatten).flatten=(a.flatten.map (·.2)).flatten
 |b,[]=>rfl
 |b,z::v=>by
  show(z.map (·.2)).flatten++((lB (b+1) v).map λz=>z.2.flatten).flatten=_
  rw [tz (b+1) v,i6,db,kD]
structure aoB (P:List (List Int)) (u a:Int) (z:eO):Prop where
 ft:aE P a=aO u (z.map (·.1)) 0
 w:gL u (z.map (·.1)) 0
 ok:nG P u z
 lo:2 <= a
 ix:a <= P.length
def g7 (P:List (List Int)) (u:Int) (b:Nat) (a:List eO):Prop:=∀i z,a[i]? =some z->aoB P u ((b+i+1:Nat):Int) z
theorem g7.tail {b:Nat} {z:eO} {v:List eO} (h:g7 P u b (z::v)):g7 P u (b+1) v:=λi y a=>by
 haveI:=h (i+1) y a
 rwa [show b+(i+1)+1=b+1+i+1 by exact Td] at this
theorem g7.app {b:Nat} {A B:List eO} (h:g7 P u b (A++B)):g7 P u b A/\g7 P u (b+A.length) B:=by
 constructor
 ·exact λi y a=>h i y (by rw [im (cF.mp a).1];exact a)
 ·intro i y a;haveI:=h (A.length+i) y (by rw [eE (by exact kb),ip];exact a)
  rwa [show b+(A.length+i)+1=b+A.length+i+1 by exact Tu] at this
theorem g7.run:∀{b:Nat} {a:List eO},g7 P u b a->dr u=true->dL P (a8 b a.length) (a8 b a.length)
 |b,[],_,_=>.nil
 |b,z::v,h,c=>by
  haveI L:=h 0 z rfl;rw [kZ,Cr];exact(dL.leaf (tx L.w L.ft L.lo L.ix) (by rw [L.ft];exact Ck c)).app (h.tail.run c)
theorem g7.tA:∀{b:Nat} {a:List eO},g7 P u b a->u≠5->fb P (a8 b a.length)=a.flatten.length
 |b,[],_,_=>rfl
 |b,z::v,h,c=>by
  haveI L:=h 0 z rfl;rw [kZ,Cr,i6,a9];show jo (aE P _)+fb P (a8 (b+1) v.length)=_
  rw [h.tail.tA c,L.ft,Cq L.w.wr,if_neg c,bz];exact Ug
theorem g7.freed:∀{b:Nat} {a:List eO},g7 P u b a->u≠5->∀y∈lB b a,jX P (aE P y.1) y.2
 |b,[],_,_,y,c=>(c6 c).elim
 |b,z::v,h,d,y,c=>by
  haveI L:=h 0 z rfl;rcases cb.mp c with rfl|c
  ·exact ML L.ft L.w d L.ok
  ·exact h.tail.freed d y c
theorem aoC (f g:List Int):fb P (f++g)=fb P f+fb P g:=by
 unfold fb;rw [db,List.sum_append]
theorem tB (a:Int) (g:List Int):fb P (a::g)=jo (aE P a)+fb P g:=rfl
structure kR (P:List (List Int)) (u a:Int) (y:List (List Int)) (right:Int):Prop where
 ft:aE P a=aO u y right
 w:gL u y right
 lo:2 <= a
 ix:a <= P.length
theorem kR.ok (I:kR P u a y right):gH P a:=tx I.w I.ft I.lo I.ix
theorem kR.kids (I:kR P u a y right) (h:dr u=false):eA (aE P a)=y.map (λr=>b8 r 0)++[right]:=by rw [I.ft];exact MF I.w h
theorem kR.cnt (I:kR P u a y right):jo (aE P a)=if u=5 then 0 else(y.length:Int):=by rw [I.ft];exact Cq I.w.wr
theorem aoD {m:Nat} {f:eO} {b l:List Int×List Int} (h:m<1000) (I:kR P 2 O (dR m [b.1]) (m+2:Nat)) (n:jq P 2 (f4 ((m+1:Nat):Int)++b.1) b.2) (a:g7 P 10 m [f,[l]])
  (g:(O::a8 m 2++((f++[b]++[l]).map (·.2)).flatten).Perm d) (k:d.Nodup) (p:d.length <= 40) (j:∀q∈d,2 <= q/\q <= P.length):d0 P O 10 (f++[b]++[l]).length d:=by
 haveI o:eA (aE P O)=a8 m 2:=by
  rw [I.kids rfl,ty (by exact yL h ab)];rfl
 haveI T:=a 0 f rfl;refine wQ (b:=(O,[b.2])::lB m [f,[l]]) rfl ?_ ?_ ?_ ?_ ?_ k p j ?_
 ·exact dL.node I.ok (by rw [o];exact(a.run rfl))
 ·intro z e;rcases cb.mp e with rfl|e
  ·rw [I.ft];refine MK I.w ∅ rfl λi r c s t=> ?_;induction i with
   |zero=>obtain rfl:=bl s;obtain rfl:=bl t;exact n
   |succ i=>contradiction
  ·exact a.freed ∅ z e
 ·rw [cB,ko,tB,a.tA ∅,I.cnt];simp;exact SE
 ·refine .trans ?_ g;rw [cB,ko,cB,i6,tz];refine List.Perm.append_left (O::a8 m 2) ?_;simp only [i6,DS,db,kD,cO,cB,DV,bX];exact List.perm_append_comm_assoc ..
 ·rw [I.ft];rfl
 ·refine λ_=>m7 2 _ _ ([(m+1)]) I.ft I.w rfl ?_ ?_ ?_
  ·rw [ty (by exact yL h ab)];exact dL.leaf (tx T.w T.ft T.lo T.ix) (by rw [T.ft];exact Ck rfl)
  ·exact Pc (DW _ (DW _ (List.nil_sublist _))) (g.nodup_iff.mpr k)
  ·intro q hq;rw [dj.mp hq];exact g.subset (.tail _ (.head _))
theorem aoE {m e:Nat} {a:List eO} {s:List (List Int)} (h:m+e<1000) (c:a.length=e+1) (k:s.length=e) (I:kR P 5 O (dR m s) (m+(e+1):Nat)) (b:g7 P 13 m a)
  (g:(O::a8 m (e+1)++(a.flatten.map (·.2)).flatten).Perm d) (i:d.Nodup) (p:d.length <= 40) (j:∀q∈d,2 <= q/\q <= P.length):d0 P O 13 a.flatten.length d:=by
 haveI n:eA (aE P O)=a8 m (e+1):=by
  rw [I.kids rfl,ty (by exact Fp h k),k,lA];rfl
 haveI l:=(eq.mp (g.nodup_iff.mpr i)).1;refine wQ (b:=(O,[])::lB m a) rfl ?_ ?_ ?_ ?_ ?_ i p j ?_
 ·rw [cB,ko];exact dL.node I.ok (by rw [n,<-c];exact(b.run rfl))
 ·intro z f;rcases cb.mp f with rfl|f
  ·rw [I.ft];exact wP
  ·exact b.freed ∅ z f
 ·rw [cB,ko,tB,b.tA ∅,I.cnt,if_pos rfl,O0]
 ·refine .trans ?_ g;rw [cB,ko,cB,i6,tz,c];exact .refl _
 ·rw [I.ft];rfl
 ·refine λ_=>m7 5 _ _ (a8 m e) I.ft I.w rfl ?_ ?_ ?_
  ·rw [ty (by exact Fp h k),k];haveI:=((g7.app (B:=a.drop e) (by rw [m3];exact b)).1).run rfl
   rwa [iD,c,k1 (by exact lX ab)] at this
  ·rw [lA] at l;exact Pc (DW _ (asW ..)) l
  ·refine λq hq=>g.subset (.tail _ (cQ _ ?_));rw [lA];exact cQ _ hq
theorem aoF {m:Nat} {a:List eO} {s A:List (List Int)} {b c:List Int} {N:List Int} (C:m<900) (H:a.length=9) (k:s.length=8) (K:dR m s=A++[b]++[c]) (Q:A.length=6)
  (I:kR P 5 O [f4 ((m+10:Nat):Int)++N] (m+11:Nat)) (l:kR P 5 ((m+10:Nat):Int) A (b8 b 0)) (h:kR P 5 ((m+11:Nat):Int) [c] (m+9:Nat)) (L:g7 P 13 m a)
  (g:(O::a8 m 11++(a.flatten.map (·.2)).flatten).Perm d) (J:d.Nodup) (p:d.length <= 40) (j:∀q∈d,2 <= q/\q <= P.length):d0 P O 13 a.flatten.length d:=by
 have u:=ty (m:=m) (T4 C k);rw [k,K,db,db,show 8=6+1+1 from rfl,lA,lA,MH] at u;obtain⟨e,D⟩:=asX u rfl;obtain⟨M,E⟩:=asX e rfl;have E:b8 b 0=(m+6+1:Nat):=(asY E).1;have D:b8 c 0=(m+(6+1)+1:Nat):=(asY D).1
 have R:eA (aE P O)=[((m+10:Nat):Int),(m+11:Nat)]:=by
  rw [I.kids rfl,cB,wR (by exact iJ ab) (by exact r8 C ab)];rfl
 have W:eA (aE P (m+10:Nat))=a8 m 7:=by
  rw [l.kids rfl,M,E,show 7=6+1 from rfl,lA,MH]
 have S:eA (aE P (m+11:Nat))=a8 (m+7) 2:=by
  rw [h.kids rfl,cB,D];rfl
 have y:=(m3 7 a).symm;have w:(a.take 7).length=7:=by rw [iD,H];rfl
 have B:(a.drop 7).length=2:=by rw [lQ,H]
 generalize a.take 7=o at y w;generalize a.drop 7=T at y B;subst y;obtain⟨i,f⟩:=L.app;replace f:=w▸f;have n:=i.run rfl;have r:=f.run rfl;haveI n:=w▸n;rw [B] at r;have x:a8 m 11=a8 m 7++a8 (m+7) 2++[((m+10:Nat):Int),(m+11:Nat)]:=rfl;have t:=dL.node l.ok (by rw [W];exact n);have v:=dL.node h.ok (by rw [S];exact r)
 have F:(O::(((m+10:Nat):Int)::a8 m 7++((m+11:Nat):Int)::a8 (m+7) 2)).Perm (O::a8 m 11):=by
  refine .cons _ ?_;refine(List.Perm.cons _ ul).trans ?_;exact(DU (l₁:=[((m+10:Nat):Int),(m+11:Nat)]) (l₂:=a8 m 7++a8 (m+7) 2))
 refine wQ (b:=(O,[])::((m+10:Nat),[])::lB m o++(((m+11:Nat):Int),[])::lB (m+7) T) rfl ?_ ?_ ?_ ?_ ?_ J p j ?_
 ·rw [db,cB,cB,cB,ko,ko,w,B];exact dL.node I.ok (by rw [R];exact t.app v)
 ·intro z y;rcases cR.mp y with y|y
  ·rcases cb.mp y with rfl|y
   ·rw [I.ft];exact wP
   ·rcases cb.mp y with rfl|y
    ·rw [l.ft];exact wP
    ·exact i.freed ∅ z y
  ·rcases cb.mp y with rfl|y
   ·rw [h.ft];exact wP
   ·exact f.freed ∅ z y
 ·rw [db,cB,cB,cB,ko,ko,aoC,tB,tB,tB,i.tA ∅,f.tA ∅,I.cnt,l.cnt,h.cnt,if_pos rfl,if_pos rfl,if_pos rfl,kD,a9];exact VK
 ·refine .trans ?_ g;rw [db,db,cB,cB,cB,cB,cB,cB,ko,ko,w,B,kD,i6,i6,i6,tz,tz,kD,db,kD];exact F.append (.refl _)
 ·rw [I.ft,aoA];rfl
 ·intro _;have G:=(eq.mp (g.nodup_iff.mpr J)).1;have G:=F.nodup_iff.mpr G;refine m7 5 _ _ ((m+10:Nat)::a8 m 7) I.ft I.w rfl ?_ ?_ ?_
  ·rw [cB,wR (by exact iJ ab) (by exact r8 C ab)];exact t
  ·exact Pc (DW _ (asW ..)) G
  ·intro q hq;refine g.subset (cQ _ (F.subset (.tail _ (cQ _ hq))))
variable {P W E:List (List Int)} {S l f:List Int} {a u q:Int} {y:List (List Int)} {right:Int} {O n:Int} {d:List Int}
theorem rf (a:1 <= q) (b:q <= P.length):aE (P++E) q=aE P q:=by
 unfold aE;rw [da,da,im (by exact uV (bp _) a b)]
theorem Cs {i:Nat} {m:Nat} (a:P.length=m) (h:E[i]? =some l):aE (P++E) ((m+i+1:Nat):Int)=l:=by
 unfold aE;rw [da,show(((m+i+1:Nat):Int)-1).toNat=P.length+i by exact Wj (bp _) a,eE (by exact kb),ip,h];rfl
theorem tC {x:List Int} (a:1 <= q) (b:1 <= O) (h:q≠O):aE (P.set (O-1).toNat x) q=aE P q:=by
 unfold aE;rw [da,da,mS (by exact WK (bp _) (bp _) a b h)]
theorem tD {x:List Int} (a:1 <= O) (b:O <= P.length):aE (P.set (O-1).toNat x) O=x:=by
 unfold aE;rw [da,ua (by exact uV (bp _) a b)];rfl
structure MN (u:Int) (r:List Int):Prop where
 eL:d6 r
 keys:u=10->r.length <= 5
 rows:u=13->B6 r
structure pv (rg:List (List Int)) (u:Int) (zs:eO) (E:List (List Int)):Prop where
 ok:nG (rg++E) u zs
 nums:(zs.map (·.2)).flatten=a8 rg.length E.length
 iz:∀z∈zs,MN u z.1
 small:E.length <= 2*zs.length
variable {N:List (List Int)} {v:eO}
theorem aoG:pv N u [] []:=⟨λ_ h=>(nomatch h),by rfl,λ_ h=>(nomatch h),dA _⟩
theorem nG.frame (h:nG P u v) (b:∀q∈(v.map (·.2)).flatten,aE W q=aE P q) (c:P.length <= W.length):nG W u v:=λz a=>
 (h z a).frame (λq hq=>b q (n4.mpr (aJ z.2 (io a) hq))) c
def nH:List Int:=[0,1,9,29,40,75]
def pi (u:Int) (o:List Int) (m:Nat):List Int:=if dT u o.length<o.length then a8 m (kP u o m).length else []
theorem MO {u:Int} {o:List Int} {m:Int} (a:o.length <= 75):(kP u o m).length <= 2:=by
 unfold kP nE;split
 ·split<;>simp
 ·simp
theorem aoH {D:Int} {a:List Int} (N:0 <= D) (b:D<4294967296):b8 (iy D a) 0=D:=by
 exact wR N b
theorem aoI {o:List Int} (b:1 <= o.length) (a:o.length <= 120) (Z:1 <= P.length) (I:P.length<1000):Ch (P++nE P.length o) (P.length+1) (a8 P.length (nE P.length o).length)/\((o.length:Int)+59)/60=((a8 P.length (nE P.length o).length).length:Nat):=by
 haveI c:∀{l:List Int} {E:List (List Int)},E[0]? =some l->aE (P++E) (P.length+1)=l:=λh=>Cs rfl h;haveI p:∀{l:List Int} {E:List (List Int)},E[1]? =some l->aE (P++E) (P.length+2)=l:=λh=>Cs rfl h;unfold nE;by_cases C:o.length <= 60
 ·rw [if_pos C];refine⟨?_,(UE (fh _ 60 ∅) b C)⟩
  ·refine .cons (uO Z) (by simp) ?_ ?_
   ·rw [c rfl];exact wB C
   ·rw [c rfl];exact .nil
 ·rw [if_neg C];refine⟨?_,(Vb (fh _ 60 ∅) a C)⟩
  ·refine .cons (uO Z) (by simp) ?_ ?_
   ·rw [c rfl];exact wB (by rw [iD];exact QB (ew ..))
   ·rw [c rfl,aoH (by exact n9 ab) (by exact Tl I)];refine .cons (n9 ab) (by simp) ?_ ?_
    ·rw [p rfl];exact wB (by rw [lQ];exact RB (ay ..) a)
    ·rw [p rfl];exact .nil
theorem aoJ {s:Int} (h:s∈nH):dT 10 s=(if s=1 then 1 else 0)/\dT 13 s <= 29/\0 <= dT 13 s/\(s<2<-> ¬dT 10 s<s):=by
 unfold nH at h;simp only [cb,c6,or_false] at h;rcases h with rfl|rfl|rfl|rfl|rfl|rfl<;>decide
theorem aqF {o:List Int} {w:Int} (C:pv N u v E) (y:u=10\/u=13) (l:(o.length:Int)∈nH) (A:∀b∈o,0 <= b/\b<256) (n:0 <= w/\w<128) (Z:1 <= N.length) {m:Nat} (j:N.length+E.length=m) (I:m<1000):
  pv N u (v++[(gm u w o m,pi u o m)]) (E++kP u o m):=by
 have a:=by
  have:∀s∈nH,s <= 75:=by decide
  have:=this _ l;exact FT this ab
 have M:=o7 (u:=u) (s:=o.length) (gR);have k:(N++E).length=m:=by rw [a9];exact j
 have R:jq (N++E++kP u o m) u (gm u w o m) (pi u o m):=by
  refine jq.mk (pre:=[]) (by rcases y with rfl|rfl<;>rfl) (λ_ h=>(c6 h).elim) A a n ⟨gR,Si I⟩ ?_ ?_
  ·unfold pi kP;by_cases i:dT u o.length<o.length
   ·rw [if_pos i,if_pos i,if_pos i];have hd:(o.drop (dT u ↑o.length).toNat).length=o.length-(dT u ↑o.length).toNat:=lQ;refine fp (aoI (WY (bp _) (ay ..) M i hd) (Vv (bp _) (ay ..) hd a) (UX j Z k) (FX I k ab)) λp r=> ?_;rw [k] at p r;refine .inr ⟨QL,p,?_⟩;rw [<-r,hd];congr 2;exact Xh (bp _) (ay ..) M i
   ·rw [if_neg i,if_neg i];exact .inl ⟨rfl,by rw [if_neg i]⟩
  ·unfold pi;split
   ·rw [wO];exact MO a
   ·exact eF _
 have G:∀q∈(v.map (·.2)).flatten,aE (N++E++kP u o m) q=aE (N++E) q:=λq hq=>by
  rw [C.nums,tw] at hq;exact rf (V0 hq) (XF hq j k)
 constructor
 ·rw [<-bX];intro z g;rcases cR.mp g with g|g
  ·exact C.ok.frame G (by rw [a9 (bs:=kP u o m)];exact kb) z g
  ·rw [dj.mp g];exact R
 ·rw [db,kD,C.nums,a9,lA,j];congr 1;show pi u o m++[]=_
  rw [cO];unfold pi;split
  ·rfl
  ·rename_i i;unfold kP;rw [if_neg i];rfl
 ·intro z g;rcases cR.mp g with g|g
  ·exact C.iz z g
  ·rw [dj.mp g];have f:=R.eL;have e:=Cn (u:=u) (w:=w) (m:=m) (o:=o);refine jE (aoJ l) λB t x J=> ?_;refine⟨f,?_,?_⟩
   ·intro D;obtain rfl:=D;rw [if_neg ∅,B] at e;split at e
    ·rename_i F;rw [F,if_neg ∅] at e;exact yT e ab
    ·split at e<;>(first|exact yT e ab|exact yT e ab)
   ·intro H;obtain rfl:=H;replace e:=(if_pos rfl)▸e;have d:2 <= (gm 13 w o m).length:=by split at e<;>(first|exact F7 e x ab|exact F7 e x ab)
    have c:(gm 13 w o m).length <= 35:=by split at e<;>(first|exact F8 e t ab|exact F8 e t ab)
    refine⟨f,d,?_,?_,gq c ∅,?_⟩
    ·rw [MI];exact r6 a ab
    ·rw [MJ];exact n.2
    ·exact S7 (fg ..) c
 ·have:=MO (u:=u) (m:=m) a;rw [a9,a9];have:=C.small;exact U6 this (by assumption)
variable {P W E N:List (List Int)} {S l f:List Int} {a u q:Int} {y:List (List Int)} {right:Int} {n:Int} {d:List Int} {v:eO}
theorem wS {h e m t:Nat} (a:h+1+e=m):(((h+1:Nat):Int)::a8 m t++a8 (h+1) e).Perm (a8 h (1+e+t)):=by
 rw [lA,lA,<-a,asM h 1 e];exact .cons _ DU
theorem tE (a:u=10\/u=13) (M:cH (v.map (·.1)) <= 56) (b:∀z∈v,MN u z.1):gL u (v.map (·.1)) 0 where
 wr:=⟨by rcases a with rfl|rfl<;>exact M,by rcases a with rfl|rfl<;>decide,∅⟩
 kind:=by rcases a with rfl|rfl<;>simp
 eL:=λr c=>by
  obtain⟨z,d,rfl⟩:=dz.mp c;exact(b z d).eL
 four:=by rcases a with rfl|rfl<;>exact λh=>nomatch h
theorem wT {h e m t:Nat} (a:h+1+e=m) (b:1 <= h):∀q∈a8 h (1+e+t),2 <= q/\q <= ((m+t:Nat):Int):=λq hq=>by
 rw [tw] at hq;exact X6 a hq b
structure fu (N E:List (List Int)) (v:eO) (u:Int) (h m:Nat):Prop where
 c:pv N u v E
 gx:1 <= h
 len0:N.length=h+1
 len:N.length+E.length=m
 Ct:m<900
 Cu:v.length <= 9
variable {h m:Nat}
theorem fu.num (B:fu N E v u h m):(v.map (·.2)).flatten=a8 (h+1) E.length:=by rw [B.c.nums,B.len0]
theorem fu.hm (B:fu N E v u h m):h+1+E.length=m:=by rw [<-B.len0];exact B.len
theorem fu.nI (B:fu N E v u h m):(N++E).length=m:=by rw [a9];exact B.len
theorem fu.aoK (B:fu N E v u h m):E.length <= 18:=by haveI:=B.c.small;haveI:=B.Cu;exact S0 (by assumption) this
theorem fu.Cv (B:fu N E v u h m) {x:List Int} {L:List (List Int)}:nG ((N++E).set (((h+1:Nat):Int)-1).toNat x++L) u v:=by
 refine B.c.ok.frame (λq hq=> ?_) (by rw [a9 (bs:=L),e3];exact kb);rw [B.num,tw] at hq;haveI:=B.hm;rw [rf (by exact FK hq) (by rw [e3];exact X2 hq this B.nI),tC (by exact FK hq) (by exact iJ ab) (by exact XM hq)]
theorem fu.root (B:fu N E v u h m) {x:List Int} {L:List (List Int)}:aE ((N++E).set (((h+1:Nat):Int)-1).toNat x++L) ((h+1:Nat):Int)=x:=by
 haveI:=B.hm;haveI a:=B.nI;rw [rf (by exact iJ ab) (by rw [e3];exact r5 this a),tD (by exact iJ ab) (by exact r5 this a)]
theorem fu.new (B:fu N E v u h m) {x:List Int} {L:List (List Int)} {i:Nat} {l:List Int} (a:L[i]? =some l):aE ((N++E).set (((h+1:Nat):Int)-1).toNat x++L) ((m+i+1:Nat):Int)=l:=
 Cs (by rw [e3,B.nI]) a
theorem fu.pj (B:fu N E v u h m) {x:List Int} {L:List (List Int)}:((N++E).set (((h+1:Nat):Int)-1).toNat x++L).length=m+L.length:=by
 rw [a9,e3,B.nI]
theorem fu.wU (B:fu N E v u h m) {t:Nat} (a:t <= 11):(a8 h (1+E.length+t)).length <= 40:=by
 haveI:=B.aoK;rw [wO];exact Ub a this
theorem aoL (B:fu N E v u h m) (a:u=10\/u=13) (M:cH (v.map (·.1)) <= 56):d0 ((N++E).set (((h+1:Nat):Int)-1).toNat (aO u (v.map (·.1)) 0)) ((h+1:Nat):Int) u v.length (a8 h (1+E.length)):=by
 haveI b:=wT (t:=0) B.hm B.gx;haveI c:=B.wU (t:=0) ∅;rw [<-cO (List.set ..)];refine MM a B.root (tE a M B.c.iz) B.Cv ?_ (wN ..) c λq hq=> ?_
 ·rw [B.num];exact(wS (t:=0) B.hm)
 ·haveI:=b q hq;rw [B.pj];exact this
theorem aoM {s:List (List Int)} {u r:Int} {b:Nat} (d:u=2\/u=5) (e:b+s.length<1000) (g:∀r∈s,d6 r) (M:cH (dR b s) <= 52) (h:0 <= r/\r<4294967296):gL u (dR b s) r where
 wr:=⟨by rcases d with rfl|rfl<;>exact M,by rcases d with rfl|rfl<;>decide,h⟩
 kind:=by rcases d with rfl|rfl<;>simp
 eL:=λr c=>by
  obtain⟨i,a,rfl⟩:=dz.mp c;have a:=gr.mp a
  have f:d6 (s.getD i []):=by
   rw [da,bV a];exact g _ (mX a)
  refine⟨?_,jp (ph (by exact rZ) (by exact yO e a ab)) f.2⟩;have:=to
  have C:eX (f4 ((b+i+1:Nat):Int)++s.getD i []) <= 52:=by
   refine uu ?_ M;unfold cH;have T:f4 ((b+i+1:Nat):Int)++s.getD i []∈dR b s:=c;generalize dR b s=L at T;generalize f4 ((b+i+1:Nat):Int)++s.getD i []=r at T;clear c M g f a e;induction L with
   |nil=>cases T
   |cons y L B=>
    rw [cB,DT]
    have N:0 <= (L.map eX).sum:=by
     clear B T;induction L with
     |nil=>exact xT _
     |cons z L B=>
      rw [cB,DT];have:=to z;exact SR B this
    rcases cb.mp T with rfl|T
    ·exact Rp N
    ·have:=B T;have:=to y;exact Te this (by assumption)
  unfold eX at C;exact TX (fg _ _) C
 four:=λ_ r c=>by
  obtain⟨i,a,rfl⟩:=dz.mp c;rw [a9,nD];exact vc ab
theorem aoN {f:eO} {b l:List Int×List Int} (B:fu N E (f++[b]++[l]) 10 h m) (M:cH ((f++[b]).map (·.1)) <= 56):
  d0 ((N++E).set (((h+1:Nat):Int)-1).toNat (aO 2 (dR m [b.1]) (m+2:Nat))++[aO 10 (f.map (·.1)) 0,aO 10 [l.1] 0]) ((h+1:Nat):Int) 10 (f++[b]++[l]).length (a8 h (1+E.length+2)):=by
 haveI o:=B.Ct;haveI p:=B.hm;haveI d:=B.c.iz b (cQ _ (dn _ (.head _)));haveI j:=B.c.iz l (dn _ (.head _))
 haveI k:=by
  haveI:=Mf ((f++[b]).map (·.1)) f.length;rw [db,O7 (bz ..)] at this;rw [db] at M;exact Sp M this
 haveI z:=B.Cv (x:=aO 2 (dR m [b.1]) (m+2:Nat)) (L:=[aO 10 (f.map (·.1)) 0,aO 10 [l.1] 0])
 haveI c:∀a:Nat,a <= m+2->(a:Int) <= ((N++E).set (((h+1:Nat):Int)-1).toNat (aO 2 (dR m [b.1]) (m+2:Nat))++[aO 10 (f.map (·.1)) 0,aO 10 [l.1] 0]).length:=λa s=>by
  rw [B.pj];exact Int.ofNat_le.mpr s
 refine aoD (by exact r9 o ab) ⟨B.root,aoM (.inl rfl) (yL o ab) (λr t=>by rw [dj.mp t];exact d.eL) ?_ ⟨iJ ab,r8 o ab⟩,by haveI:=B.gx;exact p6 this,c _ (TL p)⟩ ?_ ?_ ?_ (wN ..) (B.wU ∅) λq hq=> ?_
 ·show eX (f4 _++b.1)+0 <= 52
  unfold eX;rw [a9];exact Vc (fg ..) (d.keys rfl)
 ·haveI:=z b (cQ _ (dn _ (.head _)));generalize (N++E).set (((h+1:Nat):Int)-1).toNat (aO 2 (dR m [b.1]) (m+2:Nat))++[aO 10 (f.map (·.1)) 0,aO 10 [l.1] 0]=D at this⊢;generalize b.1=r at this⊢;obtain⟨v,H,w,A,C,G,O,g⟩:=this
  haveI:=by
   exact xQ (Rh v)
  subst this;haveI:=jq.mk (u:=2) (pre:=f4 (m+1:Nat)) rfl (ph (iJ ab) (r8 o ab)) w A C G O g;exact this
 ·intro i I e
  match i,e with
  |0,e=>
   cases e;exact⟨B.new (i:=0) rfl,tE (.inl rfl) k (λz F=>B.c.iz z (cQ _ (cQ _ F))),λy n=>z y (cQ _ (cQ _ n)),Vj p,c _ (FQ ab)⟩
  |1,e=>
   cases e;refine⟨B.new rfl,tE (.inl rfl) (TS (fg ..) (j.keys rfl)) λy n=> ?_,λy n=> ?_,FV ab,c _ (FQ ab)⟩
   ·rw [dj.mp n];exact j
   ·rw [dj.mp n];exact z l (dn _ (.head _))
  | (i+2),e=>contradiction
 ·rw [B.num];exact wS p
 ·rw [B.pj];exact wT p B.gx q hq
variable {P W E N:List (List Int)} {S l f:List Int} {a u q:Int} {y:List (List Int)} {right:Int} {n:Int} {d:List Int} {v:eO} {h m:Nat}
theorem MP:∀{d:List (List (List Int))} {v:eO},d.flatten=v.map (·.1)->∃a:List eO,a.flatten=v/\a.map (λz=>z.map (·.1))=d
 | [],v,h=>(aJ ([]) ((List.map_eq_nil_iff.mp h.symm).symm) rfl)
 |p::d,v,h=>by
  exact dN (List.map_eq_append_iff.mp h.symm) λo g b c X=>aw (MP X.symm) λa e f=>aJ (o::a) (by rw [i6,e,b]) (by rw [cB,f,c])
theorem wV (b:∀r∈y,r.length=5/\d6 r) (c:y.length <= 7) (a:0 <= right/\right<4294967296):gL 5 y right where
 wr:=⟨by rw [tt λr a=>(b r a).1];show 7*(y.length:Int) <= 52;exact R0 c,∅,a⟩
 kind:=.inr (.inl rfl)
 eL:=λr a=>(b r a).2
 four:=λ_ r a=>by rw [(b r a).1];decide
theorem MQ {s:List (List Int)} {b:Nat} (f:b+s.length<1000) (d:∀r∈s,r.length=1/\d6 r):∀r∈dR b s,r.length=5/\d6 r:=λr c=>by
 have e:=Mx (λr c=>(d r c).1) r c;refine⟨e,by rw [e];decide,aw (dz.mp c) λi a g=> ?_⟩;obtain rfl:=g;have a:=gr.mp a;refine jp (ph (rZ) (yO f a ab)) ?_;rw [da,bV a];exact(d _ (mX a)).2.2
theorem MR {a:List eO} {x:List Int} {L:List (List Int)} (B:fu N E v 13 h m) (f:a.flatten=v) (M:∀z∈a,cH (z.map (·.1)) <= 56):
  g7 ((N++E).set (((h+1:Nat):Int)-1).toNat x++((a.map λz=>aO 13 (z.map (·.1)) 0)++L)) 13 m a:=λi z d=>by
 haveI e:=(cF.mp d).1;haveI b:=cq d;haveI r:∀y∈z,y∈v:=λy c=>by rw [<-f];exact n4.mpr (aJ z b c)
 haveI:=B.hm;refine⟨B.new ?_,tE (.inr rfl) (M z b) λy c=>B.c.iz y (r y c),λy c=>B.Cv y (r y c),Vs this,?_⟩
 ·rw [im (by rw [bz];exact e),cm,d];rfl
 ·rw [B.pj,a9,bz];exact WC e
theorem aoO {q:List (List Int)} (h:∀r∈q,d6 r):(f3 q).length=1/\d6 (f3 q):=by
 haveI f:d6 (q.getLastD []):=by
  rw [Pb];induction hq:q.getLast? with
  |none=>exact⟨∅,λ_ h=>(c6 h).elim⟩
  |some r=>exact h r (Pa hq)
 exact⟨rfl,by show 1 <= _;decide,λb a=>by rw [dj.mp a];exact f.at 1⟩
theorem aoP {d:List (List (List Int))} (B:fu N E v 13 h m) (K:tq (v.map (·.1)) 56 d) (H:wJ (N++E) ((h+1:Nat):Int) d W):
  ∃t,t <= 11/\W.length=m+t/\d0 W ((h+1:Nat):Int) 13 v.length (a8 h (1+E.length+t)):=by
 refine aw (MP K.flat) λa Q Y=> ?_;have o:=B.Ct;have P:=B.hm;have S:=B.gx;have M:∀z∈a,cH (z.map (·.1)) <= 56:=λz Z=>K.fit _ (by rw [<-Y];exact io Z)
 have T:∀p∈d,∀r∈p,d6 r:=λp hp r O=>by
  have:r∈v.map (·.1):=by rw [<-K.flat];exact n4.mpr (aJ p hp O)
  obtain⟨z,Z,rfl⟩:=dz.mp this;exact(B.c.iz z Z).eL
 have k:∀r∈d.dropLast.map f3,r.length=1/\d6 r:=λr O=>by
  refine aw (dz.mp O) λp hp q2=> ?_;obtain rfl:=q2;exact aoO (T p (O8 _ hp))
 have n:a.length=d.length:=by rw [<-Y,bz]
 have bN:=k4.mpr K.ne;have j:(d.dropLast.map f3).length=d.length-1:=by rw [bz,O9]
 have em:∀F:List (List Int)->List Int,d.map F=a.map λz=>F (z.map (·.1)):=λF=>by rw [<-Y,iE];rfl
 have G:(a.flatten.map (·.2)).flatten=a8 (h+1) E.length:=by rw [Q,B.num]
 induction H with
 |low g=>
  rw [B.nI,em];have U:=MR (x:=aO 5 (dR m (d.dropLast.map f3)) (m+d.length:Nat)) (L:=[]) B Q M;have J:=B.pj (x:=aO 5 (dR m (d.dropLast.map f3)) (m+d.length:Nat)) (L:=a.map λz=>aO 13 (z.map (·.1)) 0);rw [cO] at U;rw [bz,n] at J;have X:d.length=d.length-1+1:=yt (ay ..) bN;refine cJ d.length (bE g ab) J ?_;rw [<-Q];refine aoE (m:=m) (e:=d.length-1) (Un (ay ..) o g) (UV (ay ..) X n) j ⟨by rw [<-X];exact B.root,wV (MQ (VE (ay ..) o j g) k) (by rw [Cd,j];exact Q5 (ay ..) g) (XQ (ay ..) o g),p6 S,by rw [J];exact WB P⟩ U ?_ (wN ..) (B.wU (bE g ab)) λq hq=>by rw [J];exact wT P S q hq
  rw [<-X,G];exact wS P
 |high f R=>
  rename_i A b c;rw [B.nI,em];replace R:=B.nI▸R;have u:=MQ (b:=m) (VD (ay ..) o j f) k;replace u:=R▸u;have w:=congrArg List.length R;rw [Cd,j,a9,a9,Pd,Pd] at w;have V:=u b (cQ _ (dn _ (.head _)));have hc:=u c (dn _ (.head _));have U:=MR (x:=aO 5 [f4 (m+9+1:Nat)++b.drop 4] (m+9+2:Nat)) (L:=[aO 5 A (b8 b 0),aO 5 [c] (m+9:Nat)]) B Q M;have J:=B.pj (x:=aO 5 [f4 (m+9+1:Nat)++b.drop 4] (m+9+2:Nat)) (L:=(a.map λz=>aO 13 (z.map (·.1)) 0)++[aO 5 A (b8 b 0),aO 5 [c] (m+9:Nat)]);have I:=λ{i:Nat} {l:List Int}=>B.new (x:=aO 5 [f4 (m+9+1:Nat)++b.drop 4] (m+9+2:Nat)) (L:=(a.map λz=>aO 13 (z.map (·.1)) 0)++[aO 5 A (b8 b 0),aO 5 [c] (m+9:Nat)]) (i:=i) (l:=l);have y:=B.root (x:=aO 5 [f4 (m+9+1:Nat)++b.drop 4] (m+9+2:Nat)) (L:=(a.map λz=>aO 13 (z.map (·.1)) 0)++[aO 5 A (b8 b 0),aO 5 [c] (m+9:Nat)]);have C:((a.map λz=>aO 13 (z.map (·.1)) 0)++[aO 5 A (b8 b 0),aO 5 [c] (m+9:Nat)]).length=11:=by rw [a9,bz,n,f];rfl
  haveI J:=C▸J;generalize (N++E).set (((h+1):Int)-1).toNat (aO 5 [f4 (m+9+1)++b.drop 4] (m+9+2))++((a.map λz=>aO 13 (z.map (·.1)) 0)++[aO 5 A (b8 b 0),aO 5 [c] (m+9)])=D at*;have J:=J;have s:(a.map λz=>aO 13 (z.map (·.1)) 0).length=9:=by rw [bz,n,f]
  refine cJ 11 ∅ J ?_;rw [<-Q];refine aoF (m:=m) (r9 o ab) (Se f n) (SV (ay ..) j f) R (Up (ay ..) w f) ⟨y,wV ?_ (by show 1 <= 7;decide) (WT o),p6 S,WV P (by assumption)⟩ ⟨I ?_,wV ?_ (Uq (ay ..) w f) ⟨Lr V.2 0,Mv V.2 0⟩,iJ ab,yV (by assumption) (by exact ab)⟩ ⟨I ?_,wV ?_ (by show 1 <= 7;decide) (WM o),iJ ab,yV (by assumption) (by exact ab)⟩ U ?_ (wN ..) (B.wU (yP ab)) λq hq=>by rw [J];exact wT P S q hq
  ·intro r O;rw [dj.mp O];have hd:(b.drop 4).length=1:=by rw [lQ,V.1]
   refine⟨by rw [a9,hd];rfl,by rw [a9,hd,nD];decide,jp (ph (iJ ab) (r8 o ab)) λx hx=>V.2.2 x (asD hx)⟩
  ·rw [eE (by exact nf s ab),s];rfl
  ·exact λr O=>u r (cQ _ (cQ _ O))
  ·rw [eE (by exact nf s ab),s];rfl
  ·intro r O;rw [dj.mp O];exact hc
  ·rw [G];exact wS P
variable {P W:List (List Int)} {S d:List Int} {u O n:Int} {D:List (Int×Int)}
theorem d0.mw (T:d0 P O u n d):O∈d:=by
 exact f9 T.ex λb c e f g a=>a.subset (.head _)
theorem d0.wW (T:d0 P O u n d) (p:S.Nodup) (hd:∀q∈S,q∉d) (I:P.length <= 1000) (b:S.length <= 1000) (r:D.length <= 100000):
  ∃g c,BM P S D O g c/\fb P (O::g)=n/\(O::mF O g c).Perm d:=by
 refine a6 λz s=>f9 T.ex λg c l t v i=> ?_;haveI k:=i.nodup_iff.mpr T.cP;haveI m:=i.length_eq;haveI j:=T.len;haveI o:(mF O g c).length=(((O::g).map λa=>(c a).flatten).flatten).length+g.length:=a9
 haveI f:(O::g).Nodup:=by
  rw [eD] at k⊢;exact⟨λh=>k.1 (dn _ h),(eq.mp k.2).2.1⟩
 haveI w:=by
  haveI:=dL.walk l (by rw [asV];exact f) (by exact WS m o j) .done
  rwa [cO] at this
 exact s (dt g c ⟨bE I ab,w,l.ok,t,r,(eq.mpr ⟨p,(eD.mp k).2,λq hq y x e=>hd q hq (i.subset (.tail _ (e▸x)))⟩),Xm m o b j,λq hq=>(T.gI q (i.subset (.tail _ (cQ _ hq))))⟩ v i)
theorem gL.right' {u:Int} {y:List (List Int)} {r a:Int} (W:gL u y r) (h:0 <= a/\a<4294967296):gL u y a:=⟨⟨W.wr.fit,W.wr.BS,h⟩,W.kind,W.eL,W.four⟩
theorem d0.MS (T:d0 P O u n d) (I:P.length<1000) (j:dr (bK (aE P O) 0)=false):
  ∃f y right,aE P O=aO f y right/\gL f y right/\dr f=false/\f1 (P.set (O-1).toNat (aO f y O)) [] [O] none:=by
 refine a6 λp k=>rR (T.ring j) λf y right m l c g o b B=> ?_;haveI a:=T.gI O T.mw;haveI i:=gq (asZ (eD.mp b).2 B) T.len;haveI W:=c.right' (a:=O) ⟨jb a ab,nc a I ab⟩;haveI e:=tD (x:=aO f y O) (O:=O) (jb a ab) a.2;haveI R:dL (P.set (O-1).toNat (aO f y O)) (y.map λr=>b8 r 0) m:=o.frame (λq hq=>tC (by haveI:=(T.gI q (B q hq)).1;exact gw this ab) (jb a ab) (λe=>(eD.mp b).1 (e▸hq))) (by rw [e3];exact dA _);refine k (k7 f y right l c g (.step (λh=>(c6 h).elim) (eF _) (eF _) (tx W e a.1 (by rw [e3];exact a.2)) ?_));rw [e,MF W g,cO];exact R.walk (b) (R5 i) (.bad (cQ _ (.head _)) ⟨jb a ab,nc a I ab⟩ (kE i ab) (eF _))
theorem MT {u r a:Int} {y:List (List Int)} (w:eB u y r) (h:dr u=false) (N:0 <= a) (b:a<4294967296):(dK (aO u y r) none (some 8)++qs (kC 4) a)++dK (aO u y r) (some 12) none=aO u y a:=by
 haveI c:=nC w
 haveI e:∀x,aO u y x=([u,0,0]++f2 y.length++f2 (64-cI y)++[0])++(f4 x++(((aI y.length).map (h9 y)).flatten++eg (64-cI y-(iS u y r).length).toNat 0++(y.map dE).reverse.flatten)):=λx=>by
  rw [wM,h,wA,wA];rfl
 haveI g:([u,0,0]++f2 y.length++f2 (64-cI y)++[0]).length=8:=rfl
 haveI d:qs (kC 4) a=f4 a:=by
  show [_,_,_,_]=[_,_,_,_]
  congr 1
  ·exact YC N b
  ·congr 1
   ·exact YB
   ·congr 1
    ·exact SA
    ·congr 1;exact RM
 rw [wC ∅ (by exact p7 c ab),d,e r,e a];rfl
section
variable {n j:Nat} {J i:ae} {k:aa->ae->Prop} {x:bn} {P W E N:List (List Int)} {S l f:List Int} {a u q:Int} {y:List (List Int)} {v:eO} {h m:Nat}
structure CT (Q:List (List Int)) (r:Int) (m t:Nat) (W:List (List Int)):Prop where
 ex:∃x L,W=Q.set (r-1).toNat x++L
 len:W.length=m+t
 le:t <= 11
theorem CT.old {r:Int} {t:Nat} (B:CT P r m t W) (a:1 <= q) (b:q <= P.length) (c:q≠r) (d:1 <= r):aE W q=aE P q:=by
 refine pU B.ex λx L e=> ?_;obtain rfl:=e;rw [rf a (by rw [e3];exact b),tC a d c]
theorem MU {y:List (List Int)}:(∀r∈y,r.length <= 5)->cH y <= 7*y.length:=by
 induction y with
 |nil=>
  intro _;exact xT _
 |cons r y B=>
  intro h;exact XN (fg ..) (B λp a=>h p (.tail _ a)) (h r (.head _))
theorem aoQ (w:10 <= n) (B:fu N E v u h m) (y:u=10\/u=13) (A:4 <= j) (s:(W4 (N++E) S++i)[j]? =some (aT (v.map (·.1)))) (U:(aE (N++E) ((h+1:Nat):Int)).length <= 16777216)
  (F:∀W t,CT (N++E) ((h+1:Nat):Int) m t W->d0 W ((h+1:Nat):Int) u v.length (a8 h (1+E.length+t))->k .none (W4 W S++i)):
  az aA n 65 [.ref 0,.int ((h+1:Nat):Int),.int u,.ref j] (W4 (N++E) S++i) k x:=by
 have o:=B.Ct;have D:=B.hm;have G:=B.gx;have p:=B.nI;by_cases M:cH (v.map (·.1)) <= 56
 ·exact aon (aQ w ab) (vf o p ab) A s (p6 G) (r5 D p) U (tE y M B.c.iz).wr (F _ 0 ⟨(n6 _ ([]) ((cO _).symm)),by rw [e3];exact p,eF _⟩ (aoL B y M))
 ·rcases y with rfl|rfl
  ·have C:=MU λr q=>by
    obtain⟨z,g,rfl⟩:=dz.mp q;exact(B.c.iz z g).keys rfl
   rw [bz] at C;refine m6 (My 7 (Wl C B.Cu M)) λf b l I Q=> ?_;obtain rfl:=I;haveI a:=λz g=>(B.c.iz z g).keys rfl
   haveI c:cH ((f++[b]).map (·.1)) <= 56:=by
    refine uu (MU λr q=> ?_) (by rw [bz,a9,Q];exact xT 56);obtain⟨z,g,rfl⟩:=dz.mp q;exact a z (cQ _ g)
   have e:(f++[b]++[l]).map (·.1)=f.map (·.1)++[b.1]++[l.1]:=by simp
   haveI J:(f++[b]).map (·.1)=f.map (·.1)++[b.1]:=by rw [db];rfl
   rw [e] at s M;refine(aoo (aQ w ab) A s (λr q=> ?_) (by rw [bz];exact nf Q ab) (by rw [<-J];exact c) (EC M) (vf o p ab) (p6 G) (r5 D p) U ?_)
   ·rw [<-e] at q;obtain⟨z,g,rfl⟩:=dz.mp q;exact gq (a z g) ∅
   ·rw [p];exact F _ 2 ⟨(n6 _ _ rfl),B.pj,∅⟩ (aoN B c)
  ·haveI L:v.map (·.1)≠[]:=by
    intro e;rw [e] at M;exact M ∅
   refine aop (aQ w ab) A s (λr q=> ?_) (by rw [bz];exact B.Cu) L (EC M) (vf o p ab) (p6 G) (r5 D p) U λd W K H=> ?_
   ·obtain⟨z,g,rfl⟩:=dz.mp q;exact(B.c.iz z g).rows rfl
   ·refine cU (aoP B K H) λt O P R=>F W t ⟨?_,P,O⟩ R;induction H with
    |low _=>exact n6 _ _ rfl
    |high _ _=>exact n6 _ _ rfl
end
section
variable {n j:Nat} {J t:ae} {k:aa->ae->Prop} {x:bn} {P:List (List Int)} {S l f:List Int} {D:List (Int×Int)} {a u:Int}
abbrev jt (a b:Int):aB:=.list [.int a,.int b]
structure fv (a b:Int):Prop where
 td:0 <= a
 B7:0 <= b
 wI:b<2147483647
theorem MV {r:aa} {o':aB} {g:ae} (a:∀b,mo b o'=o') (c:kq r=true) (h:k r (J.set j o')):dx k [j] J r (o'::g):=by
 refine fR (cJ ([]) f8 (by simp) ?_);show k (cz _ r) (d1 _ [j] (o'::g) J++[])
 rw [cO,qP c];show k r (J.set j (mo _ o'))
 rw [a];exact h
theorem wX {e l c:Int} (q:1 <= n) (r:J[j]? =some (jt e l)) (m:fv e l) (i:0<c/\c<2^64) (h:∀d a b,0 <= d->d<c->fv a b->k (.int d) (J.set j (jt a b))):az aA n 74 [.ref j,.int c] J k x:=by
 haveI z:∀a b:aa,[a,b].length <= 16777216:=λa b=>by show 2 <= _;decide
 haveI g:∀a b:aa,(0:Int)<([a,b].length):=λa b=>by show(0:Int)<2;decide
 haveI o:∀a b:aa,(1:Int)<([a,b].length):=λa b=>by show(1:Int)<2;decide
 refine dQ (H:=[.ref 0,.int c]) [j] rfl rfl q rfl fm rfl (q6 r rfl) rfl rfl ⟨z ..,?_⟩;by_cases N:0<e
 ·exact eH (decide_eq_true N) (uy (z ..) i.1 (z ..) i.1 i.2 (z ..) (xT _) (g ..) (MV (λ_=>rfl) rfl (h _ _ _ (us _ (ud i.1)) (ut _ i.1) ⟨xH m.td (nV i.1),m.B7,m.wI⟩)))
 ·haveI f:0 <= (l*39373+7)%2147483647:=us _ ∅;haveI p:(l*39373+7)%2147483647<2147483647:=ut _ ∅;exact cn (decide_eq_false N) ⟨z ..,.inr ∅,∅,z ..,∅,o ..,z ..,z ..,.inl ⟨Int.lt_of_lt_of_le ∅ f,OM p ∅⟩,∅,∅,∅,i.1,MV (λ_=>rfl) rfl (h _ _ _ (us _ (ud i.1)) (ut _ i.1) ⟨m.td,f,p⟩)⟩
theorem MW {l:List Int} {i:Nat} (h:i<l.length):∃v,eo (l.map aa.int) (i:Int)=some (.int v):=by
 refine⟨l[i],kQ ?_⟩;rw [cm,bV h];rfl
theorem aoR {l:List Int} {o:cj} {c d:Int} {v:aa} {K:List aa->ae->Prop} (g:J[j]? =some (.fB l o)) (i:0 <= c) (e:0 <= d/\d<2147483647) (h:∀a b,fv a b->k (.ref (J.length+0)) (J++[jt a b])):
  ah (A7 (az aA n)) ar [.ref 0,.int c,.int d,v] [.fB l o] K (dx k [j] J) x:=by
 refine dd ∅ ∅ ∅ ?_;haveI m:([.fB l o]).all (aL 1)=true:=rfl
 haveI f:∀a:Int,0 <= a->([aa.int a,aa.int d].length <= 16777216/\dx k [j] J (.ref 1) ([.fB l o]++[jt a d])):=λa p=>
  ⟨by show 2 <= _;decide,lw fm (qW (dA _) (dA _)) (q6 g rfl) rfl m (h a d ⟨p,e.1,e.2⟩)⟩
 by_cases N:10^kC 18 <= c
 ·exact eH (decide_eq_true N) (f c i)
 ·exact cn (decide_eq_false N) (f 0 (xT _))
theorem Cw {m:Nat} (h:m <= 1000000):gZ (0,(m:Int),1):=by
 exact X8 h
theorem aoS {l:List Int} {o:cj} (u:1 <= n) (y:l.length <= 63) (q:J[j]? =some (.fB l o)) (h:∀a b,fv a b->k (.ref (J.length+0)) (J++[jt a b])):az aA n 73 [.ref j] J k x:=by
 haveI e:l.length <= 16777216:=gq y ∅;haveI r:([.fB l o]).all (aL 1)=true:=rfl;haveI em:min (l.length:Int) 20=(min l.length 20):=TG (yo ..) (ew ..);refine dQ (H:=[.ref 0]) [j] rfl rfl u rfl fm rfl (q6 q rfl) r rfl ⟨e,?_⟩
 have s:∀c:Int,0 <= c->((0:Int)<2147483629/\l.length <= 16777216/\gZ (0,min l.length 20,1)/\
   ∃f,gC A6 (fZ 0 (min l.length 20) 1) 3 (ah (Kv (az aA (n-1))) ar) 1 f 0 [.ref 0,.int c,.int (c%2147483629+17),.aR] [.fB l o] (λY z=>ah (A7 (az aA (n-1))) ar Y z (λ_ z=>dx k [j] J .none z) (dx k [j] J) (λm z=>x m (c5 [j] [] J z))) (dx k [j] J) (λm z=>x m (c5 [j] [] J z))):=λc g=>by
  refine⟨∅,e,?_,?_⟩
  ·rw [em];exact Cw (QM (ew ..))
  ·rw [em];refine qT (λ_ Y J=>∃d v,Y=[.ref 0,.int c,.int d,v]/\0 <= d/\d<2147483647/\J=[.fB l o]) (iH _ _ rfl (Rf (fh _ 2147483629 ∅)) (Sh (fh _ 2147483629 ∅)) rfl) ?_ ?_
   ·intro i Y aj B C K F;refine f9 C λd v D N t E=> ?_;obtain rfl:=D;obtain rfl:=E;obtain⟨w,p⟩:=MW (RL (ew ..) B);refine bv (.inr ∅) e (dB p (dd ∅ (.inl ∅) ∅ (fH rfl rfl r (F _ _ (iH _ _ rfl (us _ ∅) (ut _ ∅) rfl)))))
   ·intro Y aj G;refine f9 G λd v H N t A=> ?_;obtain rfl:=H;obtain rfl:=A;exact aoR q g ⟨N,t⟩ h
 have next:∀c:Int,ah (Kx (az aA (n-1))) (Kw (az aA (n-1))) [.ref 0,.int c,.aR,.aR] [.fB l o] (λ_ z=>dx k [j] J .none z) (dx k [j] J) (λm z=>x m (c5 [j] [] J z)):=λc=>by
  by_cases g:c<0
  ·exact eH (decide_eq_true g) (s (0-c) (Q0 g))
  ·exact cn (decide_eq_false g) (s c (QV g))
 by_cases N:(0:Int)<l.length
 ·exact jF (MW (Ri N)) λw p=>eH (decide_eq_true N) ⟨e,dB p (next w)⟩
 ·exact cn (decide_eq_false N) (next 0)
end
section
variable {n j:Nat} {J t:ae} {k:aa->ae->Prop} {x:bn} {P:List (List Int)} {S l f:List Int} {D:List (Int×Int)} {a u r:Int}
theorem MX (a:u=10\/u=13):(dk u).length=64/\eo (dk u) 0=some u/\dK (dk u) (some 3) (some 5)=eg (kC 2) 0:=by
 rcases a with rfl|rfl<;>decide
theorem Cx {q:aa->ae->Prop} {m:List aa} {V:ae} (g:1 <= n) (i:m.length <= 2) (I:P.length <= 16000000) (j:1 <= r) (k:r <= P.length) (l:u=10\/u=13) (o:aE P r=dk u) (h:q (.bool true) (W4 P S++(.tup (.int r:: .int u::m)::V))):
  fE Ba (az aA n) [.ref 0,.ref 4] (W4 P S++(.tup (.int r:: .int u::m)::V)) q x:=by
 haveI d:=Sy i;refine dp (MX l) λa b f=> ?_;haveI c:(dk u).length <= 16777216:=by rw [a];decide
 haveI e:W4 P S++(.tup (.int r:: .int u::m)::V)++([])=W4 P S++(.tup (.int r:: .int u::m)::V):=cO _;refine bv rfl d ?_;show az aA n 68 [.ref 0,.int r] (W4 P S++(.tup (.int r:: .int u::m)::V)++[]) ..
 rw [e];refine o9 g I j k ?_;rw [o];exact⟨c,dB b ⟨d,eH (decide_eq_true rfl) (dd c ∅ ∅ h)⟩⟩
theorem tF {f:Nat} {F:bd} {H:List aa} (M:aA f=some F) (a:F.lam=true) (b:1 <= n) (h:F.T (az aA (n-1)) H J (λ_ _=>False) k x):az aA n f H J k x:=by
 induction n with
 |zero=>contradiction
 |succ n=>
  show(match aA f with|none=>False|some F=>if F.lam then F.T (az aA n) H J (λ_ _=>False) k x else _)
  rw [M];show if F.lam then _ else _
  rw [if_pos a];exact h
theorem MY {V:ae} {m:Nat} (h:V.all (aL (7+m))=true):(W7 P S D++V).all (aL (7+m))=true:=ds (by rw [xS];exact cC) h
theorem tG {V:ae} {c:List Nat} {a l u:Nat} {o:List Nat} (r:2 <= n) (b:V.all (aL (7+c.length))=true) (v:c.Nodup) (C:∀i∈c,7 <= i) (q:cM (cL (aI 7++c)) (W7 P S D++t) c V) (d:a<7+c.length) (M:(W7 P S D++V)[a]? =some (.fn l u o)) (w:(W7 P S D++V)[u]? =some (.code l))
  (h:∀(K:aa->ae->Prop) (X:bn),(∀W e y,k (.str 0) (W7 W e y++t)->K .none (W7 W e y++V))->(∀m s,[(2,4),(1,5)].lookup m=some s->∀W e y,k (.str s) (W7 W e y++t)->X m (W7 W e y++V))->az aA (n-1) (1000+l) (o.map .ref) (W7 P S D++V) K X):
  az aA n 77 ([aa.ref a].map (cz (cL (aI 7++c)))) (W7 P S D++t) k x:=by
 refine jn c rfl rfl (aQ r ab) rfl rfl (MY b) (cC) (by show(bD a _&&true)=true;rw [bS.mpr d];rfl) v C q ?_
 have R:∀s W e y,k (.str s) (W7 W e y++t)->dx k (aI 7++c) (W7 P S D++t) (.str s) (W7 W e y++V):=λs W e y f=>by
  haveI:=jR (g:=[]) (p:=7) rfl rfl (cC) b C q rfl f
  rwa [cO] at this
 show zX (az aA (n-1)) 0 [.ref a] (W7 P S D++V++([])) ..
 rw [cO];show(match(W7 P S D++V)[a]? with|some (.fn j u o)=>_ |_=>False)
 rw [M];refine⟨w,h _ _ (λW e y f=>R 0 W e y f) ?_⟩
 ·intro m s z W e y f;rw [z];exact R s W e y f
end
section
variable {n j:Nat} {J t:ae} {k:aa->ae->Prop} {x:bn} {P:List (List Int)} {S l f:List Int} {D:List (Int×Int)} {a u r:Int}
theorem Cy (b:u=10\/u=13) (c:aE P a=dk u) (d:2 <= a) (e:a <= P.length):d0 P a u 0 [a]:=
 MM (v:=[]) b (by rw [c,aow b];rfl) (aox b) (λ_ h=>(c6 h).elim) (.refl _) (by simp) (by show 1 <= 40;decide) λq hq=>by rw [dj.mp hq];exact⟨d,e⟩
structure pk (P:List (List Int)) (S:List Int) (D:List (Int×Int)) (own:List Int):Prop where
 cP:S.Nodup
 kS:∀q∈S,q∉own
 lx:P.length <= 1000
 rh:S.length <= 1000
 tl:D.length <= 100000
variable {O m:Int} {d:List Int}
theorem aoT (a:8 <= n) (T:d0 P O u m d) (I:P.length <= 1000) (h:k (.int m) (W7 P S D++t)):az aA n 47 [.ref 4,.int O] (W7 P S D++t) k x:=by
 exact a6 λf b=>dN (T.wW (D:=[]) f8 (λ_ h=>(c6 h).elim) I (eF _) (eF _)) λg c C e p=>b (anz a C.lx C.walk C.ok (by rw [e];exact h))
theorem aoU (a:9 <= n) (T:d0 P O u m d) (F:pk P S D d) (h:∀G,(O::G).Perm d->k (.int m) (W7 (P.set (O-1).toNat (dk u)) (S++G) (d8 D O)++t)):az aA n 45 [.ref 4,.int O] (W7 P S D++t) k x:=by
 refine a6 λf b=>dN (T.wW F.cP F.kS F.lx F.rh F.tl) λg c C e p=>b (L4 a C ?_);haveI:=h _ p;rw [e];unfold qY;rw [T.kind];exact this
theorem MZ (b:10 <= n) (T:d0 P O u m d) (F:pk P S D d) (h:∀G,(O::G).Perm d->k .none (W7 (P.set (O-1).toNat (dk u)) (S++G++[O]) (d8 D O)++t)):az aA n 46 [.ref 4,.int O] (W7 P S D++t) k x:=by
 refine a6 λg f=>dN (T.wW F.cP F.kS F.lx F.rh F.tl) λi c C e p=>f (anE b C ?_ ?_ ?_)
 ·intro a;rcases cR.mp a with a|a
  ·exact F.kS _ a T.mw
  ·exact(eD.mp (p.nodup_iff.mpr T.cP)).1 a
 ·rw [a9];exact We p.length_eq F.rh T.len
 ·haveI:=h _ p;unfold qY;rw [T.kind];exact this
abbrev ic:List (List Int):=[cN]
abbrev iU (e:aa) (ct:List (Nat×Nat)) (g:ae):ae:=.cw 0 7 ct:: .cell (.ref 4):: .cell e:: .list [.bytes cN]::g
theorem aoV (a:3 <= n) {ct:List (Nat×Nat)} {e:aa} (h:k (.str 4) (W7 ic [] []++iU e ct [.code 0,.fn 0 11 [8]])):az aA n 77 [.ref 12] (W7 ic [] []++iU e ct [.code 0,.fn 0 11 [8]]) k x:=
 tG (a:=9) (aQ a ab) rfl ∅ ∅ (.cons rfl (.cons rfl (.cons rfl .nil))) ∅ rfl rfl
  λK X c b=>tF rfl rfl (aM (ay ..) a ab) (anG (t:=[.cell (.ref 4),.code 0,.fn 0 8 [7]]) (n8 (ay n 1) (ay (n-1) 1) a ab) (b 2 4 rfl _ _ _ h))
theorem aoW (a:3 <= n) {ct:List (Nat×Nat)} {e:aa} {o g:aB} (h:k (.str 4) (W7 ic [] []++iU e ct [o,g,.code 1,.fn 1 13 [8]])):az aA n 77 [.ref 14] (W7 ic [] []++iU e ct [o,g,.code 1,.fn 1 13 [8]]) k x:=
 tG (a:=9) (aQ a ab) rfl ∅ ∅ (.cons rfl (.cons rfl (.cons rfl .nil))) ∅ rfl rfl
  λK X c b=>tF rfl rfl (aM (ay ..) a ab) (anF (t:=[.cell (.ref 4),.code 1,.fn 1 8 [7]]) (n8 (ay n 1) (ay (n-1) 1) a ab) (b 2 4 rfl _ _ _ h))
abbrev jV:List (List Int):=[cN,dk 10]
theorem aoX (c:12 <= n) {ct:List (Nat×Nat)} {o g j a b e:aB} (h:k (.str 0) (W7 jV [2] [(2,2)]++iU (.int 2) ct [o,g,j,a,b,e,.code 2,.fn 2 17 [8,9]])):az aA n 77 [.ref 18] (W7 jV [] [(2,1)]++iU (.int 2) ct [o,g,j,a,b,e,.code 2,.fn 2 17 [8,9]]) k x:=
 tG (a:=10) (V:=[.cell (.ref 4),.cell (.int 2),.code 2,.fn 2 9 [7,8]]) (c:=[8,9,17,18]) (aQ c ab) rfl ∅ ∅ (.cons rfl (.cons rfl (.cons rfl (.cons rfl .nil)))) ∅ rfl rfl
  λK X d f=>tF rfl rfl (aM (ay ..) c ab) (MZ (n8 (ay n 1) (ay (n-1) 1) c ab) (Cy (.inl rfl) rfl ∅ ∅) ⟨f8,λ_ h=>((c6 h).elim),∅,eF _,∅⟩ λG i=>by
   haveI:=List.perm_nil.mp ((List.perm_cons _).mp i);subst this;exact d _ _ _ h)
end
section
variable {n j:Nat} {J t:ae} {k:aa->ae->Prop} {x:bn} {P:List (List Int)} {S l f:List Int} {D:List (Int×Int)} {a u r:Int}
theorem M0 {d:Type} (c:d->aa) (b:∀a,sK (c a) (c a)=some true) (l:List d):sL (l.map c) (l.map c)=some true:=by
 induction l with
 |nil=>rfl
 |cons a l B=>
  refine(?_:(sK _ _).bind _=_);rw [b];exact congrArg (Option.map (true&& ·)) B
theorem CU (P:List (List Int)):kL (P.map .bytes) (P.map .bytes)=some true:=by
 unfold kL;rw [if_pos rfl];exact M0 aa.bytes (λa=>congrArg some (decide_eq_true rfl)) P
theorem tH (S:List Int):kL (S.map .int) (S.map .int)=some true:=by
 unfold kL;rw [if_pos rfl];exact M0 aa.int (λa=>congrArg some (decide_eq_true rfl)) S
theorem nJ {l:List aa} {a b:Nat} {c:Bool->Prop} (d:J[a]? =some (.list l)) (e:J[b]? =some (.list l)) (f:kL l l=some true) (g:c false):du (.ref a) (.ref b) J c:=by
 refine(?_:sM _ _ J[a]?);rw [d];exact tp e (dB f g)
abbrev pl:List aa:=[.ref 0,.ref 8,.ref 10,.ref 9]
variable {C:ak} {K:List aa->ae->Prop} {R:aa->ae->Prop} {e:aa} {ct:List (Nat×Nat)} {g:ae}
theorem aoY {o g j a:aB} (h:K pl (W7 ic [] []++iU e ct [o,g,j,a,.dict []])):KM C pl (W7 ic [] []++iU e ct [o,g,j,a]) K R x:=by
 exact i8 rfl rfl rfl rfl h
theorem aoZ (a:2 <= n) (h:K pl (W7 jV [] [(2,1)]++iU (.int 2) ct [o1,o2,o3,o4,o5,.tup [.int 2,.int 10]])):KL (az aA n) pl (W7 jV [] [(2,1)]++iU (.int 2) ct [o1,o2,o3,o4,o5]) K R x:=by
 exact⟨∅,jn [16] rfl rfl (aQ a ab) rfl rfl rfl rfl rfl ∅ ∅ (.cons rfl .nil) (Cx (aM (ay ..) a ab) (eF _) ∅ ∅ ∅ (.inl rfl) rfl (jR (V:=[.tup [.int 2,.int 10]]) rfl rfl rfl rfl ∅ (.cons rfl .nil) rfl (dd rfl rfl trivial h)))⟩
theorem ao0 (h:R (.bool true) ([.inst 0 1,.aZ 0 [.int 64,.ref 10,.ref 3],.list (jV.map .bytes),.list [],.inst 1 5,.aZ 1 [.ref 0,.ref 0,.ref 6],.dict [(2,2)]]++iU (.int 2) ct g)):ah (KI C) (KH C) pl (W7 jV [2] [(2,2)]++iU (.int 2) ct g) K R x:=
 (ux rfl rfl trivial ∅ rfl rfl h)
theorem ao1 (c:12 <= n) {o g j a b e:aB} (d:xL 2 ct=none) (h:K pl (W7 jV [2] [(2,2)]++iU (.int 2) (ct++[(2,17)]) [o,g,j,a,b,e,.code 2,.fn 2 17 [8,9],.list [.int 2]])):KJ (az aA n) pl (W7 jV [] [(2,1)]++iU (.int 2) ct [o,g,j,a,b,e]) K R x:=by
 refine gv 7 ct ([8,9]) rfl rfl ?_;rw [d];exact aoX c (dd rfl rfl ∅ (nJ rfl rfl (tH [2]) h))
theorem ao2 {q:aa->ae->Prop} (a:14 <= n) (h:q (.bool true) ([.inst 0 1,.aZ 0 [.int 64,.ref 10,.ref 3],.list (jV.map .bytes),.list [],.inst 1 5,.aZ 1 [.ref 0,.ref 0,.ref 6],.dict [(2,2)]]++iU (.int 2) [(0,11),(1,13),(2,17)] [.code 0,.fn 0 11 [8],.code 1,.fn 1 13 [8],.dict [],.tup [.int 2,.int 10],.code 2,.fn 2 17 [8,9],.list [.int 2]])):
  fE Bd (az aA n) [.ref 0,.ref 4] (W7 ic [] []++[.cw 0 7 []]) q x:=by
 exact dd rfl rfl ∅ (gv 7 ([]) ([8]) rfl rfl (aoV (aQ a ab) (gv 7 ([(0,11)]) ([8]) rfl rfl (aoW (aQ a ab) (aoY (C:=az aA n) (L7 (c:=false) (aQ a ab) ∅ (eF _) (eF _) (.more rfl) ∅ ∅ (aoZ (aQ a ab) (ao1 (aQ a ab) rfl (ao0 h)))))))))
end
section
variable {n j:Nat} {J t:ae} {k:aa->ae->Prop} {x:bn} {P:List (List Int)} {S l f:List Int} {D:List (Int×Int)} {a u m O:Int} {d:List Int}
abbrev dg (O u m:Int) (j:Nat):aB:=.tup [.int O,.int u,.int m,.ref j]
abbrev V3 (O u m:Int) (d:List Int) (f:Nat):ae:=[.cell (.ref 4),.cell (.ref 9),dg O u m 10,.list (d.map .int),.code f,.fn f 11 [7,8]]
theorem M1 {f:Nat}:(V3 O u m d f).all (aL 13)=true:=by
 show(true&&(true&&(true&&(aL 13 (.list _)&&true))))=true
 rw [et];rfl
theorem wY {f p a r o c g:Nat} (b:J[p]? =some (.cell (.ref 4))) (e:J[a]? =some (.cell (.ref r))) (h:J[r]? =some (dg O u m o)) (i:J[o]? =some (.list (d.map .int))) (j:J[c]? =some (.code f)) (G:J[g]? =some (.fn f c [p,a])):cM (cL (aI 7++[p,a,r,o,c,g])) J [p,a,r,o,c,g] (V3 O u m d f):=
 .cons b (.cons e (.cons h (.cons (by rw [jS];exact i) (.cons j (.cons G .nil)))))
theorem M2 {c:List Nat} (a:11 <= n) (e:c.Nodup) (C:∀i∈c,7 <= i) (b:c.length=6) (I:P.length <= 1000) (f:cM (cL (aI 7++c)) (W7 P S D++t) c (V3 O u m d 3)) (g:f1 P [] [O] none) (h:k (.str 5) (W7 P S D++t)):az aA n 77 ([aa.ref 12].map (cz (cL (aI 7++c)))) (W7 P S D++t) k x:=
 tG (aQ a ab) (by rw [b];exact M1) e C f (by rw [b];decide) rfl rfl
  λK X l j=>tF rfl rfl (aM (ay ..) a ab) ⟨by show 4 <= 16777216;decide,anA (n8 (ay n 1) (ay (n-1) 1) a ab) (bE I ab) g (j 1 5 rfl _ _ _ h)⟩
theorem M3 {c:List Nat} (a:11 <= n) (e:c.Nodup) (C:∀i∈c,7 <= i) (b:c.length=6) (I:P.length <= 1000) (f:cM (cL (aI 7++c)) (W7 P S D++t) c (V3 O u m d 4)) (g:f1 P [] [O] none) (h:k (.str 5) (W7 P S D++t)):az aA n 77 ([aa.ref 12].map (cz (cL (aI 7++c)))) (W7 P S D++t) k x:=
 tG (aQ a ab) (by rw [b];exact M1) e C f (by rw [b];decide) rfl rfl
  λK X l j=>tF rfl rfl (aM (ay ..) a ab) ⟨by show 4 <= 16777216;decide,anD (n8 (ay n 1) (ay (n-1) 1) a ab) (bE I ab) g (j 1 5 rfl _ _ _ h)⟩
end
section
variable {n j:Nat} {J t:ae} {k:aa->ae->Prop} {x:bn} {P:List (List Int)} {S l f:List Int} {D:List (Int×Int)} {a u m O:Int} {d:List Int}
theorem lC {Y:List aa} {i:Nat} {v:aa} {b:aa->ae->Prop} (h:Y[i]? =some v) (d:mG v=true) (c:b v J):bH i Y J b x:=by
 show(match Y[i]? with|some .aR=>False|some a=>b a J|none=>False)
 rw [h];cases v<;>first|exact c|contradiction
theorem ao3 {Y:List aa} {i c q a l:Nat} {w:List aa} {v:aa} {b:aa->ae->Prop} (N:Y[i]? =some (.ref a)) (d:J[a]? =some (.inst c l)) (e:J[l]? =some (.aZ c w)) (f:w[q]? =some v) (h:mG v=true) (g:b v J):br (bH i) c q Y J b x:=by
 refine lC N rfl ?_;show(match J[a]? with|some (.inst G l)=>G=c/\_ |_=>False)
 rw [d];refine⟨rfl,?_⟩;rw [e];refine⟨rfl,?_⟩;rw [f];cases v<;>first|exact g|contradiction
theorem wZ {Y:List aa} {i o b c q a l:Nat} {w:List aa} {v:aa} {d:Bool->ae->Prop} (N:Y[o]? =some (.ref a)) (e:J[a]? =some (.inst c l)) (f:J[l]? =some (.aZ c w)) (g:w[q]? =some v) (h:mG v=true) (j:Y[i]? =some (.ref b)) (k:du v (.ref b) J λt=>d t J):bi (br (bH o) c q) (bH i) du Y J d x:=
 ao3 N e f g h (lC j rfl k)
theorem tI {a b:de} {Y:List aa} {aj:ae} {c:Bool->ae->Prop} (d:∀c:Bool->ae->Prop,c false aj->a Y J c x) (e:b Y aj c x):fq a b Y J c x:=d _ e
theorem M4 {c:de} {A B:ST} {Y:List aa} {aj:ae} {K:List aa->ae->Prop} {R:aa->ae->Prop} (b:∀a:Bool->ae->Prop,a false aj->c Y J a x) (h:B Y aj K R x):bY c A B Y J K R x:=b _ h
theorem M5 {x:Int} (h:dr x=false) (a:x=2\/x=5\/x=10\/x=13):[(2:Int),5].contains x=true:=by
 rcases a with rfl|rfl|rfl|rfl<;>first|rfl|contradiction
theorem M6 {x:Int} (h:dr x=true):[(2:Int),5].contains x=false:=by
 rcases Bool.or_eq_true_iff.mp h with h|h
 ·rw [of_decide_eq_true h];rfl
 ·rw [of_decide_eq_true h];rfl
theorem M7 {r:Int} (a:1 <= r) (b:r <= P.length) {q:List Int}:(P.set (r-1).toNat q).set (r-1).toNat (aE P r)=P:=by
 rw [asy];unfold aE;rw [da,bV (by exact uV (bp _) a b)];exact List.set_getElem_self _
theorem ao4 {w:List Int} {K:List aa->ae->Prop} {q:aa->ae->Prop} (g:1 <= n) (I:P.length <= 1000) (b:2 <= O) (c:O <= P.length) (i:((aE P O).length:Int)=64) (h:q (.bool true) (W7 P S D++[.cw 1 7 [(3,16),(4,18)],dg O u m 9,.list (d.map .int),.cell (.ref 4),.cell (.ref 8),.list (S.map .int),.tup [.bytes (aE P O),.ref 12],.tup [.int 2,.int 5],.list (((P.set (O-1).toNat w)).map .bytes),.code 3,.fn 3 16 [10,11],.code 4,.fn 4 18 [10,11],.list [.str 5,.str 5],.list [.str 5,.str 5]])):
  ta (az aA n) [.ref 0,.ref 10,.ref 11,.bytes (aE P O),.ref 12,.ref 15,.ref 20] (W7 (P.set (O-1).toNat w) S D++[.cw 1 7 [(3,16),(4,18)],dg O u m 9,.list (d.map .int),.cell (.ref 4),.cell (.ref 8),.list (S.map .int),.tup [.bytes (aE P O),.ref 12],.tup [.int 2,.int 5],.list (((P.set (O-1).toNat w)).map .bytes),.code 3,.fn 3 16 [10,11],.code 4,.fn 4 18 [10,11],.list [.str 5,.str 5]]) K q x:=by
 haveI e:((P.set (O-1).toNat w)).length=P.length:=e3;refine M4 (λf a=>tI (λf a=>⟨∅,nJ rfl rfl rfl a⟩) (tI (λf a=>wZ rfl rfl rfl rfl rfl rfl (nJ rfl rfl (CU _) a)) (wZ rfl rfl rfl rfl rfl rfl (nJ rfl rfl (tH _) a)))) (bv rfl (by show 4 <= 16777216;decide) (pa g (eG e I ab) i (gw b ab) (uT e c) ?_));rw [M7 (by exact gw b ab) c];exact h
theorem ao5 {w:List Int} {K:List aa->ae->Prop} {q:aa->ae->Prop} (a:11 <= n) (I:P.length <= 1000) (e:2 <= O) (f:O <= P.length) (g:((aE P O).length:Int)=64) (b:f1 (P.set (O-1).toNat w) [] [O] none) (h:q (.bool true) (W7 P S D++[.cw 1 7 [(3,16),(4,18)],dg O u m 9,.list (d.map .int),.cell (.ref 4),.cell (.ref 8),.list (S.map .int),.tup [.bytes (aE P O),.ref 12],.tup [.int 2,.int 5],.list (((P.set (O-1).toNat w)).map .bytes),.code 3,.fn 3 16 [10,11],.code 4,.fn 4 18 [10,11],.list [.str 5,.str 5],.list [.str 5,.str 5]])):
  ah (Bf (az aA n)) (ta (az aA n)) [.ref 0,.ref 10,.ref 11,.bytes (aE P O),.ref 12,.ref 15,.aR] (W7 (P.set (O-1).toNat w) S D++[.cw 1 7 [],dg O u m 9,.list (d.map .int),.cell (.ref 4),.cell (.ref 8),.list (S.map .int),.tup [.bytes (aE P O),.ref 12],.tup [.int 2,.int 5],.list (((P.set (O-1).toNat w)).map .bytes)]) K q x:=by
 haveI c:((P.set (O-1).toNat w)).length=P.length:=e3;exact gv 7 ([]) ([10,11]) rfl rfl (M2 (c:=[10,11,8,9,16,17]) a ∅ ∅ rfl (eG c I ab) (wY rfl rfl rfl rfl rfl rfl) b (gv 7 ([(3,16)]) ([10,11]) rfl rfl (M3 (c:=[10,11,8,9,18,19]) a ∅ ∅ rfl (eG c I ab) (wY rfl rfl rfl rfl rfl rfl) b ⟨∅,ao4 (aQ a ab) I e f g h⟩)))
theorem ao6 {q:aa->ae->Prop} (k:11 <= n) (T:d0 P O u m d) (I:P.length<1000) (p:S.length <= 1000) (b:bK (aE P O) 0=2\/bK (aE P O) 0=5\/bK (aE P O) 0=10\/bK (aE P O) 0=13) (j:((aE P O).length:Int)=64) (N:∀g,q (.bool true) (W7 P S D++[.cw 1 7 [],dg O u m 9,.list (d.map .int)]++g)) (l:∀w,q (.bool true) (W7 P S D++[.cw 1 7 [(3,16),(4,18)],dg O u m 9,.list (d.map .int),.cell (.ref 4),.cell (.ref 8),.list (S.map .int),.tup [.bytes (aE P O),.ref 12],.tup [.int 2,.int 5],.list (((P.set (O-1).toNat w)).map .bytes),.code 3,.fn 3 16 [10,11],.code 4,.fn 4 18 [10,11],.list [.str 5,.str 5],.list [.str 5,.str 5]])):
  fE wd (az aA n) [.ref 0,.ref 4,.ref 8] (W7 P S D++[.cw 1 7 [],dg O u m 9,.list (d.map .int)]) q x:=by
 have i:=T.gI O T.mw;have e:(S.map aa.int).length=S.length:=bz _;have a:(aE P O).length <= 16777216:=nb j ab;refine bv rfl (by show 4 <= 16777216;decide) ?_;refine o9 (gq ∅ k) (p8 I ab) (uu ∅ i.1) i.2 ?_;refine gu rfl rfl (eG e p ab) (by show 2 <= 16777216;decide) rfl ?_;refine⟨a,dB (lv ∅ (uP j)) ⟨by show 2 <= 16777216;decide,[2,5],rfl,?_⟩⟩;induction r:dr (bK (aE P O) 0) with
 |true=>
  rw [M6 r];exact N [.cell (.ref 4),.cell (.ref 8),.list (S.map .int),.tup [.bytes (aE P O),.ref 12],.tup [.int 2,.int 5]]
 |false=>
  rw [M5 r b];refine a6 λC v=> ?_;refine k6 (T.MS I r) λf y right s t X A=> ?_;have o:=MT t.wr X (a:=O) (jb i ab) (nc i I ab);have B:=nC (t.right' ⟨jb i ab,nc i I ab⟩).wr;have c:(dK (aE P O) none (some 8)).length <= 64:=by rw [wD ∅ (by exact p7 j ab),iD];exact EF (bp _) (ew ..)
  have h:(dK (aE P O) (some 12) none).length <= 64:=by rw [wC ∅ (by exact p7 j ab),lQ];exact Fc (bp _) (ay ..) j
  have z:(qs (kC 4) O).length=4:=rfl;refine v ?_;refine⟨rfl,by show 4 <= 16777216;decide,a,by show 4 <= 16777216;decide,trivial,∅,∅,jb i ab,by show O<4294967296;exact nc i I ab,by rw [z];exact kE c ab,a,by rw [a9,z];exact Fo c h,?_⟩;rw [s,o];rw [s] at l j;refine pa (gq ∅ k) (gq (ui I) ∅) B (uu ∅ i.1) i.2 ?_;refine⟨rfl,rfl,by rw [bz,e3];exact p8 I ab,?_⟩;rw [<-s] at l j⊢;exact ao5 k (p8 I ab) i.1 i.2 j A (l _)
theorem ao7 {w:List Int} {K:List aa->ae->Prop} {q:aa->ae->Prop} (g:1 <= n) (I:P.length <= 1000) (b:2 <= O) (c:O <= P.length) (i:((aE P O).length:Int)=64) (h:q (.bool true) (W7 P S D++[.cw 1 7 [(3,10),(4,11)],dg O u m 9,.list (d.map .int),.code 3,.code 4,.cell (.ref 4),.cell (.ref 8),.list (S.map .int),.tup [.bytes (aE P O),.ref 14],.tup [.int 2,.int 5],.list (((P.set (O-1).toNat w)).map .bytes),.fn 3 10 [12,13],.fn 4 11 [12,13],.list [.str 5,.str 5],.list [.str 5,.str 5]])):
  ta (az aA n) [.ref 0,.ref 12,.ref 13,.bytes (aE P O),.ref 14,.ref 17,.ref 20] (W7 (P.set (O-1).toNat w) S D++[.cw 1 7 [(3,10),(4,11)],dg O u m 9,.list (d.map .int),.code 3,.code 4,.cell (.ref 4),.cell (.ref 8),.list (S.map .int),.tup [.bytes (aE P O),.ref 14],.tup [.int 2,.int 5],.list (((P.set (O-1).toNat w)).map .bytes),.fn 3 10 [12,13],.fn 4 11 [12,13],.list [.str 5,.str 5]]) K q x:=by
 haveI e:((P.set (O-1).toNat w)).length=P.length:=e3;refine M4 (λf a=>tI (λf a=>⟨∅,nJ rfl rfl rfl a⟩) (tI (λf a=>wZ rfl rfl rfl rfl rfl rfl (nJ rfl rfl (CU _) a)) (wZ rfl rfl rfl rfl rfl rfl (nJ rfl rfl (tH _) a)))) (bv rfl (by show 4 <= 16777216;decide) (pa g (eG e I ab) i (gw b ab) (uT e c) ?_));rw [M7 (by exact gw b ab) c];exact h
theorem ao8 {w:List Int} {K:List aa->ae->Prop} {q:aa->ae->Prop} (a:11 <= n) (I:P.length <= 1000) (e:2 <= O) (f:O <= P.length) (g:((aE P O).length:Int)=64) (b:f1 (P.set (O-1).toNat w) [] [O] none) (h:q (.bool true) (W7 P S D++[.cw 1 7 [(3,10),(4,11)],dg O u m 9,.list (d.map .int),.code 3,.code 4,.cell (.ref 4),.cell (.ref 8),.list (S.map .int),.tup [.bytes (aE P O),.ref 14],.tup [.int 2,.int 5],.list (((P.set (O-1).toNat w)).map .bytes),.fn 3 10 [12,13],.fn 4 11 [12,13],.list [.str 5,.str 5],.list [.str 5,.str 5]])):
  ah (Bf (az aA n)) (ta (az aA n)) [.ref 0,.ref 12,.ref 13,.bytes (aE P O),.ref 14,.ref 17,.aR] (W7 (P.set (O-1).toNat w) S D++[.cw 1 7 [(3,10),(4,11)],dg O u m 9,.list (d.map .int),.code 3,.code 4,.cell (.ref 4),.cell (.ref 8),.list (S.map .int),.tup [.bytes (aE P O),.ref 14],.tup [.int 2,.int 5],.list (((P.set (O-1).toNat w)).map .bytes)]) K q x:=by
 haveI c:((P.set (O-1).toNat w)).length=P.length:=e3;exact gv 7 ([(3,10),(4,11)]) ([12,13]) rfl rfl (M2 (c:=[12,13,8,9,10,18]) a ∅ ∅ rfl (eG c I ab) (wY rfl rfl rfl rfl rfl rfl) b (gv 7 ([(3,10),(4,11)]) ([12,13]) rfl rfl (M3 (c:=[12,13,8,9,11,19]) a ∅ ∅ rfl (eG c I ab) (wY rfl rfl rfl rfl rfl rfl) b ⟨∅,ao7 (aQ a ab) I e f g h⟩)))
theorem ao9 {q:aa->ae->Prop} (k:11 <= n) (T:d0 P O u m d) (I:P.length<1000) (p:S.length <= 1000) (b:bK (aE P O) 0=2\/bK (aE P O) 0=5\/bK (aE P O) 0=10\/bK (aE P O) 0=13) (j:((aE P O).length:Int)=64) (N:∀g,q (.bool true) (W7 P S D++[.cw 1 7 [(3,10),(4,11)],dg O u m 9,.list (d.map .int),.code 3,.code 4]++g)) (l:∀w,q (.bool true) (W7 P S D++[.cw 1 7 [(3,10),(4,11)],dg O u m 9,.list (d.map .int),.code 3,.code 4,.cell (.ref 4),.cell (.ref 8),.list (S.map .int),.tup [.bytes (aE P O),.ref 14],.tup [.int 2,.int 5],.list (((P.set (O-1).toNat w)).map .bytes),.fn 3 10 [12,13],.fn 4 11 [12,13],.list [.str 5,.str 5],.list [.str 5,.str 5]])):
  fE wd (az aA n) [.ref 0,.ref 4,.ref 8] (W7 P S D++[.cw 1 7 [(3,10),(4,11)],dg O u m 9,.list (d.map .int),.code 3,.code 4]) q x:=by
 have i:=T.gI O T.mw;have e:(S.map aa.int).length=S.length:=bz _;have a:(aE P O).length <= 16777216:=nb j ab;refine bv rfl (by show 4 <= 16777216;decide) ?_;refine o9 (gq ∅ k) (p8 I ab) (uu ∅ i.1) i.2 ?_;refine gu rfl rfl (eG e p ab) (by show 2 <= 16777216;decide) rfl ?_;refine⟨a,dB (lv ∅ (uP j)) ⟨by show 2 <= 16777216;decide,[2,5],rfl,?_⟩⟩;induction r:dr (bK (aE P O) 0) with
 |true=>
  rw [M6 r];exact N [.cell (.ref 4),.cell (.ref 8),.list (S.map .int),.tup [.bytes (aE P O),.ref 14],.tup [.int 2,.int 5]]
 |false=>
  rw [M5 r b];refine a6 λC v=> ?_;refine k6 (T.MS I r) λf y right s t X A=> ?_;have o:=MT t.wr X (a:=O) (jb i ab) (nc i I ab);have B:=nC (t.right' ⟨jb i ab,nc i I ab⟩).wr;have c:(dK (aE P O) none (some 8)).length <= 64:=by rw [wD ∅ (by exact p7 j ab),iD];exact EF (bp _) (ew ..)
  have h:(dK (aE P O) (some 12) none).length <= 64:=by rw [wC ∅ (by exact p7 j ab),lQ];exact Fc (bp _) (ay ..) j
  have z:(qs (kC 4) O).length=4:=rfl;refine v ?_;refine⟨rfl,by show 4 <= 16777216;decide,a,by show 4 <= 16777216;decide,trivial,∅,∅,jb i ab,by show O<4294967296;exact nc i I ab,by rw [z];exact kE c ab,a,by rw [a9,z];exact Fo c h,?_⟩;rw [s,o];rw [s] at l j;refine pa (gq ∅ k) (gq (ui I) ∅) B (uu ∅ i.1) i.2 ?_;refine⟨rfl,rfl,by rw [bz,e3];exact p8 I ab,?_⟩;rw [<-s] at l j⊢;exact ao8 k (p8 I ab) i.1 i.2 j A (l _)
end
section
variable {n j:Nat} {J i:ae} {k:aa->ae->Prop} {x:bn} {P W E N:List (List Int)} {S l f:List Int} {D:List (Int×Int)} {a u O:Int} {v:eO} {h m:Nat}
theorem M8 {h p:Nat} (a:h <= p):dv ((h:Int)+1) ((p:Int)+1) 1=a8 h (p-h):=by
 unfold dv a8
 haveI e:(gt (h+1) (p+1) 1).toNat=p-h:=by
  unfold gt;rw [if_pos ∅];split<;>rename_i g<;>(first|exact Wo (fh (p+1-(h+1)-1) 1 ∅) (bp _) (ay ..)|exact VT (bp _) (ay ..) g)
 rw [e];exact gQ λi _=>VJ
abbrev tJ (h:Int) (c:Bool) (u O:Int) (f g:aa):List aa:=[.ref 7,.ref 0,.ref 4,.int h,.bool c,.int u,.int O,.ref 10,f,g]
abbrev pn (P:List (List Int)) (D:List (Int×Int)) (a b:Int) (h:Int) (c:Bool) (u O:Int) (y:List (List Int)):ae:=W7 P [] D++[jt a b,.tup [.int h,.bool c],.tup [.int u,.int O],aT y]
theorem apa {K:List aa->ae->Prop} {R:aa->ae->Prop} {a b:Int} {c:Bool} {y:List (List Int)} {f g:aa} (i:1 <= n) (I:P.length <= 1000) (d:h <= P.length) (j:y.length <= 100) (F:R (.ref 12) (pn P D a b h c u O y++[.list ((a8 h (P.length-h)).map .int),dg O u y.length 11])):
  ah (KC (az aA n)) ar (tJ h c u O f g) (pn P D a b h c u O y) K R x:=by
 haveI e:(y.map aa.bytes).length=y.length:=bz _;refine bv (by rw [e];exact bE j ab) rfl (wo i (bE I ab) (bv (Yi I d) ?_ ?_))
 ·rw [M8 d,wO];exact Sq (ay ..) I
 ·refine⟨by show 4 <= 16777216;decide,?_⟩;rw [M8 d,e];exact F
theorem apb {d:Int} (N:0 <= d) (b:d<6):∃s,s∈nH/\eo (nH.map aa.int) d=some (.int s):=by
 obtain⟨i,rfl⟩:=nQ N;haveI a:=Rg b;exact aJ (nH[i]) (mX a) (kQ (by rw [cm,bV a];rfl))
theorem apc {K:List aa->ae->Prop} {R:aa->ae->Prop} {a b h:Int} {c:Bool} {g:aa} {i:Nat} (G:7 <= n) (L:u=10\/u=13) (q:i<10) (C:pv N u v E) (r:v.length=i) (M:fv a b) (Z:1 <= N.length) (I:N.length <= 500)
  (F:∀m z t w p,fv t w->pv N u m z->m.length=i+1->bB 11 p=true->K (tJ h c u O (.int i) p) (pn (N++z) D t w h c u O (m.map (·.1)))):
  ah (KB (az aA n)) (ah (KA (az aA n)) ar) (tJ h c u O (.int i) g) (pn (N++E) D a b h c u O (v.map (·.1))) (d5 qN 11 K) R x:=by
 haveI H:=C.small;haveI A:(N++E).length=N.length+E.length:=a9;refine⟨by show 1 <= 16777216;decide,[65+i],rfl,by show 1 <= 16777216;decide,λy B=>by rw [dj.mp B];exact Fx q,∅,wX (aQ G ab) rfl M ∅ λd t w V e l=>(aw (apb V e) λs j J=> ?_)⟩;haveI o:∀s∈nH,0 <= s/\s <= 75:=by decide
 haveI k:=o s j;refine⟨∅,dB J ⟨SM k,Sx k,?_⟩⟩;haveI f:((eg s.toNat (65+(i:Int))).length)=s:=by rw [pS];exact UY (bp _) k
 refine bv trivial (.inl ∅) (anW (aQ G ab) (Xn q A r H I) (Vo k f) ⟨EE,E2 q⟩ ⟨by rw [bz,bz];exact vf q r ab,?_⟩);haveI Q:=F _ _ t w (.bytes (eg s.toNat (65+i))) l (aqF C L (by rw [f];exact j) (λy B=>by rw [(asU.mp B).2];exact Fx q) ⟨EE,E2 q⟩ Z A.symm (Xj q A r H I)) (by rw [a9,r];rfl) rfl;rw [db,<-bX] at Q;haveI em:((v.map (·.1)).map aa.bytes++[aa.bytes (gm u (3*i+1) (eg s.toNat (65+i)) (N++E).length)])=(v.map (·.1)++[(gm u (3*i+1) (eg s.toNat (65+i)) (N++E).length,pi u (eg s.toNat (65+i)) (N++E).length)].map (·.1)).map aa.bytes:=by rw [db];rfl
 rw [em];exact fH rfl rfl (ds (cC) (by show(true&&(true&&(true&&(aL 11 (.list _)&&true))))=true;rw [eM];rfl)) Q
end
section
variable {n j:Nat} {J i:ae} {k:aa->ae->Prop} {x:bn} {P W E N:List (List Int)} {S l f:List Int} {D:List (Int×Int)} {a u O:Int} {v:eO} {h m:Nat}
structure tK (P W:List (List Int)) (u:Int) (m:Nat):Prop where
 lo:P.length <= W.length
 ix:W.length <= P.length+30
 kind:u=10\/u=13
 tree:d0 W ((P.length+1:Nat):Int) u m (a8 P.length (W.length-P.length))
 old:∀q:Int,1 <= q->q <= P.length->aE W q=aE P q
theorem M9 {K:List aa->ae->Prop} {R:aa->ae->Prop} {a b:Int} {c:Bool} (L:11 <= n) (O:u=10\/u=13) (Z:1 <= P.length) (I:P.length <= 400) (hs:fv a b)
  (hq:∀W G w (y:List (List Int)),fv G w->tK P W u y.length->R (.ref 12) (pn W D G w P.length c u (P.length+1:Nat) y++[.list ((a8 P.length (W.length-P.length)).map .int),dg (P.length+1:Nat) u y.length 11])):
  KD (az aA n) (tJ P.length c u (P.length+1:Nat) .aR .aR) (pn (P++[dk u]) D a b P.length c u (P.length+1:Nat) []) K R x:=by
 have N:(P++[dk u]).length=P.length+1:=by rw [a9];rfl
 refine wX (aQ L ab) rfl hs ∅ λd G w V h l=> ?_;obtain⟨e,rfl⟩:=nQ V;refine⟨Cw (RY h),?_⟩;refine qT (λi Y J=>∃v E a b f g,fv a b/\pv (P++[dk u]) u v E/\v.length=i/\bB 11 g=true/\Y=tJ P.length c u (P.length+1:Nat) f g/\J=pn (P++[dk u]++E) D a b P.length c u (P.length+1:Nat) (v.map (·.1))) (Eb ([]) ([]) G w _ _ l aoG rfl rfl rfl (by rw [cO];rfl)) ?_ ?_
 ·intro i Y J hi bC K' Q;refine Ea bC λv E a b f g S C o g1 j s=> ?_;obtain rfl:=j;obtain rfl:=s;exact apc (aQ L ab) O (Tn h hi) C o S (u0 N ab) (sd N I ab) λm z G w p s2 k z2 g2=>Q _ _ (Eb m z G w _ p s2 k z2 g2 rfl rfl)
 ·intro Y J cx;refine Ea cx λv E a b f g S C o g1 A F=> ?_;obtain rfl:=A;obtain rfl:=F;have X:=C.small;have B:fu (P++[dk u]) E v u P.length (P.length+1+E.length):=⟨C,Z,N,by rw [N],Xf h o X I,FY h o ab⟩
  have U:(aE (P++[dk u]++E) (P.length+1:Nat)).length <= 16777216:=by
   rw [rf (by exact iJ ab) (by exact yV N ab),B8 (i:=(P.length+1:Nat)) (SO),(MX O).1];decide
  refine aoQ (aQ L ab) B O ∅ rfl U λW t H T=> ?_;have hl:=H.len;have ht:=H.le;have r:W.length-P.length=1+E.length+t:=Va (ay ..) hl
  have M:tK P W u (v.map (·.1)).length:=⟨E6 (ay ..) r,XR (ay ..) r h o X ht,O,by rw [bz,r];exact T,λq q1 q2=>by
   rw [H.old q1 (by rw [a9,N];exact Vw q2) (US q2) (iJ ab),bX,rf q1 q2]⟩
  exact apa (aQ L ab) (XW (ay ..) r h o X ht I) (E6 (ay ..) r) (by rw [bz];exact FY h o ab) (hq W a b (v.map (·.1)) S M)
theorem apd {q:aa->ae->Prop} {a b:Int} (f:11 <= n) (Z:1 <= P.length) (I:P.length <= 400) (i:D.length <= 1000) (j:fv a b)
  (hq:∀W u g w (k o p:aB) (m:Nat),fv g w->tK P W u m->q (.ref 12) (W7 W [] (d8 D (P.length+1:Nat))++[jt g w,k,o,p,.list ((a8 P.length (W.length-P.length)).map .int),dg (P.length+1:Nat) u m 11])):
  fE A9 (az aA n) [.ref 7,.ref 0,.ref 4] (W7 P [] D++[jt a b]) q x:=by
 refine⟨rfl,wo (aQ f ab) (bE I ab) (wX (aQ f ab) rfl j ∅ λd g w V h l=> ?_)⟩;show [aa.int P.length,aa.bool (decide (d=0))].length <= 16777216/\_
 generalize decide (d=0)=c;refine bv (by show 2 <= 16777216;decide) rfl ?_;haveI t:((P++[cN]).set (((P.length:Int)+1)-1).toNat (dk (if c then 13 else 10)))=P++[dk (if c then 13 else 10)]:=Mc ..
 haveI e:∀K:aa->ae->Prop,K (.int (P.length+1)) (W7 (P++[dk (if c then 13 else 10)]) [] (d8 D (P.length+1))++[jt g w,.tup [.int P.length,.bool c]])->az aA n 42 [.ref 4,.str (if c then 1 else 2)] (W7 P [] D++[jt g w,.tup [.int P.length,.bool c]]) K x:=λK F=>by
  refine L7 (aQ f ab) (bE I ab) (eF _) (bE i ab) (.more rfl) ⟨uO Z,by rw [a9];exact yA⟩ (by rw [a9];exact kE I ab) ?_;rw [t];exact F
 cases c
 ·exact e _ (dd (by show 2 <= 16777216;decide) rfl (eF _) (M9 f (.inl rfl) Z I l λW a b y s M=>hq _ _ _ _ _ _ _ _ s M))
 ·exact e _ (dd (by show 2 <= 16777216;decide) rfl (eF _) (M9 f (.inr rfl) Z I l λW a b y s M=>hq _ _ _ _ _ _ _ _ s M))
end
section
variable {n j:Nat} {J i:ae} {k:aa->ae->Prop} {x:bn} {P:List (List Int)} {S l f:List Int} {D:List (Int×Int)} {a u O:Int}
theorem Cz {Y:List aa} {i s q:Nat} {l:List aa} {v:aa} {a:aa->ae->Prop} (N:Y[i]? =some (.ref s)) (b:J[s]? =some (.tup l)) (c:l.length <= 16777216) (d:eo l (q:Int)=some v) (f:mG v=true) (e:a v J):bu (bH i) (au (q:Int)) bT Y J a x:=by
 refine lC N rfl ?_;show(match J[s]? with|some (.list l)=>_ |some (.tup l)=>l.length <= 16777216/\jd (eo l q) λv=>mD v J a|some (.cv l)=>_ |some (.fB l _)=>_ |_=>False)
 rw [b];refine⟨c,dB d ?_⟩;cases v<;>first|exact e|contradiction
abbrev mx:=List (Nat×Nat×List Int)
structure my (L:ae) (refs:List aa) (os:mx):Prop where
 refs:refs=os.map λz=>.ref z.1
 tup:∀z∈os,∃r k m:Int,L[z.1]? =some (dg r k m z.2.1)
 own:∀z∈os,L[z.2.1]? =some (.list (z.2.2.map .int))
theorem my.app {L g:ae} {s:List aa} {os:mx} (H:my L s os):my (L++g) s os where
 refs:=H.refs
 tup:=λz a=>by
  obtain⟨r,k,m,h⟩:=H.tup z a;exact⟨r,k,m,eu h⟩
 own:=λz a=>eu (H.own z a)
def dh (os:mx):List Int:=(os.map (·.2.2)).flatten
abbrev fw (P:List (List Int)) (j:List Int):aB:=.list ((j.map λq=>aE P q).map .bytes)
theorem ape {C:ak} {T:ae} {c:Nat} {j:List Int} {q:Int} {K:List aa->ae->Prop} {s:aa} (b:C=az aA n) (f:1 <= n) (I:P.length <= 1000) (hq:j.length <= 1000) (t:(W4 P S++T)[c]? =some (.cell (.ref 0))) (h:1 <= q) (i:q <= P.length) (k:(W4 P S++T).all (aL (W4 P S++T).length)=true) (l:c<(W4 P S++T).length) (a:bB (W4 P S++T).length s=true)
  (F:K [.ref c,s,.int q] (W4 P S++T++[fw P (j++[q])])):
  gh (bZ C (b4 0) (aN 0 68) (cG (bH 2) bf)) (W4 P S++T).length [.ref c,s,.int q] (W4 P S++T++[fw P j]) (d5 mm ((W4 P S++T).length+1) K):=by
 subst b;show b4 0 [.ref c,s,.int q] _ _ (λ_ _=>False)
 refine ib rfl (eu t) rfl ⟨rfl,?_⟩;rw [bX];refine o9 f (bE I ab) h i ?_;rw [<-bX];refine tr (pf ..) (by rw [bz,bz];exact bE hq ab) ?_;rw [i7 _ _ (dA _),iF];haveI e:(j.map λq=>aE P q).map aa.bytes++[aa.bytes (aE P q)]=((j++[q]).map λq=>aE P q).map .bytes:=by simp
 rw [e];haveI m:(W4 P S++T++[fw P (j++[q])]).length=(W4 P S++T).length+1:=a9;haveI o:(W4 P S++T++[fw P (j++[q])]).all (aL ((W4 P S++T).length+1))=true:=ds (kn (mR _) k) (by show(aL _ (.list _)&&true)=true;rw [eM];rfl)
 haveI d:[aa.ref c,s,aa.int q].all (bB ((W4 P S++T).length+1))=true:=by
  show(bD c _&&(bB _ s&&true))=true
  rw [bS.mpr (by exact uM l),ly (mR _) a];rfl
 haveI:=fH (V:=mm) (g:=[]) d m o F
 rwa [cO] at this
theorem apf {T:ae} {c s e:Nat} {j d:List Int} {r f m:Int} {b:aa} {K:List aa->ae->Prop} (H:1 <= n) (I:P.length <= 1000) (hq:j.length+d.length <= 1000) (t:(W4 P S++T)[c]? =some (.cell (.ref 0))) (k:(W4 P S++T)[s]? =some (dg r f m e)) (g:(W4 P S++T)[e]? =some (.list (d.map .int))) (L:∀q∈d,1 <= q/\q <= P.length) (z:(W4 P S++T).all (aL (W4 P S++T).length)=true) (v:bB (W4 P S++T).length b=true)
  (F:∀w,bB (W4 P S++T).length w=true->K [.ref c,.ref s,w] (W4 P S++T++[fw P (j++d)])):
  oI mm (js (bu (bH 1) (au 3) bT)) 2 none (gh (bZ (az aA n) (b4 0) (aN 0 68) (cG (bH 2) bf)) (W4 P S++T).length) (W4 P S++T).length [.ref c,.ref s,b] (W4 P S++T++[fw P j]) (d5 mm ((W4 P S++T).length+1) K):=by
 haveI B:=jT k;haveI u:=jT t;show bu (bH 1) (au 3) bT [.ref c,.ref s,b] _ _ (λ_ _=>False)
 refine Cz rfl (eu k) (by show 4 <= 16777216;decide) rfl rfl ?_;show(match(W4 P S++T++[fw P j])[e]? with|some (.list _)=>e <= (W4 P S++T).length/\_ |_=>False)
 rw [eu g];refine⟨Ev (jT g),wn (l:=d.map .int) (λi Y J=>∃b,bB (W4 P S++T).length b=true/\Y=[.ref c,.ref s,b]/\J=W4 P S++T++[fw P (j++d.take i)]) ?_ (cJ b v rfl (by rw [xR,cO])) ?_ ?_⟩
 ·intro Y J i C D;refine cU D λb v M N=> ?_;clear D;obtain rfl:=M;obtain rfl:=N;show(match(W4 P S++T++[_])[e]? with|some (.list l)=>C l[i]? |_=>False)=_
  rw [eu g]
 ·intro i a Y J x E C Q;refine cU E λb v O R=> ?_;clear E;obtain rfl:=O;obtain rfl:=R;replace x:=cm▸x;induction y:d[i]? with
  |none=>replace x:=y▸x;contradiction
  |some q=>
   rw [y] at x;obtain rfl:=bl x;haveI o:=L q (cq y);refine ape rfl H I (by rw [a9];exact UB hq (by rw [iD];exact Nat.min_le_right ..)) t o.1 o.2 z u (bS.mpr B) (Q _ _ (cJ (.int q) rfl rfl ?_));rw [gO y,bX j]
 ·intro Y J G;refine cU G λb v U A=> ?_;clear G;obtain rfl:=U;obtain rfl:=A;rw [bz,kA];refine fH (p:=(W4 P S++T).length+1) ?_ a9 ?_ (F b v) |> λh=>by rwa [cO] at h
  ·show(bD c _&&(bD s _&&(bB _ b&&true)))=true
   rw [bS.mpr (by exact uM u),bS.mpr (by exact uM B),ly (mR _) v];rfl
  ·exact ds (kn (mR _) z) (by show(aL _ (.list _)&&true)=true;rw [eM];rfl)
theorem Na {V:bb} (d:V=mm) {T:ae} {Y:List aa} {c f:Nat} {s:List aa} {os:mx} {p:aa->ae->Prop} (G:1 <= n) (I:P.length <= 1000) (N:Y[0]? =some (.ref c)) (K:Y[4]? =some (.ref f)) (t:(W4 P S++T)[c]? =some (.cell (.ref 0))) (g:(W4 P S++T)[f]? =some (.list s)) (H:my (W4 P S++T) s os) (hq:(dh os).length <= 1000) (M:∀q∈dh os,1 <= q/\q <= P.length) (R:(W4 P S++T).all (aL (W4 P S++T).length)=true)
  (U:p (.ref (W4 P S++T).length) (W4 P S++T++[fw P (dh os)])):
  iP V [0] 2 (js (bH 4)) 1 none (λy=>oI V (js (bu (bH 1) (au 3) bT)) 2 none (gh (bZ (az aA n) (b4 0) (aN 0 68) (cG (bH 2) bf)) y) y) Y (W4 P S++T) p x:=by
 subst d;refine aJ ([c]) ?_ ?_
 ·show(sQ Y[0]?).bind _=_
  rw [N];rfl
 ·refine lC K rfl ?_;show(match(W4 P S++T)[f]? with|some (.list _)=>_ |_=>False)
  rw [g];refine wn (l:=s) (λi Y J=>∃a b,bB (W4 P S++T).length a=true/\bB (W4 P S++T).length b=true/\Y=[.ref c,a,b]/\J=W4 P S++T++[fw P (dh (os.take i))]) ?_ (iH .aR .aR rfl rfl rfl rfl) ?_ ?_
  ·intro Y J i B D;refine f9 D λa b E k W X=> ?_;clear D;obtain rfl:=W;obtain rfl:=X;show(match(W4 P S++T++[_])[f]? with|some (.list l)=>B l[i]? |_=>False)=_
   rw [eu g]
  ·intro i v Y J h Z B Q;refine f9 Z λa b E k mI A=> ?_;obtain rfl:=mI;obtain rfl:=A;replace h:=cm▸H.refs▸h;induction j:os[i]? with
   |none=>replace h:=j▸h;contradiction
   |some z=>
    rw [j] at h;obtain rfl:=bl h;have o:=cq j;refine D0 (H.tup z o) λr u m F=> ?_
    have e:dh (os.take (i+1))=dh (os.take i)++z.2.2:=by
     unfold dh;rw [gO j];simp
    haveI bh:(dh (os.take i)).length+z.2.2.length <= (dh os).length:=by
     rw [<-a9,<-e]
     haveI:dh os=dh (os.take (i+1))++dh (os.drop (i+1)):=by
      unfold dh;rw [<-kD,<-db,m3]
     rw [this,a9];exact rK ..
    refine apf G I (UA bh hq) t F (H.own z o) (λq hq=>M q (n4.mpr (aJ _ (io o) hq))) R k λw C=>Q _ _ (iH _ w ?_ C rfl (by rw [e]));exact bS.mpr (jT F)
  ·intro Y J eQ;refine f9 eQ λa b E k O L=> ?_;obtain rfl:=O;obtain rfl:=L;rw [H.refs,bz,kA];exact U
theorem apg {L:ae} {Y:List aa} {c s f:Nat} {d:List Int} {u m:Int} {h:aa->ae->Prop} (N:Y[2]? =some (.ref c)) (t:L[c]? =some (.cell (.ref s))) (k:L[s]? =some (dg O u m f)) (g:L[f]? =some (.list (d.map .int))) (hq:d.length <= 1000) (o:L.all (aL L.length)=true)
  (p:h (.ref L.length) (L++[.list ((d.filter λq=>decide (q≠O)).map .int)])):
  iP we [2] 1 (js (bu (b4 2) (au 3) bT)) 1 (some (bi (bH 1) (bu (b4 0) (au 0) bT) du)) (gh (bH 1)) Y L h x:=by
 have r:=jT t;refine aJ ([c]) ?_ ?_
 ·show(sQ Y[2]?).bind _=_
  rw [N];rfl
 ·delta js bu;refine ib N t rfl ?_;show(match L[s]? with|some (.list l)=>_ |some (.tup l)=>l.length <= 16777216/\jd (eo l 3) λv=>mD v L _ |some (.cv l)=>_ |some (.fB l _)=>_ |_=>False)
  rw [k];refine⟨by show 4 <= 16777216;decide,dB rfl ?_⟩;show(match L[f]? with|some (.list _)=>_ |_=>False)
  rw [g]
  have w:∀q i b,i+q=d.length->bB L.length b=true->gD we (kM f) 1 (some (bi (bH 1) (bu (b4 0) (au 0) bT) du)) (gh (bH 1) L.length) (L.length+1) (q+1) i [.ref c,b] (L++[.list (((d.take i).filter λq=>decide (q≠O)).map .int)]) (λ_ aj=>h (.ref L.length) aj):=by
   intro q;induction q with
   |zero=>
    intro i b e y;show(match(L++[_])[f]? with|some (aB.list l)=>_ |_=>False)
    rw [eu g];show je (d.map aa.int)[i]? ..
    rw [hJ (by rw [bz];exact uL e)];show h ..
    rw [n3 (by exact uL e)];exact p
   |succ q B=>
    intro i b e y;have n:d[i]? =some d[i]:=bV (by exact r1 e);show(match(L++[_])[f]? with|some (aB.list l)=>_ |_=>False)
    rw [eu g];show je (d.map aa.int)[i]? ..
    rw [cm,n];have a:=B (i+1) (.int d[i]) (r2 e) rfl;rw [gO n,List.filter_append] at a;show bi (bH 1) (bu (b4 0) (au 0) bT) du [.ref c,.int d[i]] _ _ (λ_ _=>False)
    show b4 0 [.ref c,.int d[i]] _ _ (λ_ _=>False)
    refine ib rfl (eu t) rfl ?_;show(match(L++[_])[s]? with|some (aB.list l)=>_ |some (aB.tup l)=>l.length <= 16777216/\jd (eo l 0) λv=>mD v (L++[_]) _ |some (aB.cv l)=>_ |some (aB.fB l _)=>_ |_=>False)
    rw [eu k];refine⟨by show 4 <= 16777216;decide,dB rfl ?_⟩;by_cases j:d[i]≠O
    ·refine eH (decide_eq_true j) ?_;rw [List.filter_cons_of_pos (by exact decide_eq_true j),as0,db] at a;show bH 1 [.ref c,.int d[i]] _ _ (λ_ _=>False)
     refine lC rfl rfl (tr (pf ..) ?_ ?_)
     ·rw [bz];have:=as1 (λq=>decide (q≠O)) (d.take i);rw [iD] at this;exact UD (ew ..) this hq
     rw [i7 _ _ (dA _),iF];refine(cO (L++[aB.list (((d.take i).filter λq=>decide (q≠O)).map .int++[.int d[i]])]))▸fH ?_ (by rw [a9];rfl) ?_ a
     ·show(bD c _&&true)=true
      rw [bS.mpr (by exact uM r)];rfl
     ·exact ds (kn (mR _) o) (by show(aL _ (.list _)&&true)=true;rw [show(((d.take i).filter λq=>decide (q≠O)).map aa.int++[.int d[i]])=(((d.take i).filter λq=>decide (q≠O))++[d[i]]).map .int by simp,et];rfl)
    ·refine cn (decide_eq_false j) ?_;rw [as2 (by simpa using j),as0,cO] at a;exact a
  exact⟨_,w d.length 0 .aR (uJ) rfl⟩
end
section
variable {n j:Nat} {J i:ae} {k:aa->ae->Prop} {x:bn} {P W:List (List Int)} {S l f:List Int} {D y:List (Int×Int)} {a u O m:Int} {d:List Int}
theorem aph {d:Type} {o:List d} {m:Nat} (h:m <= o.length):dK o (some (m:Int)) none=o.drop m:=by
 haveI z:dq o.length m=m:=k1 h;show(o.drop (dq o.length m)).take (o.length-dq o.length m)=_
 rw [z];exact n3 (by simp)
theorem api {d:Type} {o:List d} {m:Nat} (h:m <= o.length):dK o none (some (m:Int))=o.take m:=by
 haveI z:dq o.length m=m:=k1 h;show(o.drop 0).take (dq o.length m-0)=_
 rw [z];rfl
theorem apj (D:List (Int×Int)) (r:Int):ji (d8 D r) r=some ((ji D r).getD 0+1):=by
 unfold d8 qr;generalize (ji D r).getD 0+1=v;by_cases a:D.any (λp=>p.1=r)=true
 ·rw [if_pos a];unfold ji;induction D with
  |nil=>contradiction
  |cons p D B=>
   rw [cB];by_cases b:p.1=r
   ·rw [if_pos b,List.find?_cons_of_pos (by simpa using b)];rfl
   ·rw [if_neg b,List.find?_cons_of_neg (by simpa using b)];refine B ?_
    simpa [b] using a
 ·rw [if_neg a];unfold ji;rw [List.find?_append]
  haveI:D.find? (λp=>decide (p.1=r))=none:=by
   rw [List.find?_eq_none];exact λp b R=>a (List.any_eq_true.mpr (aJ p b R))
  rw [this];simp
theorem Nb (D:List (Int×Int)) (r:Int):(d8 D r).length <= D.length+1:=by
 unfold d8 qr;split
 ·rw [bz];exact lX ab
 ·rw [a9];exact dA _
abbrev nK (w:Bool) (a b c d:aa):List aa:=[.ref 14,.ref 4,.ref 15,.bool w,.ref 9,a,b,c,d]
abbrev eP (O u m:Int) (d:List Int) (s:List aa) (x1 x2 x3 x4:aB):ae:=[dg O u m 8,.list (d.map .int),.list s,x1,x2,x3,x4]
abbrev iV (P:List (List Int)) (S:List Int) (D:List (Int×Int)) (V g:ae):ae:=W7 P S D++V++(.cell (.ref 0):: .cell (.ref 7)::g)
variable {s:List aa} {x1 x2 x3 x4:aB} {os:mx} {w:Bool} {K:List aa->ae->Prop} {R:aa->ae->Prop}
theorem apk {c:aa} {o j a b e:aB} (f:1 <= n) (I:P.length <= 1000) (H:my (W7 P S D++eP O u m d s x1 x2 x3 x4) s os) (hq:(dh os).length <= 1000) (i:∀q∈dh os,1 <= q/\q <= P.length) (k:(iV P S D (eP O u m d s x1 x2 x3 x4) [o,.tup [.ref 16,c],fw P (dh os),j,a,b,e]).all (aL 23)=true)
  (h:∀g,R (.bool true) (iV P S D (eP O u m d s x1 x2 x3 x4) g)):
  ah (KP (az aA n)) ar (nK w (.ref 16) c (.ref 18) (.ref 19)) (iV P S D (eP O u m d s x1 x2 x3 x4) [o,.tup [.ref 16,c],fw P (dh os),j,a,b,e]) K R x:=by
 exact Na rfl f I rfl rfl rfl rfl H.app hq i k (dB (CU _) (h [o,.tup [.ref 16,c],fw P (dh os),j,a,b,e,fw P (dh os)]))
abbrev GT (O u m:Int) (d:List Int) (s:List aa) (x1 x2 x3 x4:aB) (os:mx) (N:List (List Int)) (f k:List Int) (c:Int):List aB:=[.list (f.map .int),.tup [.ref 16,.int c],fw N (dh os),.list (k.map .int)]
theorem CA {V g:ae} {p:Nat} (A:V.all (aL 14)=true) (b:g.all (aL p)=true) (a:16 <= p):(iV P S D V g).all (aL p)=true:=by
 obtain⟨q,rfl⟩:∃q,p=q+7:=⟨p-7,RP (ay ..) a⟩
 refine ds (ds cC (kn (by exact RS a) A)) ?_;show(bD 0 (q+7)&&(bD 7 (q+7)&&g.all _))=true
 rw [b,bS.mpr (by exact lY ab),bS.mpr (by exact RO a)];rfl
theorem Nc {p:Nat} {j:List Int}:aL p (fw P j)=true:=eM
theorem apl {N:List (List Int)} {f k G:List Int} {c:Int} (L:2 <= n) (I:P.length <= 1000) (p:f.length <= 1000) (S:u=10\/u=13) (M:2 <= O) (T:O <= P.length) (U:aE P O=dk u) (hd:(ji D O).getD 0=c+1) (i:G.Perm k) (o:k.Pairwise (· < ·)) (l:k.length<64)
  (A:(eP O u m d s x1 x2 x3 x4).all (aL 14)=true) (H:my (W7 P (f++G) D++eP O u m d s x1 x2 x3 x4) s os) (hq:(dh os).length <= 1000) (W:∀q∈dh os,1 <= q/\q <= P.length) (t:∀q∈dh os,aE P q=aE N q)
  (h:∀g,R (.bool true) (iV P (f++G) D (eP O u m d s x1 x2 x3 x4) g)):
  KQ (az aA n) (nK w (.ref 16) (.int c) (.ref 18) (.ref 19)) (iV P (f++G) D (eP O u m d s x1 x2 x3 x4) [.list (f.map .int),.tup [.ref 16,.int c],fw N (dh os),.list (k.map .int)]) K R x:=by
 have z:(f.map aa.int).length=f.length:=bz _;have E:((f++G).map aa.int).length=f.length+G.length:=by rw [bz,a9]
 have Q:=i.length_eq
 have X:dK ((f++G).map aa.int) (some ((f.map aa.int).length)) none=G.map aa.int:=by
  rw [aph (by rw [z,E];exact kb),db,List.drop_left' rfl]
 have v:dK ((f++G).map aa.int) none (some ((f.map aa.int).length))=f.map aa.int:=by
  rw [api (by rw [z,E];exact kb),db,O7 rfl]
 have y:fw N (dh os)=fw P (dh os):=by
  show aB.list (((dh os).map λq=>aE N q).map aa.bytes)=aB.list (((dh os).map λq=>aE P q).map aa.bytes)
  rw [gQ t]
 refine⟨rfl,rfl,by rw [z];exact bE p ab,by rw [E];exact Fz l Q p,G,X,FX l Q ab,λe B j=> ?_⟩;have:=as3 (λa b _ _ Y M=>as4 Y M) j (o.imp λh=>nV h) (B.trans i);subst this;refine dB (tH e) (i8 rfl rfl (by rw [z];exact bE p ab) (by rw [E];exact Fz l Q p) ?_);rw [X,v];refine dB (tH f) ?_;show az aA n 76 ([aa.ref 0,.ref 4].map (cz (cL (aI 4++[7,8])))) (W4 P (f++G)++([.inst 1 5,.aZ 1 [.ref 0,.ref 0,.ref 6],.dict D]++eP O u m d s x1 x2 x3 x4++(.cell (.ref 0):: .cell (.ref 7)::[.list (f.map .int),.tup [.ref 16,.int c],fw N (dh os),.list (e.map .int),.list (G.map .int),.list (e.map .int),.list (f.map .int)]))) ..
 have r:([dg O u m 5,.list (d.map .int)]).all (aL 6)=true:=by show(true&&(aL 6 (.list _)&&true))=true;rw [et];rfl
 have J:cM (cL (aI 4++[7,8])) (W4 P (f++G)++([.inst 1 5,.aZ 1 [.ref 0,.ref 0,.ref 6],.dict D]++eP O u m d s x1 x2 x3 x4++(.cell (.ref 0):: .cell (.ref 7)::[.list (f.map .int),.tup [.ref 16,.int c],fw N (dh os),.list (e.map .int),.list (G.map .int),.list (e.map .int),.list (f.map .int)]))) [7,8] [dg O u m 5,.list (d.map .int)]:=.cons rfl (.cons (by rw [jS];rfl) .nil);refine jn [7,8] rfl rfl (aQ L ab) rfl rfl (ds (cg) r) (cg) rfl ∅ ∅ J ?_;refine Cx (aM (ay ..) L ab) (dA _) (bE I ab) (gw M ab) T S U ?_;refine jR (W':=W4 P (f++G)) (V:=[dg O u m 5,.list (d.map .int)]) rfl rfl (cg) r ∅ J rfl ?_
 have C:∀F:Bool->ae->Prop,F false (iV P (f++G) D (eP O u m d s x1 x2 x3 x4) [.list (f.map .int),.tup [.ref 16,.int c],fw N (dh os),.list (e.map .int),.list (G.map .int),.list (e.map .int),.list (f.map .int)])->bi (df oA oB (br (bH 1) 1 2) (cG (bu (b4 2) (au 0) bT) (cG (au 0) bf))) (bH 6) oK (nK w (.ref 16) (.int c) (.ref 18) (.ref 19)) (iV P (f++G) D (eP O u m d s x1 x2 x3 x4) [.list (f.map .int),.tup [.ref 16,.int c],fw N (dh os),.list (e.map .int),.list (G.map .int),.list (e.map .int),.list (f.map .int)]) F x:=λF Z=>by
  refine i8 rfl rfl trivial (by show 4 <= 16777216;decide) ?_;show F (decide ((ji D O).getD 0 <= c)) _
  rw [hd,decide_eq_false (by exact QA)];exact Z
 refine C _ ?_;rw [y];refine apk (K:=K) (aQ L ab) I H hq W ?_ h;refine CA A ?_ ∅;simp only [ii,et,Nc,Pe];rfl
end
section
variable {n j:Nat} {J i:ae} {k:aa->ae->Prop} {x:bn} {P W:List (List Int)} {S l f:List Int} {D y:List (Int×Int)} {a u O m:Int} {d:List Int}
variable {s:List aa} {x1 x2 x3 x4:aB} {os:mx} {w:Bool} {K:List aa->ae->Prop} {R:aa->ae->Prop}
abbrev w0 (f:List Int) (c:Int) (N:List (List Int)) (os:mx):List aB:=[.list (f.map .int),.tup [.ref 16,.int c],fw N (dh os)]
theorem apm {c:Int} {Y:aa} {N:List (List Int)} {f:List Int} (b:13 <= n) (T:d0 P O u m d) (F:pk P S D d) (e:u=10\/u=13)
  (h:∀G:List Int,(O::G).Perm d->K (nK w (.ref 16) (.int c) (.ref 18) .aR) (iV (P.set (O-1).toNat (dk u)) (S++(if w then G++[O] else G)) (d8 D O) (eP O u m d s x1 x2 x3 x4) (w0 f c N os))):
  KS (az aA n) (nK w (.ref 16) (.int c) (.ref 18) .aR) (iV P S D (eP O u m d s x1 x2 x3 x4) (w0 f c N os)) K R x:=by
 haveI a:=T.gI O T.mw;induction w with
 |true=>
  refine⟨by show 4 <= 16777216;decide,MZ (aQ b ab) T F λG i=> ?_⟩;haveI:=h G i;rw [if_pos rfl,<-bX] at this;exact this
 |false=>
  refine⟨by show 4 <= 16777216;decide,aoU (aQ b ab) T F λG i=> ?_⟩;haveI I:(P.set (O-1).toNat (dk u)).length=P.length:=e3;refine⟨by show 4 <= 16777216;decide,cn (decide_eq_false λh=>h rfl) ⟨by show 4 <= 16777216;decide,aoT (aQ b ab) (Cy e (tD (jb a ab) a.2) a.1 (FD a I)) (by haveI:=F.lx;exact eG I this ab) ?_⟩⟩;haveI:=h G i;exact this
theorem apn {c:Int} {N:List (List Int)} {f:List Int} (v:d.Pairwise (· < ·)) (j:d.length <= 40) (A:(eP O u m d s x1 x2 x3 x4).all (aL 14)=true)
  (h:K (nK w (.ref 16) (.int c) (.ref 18) (.ref 19)) (iV P S D (eP O u m d s x1 x2 x3 x4) (w0 f c N os++[.list ((if w then d else d.filter λq=>decide (q≠O)).map .int)]))):
  KR (az aA n) (nK w (.ref 16) (.int c) (.ref 18) .aR) (iV P S D (eP O u m d s x1 x2 x3 x4) (w0 f c N os)) K R x:=by
 induction w with
 |true=>
  refine⟨by show 4 <= 16777216;decide,d,rfl,uZ j ab,λe g i=> ?_⟩;haveI:=as3 (λa b _ _ k l=>as4 k l) i (v.imp λh=>nV h) g;subst this;exact h
 |false=>
  exact apg rfl rfl rfl rfl (bE j ab) (CA (p:=19) A (by simp only [ii,et,Nc,Pe];rfl) ∅) h
theorem apo {G:List Int} (h:(O::G).Perm d) (a:d.Nodup):G.Perm (d.filter λq=>decide (q≠O)):=by
 haveI:=h.filter λq=>decide (q≠O);haveI e:(G.filter λq=>decide (q≠O))=G:=List.filter_eq_self.mpr λq hq=>decide_eq_true λe=>((eD.mp (h.nodup_iff.mpr a)).1) (by rw [<-e];exact hq)
 rw [as2 (by simp),e] at this;exact this
theorem apq (e:13 <= n) (T:d0 P O u m d) (F:pk P S D d) (k:u=10\/u=13) (v:d.Pairwise (· < ·)) (A:(eP O u m d s x1 x2 x3 x4).all (aL 14)=true) (H:∀P S D,my (W7 P S D++eP O u m d s x1 x2 x3 x4) s os) (hq:(dh os).length <= 1000) (f:∀q∈dh os,1 <= q/\q <= P.length) (t:∀q∈dh os,q≠O)
  (h:∀G:List Int,(∀q∈G,q∈d)->G.Nodup->∀g,R (.bool true) (iV (P.set (O-1).toNat (dk u)) (S++G) (d8 D O) (eP O u m d s x1 x2 x3 x4) g)):
  KT (az aA n) (nK w (.ref 16) (.int ((ji D O).getD 0)) .aR .aR) (iV P S D (eP O u m d s x1 x2 x3 x4) [.list (S.map .int),.tup [.ref 16,.int ((ji D O).getD 0)]]) K R x:=by
 haveI y:=T.gI O T.mw;haveI j:=T.len;haveI I:=F.lx;haveI a:(P.set (O-1).toNat (dk u)).length=P.length:=e3;refine Na rfl (gq ∅ e) I rfl rfl rfl rfl (H P S D).app hq f ?_ ?_
 ·exact CA (p:=18) A (by simp only [ii,et,Pe];rfl) ∅
 refine apm (Y:=.aR) e T F k λG i=>apn v j A ?_
 have r:∀q∈(if w then G++[O] else G),q∈d:=λq hq=>by
  refine i.subset ?_;induction w with
  |true=>
   rcases cR.mp hq with hq|hq
   ·exact .tail _ hq
   ·rw [dj.mp hq];exact .head _
  |false=>exact .tail _ hq
 have b:(if w then G++[O] else G).Perm (if w then d else d.filter λq=>decide (q≠O)):=by
  induction w with
  |true=>exact DU.trans i
  |false=>exact apo i T.cP
 have o:(if w then d else d.filter λq=>decide (q≠O)).Pairwise (· < ·):=by
  induction w with
  |true=>exact v
  |false=>exact v.filter _
 haveI l:(if w then d else d.filter λq=>decide (q≠O)).length<64:=by
  induction w with
  |true=>exact uZ j ab
  |false=>
   haveI:=as1 (λq=>decide (q≠O)) d;exact uX j this ab
 haveI U:=b.nodup_iff.mpr (o.imp λh=>Int.ne_of_lt h);generalize (if w then G++[O] else G)=c at r b U⊢;refine apl (aQ e ab) (eG a I ab) F.rh k y.1 (FD y a) (tD (jb y ab) y.2) (by rw [apj];rfl) b o l A (H ..) hq (λq hq=>by rw [a];exact f q hq) (λq hq=>tC (f q hq).1 (jb y ab) (t q hq)) λg=>h c r U g
theorem apr {q:aa->ae->Prop} (a:13 <= n) (T:d0 P O u m d) (F:pk P S D d) (b:u=10\/u=13) (v:d.Pairwise (· < ·)) (A:(eP O u m d s x1 x2 x3 x4).all (aL 14)=true) (H:∀P S D,my (W7 P S D++eP O u m d s x1 x2 x3 x4) s os) (hq:(dh os).length <= 1000) (c:∀q∈dh os,1 <= q/\q <= P.length) (f:∀q∈dh os,q≠O)
  (h:∀G:List Int,(∀q∈G,q∈d)->G.Nodup->∀g,q (.bool true) (iV (P.set (O-1).toNat (dk u)) (S++G) (d8 D O) (eP O u m d s x1 x2 x3 x4) g)):
  fE Bj (az aA n) [.ref 0,.ref 4,.ref 7,.bool w,.ref 9] (W7 P S D++eP O u m d s x1 x2 x3 x4) q x:=by
 have e:(S.map aa.int).length=S.length:=bz _;exact rO rfl rfl (eG e F.rh ab) rfl rfl trivial (by show 4 <= 16777216;decide) (by show 2 <= 16777216;decide) rfl (apq a T F b v A H hq c f h)
end
section
variable {n j:Nat} {t:ae} {k:aa->ae->Prop} {x:bn} {P W:List (List Int)} {S S':List Int} {E:List Int×Obj} {D y:List (Int×Int)} {a b u O m:Int} {d:List Int} {ct:List (Nat×Nat)} {c:List Nat} {V:ae}
abbrev bo (E:List Int×cj) (ct:List (Nat×Nat)) (a b:Int) (P:List (List Int)) (S:List Int) (D:List (Int×Int)):ae:=
 [.fB E.1 E.2,.cw 0 1 [(0,12),(1,13),(2,14)],.cw 1 2 ct,jt a b,.aZ 0 [.int 64,.ref 11,.ref 7],.inst 0 4,.list (jV.map .bytes),.list (S.map .int),.aZ 1 [.ref 5,.ref 5,.ref 10],.inst 1 8,.dict D,.list (P.map .bytes)]
abbrev di:List Nat:=[5,4,11,7,9,8,10]
theorem CB:cM (cL (di++c)) (bo E ct a b P S D++t) di (W7 P S D):=
 .cons rfl (.cons rfl (.cons (by rw [gJ];rfl) (.cons (by rw [jS];rfl) (.cons rfl (.cons rfl (.cons rfl .nil))))))
theorem tL {F:aB->aB} (d:∀o∈W7 W S' y,F o=mo (cL (di++c)) o):d1 F di (W7 W S' y) (bo E ct a b P S D++t)=bo E ct a b W S' y++t:=by
 haveI e:=d _ (.tail _ (.tail _ (.tail _ (.tail _ (.tail _ (.tail _ (.head _)))))));show(((((((bo E ct a b P S D++t).set 5 (F (.inst 0 1))).set 4 (F (.aZ 0 [.int 64,.ref 2,.ref 3]))).set 11 (F (.list (W.map .bytes)))).set 7 (F (.list (S'.map .int)))).set 9 (F (.inst 1 5))).set 8 (F (.aZ 1 [.ref 0,.ref 0,.ref 6]))).set 10 (F (.dict y))=_
 rw [(d _ (.head _)),(d _ (.tail _ (.head _))),((d _ (.tail _ (.tail _ (.head _)))).trans gJ),((d _ (.tail _ (.tail _ (.tail _ (.head _))))).trans jS),(d _ (.tail _ (.tail _ (.tail _ (.tail _ (.head _)))))),(d _ (.tail _ (.tail _ (.tail _ (.tail _ (.tail _ (.head _))))))),e];rfl
theorem aps {g:ae} {l:List Nat} (A:V.all (aL (7+c.length))=true) (f:∀P S D,cM (cL (di++c)) (bo E ct a b P S D++t) c V):
  c5 (di++c) l (bo E ct a b P S D++t) (W7 W S' y++V++g)=bo E ct a b W S' y++t++l.map λj=>mo (cY (di++c) l (bo E ct a b P S D++t).length) ((W7 W S' y++V++g).getD j .dead):=by
 haveI h:(di++c).length=7+c.length:=a9;haveI e:∀o,aL (7+c.length) o=true->mo (cY (di++c) l (bo E ct a b P S D++t).length) o=mo (cL (di++c)) o:=λo d=>kl (jm h) d;unfold c5;congr 1;rw [bX,o8 di c (W7 W S' y) (V++g) _ rfl];rw [tL λo d=>e o (dc.mp (by rw [xS];exact cC) o d)];exact nx (f W S' y) (λo d=>e o (dc.mp A o d)) g
theorem CC {g:ae} {r:aa} (A:V.all (aL (7+c.length))=true) (d:∀P S D,cM (cL (di++c)) (bo E ct a b P S D++t) c V) (e:kq r=true) (h:k r (bo E ct a b W S' y++t)):dx k (di++c) (bo E ct a b P S D++t) r (W7 W S' y++V++g):=by
 refine fR (cJ ([]) f8 (λ_ h=>(c6 h).elim) ?_);rw [aps A d,qP e,DV,cO];exact h
theorem w3 {f:Nat} {F:bd} {H:List aa} (M:aA f=some F) (d:F.lam=false) (e:1 <= n) (g:H.length=F.jf) (A:V.all (aL (7+c.length))=true) (i:(di++c).Nodup) (j:∀P S D,cM (cL (di++c)) (bo E ct a b P S D++t) c V) (l:H.all (bB (7+c.length))=true)
  (h:fE F (az aA (n-1)) H (W7 P S D++V) (dx k (di++c) (bo E ct a b P S D++t)) (λm z=>x m (c5 (di++c) [] (bo E ct a b P S D++t) z))):
  az aA n f (H.map (cz (cL (di++c)))) (bo E ct a b P S D++t) k x:=
 dQ (di++c) M d e g i a9 (CB.append (j P S D)) (MY A) l h
theorem atR {f:Nat->Option Nat} {J:ae}:cM f J [] []:=.nil
theorem Nd (f:8 <= n) (T:d0 P O u m d) (I:P.length <= 1000) (h:k (.int m) (bo E ct a b P S D++t)):az aA n 47 [.ref 9,.int O] (bo E ct a b P S D++t) k x:=by
 refine a6 λj i=>dN (T.wW (D:=[]) f8 (λ_ h=>(c6 h).elim) I (eF _) (eF _)) λl c C e p=>i (w3 rfl rfl (aQ f ab) rfl rfl ∅ (λ_ _ _=>.nil) rfl (L3 (aM (ay ..) f ab) C.lx C.walk C.ok λg=> ?_));haveI:=CC (g:=g) (P:=P) (S:=S) (D:=D) rfl (λ_ _ _=>.nil) rfl h;rw [e];exact this
theorem apt {v:Int} {c:Bool} (d:5 <= n) (I:P.length <= 1000) (p:S.length <= 1000) (e:D.length <= 1000) (T:pd P S v W S') (f:2 <= v/\v <= W.length) (w:W.length <= 1001)
  (h:k (.int v) (bo E ct a b (W.set (v-1).toNat (dk (if c then 13 else 10))) S' (d8 D v)++t)):az aA n 42 [.ref 9,.str (if c then 1 else 2)] (bo E ct a b P S D++t) k x:=by
 refine w3 rfl rfl (aQ d ab) rfl rfl ∅ (λ_ _ _=>.nil) rfl (L6 (aM (ay ..) d ab) (bE I ab) (bE p ab) (bE e ab) T f (bE w ab) λg=> ?_);haveI:=CC (g:=g) (P:=P) (S:=S) (D:=D) rfl (λ_ _ _=>.nil) rfl h;exact this
theorem CD {c:Int} (e:1 <= n) (f:fv a b) (g:0<c/\c<2^64) (h:∀d a b,0 <= d->d<c->fv a b->k (.int d) (bo E ct a b P S D++t)):az aA n 74 [.ref 3,.int c] (bo E ct a b P S D++t) k x:=
 wX e rfl f g h
end
section
variable {n j:Nat} {t:ae} {k:aa->ae->Prop} {x:bn} {P W:List (List Int)} {S S':List Int} {E:List Int×Obj} {D y:List (Int×Int)} {a b u O m:Int} {d:List Int} {ct:List (Nat×Nat)}
abbrev CE (E:List Int×cj) (a b:Int):ae:=[.fB E.1 E.2,.cw 0 1 [],.cw 1 2 [],jt a b]
theorem apu (c:1 <= n) (h:k .none (CE E a b++[.aZ 0 [.int 64,.ref 6,.ref 7],.inst 0 4,.list [],.list []])):az aA n 66 [.ref 5,.int 64] (CE E a b++[.aZ 0 [],.inst 0 4]) k x:=by
 exact dQ (H:=[.ref 1,.int 64]) (W:=[.aZ 0 [],.inst 0 0]) [4,5] rfl rfl c rfl ∅ rfl (.cons rfl (.cons rfl .nil)) rfl rfl (xU rfl rfl rfl (eF _) rfl rfl rfl (eF _) rfl rfl rfl (fR (cJ ([2,3]) ∅ ∅ h)))
abbrev tM (E:List Int×cj) (a b:Int) (P:List (List Int)):ae:=CE E a b++[.aZ 0 [.int 64,.ref 6,.ref 7],.inst 0 4,.list (P.map .bytes),.list []]
theorem apv (c:1 <= n) (h:k (.int 1) (tM E a b ic)):az aA n 70 [.ref 5] (tM E a b []) k x:=by
 exact dQ (W:=W4 [] []) [5,4,6,7] rfl rfl c rfl ∅ rfl (.cons rfl (.cons rfl (.cons rfl (.cons rfl .nil)))) rfl rfl (LL (eF _) λg=>(fR (cJ ([]) f8 (λ_ h=>(c6 h).elim) h)))
theorem apw (c:1 <= n) (h:k .none (tM E a b ic++[.aZ 1 [.ref 5,.ref 5,.ref 10],.inst 1 8,.dict []])):az aA n 35 [.ref 9,.ref 5,.ref 5] (tM E a b ic++[.aZ 1 [],.inst 1 8]) k x:=by
 exact dQ (H:=[.ref 1,.ref 2,.ref 2]) (W:=[.aZ 1 [],.inst 1 0,.inst 0 3,.aZ 0 [.int 64,.ref 4,.ref 5],.list (ic.map .bytes),.list []]) [8,9,5,4,6,7] rfl rfl c rfl ∅ rfl (.cons rfl (.cons rfl (.cons rfl (.cons rfl (.cons rfl (.cons rfl .nil)))))) rfl rfl (rO rfl rfl rfl rfl rfl rfl rfl rfl rfl (fR (cJ ([6]) ∅ ∅ h)))
theorem apx (c:15 <= n) (h:k (.bool true) (bo E [] a b ic [] [(2,2)]++[.code 0,.code 1,.code 2])):az aA n 78 [.ref 5,.ref 9] (tM E a b ic++[.aZ 1 [.ref 5,.ref 5,.ref 10],.inst 1 8,.dict []]) k x:=by
 refine dQ (H:=[.ref 0,.ref 4]) (W:=W7 ic [] []++[.cw 0 7 []]) [5,4,6,7,9,8,10,1] rfl rfl (aQ c ab) rfl ∅ rfl (.cons rfl (.cons rfl (.cons rfl (.cons rfl (.cons rfl (.cons rfl (.cons rfl (.cons rfl .nil)))))))) rfl rfl ?_;refine ao2 (aM (ay ..) c ab) ?_
 exact fR (cJ ([10,11,13,17]) ∅ (λj d=>by
  simp only [cb,c6,or_false] at d;exact VX d) h)
abbrev fx (r j a d f:aa):List aa:=[.ref 0,.ref 3,.ref 5,.ref 9,r,j,a,d,f]
theorem apy {q:aa->ae->Prop} (c:15 <= n) (d:E.1.length <= 63) (h:∀a b,fv a b->KX (az aA n) (fx .aR .aR .aR .aR .aR) (bo E [] a b ic [] [(2,2)]++[.code 0,.code 1,.code 2]) (λ_ z=>q .none z) q x):
  fE lu (az aA n) [.ref 0] [.fB E.1 E.2,.cw 0 1 [],.cw 1 2 []] q x:=by
 exact aoS (aQ c ab) d rfl λa b e=>apu (aQ c ab) ⟨rfl,apv (aQ c ab) (apw (aQ c ab) (apx c (h a b e)))⟩
end
section
variable {n j:Nat} {t:ae} {k:aa->ae->Prop} {x:bn} {P W:List (List Int)} {S S':List Int} {E:List Int×Obj} {D y:List (Int×Int)} {a b u O m:Int} {d:List Int} {ct:List (Nat×Nat)}
abbrev dF:=Int×Int×Int×List Int
def gM (b:Nat):List dF->ae
 | []=>[]
 |r::R=>dg r.1 r.2.1 r.2.2.1 (b+1):: .list (r.2.2.2.map .int)::gM (b+2) R
abbrev ed (l:List aa) (R:List dF):ae:=.code 0:: .code 1:: .code 2:: .list l::gM 16 R
def c8 (R:List dF):List aa:=(aI R.length).map λi=>.ref (16+2*i)
theorem NL:∀(b:Nat) (R:List dF),(gM b R).length=2*R.length
 |b,[]=>rfl
 |b,r::R=>by
  show(gM (b+2) R).length+1+1=2*(R.length+1)
  rw [NL (b+2) R];exact R7
theorem Nf:∀(b:Nat) (R:List dF) (r:dF),gM b (R++[r])=gM b R++[dg r.1 r.2.1 r.2.2.1 (b+2*R.length+1),.list (r.2.2.2.map .int)]
 |b,[],r=>rfl
 |b,q::R,r=>by
  show _::_::gM (b+2) (R++[r])=_::_::(gM (b+2) R++_)
  rw [Nf (b+2) R r,kZ,show b+2+2*R.length+1=b+2*(R.length+1)+1 by exact Fm]
theorem Ng {b:Nat} {p:Nat} {R:List dF}:b+2*R.length <= p->(gM b R).all (aL p)=true:=by
 induction R generalizing b p with
 |nil=>
  intro _;exact rfl
 |cons r R B=>
  intro h;show((true&&(true&&(true&&(bD (b+1) p&&true))))&&(aL p (.list _)&&(gM (b+2) R).all (aL p)))=true
  rw [et,B (by exact UW h),bS.mpr (by exact TM h)];rfl
theorem apz (R:List dF) (r:dF):c8 (R++[r])=c8 R++[.ref (16+2*R.length)]:=by
 unfold c8;rw [a9,Pd,m4,db];rfl
theorem apA (R:List dF) (r:dF):ed (c8 (R++[r])) (R++[r])= .code 0:: .code 1:: .code 2:: .list (c8 R++[.ref (16+2*R.length)])::(gM 16 R++[dg r.1 r.2.1 r.2.2.1 (16+2*R.length+1),.list (r.2.2.2.map .int)]):=by
 show aB.code 0::aB.code 1::aB.code 2::aB.list (c8 (R++[r]))::gM 16 (R++[r])=_
 rw [apz,Nf]
theorem Nh {p:Nat} {R:List dF} (h:16+2*R.length <= p):(c8 R).all (bB p)=true:=by
 refine dc.mpr λa b=>aw (dz.mp b) λi c d=> ?_;obtain rfl:=d;haveI:=gr.mp c;exact bS.mpr (Vk h this)
theorem Ni {p:Nat} (h:15 <= p) (M:ct.all (λq=>bD q.2 p)=true):(bo E ct a b P S D).all (aL p)=true:=by
 obtain⟨q,rfl⟩:∃q,p=q+15:=⟨p-15,RZ (ay ..) h⟩
 show(true&&((bD 1 (q+15)&&(bD 12 (q+15)&&(bD 13 (q+15)&&(bD 14 (q+15)&&true))))&&((bD 2 (q+15)&&ct.all λo=>bD o.2 (q+15))&&(true&&((true&&(bD 11 (q+15)&&(bD 7 (q+15)&&true)))&&(bD 4 (q+15)&&(aL _ (.list (jV.map .bytes))&&(aL _ (.list (S.map .int))&&((bD 5 (q+15)&&(bD 5 (q+15)&&(bD 10 (q+15)&&true)))&&(bD 8 (q+15)&&(true&&(aL _ (.list (P.map .bytes))&&true))))))))))))=true
 rw [et,eM,eM,M];rfl
theorem apB (d:12 <= n) (Z:1 <= P.length) (I:P.length <= 400) (e:D.length <= 1000) (f:fv a b)
  (h:∀W u c w (m:Nat),fv c w->tK P W u m->k (.ref ((bo E ct a b P [] D++t).length+0)) (bo E ct c w W [] (d8 D (P.length+1:Nat))++t++[dg (P.length+1:Nat) u m ((bo E ct a b P [] D++t).length+1),.list ((a8 P.length (W.length-P.length)).map .int)])):
  az aA n 75 [.ref 3,.ref 5,.ref 9] (bo E ct a b P [] D++t) k x:=by
 refine w3 rfl rfl (aQ d ab) rfl rfl ∅ (λ_ _ _=>.cons rfl .nil) rfl (apd (aM (ay ..) d ab) Z I e f λW u c w g i j m s M=>(fR (cJ ([12,11]) ∅ ?_ ?_)))
 ·exact Mo.am ⟨⟨∅,by show 12<13;decide⟩,⟨∅,by show 11<13;decide⟩,trivial⟩
 haveI l:d1 (mo (cY (di++[3]) [12,11] (bo E ct a b P [] D++t).length)) (di++[3]) (W7 W [] (d8 D (P.length+1:Nat))++[jt c w,g,i,j,.list ((a8 P.length (W.length-P.length)).map .int),dg (P.length+1:Nat) u m 11]) (bo E ct a b P [] D++t)=bo E ct c w W [] (d8 D (P.length+1:Nat))++t:=by
  rw [o8 di [3] (W7 W [] (d8 D (P.length+1:Nat))) _ _ rfl];rewrite [tL λo p=>kl (jm rfl) (dc.mp (cC) o p)];rfl
 unfold c5;rw [l];show k (.ref ((bo E ct a b P [] D++t).length+0)) (bo E ct c w W [] (d8 D (P.length+1:Nat))++t++[dg (P.length+1:Nat) u m ((bo E ct a b P [] D++t).length+1),mo _ (.list ((a8 P.length (W.length-P.length)).map .int))])
 rw [jS];exact h W u c w m s M
abbrev po (P W:List (List Int)) (u:Int) (m:Nat):dF:=(((P.length+1:Nat):Int),u,(m:Int),a8 P.length (W.length-P.length))
theorem lE {l:List aa} {N:List dF}:(bo E ct a b P S D++ed l N).length=16+2*N.length:=by
 rw [a9];show 12+((gM 16 N).length+1+1+1+1)=_
 rw [NL];exact Uw
structure pq (P:List (List Int)) (R:List dF):Prop where
 each:∀r∈R,d0 P r.1 r.2.1 r.2.2.1 r.2.2.2/\(r.2.1=10\/r.2.1=13)/\r.2.2.2.Pairwise (· < ·)
 kS:R.Pairwise λr apC=>∀q∈r.2.2.2,q∉apC.2.2.2
theorem pq.more {R:List dF} {m:Nat} (H:pq P R) (M:tK P W u m):pq W (R++[po P W u m]):=by
 constructor
 ·intro r b;rcases cR.mp b with b|b
  ·exact dp (H.each r b) λd e f=>⟨d.frame (λq hq=>M.old q (by haveI:=(d.gI q hq).1;exact gw this ab) (d.gI q hq).2) M.lo,e,f⟩
  ·rw [dj.mp b];exact⟨M.tree,M.kind,MG ..⟩
 ·refine as5.mpr ⟨H.kS,List.pairwise_singleton ..,λr b a c q hq o=> ?_⟩;replace o:=(dj.mp c)▸o;exact UU ((tw.mp o).1) (((H.each r b).1.gI q hq).2)
theorem apD {K:List aa->ae->Prop} {R:aa->ae->Prop} (C:12 <= n) (v:fv a b)
  (F:∀N P D a b j,bB 16 j=true->fv a b->pq P N->1 <= N.length->N.length <= 3->1 <= P.length->P.length <= 100->D.length <= 10->K (fx (.ref 15) j .aR .aR .aR) (bo E [] a b P [] D++ed (c8 N) N)):
  KW (az aA n) (fx (.ref 15) .aR .aR .aR .aR) (bo E [] a b ic [] [(2,2)]++[.code 0,.code 1,.code 2,.list []]) K R x:=by
 refine CD (aQ C ab) v ∅ λd a b V c v=> ?_;obtain⟨e,rfl⟩:=nQ V;haveI X:1+e=((e+1:Nat):Int):=SP;show gZ (0,1+e,1)/\ ∃f,gC jQ (fZ 0 (1+e) 1) 5 (ah (KU (az aA n)) ar) 16 f 0 _ _ K R x
 rw [X];refine⟨Cw (SB c),qT (λi Y J=>∃N P D a b j,bB 16 j=true/\fv a b/\pq P N/\N.length=i/\1 <= P.length/\P.length <= 1+30*i/\D.length <= 1+i/\Y=fx (.ref 15) j .aR .aR .aR/\J=bo E [] a b P [] D++ed (c8 N) N) (Ed ([]) ic _ a b .aR rfl v ⟨λ_ h=>((c6 h).elim),.nil⟩ rfl (dA _) (dA _) (dA _) rfl rfl) ?_ ?_⟩
 ·intro i Y J y T K' Q;refine Ec T λN P D a b j H z A r t G O U k=> ?_;obtain rfl:=U;obtain rfl:=k;refine⟨trivial,apB C t (Wy c y G) (Wf c y O) z λW u B w m s M=> ?_⟩;rw [lE];refine⟨by unfold c8;rw [bz,jC];exact VY c y r,?_⟩;haveI o:=Q _ _ (Ed (N++[po P W u m]) W (d8 D (P.length+1)) B w (.int i) rfl s (A.more M) (by rw [a9,r];rfl) (Sa t M.lo) (Wm G M.ix) (by haveI:=Nb D (P.length+1);exact U9 O this) rfl rfl)
  haveI Z:(bo E [] B w W [] (d8 D (P.length+1))++ed (c8 (N++[po P W u m])) (N++[po P W u m])).all (aL (18+2*N.length))=true:=by
   refine ds (Ni (oa ab) rfl) ?_;show(true&&(true&&(true&&((c8 _).all (bB _)&&(gM 16 _).all (aL _)))))=true
   rw [Nh (by rw [a9];exact ER),Ng (by rw [a9];exact ER)];rfl
  haveI I:=lE (E:=E) (ct:=[]) (a:=B) (b:=w) (P:=W) (S:=[]) (D:=d8 D (P.length+1)) (l:=c8 (N++[po P W u m])) (N:=N++[po P W u m]);haveI e2:(N++[po P W u m]).length=N.length+1:=a9;rw [e2,show 16+2*(N.length+1)=18+2*N.length by exact Sn] at I
  haveI L:=wE (V:=jQ) (c:=16) (g:=[]) (by exact oa ab) (by
   show(bD 0 _&&(bD 3 _&&(bD 5 _&&(bD 9 _&&(bD 15 _&&true)))))=true
   rw [bS.mpr (by exact sa ab),bS.mpr (by exact sa ab),bS.mpr (by exact sa ab),bS.mpr (by exact sa ab),bS.mpr (by exact sa ab)];rfl) I Z o
  rw [cO,apA] at L;exact L
 ·intro Y J cx;refine Ec cx λN P D a b j H z A r t G O p q=> ?_;obtain rfl:=p;obtain rfl:=q;exact F _ _ _ _ _ _ H z A (u0 r ab) (T3 c r) t (Vl c G) (UF c O)
end
section
variable {n j:Nat} {t:ae} {k:aa->ae->Prop} {x:bn} {P W:List (List Int)} {S S':List Int} {E:List Int×Obj} {D y:List (Int×Int)} {a b u O m:Int} {d:List Int} {ct:List (Nat×Nat)} {c:List Nat}
theorem CF (h:c.Nodup) (d:∀i∈c,i∉di):(di++c).Nodup:=
 eq.mpr ⟨∅,h,λa f b g e=>d b g (e▸f)⟩
theorem Nj {i:Nat} (h:i=2\/12 <= i):i∉di:=by
 rcases h with rfl|h
 ·decide
 ·intro a;haveI:∀j∈di,j<12:=by decide
  haveI:=this i a;exact R4 h this
theorem Nk (T:d0 P O u m d):gG (aE P O):=by
 exact f9 T.ex λb c a e f g=>(a.ok O (.head _)).node
structure w5 (L:ae) (i o:Nat) (O u m:Int) (own:List Int):Prop where
 tup:L[i]? =some (dg O u m o)
 own:L[o]? =some (.list (own.map .int))
theorem apE {f c:Nat} (l:12 <= n) (T:d0 P O u m d) (I:P.length<1000) (p:12 <= f) (q:12 <= c) (y:f≠c) (H:∀ct,w5 (bo E ct a b P [] D++t) f c O u m d)
  (e:k (.bool true) (bo E [] a b P [] D++t)) (F:k (.bool true) (bo E [(3,(bo E [] a b P [] D++t).length+0),(4,(bo E [] a b P [] D++t).length+1)] a b P [] D++t++[.code 3,.code 4])):
  az aA n 79 [.ref 5,.ref 9,.ref f] (bo E [] a b P [] D++t) k x:=by
 have A:([.cw 1 7 [],dg O u m 9,.list (d.map .int)]).all (aL 10)=true:=by show(true&&(true&&(aL 10 (.list _)&&true)))=true;rw [et];rfl
 have r:cM (cL (di++[2,f,c])) (bo E [] a b P [] D++t) [2,f,c] [.cw 1 7 [],dg O u m 9,.list (d.map .int)]:=.cons rfl (.cons (H []).tup (.cons (by rw [jS];exact(H []).own) .nil));have z:(di++[2,f,c]).Nodup:=CF (by simp;exact WQ p q y) (λi s=>Nj (by simp only [cb,c6,or_false] at s;rcases s with h|h|h<;>(first|exact EQ h|exact r3 p h|exact r3 q h)));have N:=Nk T;have v:∀o,aL 10 o=true->mo (cY (di++[2,f,c]) [16,18] (bo E [] a b P [] D++t).length) o=mo (cL (di++[2,f,c])) o:=λo j=>kl (jm rfl) j;refine dQ (H:=[.ref 0,.ref 4,.ref 8]) (di++[2,f,c]) rfl rfl (aQ l ab) rfl z rfl (CB.append r) (ds (cC) A) rfl ?_;refine ao6 (aM (ay ..) l ab) T I (eF _) N.kind N.len (λg=> ?_) λw=> ?_
 ·refine fR (cJ ([]) f8 (by simp) ?_);unfold c5;rw [bX (W7 P [] D),o8 di [2,f,c] (W7 P [] D) _ _ rfl,tL λo j=>kl (jm rfl) (dc.mp (cC) o j),nx r λo j=>kl (jm rfl) (dc.mp A o j)];rw [DV,cO];exact e
 ·refine fR (cJ ([16,18]) ∅ ?_ ?_)
  ·exact Mo.am ⟨⟨by show 10 <= 16;decide,by show 16<22;decide⟩,⟨by show 10 <= 18;decide,by show 18<22;decide⟩,trivial⟩
  ·unfold c5;rw [o8 di [2,f,c] (W7 P [] D) _ _ rfl,tL λo j=>v o (dc.mp (cC) o j)];show k (.bool true) (d1 _ [f,c] ([dg O u m 9,.list (d.map .int)]++[.cell (.ref 4),.cell (.ref 8),.list [],.tup [.bytes (aE P O),.ref 12],.tup [.int 2,.int 5],.list ((P.set (O-1).toNat w).map .bytes),.code 3,.fn 3 16 [10,11],.code 4,.fn 4 18 [10,11],.list [.str 5,.str 5],.list [.str 5,.str 5]]) (bo E [(3,(bo E [] a b P [] D++t).length+0),(4,(bo E [] a b P [] D++t).length+1)] a b P [] D++t)++[.code 3,.code 4])
   have J:cM (cL (di++[2,f,c])) (bo E [(3,(bo E [] a b P [] D++t).length+0),(4,(bo E [] a b P [] D++t).length+1)] a b P [] D++t) [f,c] [dg O u m 9,.list (d.map .int)]:=.cons (H _).tup (.cons (by rw [jS];exact(H _).own) .nil);rw [nx J λo j=>v o (dc.mp (by show(true&&(aL 10 (.list _)&&true))=true;rw [et];rfl) o j)];exact F
theorem apF {f c L:Nat} (j:12 <= n) (T:d0 P O u m d) (I:P.length<1000) (l:12 <= f) (q:12 <= c) (z:f≠c) (H:w5 (bo E [(3,L),(4,L+1)] a b P [] D++t) f c O u m d) (r:12 <= L) (B:f<L) (C:c<L) (p:(bo E [(3,L),(4,L+1)] a b P [] D++t)[L]? =some (.code 3)) (F:(bo E [(3,L),(4,L+1)] a b P [] D++t)[L+1]? =some (.code 4))
  (G:k (.bool true) (bo E [(3,L),(4,L+1)] a b P [] D++t)):
  az aA n 79 [.ref 5,.ref 9,.ref f] (bo E [(3,L),(4,L+1)] a b P [] D++t) k x:=by
 have A:([.cw 1 7 [(3,10),(4,11)],dg O u m 9,.list (d.map .int),.code 3,.code 4]).all (aL 12)=true:=by show(true&&(true&&(aL 12 (.list _)&&true)))=true;rw [et];rfl
 have s:cM (cL (di++[2,f,c,L,L+1])) (bo E [(3,L),(4,L+1)] a b P [] D++t) [2,f,c,L,L+1] [.cw 1 7 [(3,10),(4,11)],dg O u m 9,.list (d.map .int),.code 3,.code 4]:=.cons rfl (.cons H.tup (.cons (by rw [jS];exact H.own) (.cons p (.cons F .nil))));have N:=Nk T
 have v:∀g,dx k (di++[2,f,c,L,L+1]) (bo E [(3,L),(4,L+1)] a b P [] D++t) (.bool true) (W7 P [] D++[.cw 1 7 [(3,10),(4,11)],dg O u m 9,.list (d.map .int),.code 3,.code 4]++g):=λg=>by
  refine fR (cJ ([]) f8 (by simp) ?_);unfold c5;rw [bX (W7 P [] D),o8 di [2,f,c,L,L+1] (W7 P [] D) _ _ rfl,tL λo e=>kl (jm rfl) (dc.mp (cC) o e),nx s λo e=>kl (jm rfl) (dc.mp A o e)];rw [DV,cO];exact G
 refine dQ (H:=[.ref 0,.ref 4,.ref 8]) (di++[2,f,c,L,L+1]) rfl rfl (aQ j ab) rfl (CF (by simp;exact Yl l q B C z) (λi y=>Nj (by simp only [cb,c6,or_false] at y;rcases y with h|h|h|h|h<;>(first|exact EQ h|exact r3 l h|exact r3 q h|exact r3 r h|exact Uy r h)))) rfl (CB.append s) (ds (cC) A) rfl ?_;exact ao9 (aM (ay ..) j ab) T I (eF _) N.kind N.len v λw=>v [.cell (.ref 4),.cell (.ref 8),.list [],.tup [.bytes (aE P O),.ref 14],.tup [.int 2,.int 5],.list ((P.set (O-1).toNat w).map .bytes),.fn 3 10 [12,13],.fn 4 11 [12,13],.list [.str 5,.str 5],.list [.str 5,.str 5]]
end
section
variable {n j:Nat} {t:ae} {k:aa->ae->Prop} {x:bn} {P W:List (List Int)} {S S':List Int} {E:List Int×Obj} {D y:List (Int×Int)} {a b u O m:Int} {d:List Int} {ct:List (Nat×Nat)} {c:List Nat}
theorem Nl:∀{b:Nat} {R:List dF} {i:Nat} {r:dF},R[i]? =some r->(gM b R)[2*i]? =some (dg r.1 r.2.1 r.2.2.1 (b+2*i+1))/\(gM b R)[2*i+1]? =some (.list (r.2.2.2.map .int))
 |b,[],i,r,h=>by contradiction
 |b,q::R,0,r,h=>by obtain rfl:=bl h;exact⟨rfl,rfl⟩
 |b,q::R,i+1,r,h=>by
  obtain⟨a,c⟩:=Nl (i:=i) h;rw [show b+2+2*i+1=b+2*(i+1)+1 by exact Fm] at a;exact⟨a,c⟩
theorem w6 {l:List aa} {N:List dF} {C:ae} {i:Nat} {r:dF} (h:N[i]? =some r):w5 (bo E ct a b P S D++(ed l N++C)) (16+2*i) (17+2*i) r.1 r.2.1 r.2.2.1 r.2.2.2:=by
 obtain⟨d,e⟩:=Nl h
 haveI c:∀q:Nat,(bo E ct a b P S D++(ed l N++C))[16+q]? =((gM 16 N)++C)[q]? :=λq=>by
  rw [eE (by exact vc ab)];show(aB.code 0::aB.code 1::aB.code 2::aB.list l::(gM 16 N++C))[16+q-12]? =_
  rw [show 16+q-12=q+1+1+1+1 by exact Ta (ay ..)];rfl
 refine⟨?_,?_⟩
 ·rw [c,eu d,show 16+2*i+1=17+2*i by exact Sm]
 ·rw [show 17+2*i=16+(2*i+1) by exact So,c,eu e]
def nL (L:Nat) (ct:List (Nat×Nat)) (C:ae):Prop:=(ct=[]/\C=[])\/(ct=[(3,L),(4,L+1)]/\C=[.code 3,.code 4])
theorem apG {C:ak} {f i j q s:Nat} {Y:List aa} {J:ae} {l:List aa} {v w:aa} {a:aa->ae->Prop} (b:Y[i]? =some v) (c:mG v=true) (d:Y[j]? =some (.ref s)) (e:J[s]? =some (.tup l)) (g:l.length <= 16777216) (k:eo l (q:Int)=some w) (m:mG w=true) (h:C f [v,w] J a x):
  aS C f (cG (bH i) (cG (bu (bH j) (au (q:Int)) bT) bf)) Y J a x:=by
 delta aS cG bf;exact lC b c (Cz d e g k m h)
theorem apH {i:Int} {J:ae} {a:Bool->Prop} (h:a false):du (.int i) (.int i) J a:=by
 show a (decide (i≠i))
 rw [decide_eq_false (λh=>h rfl)];exact h
theorem apI {N:List dF} {C:ae} {i:Nat} {r:dF} {j d f:aa} {K:List aa->ae->Prop} {R:aa->ae->Prop} (p:12 <= n) (g:N[i]? =some r) (T:d0 P r.1 r.2.1 r.2.2.1 r.2.2.2) (I:P.length <= 900) (v:nL (16+2*N.length) ct C)
  (F:∀e k,nL (16+2*N.length) e k->K (fx (.ref 15) j (.ref (16+2*i)) d f) (bo E e a b P [] D++(ed (c8 N) N++k))):
  wg (az aA n) (fx (.ref 15) j (.ref (16+2*i)) d f) (bo E ct a b P [] D++(ed (c8 N) N++C)) K R x:=by
 haveI t:=(cF.mp g).1;haveI u:=(w6 (E:=E) (ct:=ct) (a:=a) (b:=b) (P:=P) (S:=[]) (D:=D) (l:=c8 N) (C:=C) g).tup
 haveI y:∀ct C,(bo E ct a b P [] D++(ed (c8 N) N++C)).length=16+2*N.length+C.length:=λct C=>by
  rw [<-bX,a9,lE]
 haveI m:∀o:Bool->ae->Prop,(∀e k,nL (16+2*N.length) e k->o false (bo E e a b P [] D++(ed (c8 N) N++k)))->fq (bi (aS (az aA n) 47 (cG (bH 3) (cG (bu (bH 6) (au 0) bT) bf))) (bu (bH 6) (au 2) bT) du) (kH (gV (aS (az aA n) 79 (cG (bH 2) (cG (bH 3) (cG (bH 6) bf)))))) (fx (.ref 15) j (.ref (16+2*i)) d f) (bo E ct a b P [] D++(ed (c8 N) N++C)) o x:=λo s=>by
  refine tI (aj:=bo E ct a b P [] D++(ed (c8 N) N++C)) (λo z=> ?_) ?_
  ·exact apG rfl rfl rfl u (by show 4 <= 16777216;decide) rfl rfl (Nd (aQ p ab) T (bE I ab) (Cz rfl u (by show 4 <= 16777216;decide) rfl rfl (apH z)))
  ·rcases v with A|B
   ·obtain⟨rfl,rfl⟩:=A;refine apE (c:=17+2*i) p T (uZ I ab) (oa ab) (oa ab) (EN) (λct=>w6 g) (s [] [] (.inl ⟨rfl,rfl⟩)) ?_;rw [y,cO];exact s _ _ (.inr ⟨rfl,rfl⟩)
   ·obtain⟨rfl,rfl⟩:=B
    haveI w:∀q:Nat,(bo E [(3,16+2*N.length),(4,16+2*N.length+1)] a b P [] D++(ed (c8 N) N++[.code 3,.code 4]))[16+2*N.length+q]? =([.code 3,.code 4])[q]? :=λq=>by
     rw [<-bX,eE (by rw [lE];exact EY),lE,ip]
    exact apF (c:=17+2*i) p T (uZ I ab) (oa ab) (oa ab) (EN) (w6 g) (oa ab) (yN t ab) (yN t ab) (w 0) (w 1) (s _ _ (.inr ⟨rfl,rfl⟩))
 exact m (λc J=>jI c (ah (bj (hU false)) ar (fx (.ref 15) j (.ref (16+2*i)) d f) J K R x) (ar (fx (.ref 15) j (.ref (16+2*i)) d f) J K R x)) λe k h=>F e k h
theorem Nm {p:Nat} {N:List dF} {C:ae} (d:nL (16+2*N.length) ct C) (c:16+2*N.length+C.length <= p):(bo E ct a b P S D++(ed (c8 N) N++C)).all (aL p)=true:=by
 refine ds (Ni (Tg c) ?_) (ds ?_ ?_)
 ·rcases d with e|f
  ·obtain⟨rfl,rfl⟩:=e;rfl
  ·obtain⟨rfl,rfl⟩:=f;haveI:16+2*N.length+2 <= p:=c;show(bD _ p&&(bD _ p&&true))=true
   rw [bS.mpr (by exact Yz this),bS.mpr (by exact YA this)];rfl
 ·show(true&&(true&&(true&&((c8 _).all (bB _)&&(gM 16 _).all (aL _)))))=true
  rw [Nh (by exact Fn c),Ng (by exact Fn c)];rfl
 ·rcases d with⟨rfl,rfl⟩| ⟨rfl,rfl⟩<;>rfl
theorem Nn {p:Nat} {a j v d f:aa} (h:13 <= p) (b:bB p a=true) (c:bB p j=true) (e:bB p v=true) (g:bB p d=true) (i:bB p f=true):(fx a j v d f).all (bB p)=true:=by
 show(bD 0 _&&(bD 3 _&&(bD 5 _&&(bD 9 _&&(bB _ a&&(bB _ j&&(bB _ v&&(bB _ d&&(bB _ f&&true)))))))))=true
 rw [bS.mpr (by exact ve h ab),bS.mpr (by exact ve h ab),bS.mpr (by exact ve h ab),bS.mpr (by exact ve h ab),b,c,e,g,i];rfl
theorem apJ {N:List dF} {j:aa} {K:List aa->ae->Prop} {R:aa->ae->Prop} (y:12 <= n) (H:pq P N) (I:P.length <= 900) (z:bB 16 j=true)
  (F:∀ct C v,nL (16+2*N.length) ct C->bB (16+2*N.length) v=true->K (fx (.ref 15) j v .aR .aR) (bo E ct a b P [] D++(ed (c8 N) N++C))):
  jO jQ 6 (bH 4) (ah (wg (az aA n)) ar) (fx (.ref 15) j .aR .aR .aR) (bo E [] a b P [] D++ed (c8 N) N) K R x:=by
 show ∃f,gC jQ (kM 15) 6 (ah (wg (az aA n)) ar) (bo E [] a b P [] D++ed (c8 N) N).length f 0 _ _ K R x
 rw [lE];refine mq (l:=c8 N) (λi Y J=>∃ct C v,nL (16+2*N.length) ct C/\bB (16+2*N.length) v=true/\Y=fx (.ref 15) j v .aR .aR/\J=bo E ct a b P [] D++(ed (c8 N) N++C)) ?_ (k7 ([]) ([]) .aR (.inl ⟨rfl,rfl⟩) rfl rfl (by rw [cO])) ?_ ?_
 ·intro i Y J B;refine k6 B λct C v d m G t=> ?_;obtain rfl:=G;obtain rfl:=t;rfl
 ·intro i w Y J c M T Q;refine k6 M λct C v d m A s=> ?_;obtain rfl:=A;obtain rfl:=s;unfold c8 at c;rw [cm] at c;by_cases h:i<N.length
  ·rw [i5 h] at c;obtain rfl:=bl c;haveI o:=bV h;refine apI y o (H.each _ (cq o)).1 I d λe k p=> ?_
   haveI O:(bo E e a b P [] D++(ed (c8 N) N++k)).length=16+2*N.length+k.length:=by
    rw [<-bX,a9,lE]
   haveI q:bB (16+2*N.length) (.ref (16+2*i))=true:=bS.mpr (yN h ab);haveI r:=wE (V:=jQ) (g:=[]) (rK _ k.length) (Y:=fx (.ref 15) j (.ref (16+2*i)) .aR .aR) (Nn (by exact FU ab) (bS.mpr (by exact Ry)) (ly (by exact FU ab) z) (ly (by exact EY) q) rfl rfl) O (Nm p (dA _)) (Q _ _ (k7 e k _ p q rfl rfl));rw [cO] at r;exact r
  ·rw [hJ (by rw [jC];exact jH h)] at c;contradiction
 ·intro Y J S;refine k6 S λct C v d m L u=> ?_;obtain rfl:=L;obtain rfl:=u;exact F ct C v d m
end
section
variable {n j:Nat} {t:ae} {k:aa->ae->Prop} {x:bn} {P W:List (List Int)} {S S':List Int} {E:List Int×Obj} {D y:List (Int×Int)} {a b u O m:Int} {d:List Int} {ct:List (Nat×Nat)} {c:List Nat}
theorem CG {s:List aa} {x1 x2 x3 x4:aB} {os:mx} {w:Bool} (f:14 <= n) (T:d0 P O u m d) (F:pk P S D d) (o:u=10\/u=13) (v:d.Pairwise (· < ·)) (A:(eP O u m d s x1 x2 x3 x4).all (aL 14)=true) (H:∀P S D,my (W7 P S D++eP O u m d s x1 x2 x3 x4) s os) (hq:(dh os).length <= 1000) (p:∀q∈dh os,1 <= q/\q <= P.length) (r:∀q∈dh os,q≠O)
  (j:c.length=7) (y:c.Nodup) (C:∀i∈c,i∉di) (l:∀P S D,cM (cL (di++c)) (bo E ct a b P S D++t) c (eP O u m d s x1 x2 x3 x4))
  (h:∀G:List Int,(∀q∈G,q∈d)->G.Nodup->k (.bool true) (bo E ct a b (P.set (O-1).toNat (dk u)) (S++G) (d8 D O)++t)):
  az aA n 80 ([aa.ref 0,.ref 4,.ref 7,.bool w,.ref 9].map (cz (cL (di++c)))) (bo E ct a b P S D++t) k x:=by
 haveI e:(eP O u m d s x1 x2 x3 x4).all (aL (7+c.length))=true:=by rw [j];exact A
 exact w3 rfl rfl (aQ f ab) rfl e (CF y C) l (by rw [j];rfl) (apr (aM (ay ..) f ab) T F o v A H hq p r λG z B g=>CC e l rfl (h G z B))
abbrev fS (a:List (Nat×dF)):aB:=.list (a.map λz=>.ref (16+2*z.1))
theorem apK {i:Nat} (h:i<4\/i=6\/12 <= i):i∉di:=by
 intro a;simp only [di,cb,c6,or_false] at a;exact XT h a
theorem No {f:Nat->Option Nat}:(bo E ct a b P S D++t)[0]? =some (mo f (.fB E.1 E.2)):=rfl
theorem apL {f:Nat->Option Nat}:(bo E ct a b P S D++t)[6]? =some (mo f (.list (jV.map .bytes))):=by rfl
structure iW (P:List (List Int)) (S:List Int) (D:List (Int×Int)) (Rs:List dF) (lf:List (Nat×dF)):Prop where
 at_:∀z∈lf,Rs[z.1]? =some z.2
 tree:∀z∈lf,d0 P z.2.1 z.2.2.1 z.2.2.2.1 z.2.2.2.2/\(z.2.2.1=10\/z.2.2.1=13)/\z.2.2.2.2.Pairwise (· < ·)
 cP:(lf.map (·.1)).Nodup
 kS:lf.Pairwise λz apM=>∀q∈z.2.2.2.2,q∉apM.2.2.2.2
 snd:S.Nodup
 tN:∀q∈S,2 <= q/\q <= P.length
 w7:∀q∈S,∀z∈lf,q∉z.2.2.2.2
 len:P.length <= 900/\D.length+lf.length <= 100/\lf.length <= 3
 one:1 <= P.length
variable {N:List dF} {lf f A B:List (Nat×dF)} {z:Nat×dF}
theorem Np (h:S.Nodup) (a:∀q∈S,2 <= q/\q <= P.length):S.length <= P.length:=by
 haveI:=asZ h λq hq=>tw.mpr (by haveI:=a q hq;exact Xp this)
 rwa [wO] at this
theorem iW.others (L:iW P S D N (A++z::B)):∀y∈A++B,(∀q∈y.2.2.2.2,q∉z.2.2.2.2)/\y.1≠z.1:=by
 have b:=as5.mp L.kS;haveI c:=L.cP;rw [db,cB] at c;have d:=eq.mp c;intro y a;rcases cR.mp a with a|a
 ·exact⟨b.2.2 y a z (.head _),d.2.2 y.1 (io a) z.1 (.head _)⟩
 ·exact⟨λq hq f=>(List.pairwise_cons.mp b.2.1).1 y a q f hq,λe=>(eD.mp d.2.1).1 (e▸io a)⟩
theorem iW.gone {G:List Int} (L:iW P S D N (A++z::B)) (i:∀q∈G,q∈z.2.2.2.2) (h:G.Nodup):iW (P.set (z.2.1-1).toNat (dk z.2.2.1)) (S++G) (d8 D z.2.1) N (A++B):=by
 have r:∀y∈A++B,y∈A++z::B:=λy b=>by
  rcases cR.mp b with b|b
  ·exact cQ _ b
  ·exact dn _ (.tail _ b)
 haveI c:=(List.Sublist.refl A).append (OL z B);haveI d:z∈A++z::B:=dn _ (.head _);have T:=(L.tree z d).1;haveI g:=L.others;haveI k:(A++z::B).length=(A++B).length+1:=by simp;exact EP
 constructor
 ·exact λy b=>L.at_ y (r y b)
 ·refine λy b=>dp (L.tree y (r y b)) λf j t=>⟨f.frame (λq hq=>tC (by haveI:=(f.gI q hq).1;exact gw this ab) (jb (T.gI _ T.mw) ab) λe=>(g y b).1 q hq (e▸T.mw)) (by rw [e3];exact dA _),j,t⟩
 ·exact L.cP.sublist (c.map _)
 ·exact L.kS.sublist c
 ·exact eq.mpr ⟨L.snd,h,λq hq y b e=>L.w7 q hq z d (i q (e▸b))⟩
 ·intro q hq;rw [e3];rcases cR.mp hq with hq|hq
  ·exact L.tN q hq
  ·exact T.gI q (i q hq)
 ·intro q hq y b a;rcases cR.mp hq with hq|hq
  ·exact L.w7 q hq y (r y b) a
  ·exact(g y b).1 q a (i q hq)
 ·rw [e3];exact XV L.len k (Nb D z.2.1)
 ·rw [e3];exact L.one
theorem iW.fit (L:iW P S D N (A++z::B)):pk P S D z.2.2.2.2 where
 cP:=L.snd
 kS:=λq hq=>L.w7 q hq z (dn _ (.head _))
 lx:=by have:=L.len;exact uY this ab
 rh:=by have:=L.len;have:=Np L.snd L.tN;exact FE (by assumption) this
 tl:=by have:=L.len;exact F6 this ab
theorem apN {d:Type} {l:List d} (h:l.length <= 2):l=[]\/(∃y,l=[y])\/ ∃y z,l=[y,z]:=by
 cases l with
 |nil=>exact .inl rfl
 |cons y l=>
  cases l with
  |nil=>exact .inr (.inl ⟨y,rfl⟩)
  |cons z l=>
   induction l with
   |nil=>exact .inr (.inr ⟨y,z,rfl⟩)
   |cons=>exact absurd h (by simp)
theorem apO {l:List aa} {C:ae} {w:Bool} {e:Nat} (hn:14 <= n) (L:iW P S D N (A++z::B)) (he:e=16+2*N.length+C.length)
  (h:∀G:List Int,iW (P.set (z.2.1-1).toNat (dk z.2.2.1)) (S++G) (d8 D z.2.1) N (A++B)->k (.bool true) (bo E ct a b (P.set (z.2.1-1).toNat (dk z.2.2.1)) (S++G) (d8 D z.2.1)++((ed l N++C)++[fS (A++B),.list []]))):
  az aA n 80 [.ref 5,.ref 9,.ref (16+2*z.1),.bool w,.ref e] (bo E ct a b P S D++((ed l N++C)++[fS (A++B),.list []])) k x:=by
 have hz:z∈A++z::B:=dn _ (.head _);refine dp (L.tree z hz) λT hk v=> ?_;have F:=L.fit;have ho:=L.others;have m:=(cF.mp (L.at_ z hz)).1
 have I:∀P S D,(bo E ct a b P S D++((ed l N++C)++[fS (A++B),.list []]))[e]? =some (fS (A++B)):=λP S D=>by
  rw [<-bX,eE (by rw [<-bX,a9,lE];exact yF he),<-bX,a9,lE,he,iF];rfl
 have d:∀P S D,∀y∈A++z::B,w5 (bo E ct a b P S D++((ed l N++C)++[fS (A++B),.list []])) (16+2*y.1) (17+2*y.1) y.2.1 y.2.2.1 y.2.2.2.1 y.2.2.2.2:=λP S D y Z=>by
  have:=w6 (E:=E) (ct:=ct) (a:=a) (b:=b) (P:=P) (S:=S) (D:=D) (l:=l) (C:=C++[fS (A++B),.list []]) (L.at_ y Z);rw [bX (ed l N)];exact this
 have lK:=λG h1 h2=>h G (L.gone h1 h2);have cr:=λy Z=>(cF.mp (L.at_ y Z)).1
 have r:∀y∈A++B,y∈A++z::B:=λy Z=>by
  rcases cR.mp Z with Z|Z
  ·exact cQ _ Z
  ·exact dn _ (.tail _ Z)
 have U:=L.cP.sublist (((List.Sublist.refl A).append (OL z B)).map _);have h3:=L.len.2.2;have fT:(A++z::B).length=(A++B).length+1:=by simp;exact EP
 have tV:=SW fT h3;have J:∀{c:List Nat},c.Nodup->(∀i∈c,i<4\/i=6\/12 <= i)->∀i∈c,i∉di:=λ_ h i hi=>apK (h i hi);generalize A++B=lf at*
 have M:∀y∈lf,y.2.2.2.2.length <= 40/\(∀q∈y.2.2.2.2,1 <= q/\q <= P.length)/\ ∀q∈y.2.2.2.2,q≠z.2.1:=λy Z=>by
  have O:=(L.tree y (r y Z)).1;exact⟨O.len,λq hq=>⟨by have:=(O.gI q hq).1;exact gw this ab,(O.gI q hq).2⟩,λq hq e=>(ho y Z).1 q hq (e▸T.mw)⟩
 have s:∀P S D,∀y∈A++z::B,∀f,(bo E ct a b P S D++((ed l N++C)++[fS lf,.list []]))[17+2*y.1]? =some (mo f (.list (y.2.2.2.2.map .int))):=λP S D y Z f=>by rw [jS];exact(d P S D y Z).own
 obtain rfl| ⟨y,rfl⟩| ⟨y,p,rfl⟩:=apN tV
 ·
  refine CG (s:=[]) (os:=[]) (x2:=.code 0) (x4:=jt a b) (c:=[16+2*z.1,17+2*z.1,e,0,12,6,3]) hn T F hk v ?_ (λ_ _ _=>⟨rfl,λ_ h=>(nomatch h),λ_ h=>(nomatch h)⟩) (eF _) (λ_ h=>nomatch h) (λ_ h=>nomatch h) rfl ?_ (J ?_ ?_) (λP S D=>.cons (d P S D z hz).tup (.cons (s P S D z hz _) (.cons (I P S D) (.cons No (.cons rfl (.cons apL (.cons rfl .nil))))))) lK
  ·show(true&&(aL 14 (.list _)&&(true&&(true&&(true&&(aL 14 (.list (jV.map .bytes))&&(true&&true)))))))=true
   rw [et,eM];rfl
  ·simp;exact FL m he
  ·simp;exact FL m he
  ·intro i hi;simp only [cb,c6,or_false] at hi;exact Yc hi he
 ·
  have Z:=r y (.head _);have t:=cr y Z;have H:=(ho y (.head _)).2;refine dp (M y (.head _)) λo g j=> ?_;have u:dh [(10,11,y.2.2.2.2)]=y.2.2.2.2:=cO _;refine CG (s:=[.ref 10]) (os:=[(10,11,y.2.2.2.2)]) (x1:=dg y.2.1 y.2.2.1 y.2.2.2.1 11) (x4:=.code 0) (c:=[16+2*z.1,17+2*z.1,e,16+2*y.1,17+2*y.1,0,12]) hn T F hk v ?_ (λ_ _ _=>⟨rfl,λq h=>by rw [dj.mp h];exact uA _ _ _ rfl,λq h=>by rw [dj.mp h];rfl⟩) (by rw [u];exact bE o ab) (by rw [u];exact g) (by rw [u];exact j) rfl ?_ (J ?_ ?_) (λP S D=>.cons (d P S D z hz).tup (.cons (s P S D z hz _) (.cons (I P S D) (.cons (d P S D y Z).tup (.cons (s P S D y Z _) (.cons No (.cons rfl .nil))))))) lK
  ·show(true&&(aL 14 (.list _)&&(true&&(true&&(aL 14 (.list (y.2.2.2.2.map .int))&&(true&&(true&&true)))))))=true
   rw [et,et];rfl
  ·simp;exact FM m t he H
  ·simp;exact FM m t he H
  ·intro i hi;simp only [cb,c6,or_false] at hi;exact Yj hi he
 ·
  refine a6 λH_ e_=> ?_;have Z:=r y (.head _);have K:=r p (.tail _ (.head _));have t:=cr y Z;have Q:=cr p K;have H:=(ho y (.head _)).2;have R:=(ho p (.tail _ (.head _))).2;have V:y.1≠p.1:=λe=>(eD.mp U).1 (by show y.1∈[p.1];rw [e];exact .head _);refine dp (M y (.head _)) λo g j=> ?_;refine dp (M p (.tail _ (.head _))) λW X Y=> ?_;have u:dh [(10,11,y.2.2.2.2),(12,13,p.2.2.2.2)]=y.2.2.2.2++p.2.2.2.2:=by show _++(_++[])=_;rw [cO]
  refine e_ ?_;refine CG (s:=[.ref 10,.ref 12]) (x1:=dg y.2.1 y.2.2.1 y.2.2.2.1 11) (x3:=dg p.2.1 p.2.2.1 p.2.2.2.1 13) hn T F hk v ?_ (λ_ _ _=>⟨rfl,?_,?_⟩) (by rw [u,a9];exact Tx o W) (by rw [u];exact λq hq=>(cR.mp hq).elim (g q) (X q)) (by rw [u];exact λq hq=>(cR.mp hq).elim (j q) (Y q)) rfl ?_ (J ?_ ?_) (λP S D=>.cons (d P S D z hz).tup (.cons (s P S D z hz _) (.cons (I P S D) (.cons (d P S D y Z).tup (.cons (s P S D y Z _) (.cons (d P S D p K).tup (.cons (s P S D p K _) .nil))))))) lK
  ·show(true&&(aL 14 (.list _)&&(true&&(true&&(aL 14 (.list (y.2.2.2.2.map .int))&&(true&&(aL 14 (.list (p.2.2.2.2.map .int))&&true)))))))=true
   rw [et,et,et];rfl
  ·intro q hq;rcases cb.mp hq with rfl|hq
   ·exact uA _ _ _ rfl
   ·rw [dj.mp hq];exact uA _ _ _ rfl
  ·intro q hq;rcases cb.mp hq with rfl|hq
   ·rfl
   ·rw [dj.mp hq];rfl
  ·simp;exact FN m t Q he H R V
  ·simp;exact FN m t Q he H R V
  ·intro i hi;simp only [cb,c6,or_false] at hi;exact Yo hi he
end
section
variable {n j:Nat} {t:ae} {k:aa->ae->Prop} {x:bn} {P W:List (List Int)} {S S':List Int} {E:List Int×Obj} {D y:List (Int×Int)} {a b u O m:Int} {d:List Int} {ct:List (Nat×Nat)} {c:List Nat}
variable {N:List dF} {lf f A B:List (Nat×dF)} {z:Nat×dF} {l:List aa} {C:ae} {e:Nat}
abbrev gN (E:List Int×cj) (ct:List (Nat×Nat)) (a b:Int) (P:List (List Int)) (S:List Int) (D:List (Int×Int)) (l:List aa) (N:List dF) (C g:ae):ae:=bo E ct a b P S D++((ed l N++C)++g)
theorem tO {g:ae}:gN E ct a b P S D l N C g=(bo E ct a b P S D++(ed l N++C))++g:=(bX ..).symm
theorem ri:(bo E ct a b P S D++(ed l N++C)).length=16+2*N.length+C.length:=by
 rw [<-bX,a9,lE]
theorem Nq {g:ae}:(gN E ct a b P S D l N C g).length=16+2*N.length+C.length+g.length:=by
 rw [tO,a9,ri]
theorem w8 {o:aB} {g:ae} (c:e=16+2*N.length+C.length):(gN E ct a b P S D l N C (o::g))[e]? =some o:=by
 rw [tO,eE (by rw [ri];exact yF c),ri,c,iF];rfl
theorem apP {o o':aB} {g:ae} (c:e=16+2*N.length+C.length):(gN E ct a b P S D l N C (o::g)).set e o'=gN E ct a b P S D l N C (o'::g):=by
 rw [tO,i7 _ _ (by rw [ri];exact yF c),ri,c,iF];rfl
theorem Nr {o o':aB}:gN E ct a b P S D l N C [o]++[o']=gN E ct a b P S D l N C [o,o']:=by
 rw [tO,bX];rfl
theorem Nt {Y:List aa} {f:Bool->ae->Prop} (g:e=16+2*N.length+C.length) (j:Y[7]? =some (.ref e)) (h:f (decide (lf≠[])) (gN E ct a b P S D l N C [fS lf,.list []])):
  bi (bH 7) (dP bf) du Y (gN E ct a b P S D l N C [fS lf]) f x:=by
 refine lC j rfl ⟨eF _,?_⟩;haveI c:=pf (gN E ct a b P S D l N C [fS lf]) (.list []);rw [Nr] at c⊢;by_cases d:lf=[]
 ·subst d;exact nJ (w8 g) c rfl h
 ·rw [decide_eq_true d] at h;refine Ml (w8 g) c (λi=>d ?_) h;rw [bz] at i;exact xQ i
theorem pop_at {a:aa->ae->Prop} {J:ae} {l:List aa} {d:Nat} {y:aa} (h:J[e]? =some (.list l)) (b:l.length <= 16777000) (c:l[d]? =some y) (g:mG y=true) (f:a y (J.set e (.list (l.eraseIdx d)))):l7 [.ref e,.int (d:Int)] J a:=by
 show(match J[e]? with|some (.list l)=>l.length <= 16777000/\0 <= (d:Int)/\jd l[(d:Int).toNat]? λy=>mD y (J.set e (.list (l.eraseIdx (d:Int).toNat))) a|_=>False)
 rw [h];refine⟨b,gR,dB c ?_⟩;cases y<;>first|exact f|contradiction
theorem apQ {j v f:aa} {K:List aa->ae->Prop} {R:aa->ae->Prop} (r:1 <= n) (h:fv a b) (i:e=16+2*N.length+C.length) (s:lf≠[]) (k:lf.length <= 3)
  (F:∀a b A z B,fv a b->lf=A++z::B->K (fx (.ref 15) j (.ref (16+2*z.1)) (.ref e) f) (gN E ct a b P S D l N C [fS (A++B),.list []])):
  qO (az aA n) (fx (.ref 15) j v (.ref e) f) (gN E ct a b P S D l N C [fS lf,.list []]) K R x:=by
 haveI p:=w8 (E:=E) (ct:=ct) (a:=a) (b:=b) (P:=P) (S:=S) (D:=D) (l:=l) (o:=fS lf) (g:=[.list []]) i;haveI m:(lf.map λz:Nat×dF=>aa.ref (16+2*z.1)).length=lf.length:=bz _;delta qO bc df;refine lC rfl rfl ⟨?_,?_⟩
 ·show(match(gN E ct a b P S D l N C [fS lf,.list []])[e]? with|some (.list _)=>True|_=>False)
  rw [p];trivial
 ·delta a0 aD cG aS bQ bf;refine lC rfl rfl (lC rfl rfl (nF p (eG m k ab) ?_));rw [m];refine CD r h (VC (k4.mpr s) k) λd a b V c h=> ?_;obtain⟨q,rfl⟩:=nQ V;haveI t:lf=lf.take q++lf[q]::lf.drop (q+1):=by rw [asT,m3]
  refine pop_at (w8 i) (eG m k ab) (by rw [cm,(bV (by exact yx c))];rfl) rfl ?_;rw [apP i,OG,<-asA,<-asB,<-db];exact F a b _ _ _ h t
theorem apR {j v:aa} {K:List aa->ae->Prop} {R:aa->ae->Prop} (l:14 <= n) (k:fv a b) (i:e=16+2*N.length+C.length) (s:nL (16+2*N.length) ct C) (t:lf≠[]) (L:iW P S D N lf) (u:bB 16 j=true)
  (F:∀P S D a b z f,fv a b->f.length+1=lf.length->iW P S D N f->z<N.length->K (fx (.ref 15) j (.ref (16+2*z)) (.ref e) .aR) (gN E ct a b P S D (c8 N) N C [fS f])):
  ah (qO (az aA n)) (ah (wh (az aA n)) ar) (fx (.ref 15) j v (.ref e) .aR) (gN E ct a b P S D (c8 N) N C [fS lf,.list []]) (d5 jQ (e+1) K) R x:=by
 refine apQ (aQ l ab) k i t L.len.2.2 λa b A z B k w=> ?_;subst w;haveI H:(A++B).length+1=(A++z::B).length:=by simp;exact RN
 haveI o:=(cF.mp (L.at_ z (dn _ (.head _)))).1;refine CD (aQ l ab) k ∅ λd a b V h k=>apO l L i λG p=> ?_
 haveI I:(gN E ct a b (P.set (z.2.1-1).toNat (dk z.2.2.1)) (S++G) (d8 D z.2.1) (c8 N) N C [fS (A++B)]).all (aL (e+1))=true:=by
  show(bo E ct a b .. ++((ed (c8 N) N++C)++[fS (A++B)])).all (aL (e+1))=true
  rw [<-bX];refine ds (Nm s (VA i)) ?_;show(((A++B).map λz:Nat×dF=>aa.ref (16+2*z.1)).all (bB (e+1))&&true)=true
  rw [Bool.and_true];refine dc.mpr λq hq=>aw (dz.mp hq) λy m J=> ?_;obtain rfl:=J;haveI:=(λy m=>(cF.mp (p.at_ y m)).1) y m;exact bS.mpr (FF this i)
 haveI c:(gN E ct a b (P.set (z.2.1-1).toNat (dk z.2.2.1)) (S++G) (d8 D z.2.1) (c8 N) N C [fS (A++B)]).length=e+1:=by rw [Nq,i];rfl
 haveI r:=wE (V:=jQ) (g:=[.list []]) (dA _) (Y:=fx (.ref 15) j (.ref (16+2*z.1)) (.ref e) .aR) (Nn (by exact F0 i ab) (bS.mpr (by exact T8 i)) (ly (by exact F0 i ab) u) (bS.mpr (by exact FF o i)) (bS.mpr (by exact Qu)) rfl) c I (F _ _ _ _ _ z.1 (A++B) k H p o);rw [Nr] at r;exact r
theorem apS {j:aa} {K:List aa->ae->Prop} {R:aa->ae->Prop} (k:14 <= n) (c:e=16+2*N.length+C.length) (m:nL (16+2*N.length) ct C) (o:bB 16 j=true)
  (F:∀P S D a b v,iW P S D N []->K (fx (.ref 15) j v (.ref e) .aR) (gN E ct a b P S D (c8 N) N C [fS [],.list []])):
  ∀(q:Nat) (lf:List (Nat×dF)) (P:List (List Int)) (S:List Int) (D:List (Int×Int)) (a b:Int) (v:aa),lf.length=q->fv a b->iW P S D N lf->nk jQ (bi (bH 7) (dP bf) du) (ah (qO (az aA n)) (ah (wh (az aA n)) ar)) (e+1) (q+1) (fx (.ref 15) j v (.ref e) .aR) (gN E ct a b P S D (c8 N) N C [fS lf]) K R x:=by
 intro q;induction q with
 |zero=>
  intro lf P S D a b v d g L;haveI:=xQ d;subst this;exact Nt c rfl (F P S D a b v L)
 |succ q B=>
  intro lf P S D a b v d g L;haveI i:lf≠[]:=by intro h;subst h;contradiction
  refine Nt c rfl ?_;rw [decide_eq_true i];exact apR k g c m i L o λW S' y p w z f l r s t=>B f W S' y p w _ (T6 r d) l s
end
section
variable {n j:Nat} {t:ae} {k:aa->ae->Prop} {x:bn} {P W:List (List Int)} {S S':List Int} {E:List Int×Obj} {D y:List (Int×Int)} {a b u O m:Int} {d:List Int} {ct:List (Nat×Nat)} {c:List Nat}
variable {N:List dF} {l:List aa} {C:ae} {e:Nat}
abbrev ps (N:List dF):List (Nat×dF):=(aI N.length).zip N
theorem apT:(ps N).length=N.length:=by rw [List.length_zip,jC,Nat.min_self]
theorem Nu:(ps N).map (·.1)=aI N.length:=List.map_fst_zip (by rw [jC];exact dA _)
theorem Nv:(ps N).map (·.2)=N:=List.map_snd_zip (by rw [jC];exact dA _)
theorem apU:fS (ps N)= .list (c8 N):=by
 unfold c8;rw [<-Nu,iE];rfl
theorem apV (H:pq P N) (c:N.length <= 3) (Z:1 <= P.length) (I:P.length <= 100) (d:D.length <= 10):iW P [] D N (ps N) where
 at_:=λz a=>by
  obtain⟨i,e⟩:=List.mem_iff_getElem?.mp a;obtain⟨g,j⟩:=Oy.mp e;obtain⟨k,b⟩:=cF.mp g;rw [List.getElem_range] at b;rw [<-b];exact j
 tree:=λz a=>H.each z.2 (by
  have:=io (f:=(·.2)) a
  rwa [Nv] at this)
 cP:=by rw [Nu];exact DH
 kS:=by
  have:=H.kS;rw [<-Nv (N:=N),uh] at this;exact this
 snd:=f8
 tN:=λ_ h=>nomatch h
 w7:=λ_ h=>nomatch h
 len:=by rw [apT];exact WU d I c
 one:=Z
theorem apW {v:Int} {L:ae} (d:2 <= n) (I:P.length <= 1000) (l:1 <= v) (m:v <= P.length) (p:aE P v=dk 13) (e:L=bo E ct a b P S D++t) (h:k (.bool true) (L++[aB.tup [.int v,.int 13]])):
  az aA n 76 [.ref 5,.ref L.length] (L++[aB.tup [.int v,.int 13]]) k x:=by
 haveI c:∀i o,i<12->(bo E ct a b P S D++t)[i]? =some o->(L++[aB.tup [.int v,.int 13]])[i]? =some o:=λi o r q=>eu (by rw [e];exact q)
 haveI f:cM (cL [5,4,11,7,L.length]) (L++[aB.tup [.int v,.int 13]]) [5,4,11,7,L.length] (W4 P S++[aB.tup [.int v,.int 13]]):=
  .cons (c 5 _ ∅ rfl) (.cons (c 4 _ ∅ rfl) (.cons (c 11 _ ∅ (by rw [gJ];rfl)) (.cons (c 7 _ ∅ (by rw [jS];rfl)) (.cons (pf ..) .nil))))
 haveI j:(W4 P S++[aB.tup [.int v,.int 13]]).all (aL 5)=true:=ds (cg) rfl;refine dQ [5,4,11,7,L.length] rfl rfl (aQ d ab) rfl (by simp;exact Wb (by rw [e,a9];exact rK ..)) rfl f j rfl (Cx (aM (ay ..) d ab) (eF _) (bE I ab) l m (.inr rfl) p ?_);haveI:=h8 (g:=[]) f rfl j rfl h
 rwa [cO] at this
theorem apX {j v d:aa} {K:List aa->ae->Prop} {R:aa->ae->Prop} (k:12 <= n) (L:iW P S D N []) (h:∀P S D t,R (.bool true) (bo E ct a b P S D++t)):
  ah (KV (az aA n)) (ah (Bk (az aA n)) ar) (fx (.ref 15) j v d .aR) (bo E ct a b P S D++t) K R x:=by
 haveI e:=L.len
 have l:∀c W S',pd P S c W S'->2 <= c->c <= W.length->W.length <= 1001->W.length <= 1000->az aA n 42 [.ref 9,.str 1] (bo E ct a b P S D++t) (λa J=>ah (Bk (az aA n)) ar ((fx (.ref 15) j v d .aR).set 8 a) J K R x) x:=λc W S' T f g q m=>by
  haveI i:(W.set (c-1).toNat (dk 13)).length=W.length:=e3;haveI o:aE (W.set (c-1).toNat (dk 13)) c=dk 13:=tD (gw f ab) g;exact apt (c:=true) (aQ k ab) (uY e ab) (FE e (Np L.snd L.tN)) (F6 e ab) T ⟨f,g⟩ q ⟨by show 2 <= 16777216;decide,apW (aQ k ab) (eG i m ab) (gw f ab) (uT i g) o rfl (Nd (aQ k ab) (Cy (.inr rfl) o f (uT i g)) (eG i m ab) (h ..))⟩
 rcases List.eq_nil_or_concat S with rfl|r
 ·exact l _ _ _ (.more rfl) (uO L.one) (by rw [a9];exact yA) (by rw [a9];exact Ga e ab) (by rw [a9];exact Ga e ab)
 ·refine pU r λs c u=> ?_;obtain rfl:=u;haveI p:=L.tN c (by rw [as6];exact dn _ (.head _));exact l _ _ _ (.again (by rw [as6])) p.1 p.2 (uY e ab) (uY e ab)
theorem apY {q:aa->ae->Prop} (c:15 <= n) (m:E.1.length <= 63) (h:∀ct a b P S D t,q (.bool true) (bo E ct a b P S D++t)):fE lu (az aA n) [.ref 0] [.fB E.1 E.2,.cw 0 1 [],.cw 1 2 []] q x:=by
 refine apy c m λa b o=>⟨eF _,apD (aQ c ab) o λN P D a b j i p k s l G O g=>apJ (aQ c ab) k (bE O ab) i λct C v r u=>⟨?_,?_⟩⟩
 ·unfold c8;rw [bz,jC];exact bE l ab
 haveI d:∃e,e=16+2*N.length+C.length:=⟨_,rfl⟩
 refine jF d λe d=> ?_;show ∃f,nk jQ (bi (bH 7) (dP bf) du) (ah (qO (az aA n)) (ah (wh (az aA n)) ar)) (bo E ct a b P [] D++(ed (c8 N) N++C)++[aB.list (c8 N)]).length f (fx (.ref 15) j v (.ref (bo E ct a b P [] D++(ed (c8 N) N++C)).length) .aR) (bo E ct a b P [] D++(ed (c8 N) N++C)++[aB.list (c8 N)]) _ q x
 rw [<-tO,Nq,ri,<-d,<-apU];exact⟨(ps N).length+1,apS (aQ c ab) d r i (λP S D a b v L=>(apX (aQ c ab) L (h _ _ _))) _ (ps N) P [] D a b v rfl p (apV k l G O g)⟩
end
theorem apZ (L:d4) (w:dU) (r:al):b9 (s7 (bR L w r)) Le Ai:=
 .cons aeD (.cons aeP (.cons aeU (.cons aeY (.cons ae2 (.cons ae7 (.cons afc (.cons afi (.cons afm (.cons afq (.cons afu (.cons afA (.cons afD (.cons afM (.cons afR (.cons afV (.cons agi (.cons agp (.cons agt (.cons agx (.cons agB (.cons agF (.cons agL (.cons agP (.cons agT (.cons ag1 (.cons ag4 (.cons aha (.cons ahe (.cons ahl (.cons ahn (.cons ahs (.cons ahw (.cons ahG (.cons ahM (.cons ahQ (.cons ahU (.cons ahZ (.cons ah8 (.cons aif (.cons aij (.cons aio (.cons aiw (.cons aiG (.cons aiL (.cons aiX (.cons ai2 (.cons ai9 (.cons ajd (.cons ajg (.cons ajk (.cons ajo (.cons ajs (.cons ajw (.cons ajB (.cons ajF (.cons ajJ (.cons ajZ (.cons aj9 (.cons akj (.cons akq (.cons akG (.cons akJ (.cons akR (.cons akW (.cons ak5 (.cons ak9 (.cons ald (.cons ali (.cons alo (.cons alt (.cons alz (.cons alE (.cons alK (.cons alU (.cons al0 (.cons al5 (.cons al7 (.cons amd (.cons aml (.cons amt (.cons KY (.nil))))))))))))))))))))))))))))))))))))))))))))))))))))))))))))))))))))))))))))))))))
theorem ap0 (L:d4) (w:dU) (r:al):∀f F fa,aA f=some F->eK f=some fa->s7 (bR L w r) F fa:=λf F fa b M=>by
 unfold eK at M;unfold aA at b;rw [if_pos (by exact r9 ((cF.mp M).1) ab)] at b;refine aw ((apZ L w r).get f F b) λa c d=> ?_;rw [M] at c;obtain rfl:=bl c;exact d
theorem ap1 (L:d4) (w:dU) (r:al):∀j F,aA (1000+j)=some F->∃I t,nq (bR L w r) eK F j I t:=λj F a=>by
 unfold aA at a;rw [if_neg (by exact QN),ip] at a;exact rT (P:=λj F=>∃I t,nq (bR L w r) eK F j I t) (l:=Lf) ⟨(amE L w r).imp λI h=>⟨_,h⟩,(amF L w r).imp λI h=>⟨_,h⟩,(amG L w r).imp λI h=>⟨_,h⟩,(amH L w r).imp λI h=>⟨_,h⟩,(amI L w r).imp λI h=>⟨_,h⟩,trivial⟩ j F a
theorem rm (L:d4) (w:dU) (r:al):∀n,hZ (bR L w r) eK n (az aA n)/\nj (bR L w r) n (az aA n)
 |0=>⟨λf fa _ A V U a s c Y J H b k x R _ _ _ _ h=>h.elim,λj A V U a s c Y J n u d v k x R _ _ _ _ _ _ h=>h.elim⟩
 |n+1=>⟨aan (ap0 L w r) n (rm L w r n).1 (rm L w r n).2,acy (ap1 L w r) n (rm L w r n).1 (rm L w r n).2⟩
theorem ap2 {K:Frag} {a:aq} {o:cj} (h:K.lookup a=some o):(a,o)∈K:=by
 induction K with
 |nil=>contradiction
 |cons p K B=>
  obtain⟨b,q⟩:=p;rw [xC] at h;by_cases e:a=b
  ·subst e;rw [beq_self_eq_true] at h;obtain rfl:=bl h;exact .head _
  ·rw [beq_false_of_ne e] at h;exact .tail _ (B h)
def ap3 (K:Frag):Bool:=K.all λp=>match p.2.cls with| .type s=> !(s== "list")|_=>true
theorem ap4 (P:fW):ap3 (hd.heap_39 P)=true:= ⋯
theorem Nw (P:fW):(hd.heap_39 P).lookup 822=none/\(hd.heap_39 P).lookup 829=none:=⟨⋯,⋯⟩
structure lF (w:dU) (s:al) (a:aq) (sc:List Int):Prop where
 K:(hd.heap_39 w.params).In s.heap
 T:∃p loose hS on,TopRead p loose hS on s.heap
 B:∃hS bm kG,s.heap.Ns eU hS/\hS "__builtins__" =some (.ref bm)/\bm≠pK/\s.heap.get? bm=some kG/\kG.cls= .type "module" /\kG.dict=some pK/\kG.data= .plain
 t0:s.heap.get? 822=some (xw #[])/\Pf s.heap 822
 t1:s.heap.get? 829=some (xw #[])/\Pf s.heap 829
 obj:∃eV n,s.heap.get? a=some (listOf eV.toArray n)/\cZ [] (sc.map .int) eV
 low:nS<s.heap.objs.size/\nS<a
 len:sc.length <= 63
variable {L:Program} {w:World} {s:Shared} {a:Addr} {E:List Int}
theorem lF.apart (X:lF w s a E):a≠822/\a≠829:=by
 refine cV X.obj λb n h _=>⟨λe=> ?_,λe=> ?_⟩
 ·rw [e,X.t0.1] at h;exact nomatch h
 ·rw [e,X.t1.1] at h;exact nomatch h
theorem lF.seen (X:lF w s a E) {b:aq} {o:cj} (h:s.heap.get? b=some o) (f:o.cls≠ .type "list") (hd:∀c,o.data≠ .fields c):(ei s.heap [a,822,829]).get? b=some o:=by
 refine nX _ h λd=> ?_;simp only [cb,c6,or_false] at d;rcases d with rfl|rfl|rfl
 ·refine cV X.obj λc n e _=> ?_;rw [h] at e;obtain rfl:=bl e;exact f rfl
 ·rw [X.t0.1] at h;obtain rfl:=bl h;exact hd _ rfl
 ·rw [X.t1.1] at h;obtain rfl:=bl h;exact hd _ rfl
theorem lF.ns (X:lF w s a E) {b:aq} {m:ax->Option ai} (h:s.heap.Ns b m):(ei s.heap [a,822,829]).Ns b m:=by
 refine ff h λo D u c f g=>gv o D u (nX _ c λd=> ?_) f g;simp only [cb,c6,or_false] at d;rcases d with rfl|rfl|rfl
 ·refine cV X.obj λi n e _=> ?_;rw [c] at e;obtain rfl:=bl e;contradiction
 ·rw [X.t0.1] at c;obtain rfl:=bl c;contradiction
 ·rw [X.t1.1] at c;obtain rfl:=bl c;contradiction
theorem lF.base (X:lF w s a E):tP (bR L w s) (ei s.heap [a,822,829]) where
 X:=λb o h=>by
  have i:=X.K b o h;refine nX _ i λj=> ?_;simp only [cb,c6,or_false] at j;rcases j with rfl|rfl|rfl
  ·obtain⟨l,n,d,_⟩:=X.obj;rw [i] at d;cases d;have h:(!("list" == "list"))=true:=dc.mp (ap4 w.params) _ (ap2 h);exact absurd h ∅
  ·rw [(Nw w.params).1] at h;cases h
  ·rw [(Nw w.params).2] at h;cases h
 T:=by
  refine a6 λm e=> ?_;obtain⟨p,q,f,mb,T⟩:=X.T;obtain⟨c,g,d⟩:=T.nolimit;refine e ?_;exact⟨p,q,f,mb,X.ns T.g,X.ns T.b,⟨c,X.ns g,d⟩,T.builtins,T.free⟩
 B:=by
  refine a6 λm e=> ?_;obtain⟨f,r,v,g,d,t,u,k,G,O⟩:=X.B;refine e ?_;exact⟨f,r,v,X.ns g,d,t,X.seen u (by rw [k];exact λh=>by injection h with h;exact absurd h ∅) (λl h=>by rw [O] at h;cases h),k,G,O⟩
abbrev Nx (T:List aq) (m:ax->Option ai) (Y:List aa) (i:Nat) (q:ax×Bool):Prop:=q.2=false/\ ∃a:aa,Y[i]? =some a/\(a= .aR\/ ∃v,m q.1=some v/\a5 T a v)
theorem ap5 {V:bb} {U:be} {T:List aq} {m:ax->Option ai} {Y:List aa} (h:yc (Nx T m Y) V.slots 0):iK V U T m Y:=λi x b e=>by
 refine(rT h i _ e).elim λq h=> ?_;induction b with
 |false=>exact h
 |true=>contradiction
theorem un {T:List aq} {m:ax->Option ai} {Y:List aa} {i:Nat} {y:ax} (h:Y[i]? =some .aR):Nx T m Y i (y,false):=⟨rfl,.aR,h,.inl rfl⟩
theorem ap6 (X:lF w s a E) (hg:s.gens= #[]):
  dS (aG L w) uv (.call (.ref 846) ⟨[.ref a],[]⟩) (λu K=>u= .ok (.ret (.bool true))/\OldK s.heap K.heap/\K.os=s.os/\K.gens= #[]) s:=by
 refine a6 λH_ Y=> ?_;refine P3 (KY (L:=L) (w:=w) (r:=s)) λd2 g9 jv N jw pm hA ct oc an od jx D=> ?_;refine cV X.obj λO U ho B=> ?_;have j:=X.K _ _ D.look;refine Y ?_;refine NF (by decide+kernel) j rfl D.co D.gen rfl (Ox X.K D.code) ?_;rw [D.bind [.ref a] rfl];refine bt ?_;refine aV<|Oz D.kind (λp hp=> ?_) (λd V s1 I=> ?_)
 ·have:=by
   exact dj.mp hp
  subst this;exact .inl (D.slots ("script",false) (.head _))
 ·refine a6 λH_ Y=> ?_;refine jG X.T λc jY mg mb T=> ?_;refine Y ?_;refine⟨T.nolimit.keeps I.toInCall.keep,NE ?_⟩;refine a6 λH_ Y=> ?_;have tS:d.locals=s.heap.objs.size:=by rw [V];rfl
  have i0:d.scope=lu.bA.scope:=by rw [V];rfl
  have G:d.frame=some d.locals:=by rw [V];rfl
  have xg:∀y,d.kindOf y=lu.bA.scope.names.lookup y:=λy=>by unfold Env.kindOf;rw [i0]
  have W:=by show [("script" :ax)].Nodup;simp
  obtain⟨⟨C,tk,e1⟩,dm,k,Q⟩:=id I.toInCall;have m:=X.apart;have lH:(uv.deeper d).frames=some [d]:=rfl
  have O1:Ok (bR L w s) (8*15+8) (uv.deeper d) d (ei s.heap [a,822,829]) ⟨[a,822,829],[],[]⟩:=
   ⟨X.base,⟨by show uv.depth+1+(8*15+8)+8<t6;decide+kernel,by show uv.units+3+16*(8*15+8)+64<cLine;decide+kernel,rfl⟩,⟨_,G,.inl rfl⟩,⟨_,lH,λf M=>by rw [dj.mp M];exact⟨by rw [i0,D.kind];decide,_,G,.inl rfl⟩⟩,λ_=>⟨[],lH⟩⟩
  have tU:c0 lu.bA d:=⟨i0,D.kind,by rw [V];rfl,by rw [V];rfl,λ_=>G,λq hq=>by rw [D.GJ q hq,V];exact⟨rfl,rfl⟩⟩
  have S1:St (bR L w s) lu.bA d (ei s.heap [a,822,829]) ⟨[a,822,829],[],[]⟩ (jr lu.bA.slots [.ref 0] 3).1 [.fB E (listOf O.toArray U),.cw 0 1 [],.cw 1 2 []] s1:=by
   refine⟨⟨_,⟨dm,λb o e=>k b o (xB _ e),by rw [Dz];exact Q⟩,?_⟩,?_,rfl,?_,?_,λ_ h=>((c6 h).elim),λ_ h=>((c6 h).elim),?_,?_⟩
   ·exact ap5 ⟨⟨rfl,.ref 0,rfl,.inr ⟨.ref a,GH (i:=0) W rfl (by rw [xg];exact D.slots ("script",false) (.head _)),⟨a,rfl,rfl⟩⟩⟩,un rfl,un rfl,un rfl,un rfl,un rfl,un rfl,un rfl,un rfl,trivial⟩
   ·show [a,822,829].Nodup
    simp [m.1,m.2]
   ·exact λi ao b C F=>rT (P:=λi (ao:aB)=>∀b,[a,822,829][i]? =some b->∃o,s1.heap.get? b=some o/\gy (bR L w s) [a,822,829] ao o) (l:=[.fB E (listOf O.toArray U),.cw 0 1 [],.cw 1 2 []])
     ⟨λ_ e=>bl e▸⟨_,k _ _ ho,rfl,O,U,rfl,B⟩,λ_ e=>bl e▸⟨_,k _ _ X.t0.1,822,#[],rfl,rfl,rfl,.nil⟩,λ_ e=>bl e▸⟨_,k _ _ X.t1.1,829,#[],rfl,rfl,rfl,.nil⟩,trivial⟩ i ao C b F
   ·intro b Z;refine⟨?_,lO _ Z⟩;have:∃o,s.heap.get? b=some o:=Mo.am (P:=λb=>∃o,s.heap.get? b=some o) (l:=[a,822,829]) ⟨⟨_,ho⟩,⟨_,X.t0.1⟩,⟨_,X.t1.1⟩,trivial⟩ b Z;obtain⟨o,h⟩:=this;rw [tS];exact nY (fz h)
   ·rw [e1];exact⟨rfl,rfl,rfl⟩
   ·rw [Dz];exact⟨X.low.1,Mo.am (l:=[a,822,829]) ⟨X.low.2,∅,∅,trivial⟩⟩
  have Z:fE lu (az aA 15) [.ref 0] [.fB E (listOf O.toArray U),.cw 0 1 [],.cw 1 2 []] (λr J=>r= .bool true/\ ∃ct x y P S D t,J=bo (E,listOf O.toArray U) ct x y P S D++t) (λ_ _=>False):=
   apY (E:=(E,listOf O.toArray U)) (dA _) X.len λct x y P S D t=>⟨rfl,ct,x,y,P,S,D,t,rfl⟩
  refine Y ?_;refine D.sim 15 (az aA 15) (rm L w s 15).1 (rm L w s 15).2 (uv.deeper d) d _ s1 _ [a,822,829] _ _ _ _ _ _ _ O1 tU S1 (List.prefix_refl _) Z ?_ ?_ ?_
  ·intro cX c2 z s2 hk g w2;exact nomatch hk.1
  ·intro v r cX c2 z s2 bC g w2 hv;obtain⟨rfl,ct,x,y,P,S,D,t,rfl⟩:=bC;obtain rfl:v= .bool true:=hv;refine aw g.F λm2 F2 _=> ?_;have n:=λi b h=>fi w2.pin i b h
   have H:∀b o,s.heap.get? b=some o->asItWas s.heap s2.heap b o:=λb o h=>by
    by_cases hm:b∈[a,822,829]
    ·simp only [cb,c6,or_false] at hm;rcases hm with rfl|rfl|rfl
     ·refine cU (g.obj 0 _ b rfl (n 0 b rfl)) λo' C F _=> ?_;rw [ho] at h;obtain rfl:=bl h;exact .inl (by rw [C,F])
     ·obtain⟨o',C,P,R,_,_,F,_⟩:=g.obj 1 _ 822 rfl (n 1 822 rfl);rw [X.t0.1] at h;obtain rfl:=bl h;exact .inr (.inl ⟨X.t0.2,rfl,#[],R,rfl,by rw [C,F];simp [xw]⟩)
     ·obtain⟨o',C,P,R,_,_,F,_⟩:=g.obj 2 _ 829 rfl (n 2 829 rfl);rw [X.t1.1] at h;obtain rfl:=bl h;exact .inr (.inl ⟨X.t1.2,rfl,#[],R,rfl,by rw [C,F];simp [xw]⟩)
    ·exact .inl (F2.keep _ _ (nX _ h hm))
   refine⟨rfl,⟨H,λb o h=> ?_⟩,g.rest.2.2,g.rest.1.trans hg⟩;rcases H b o h with h|d3|A
   ·exact⟨_,h⟩
   ·obtain⟨_,_,_,_,_,h⟩:=d3;exact⟨_,h⟩
   ·obtain⟨_,_,⟨_,_,_,h,_⟩,_⟩:=A;exact⟨_,h⟩
  ·exact λ_ _ _ _ _ _ h=>h.elim
theorem ap7 (P:fW):fL (hd.heap_39 P) eU "law" =some (some (.ref 846)):= ⋯
theorem NM {K:Frag} {h:bk} {c b:aq} {d:Option aq} {a:Array ai} {f:Array (Option ai)} (X:K.In h) (e:K.lookup c=some ⟨.type "code",d,.fields a,f⟩) (g:a[11]? =some (.ref b)):Pf h b:=k7 c _ a (X _ _ e) rfl rfl g
theorem ap8 {g:List WData} (f:PySem.Challenge.rw_pb0463_01.row.claim.pre g=true) (i:WData.layableAll g=true):∃m:List Int,g=[ofPy (.list (m.map .int))]/\ ¬(63:Int)<m.length:=by
 have z:=pre_splitW f;refine dN (hasAllW_cons z.1) λd r b c h=> ?_;have a:=z.2;clear z f;obtain rfl:=b.trans (congrArg _ (hasAllW_nil h));clear b h;refine cU (open_plain (.list .int) ∅ c (layW_cons i).1) λp e j _=> ?_;clear c i;obtain rfl:=e;refine jF (has_list_int j) λm k=> ?_;clear j;obtain rfl:=k;refine⟨m,rfl,?_⟩
 w_cond a
 assumption
theorem ap9 {P:fW} {R:WRecords} {x:ax->Option aq} {h:bk} {H:List aq} {d:List ai} {m:List Int} (c:ReadsAllW R x h d [ofPy (.list (m.map .int))] H) (D:WellAll P h d [ofPy (.list (m.map .int))]):
  ∃b p,d=[.ref b]/\b∈H/\h.get? b=some (listOf p.toArray 0)/\pN p m:=by
 refine rQ (readsAllW_cons_inv c) λv p i k e F N q=> ?_;clear c;obtain rfl:=e;obtain rfl:=(readsAllW_nil_inv q).1;clear q;have y:=(wellAll_head D).1;clear D;refine k6 (reads_list_items (reads_of_readsW _ N)) λa j l e f r g=> ?_;clear N;obtain rfl:=e;refine⟨a,j,rfl,F▸cQ _ (f▸ .head _),?_,(readsAll_intsAre g).1⟩;clear F f g;cases y with
 |list s w=>
  refine cU r λo t _ u=> ?_;clear r;obtain rfl:=bl (s.symm.trans t);refine jF u λn z=> ?_;clear t u;cases z;exact s
theorem aqa:PySem.Challenge.rw_pb0463_01.Holds:=by
 refine hd λw n p N mb G Y a k l g d H f i L=> ?_;have j:=Y.1;have q:=mg_of j G.T.g (ap7 _);replace k:=q▸k;cases k;refine aw (ap8 f i) λm e r=> ?_;clear f i;obtain rfl:=e;refine f9 (ap9 L.reads L.well) λb s e T t x=> ?_;obtain rfl:=e;haveI o:=L.within.2.2 b T
 haveI X:lF w p b m:=⟨j,(xY _ _ _ _ (topRead_of G.T)),by
    exact uz G.T.bmain λy v z A C D E B=>D3 _ y v G.T.g z A C D E B,
   ⟨Y.2 822 (.tail _ (.head _)),NM (c:=826) j rfl rfl⟩,⟨Y.2 829 (.head _),NM (c:=833) j rfl rfl⟩,(c7 s 0 t (G4 x)),⟨i4 l (gq o.1 (ui o.2)),i4 l o.1⟩,TZ r⟩
 refine kT (w9 (ap6 X L.gens) λu K h=>(jE h λF I J M=> ?_));obtain rfl:=F;exact dd (.inl (xX (.bool true) (.bool true) ([]) rfl (λ_=>rfl) (.bool true) (by wrow_post) (λ_=>⟨f8,λ_ h=>(c6 h).elim⟩))) I J (.of_eq M)
end Mine
theorem PySem.Challenge.cw_pb0463_01_holds : PySem.Challenge.rw_pb0463_01.Holds :=
 Mine.aqa
