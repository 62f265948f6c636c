import PyProof.Rows.All
import Wide.All
import OpenK.AllK
import Wide.FinOn
import PySem.Challenge.RW_nu0144_01
set_option autoImplicit false
set_option linter.all false
set_option Elab.async false
set_option bootstrap.genMatcherCode false
set_option genInjectivity false
set_option genSizeOf false
set_option maxRecDepth 100000
noncomputable section
namespace Mine
section
set_option genInjectivity false
set_option genSizeOf false
theorem nf {P:Prop}(h:false=true):P:=Bool.noConfusion h
theorem bG {G:Prop}(h:∀P:Prop,(G->P)->P):G:=h G id
theorem nn {α:Type}{x:α}{P:Prop}(h:none=some x):P:=nomatch h
theorem yEA {α:Type}{A B:α->Prop}(x:α) (a1:A x) (b1:B x):∃x,A x/\B x:=⟨x,a1,b1⟩
theorem yEEA {α β:Type}{A B:α->β->Prop}(x:α) (y:β) (a1:A x y) (b1:B x y):∃x,∃y,A x y/\B x y:=⟨x,y,a1,b1⟩
theorem yEEAA {α β:Type}{A B C:α->β->Prop}(x:α) (y:β) (a1:A x y) (b1:B x y) (c1:C x y):∃x,∃y,A x y/\B x y/\C x y:=⟨x,y,a1,b1,c1⟩
theorem yEAA {α:Type}{A B C:α->Prop}(x:α) (a1:A x) (b1:B x) (c1:C x):∃x,A x/\B x/\C x:=⟨x,a1,b1,c1⟩
theorem yEEEAA {α β γ:Type}{A B C:α->β->γ->Prop}(x:α) (y:β) (z:γ) (a1:A x y z) (b1:B x y z) (c1:C x y z):∃x,∃y,∃z,A x y z/\B x y z/\C x y z:=⟨x,y,z,a1,b1,c1⟩
theorem yEEEA {α β γ:Type}{A B:α->β->γ->Prop}(x:α) (y:β) (z:γ) (a1:A x y z) (b1:B x y z):∃x,∃y,∃z,A x y z/\B x y z:=⟨x,y,z,a1,b1⟩
theorem yEEEAAA {α β γ:Type}{A B C D:α->β->γ->Prop}(x:α) (y:β) (z:γ) (a1:A x y z) (b1:B x y z) (c1:C x y z) (d1:D x y z):∃x,∃y,∃z,A x y z/\B x y z/\C x y z/\D x y z:=⟨x,y,z,a1,b1,c1,d1⟩
theorem yEEEAAAAA {α β γ:Type}{A B C D F G:α->β->γ->Prop}(x:α) (y:β) (z:γ) (a1:A x y z) (b1:B x y z) (c1:C x y z) (d1:D x y z) (f1:F x y z) (g1:G x y z):∃x,∃y,∃z,A x y z/\B x y z/\C x y z/\D x y z/\F x y z/\G x y z:=⟨x,y,z,a1,b1,c1,d1,f1,g1⟩
theorem yEEAAA {α β:Type}{A B C D:α->β->Prop}(x:α) (y:β) (a1:A x y) (b1:B x y) (c1:C x y) (d1:D x y):∃x,∃y,A x y/\B x y/\C x y/\D x y:=⟨x,y,a1,b1,c1,d1⟩
theorem yEEEAAAA {α β γ:Type}{A B C D F:α->β->γ->Prop}(x:α) (y:β) (z:γ) (a1:A x y z) (b1:B x y z) (c1:C x y z) (d1:D x y z) (f1:F x y z):∃x,∃y,∃z,A x y z/\B x y z/\C x y z/\D x y z/\F x y z:=⟨x,y,z,a1,b1,c1,d1,f1⟩
theorem yAEA {α:Type}{A:Prop}{B C:α->Prop}(a1:A) (x:α) (b1:B x) (c1:C x):A/\∃x,B x/\C x:=⟨a1,x,b1,c1⟩
theorem yEE {α β:Type}{A:α->β->Prop}(x:α) (y:β) (a1:A x y):∃x,∃y,A x y:=⟨x,y,a1⟩
theorem yEAAE {α β:Type}{A B:α->Prop}{C:α->β->Prop}(x:α) (a1:A x) (b1:B x) (y:β) (c1:C x y):∃x,A x/\B x/\∃y,C x y:=⟨x,a1,b1,y,c1⟩
theorem yAAAA {A B C D F:Prop}(a1:A) (b1:B) (c1:C) (d1:D) (f1:F):A/\B/\C/\D/\F:=⟨a1,b1,c1,d1,f1⟩
theorem yEAAAA {α:Type}{A B C D F:α->Prop}(x:α) (a1:A x) (b1:B x) (c1:C x) (d1:D x) (f1:F x):∃x,A x/\B x/\C x/\D x/\F x:=⟨x,a1,b1,c1,d1,f1⟩
theorem yEEE {α β γ:Type}{A:α->β->γ->Prop}(x:α) (y:β) (z:γ) (a1:A x y z):∃x,∃y,∃z,A x y z:=⟨x,y,z,a1⟩
theorem yAAA {A B C D:Prop}(a1:A) (b1:B) (c1:C) (d1:D):A/\B/\C/\D:=⟨a1,b1,c1,d1⟩
theorem yEAAA {α:Type}{A B C D:α->Prop}(x:α) (a1:A x) (b1:B x) (c1:C x) (d1:D x):∃x,A x/\B x/\C x/\D x:=⟨x,a1,b1,c1,d1⟩
theorem yAAAAAAA {A B C D F G I J:Prop}(a1:A) (b1:B) (c1:C) (d1:D) (f1:F) (g1:G) (i1:I) (j1:J):A/\B/\C/\D/\F/\G/\I/\J:=⟨a1,b1,c1,d1,f1,g1,i1,j1⟩
theorem yEEEAAAAAA {α β γ:Type}{A B C D F G I:α->β->γ->Prop}(x:α) (y:β) (z:γ) (a1:A x y z) (b1:B x y z) (c1:C x y z) (d1:D x y z) (f1:F x y z) (g1:G x y z) (i1:I x y z):∃x,∃y,∃z,A x y z/\B x y z/\C x y z/\D x y z/\F x y z/\G x y z/\I x y z:=⟨x,y,z,a1,b1,c1,d1,f1,g1,i1⟩
theorem yEEEEAAAAAAAA {α β γ δ:Type}{A B C D F G I J K:α->β->γ->δ->Prop}(x:α) (y:β) (z:γ) (u:δ) (a1:A x y z u) (b1:B x y z u) (c1:C x y z u) (d1:D x y z u) (f1:F x y z u) (g1:G x y z u) (i1:I x y z u) (j1:J x y z u) (k1:K x y z u):∃x,∃y,∃z,∃u,A x y z u/\B x y z u/\C x y z u/\D x y z u/\F x y z u/\G x y z u/\I x y z u/\J x y z u/\K x y z u:=⟨x,y,z,u,a1,b1,c1,d1,f1,g1,i1,j1,k1⟩
theorem yEEEEEA {α β γ δ ε:Type}{A B:α->β->γ->δ->ε->Prop}(x:α) (y:β) (z:γ) (u:δ) (v:ε) (a1:A x y z u v) (b1:B x y z u v):∃x,∃y,∃z,∃u,∃v,A x y z u v/\B x y z u v:=⟨x,y,z,u,v,a1,b1⟩
theorem yAEEAA {α β:Type}{A:Prop}{B C D:α->β->Prop}(a1:A) (x:α) (y:β) (b1:B x y) (c1:C x y) (d1:D x y):A/\∃x,∃y,B x y/\C x y/\D x y:=⟨a1,x,y,b1,c1,d1⟩
theorem yEEEEEE {α β γ δ ε ζ:Type}{A:α->β->γ->δ->ε->ζ->Prop}(x:α) (y:β) (z:γ) (u:δ) (v:ε) (w:ζ) (a1:A x y z u v w):∃x,∃y,∃z,∃u,∃v,∃w,A x y z u v w:=⟨x,y,z,u,v,w,a1⟩
theorem aI {α:Type}{A B:α->Prop}{P:Prop}(h:∃x,A x/\B x) (k:∀x,A x->B x->P):P:=Exists.elim h λx h1=>k x h1.1 h1.2
theorem pif {c:Prop} [Decidable c] {a b:Prop}(h:¬c) (k:b):if c then a else b:=by rw [if_neg h];exact k
theorem pit {c:Prop} [Decidable c] {a b:Prop}(h:c) (k:a):if c then a else b:=by rw [if_pos h];exact k
theorem mapS {α β:Type}{o:Option α}{f:α->β}{b:β}(h:o.map f=some b){P:Prop}(c:∀a,o=some a->f a=b->P):P:=aI (Option.map_eq_some_iff.mp h) c
theorem bindS {α β:Type}{o:Option α}{f:α->Option β}{b:β}(h:o.bind f=some b){P:Prop}(c:∀a,o=some a->f a=some b->P):P:=aI (Option.bind_eq_some_iff.mp h) c
theorem bf {α β:Type}{A B:α->β->Prop}{P:Prop}(h:∃x,∃y,A x y/\B x y) (k:∀x,∀y,A x y->B x y->P):P:=Exists.elim h λx h1=>Exists.elim h1 λy h2=>k x y h2.1 h2.2
theorem bj {α β:Type}{A B C:α->β->Prop}{P:Prop}(h:∃x,∃y,A x y/\B x y/\C x y) (k:∀x,∀y,A x y->B x y->C x y->P):P:=Exists.elim h λx h1=>Exists.elim h1 λy h2=>k x y h2.1 h2.2.1 h2.2.2
theorem cS {α:Type}{A B C:α->Prop}{P:Prop}(h:∃x,A x/\B x/\C x) (k:∀x,A x->B x->C x->P):P:=Exists.elim h λx h1=>k x h1.1 h1.2.1 h1.2.2
theorem cC {α β γ:Type}{A B C:α->β->γ->Prop}{P:Prop}(h:∃x,∃y,∃z,A x y z/\B x y z/\C x y z) (k:∀x,∀y,∀z,A x y z->B x y z->C x y z->P):P:=Exists.elim h λx h1=>Exists.elim h1 λy h2=>Exists.elim h2 λz h3=>k x y z h3.1 h3.2.1 h3.2.2
theorem dH {α β γ:Type}{A B:α->β->γ->Prop}{P:Prop}(h:∃x,∃y,∃z,A x y z/\B x y z) (k:∀x,∀y,∀z,A x y z->B x y z->P):P:=Exists.elim h λx h1=>Exists.elim h1 λy h2=>Exists.elim h2 λz h3=>k x y z h3.1 h3.2
theorem pS {A B C:Prop}{P:Prop}(h:A/\B/\C) (k:A->B->C->P):P:=k h.1 h.2.1 h.2.2
theorem cb {α β γ:Type}{A B C D:α->β->γ->Prop}{P:Prop}(h:∃x,∃y,∃z,A x y z/\B x y z/\C x y z/\D x y z) (k:∀x,∀y,∀z,A x y z->B x y z->C x y z->D x y z->P):P:=Exists.elim h λx h1=>Exists.elim h1 λy h2=>Exists.elim h2 λz h3=>k x y z h3.1 h3.2.1 h3.2.2.1 h3.2.2.2
theorem bK {α β γ:Type}{A B C D F G:α->β->γ->Prop}{P:Prop}(h:∃x,∃y,∃z,A x y z/\B x y z/\C x y z/\D x y z/\F x y z/\G x y z) (k:∀x,∀y,∀z,A x y z->B x y z->C x y z->D x y z->F x y z->G x y z->P):P:=Exists.elim h λx h1=>Exists.elim h1 λy h2=>Exists.elim h2 λz h3=>k x y z h3.1 h3.2.1 h3.2.2.1 h3.2.2.2.1 h3.2.2.2.2.1 h3.2.2.2.2.2
inductive P4 where
 |e
 |a (p:P4)
 |b (p:P4)
 |c (p:P4)
 |d (p:P4)
def P4.eqB (p:P4):P4->Bool:=
 P4.rec (motive:=λ_=>P4->Bool) (λq=>P4.rec (motive:=λ_=>Bool) true (λ_ _=>false) (λ_ _=>false) (λ_ _=>false) (λ_ _=>false) q)
  (λ_ ih q=>P4.rec (motive:=λ_=>Bool) false (λr _=>ih r) (λ_ _=>false) (λ_ _=>false) (λ_ _=>false) q)
  (λ_ ih q=>P4.rec (motive:=λ_=>Bool) false (λ_ _=>false) (λr _=>ih r) (λ_ _=>false) (λ_ _=>false) q)
  (λ_ ih q=>P4.rec (motive:=λ_=>Bool) false (λ_ _=>false) (λ_ _=>false) (λr _=>ih r) (λ_ _=>false) q)
  (λ_ ih q=>P4.rec (motive:=λ_=>Bool) false (λ_ _=>false) (λ_ _=>false) (λ_ _=>false) (λr _=>ih r) q) p
theorem P4.pT:∀{p q:P4},p.eqB q=true->p=q:=by
 intro p
 induction p with
 |e=>intro q h;cases q<;>first|rfl|exact nf h
 |a p ih=>intro q h;cases q<;>first|(rw [ih (show p.eqB _=true from h)])|exact nf h
 |b p ih=>intro q h;cases q<;>first|(rw [ih (show p.eqB _=true from h)])|exact nf h
 |c p ih=>intro q h;cases q<;>first|(rw [ih (show p.eqB _=true from h)])|exact nf h
 |d p ih=>intro q h;cases q<;>first|(rw [ih (show p.eqB _=true from h)])|exact nf h
theorem P4.eqB_refl (p:P4):p.eqB p=true:=by induction p<;>first|rfl|assumption
instance:DecidableEq P4:=λp q=>decidable_of_iff (p.eqB q=true) ⟨P4.pT,λh=>h▸P4.eqB_refl p⟩
def P4.succ (p:P4):P4:=P4.rec (motive:=λ_=>P4) (.b .e) (λq _=>.b q) (λq _=>.c q) (λq _=>.d q) (λ_ ih=>.a ih) p
inductive Tr (α:Type) where
 |lf
 |nd (v:Option α) (ta tb tc td:Tr α)
def Tr.get {α:Type}(p:P4):Tr α->Option α:=
 P4.rec (motive:=λ_=>Tr α->Option α)
  (λt=>Tr.rec (motive:=λ_=>Option α) none (λv _ _ _ _ _ _ _ _=>v) t)
  (λ_ ih t=>Tr.rec (motive:=λ_=>Option α) none (λ_ x _ _ _ _ _ _ _=>ih x) t)
  (λ_ ih t=>Tr.rec (motive:=λ_=>Option α) none (λ_ _ x _ _ _ _ _ _=>ih x) t)
  (λ_ ih t=>Tr.rec (motive:=λ_=>Option α) none (λ_ _ _ x _ _ _ _ _=>ih x) t)
  (λ_ ih t=>Tr.rec (motive:=λ_=>Option α) none (λ_ _ _ _ x _ _ _ _=>ih x) t) p
def Tr.set {α:Type}(w:α) (p:P4):Tr α->Tr α:=
 P4.rec (motive:=λ_=>Tr α->Tr α)
  (λt=>Tr.rec (motive:=λ_=>Tr α) (.nd (some w) .lf .lf .lf .lf) (λ_ x y z u _ _ _ _=>.nd (some w) x y z u) t)
  (λ_ ih t=>Tr.rec (motive:=λ_=>Tr α) (.nd none (ih .lf) .lf .lf .lf) (λv x y z u _ _ _ _=>.nd v (ih x) y z u) t)
  (λ_ ih t=>Tr.rec (motive:=λ_=>Tr α) (.nd none .lf (ih .lf) .lf .lf) (λv x y z u _ _ _ _=>.nd v x (ih y) z u) t)
  (λ_ ih t=>Tr.rec (motive:=λ_=>Tr α) (.nd none .lf .lf (ih .lf) .lf) (λv x y z u _ _ _ _=>.nd v x y (ih z) u) t)
  (λ_ ih t=>Tr.rec (motive:=λ_=>Tr α) (.nd none .lf .lf .lf (ih .lf)) (λv x y z u _ _ _ _=>.nd v x y z (ih u)) t) p
inductive Ky where
 |n (n:Nat)
 |s (i:Nat)
 |u (i:Nat)
 |nil
 |cons (x y:Ky)
inductive T3 where
 |y
 |n
 |u
def T3.ofB (b:Bool):T3:=Bool.rec (motive:=λ_=>T3) .n .y b
def Ky.cmp (x:Ky):Ky->T3:=
 Ky.rec (motive:=λ_=>Ky->T3)
  (λn y=>Ky.rec (motive:=λ_=>T3) (λm=>T3.ofB (Nat.beq n m)) (λ_=>.n) (λ_=>.u) .n (λ_ _ _ _=>.n) y)
  (λn y=>Ky.rec (motive:=λ_=>T3) (λ_=>.n) (λm=>T3.ofB (Nat.beq n m)) (λ_=>.n) .n (λ_ _ _ _=>.n) y)
  (λn y=>Ky.rec (motive:=λ_=>T3) (λ_=>.u) (λ_=>.n) (λm=>Bool.rec (motive:=λ_=>T3) .u .y (Nat.beq n m)) .n (λ_ _ _ _=>.n) y)
  (λy=>Ky.rec (motive:=λ_=>T3) (λ_=>.n) (λ_=>.n) (λ_=>.n) .y (λ_ _ _ _=>.n) y)
  (λ_ _ ih₁ ih₂ y=>Ky.rec (motive:=λ_=>T3) (λ_=>.n) (λ_=>.n) (λ_=>.n) .n
   (λa b _ _=>T3.rec (motive:=λ_=>T3) (ih₁ a) .n (T3.rec (motive:=λ_=>T3) .u .n .u (ih₁ a)) (ih₂ b)) y) x
inductive OV where
 |str (i:Nat)
 |bytes (l:List Nat)
 |sq (b k p:Nat)
 |cg (b k:Nat)
 |ot (i:Nat)
 |oc (i:Nat)
 |nI
 |fn (f:P4)
 |un (i:Nat)
 |fF (i:Nat)
inductive AV where
 |none
 |bool (b:Bool)
 |nat (n:Nat)
 |ref (p:P4)
 |o (x:OV)
inductive DE where
 |mk (q:Ky) (k v:AV)
inductive IE where
 |mk (k:Nat) (v:AV)
inductive FT where
 |mk (top:Nat) (v:AV)
inductive AO where
 |inst (c:Nat) (f:Tr AV)
 |list (l:List AV)
 |tup (l:List AV)
 |dict (l:List DE)
 |nC (l:List Nat)
 |src (l:List FT)
 |ji (lo hi:Nat)
 |bk (l:List IE)
 |ld (l:List DE)
 |li (l:List IE)
inductive H where
 |mk (t:Tr AO) (nx:P4)
inductive Fl where
 |nx
 |brk
 |cont
 |ret (v:AV)
abbrev K1:=AV->H->Bool
abbrev KL:=List AV->H->Bool
abbrev KF:=Fl->Tr AV->H->Bool
abbrev CO:=P4->List AV->H->K1->Bool
abbrev EC:=CO->Tr AV->H->K1->Bool
abbrev TC:=CO->Tr AV->H->(Bool->H->Bool)->Bool
abbrev LC:=CO->Tr AV->H->KL->Bool
abbrev SC:=CO->Tr AV->H->KF->Bool
def opt {α:Type}(o:Option α) (k:α->Bool):Bool:=Option.rec (motive:=λ_=>Bool) false k o
def aG (v:AV) (k:Nat->Bool):Bool:=AV.rec (motive:=λ_=>Bool) false (λ_=>false) k (λ_=>false) (λ_=>false) v
def dp (v:AV) (k:Bool->Bool):Bool:=AV.rec (motive:=λ_=>Bool) false k (λ_=>false) (λ_=>false) (λ_=>false) v
def dg (v:AV) (k:P4->Bool):Bool:=AV.rec (motive:=λ_=>Bool) false (λ_=>false) (λ_=>false) k (λ_=>false) v
def hU (v:AV) (k:Bool):Bool:=AV.rec (motive:=λ_=>Bool) k (λ_=>false) (λ_=>false) (λ_=>false) (λ_=>false) v
def H.get (h:H) (p:P4) (k:AO->Bool):Bool:=H.rec (motive:=λ_=>Bool) (λt _=>Option.rec (motive:=λ_=>Bool) false k (t.get p)) h
def H.put (h:H) (p:P4) (o:AO) (k:H->Bool):Bool:=H.rec (motive:=λ_=>Bool) (λt nx=>k (.mk (t.set o p) nx)) h
def alloc (o:AO) (h:H) (k:K1):Bool:=H.rec (motive:=λ_=>Bool) (λt nx=>k (.ref nx) (.mk (t.set o nx) nx.succ)) h
def jj (o:AO) (k:Nat->Tr AV->Bool):Bool:=AO.rec (motive:=λ_=>Bool) k (λ_=>false) (λ_=>false) (λ_=>false) (λ_=>false) (λ_=>false) (λ_ _=>false) (λ_=>false) (λ_=>false) (λ_=>false) o
def bx (o:AO) (k:List AV->Bool):Bool:=AO.rec (motive:=λ_=>Bool) (λ_ _=>false) k (λ_=>false) (λ_=>false) (λ_=>false) (λ_=>false) (λ_ _=>false) (λ_=>false) (λ_=>false) (λ_=>false) o
def dx (o:AO) (k:List AV->Bool):Bool:=AO.rec (motive:=λ_=>Bool) (λ_ _=>false) (λ_=>false) k (λ_=>false) (λ_=>false) (λ_=>false) (λ_ _=>false) (λ_=>false) (λ_=>false) (λ_=>false) o
def gc (o:AO) (k:List DE->Bool):Bool:=AO.rec (motive:=λ_=>Bool) (λ_ _=>false) (λ_=>false) (λ_=>false) k (λ_=>false) (λ_=>false) (λ_ _=>false) (λ_=>false) (λ_=>false) (λ_=>false) o
def tI (o:AO) (k:List FT->Bool):Bool:=AO.rec (motive:=λ_=>Bool) (λ_ _=>false) (λ_=>false) (λ_=>false) (λ_=>false) (λ_=>false) k (λ_ _=>false) (λ_=>false) (λ_=>false) (λ_=>false) o
def vN (v:AV) (h:H) (k:P4->Nat->Tr AV->Bool):Bool:=dg v λp=>h.get p λo=>jj o (k p)
def lU (v:AV) (h:H) (k:P4->AO->Bool):Bool:=dg v λp=>h.get p (k p)
def Bj (v:AV) (k:Ky->Bool):Bool:=
 AV.rec (motive:=λ_=>Bool) false (λ_=>false) (λn=>k (.n n)) (λ_=>false)
  (λx=>OV.rec (motive:=λ_=>Bool) (λi=>k (.s i)) (λ_=>false) (λ_ _ _=>false) (λ_ _=>false) (λ_=>false) (λ_=>false) false (λ_=>false) (λi=>k (.u i)) (λ_=>false) x) v
def kyL (f:AV->(Ky->Bool)->Bool) (l:List AV):(Ky->Bool)->Bool:=
 List.rec (motive:=λ_=>(Ky->Bool)->Bool) (λk=>k .nil) (λv _ ih k=>f v λq=>ih λr=>k (.cons q r)) l
def ky (fuel:Nat):H->AV->(Ky->Bool)->Bool:=
 Nat.rec (motive:=λ_=>H->AV->(Ky->Bool)->Bool) (λ_ v k=>Bj v k)
  (λ_ ih h v k=>AV.rec (motive:=λ_=>Bool) false (λ_=>false) (λn=>k (.n n)) (λp=>h.get p λo=>dx o λl=>kyL (ih h) l k) (λ_=>Bj v k) v) fuel
def rP (h:H) (v:AV) (k:Ky->Bool):Bool:=dg v λ_=>ky 2 h v k
def DE.val (e:DE):AV:=DE.rec (motive:=λ_=>AV) (λ_ _ v=>v) e
def Ky.tJ (x:Ky):Ky->Bool:=
 Ky.rec (motive:=λ_=>Ky->Bool)
  (λ_ y=>Ky.rec (motive:=λ_=>Bool) (λ_=>true) (λ_=>false) (λ_=>true) false (λ_ _ _ _=>false) y)
  (λ_ y=>Ky.rec (motive:=λ_=>Bool) (λ_=>false) (λ_=>true) (λ_=>false) false (λ_ _ _ _=>false) y)
  (λ_ y=>Ky.rec (motive:=λ_=>Bool) (λ_=>true) (λ_=>false) (λ_=>true) false (λ_ _ _ _=>false) y)
  (λy=>Ky.rec (motive:=λ_=>Bool) (λ_=>false) (λ_=>false) (λ_=>false) true (λ_ _ _ _=>false) y)
  (λ_ _ ih₁ ih₂ y=>Ky.rec (motive:=λ_=>Bool) (λ_=>false) (λ_=>false) (λ_=>false) false (λa b _ _=>Bool.rec (motive:=λ_=>Bool) false (ih₂ b) (ih₁ a)) y) x
def iA (q:Ky) (l:List DE) (b:Bool):Bool:=List.rec (motive:=λ_=>Bool) b (λe _ _=>DE.rec (motive:=λ_=>Bool) (λq' _ _=>Bool.rec (motive:=λ_=>Bool) false b (Ky.tJ q' q)) e) l
def tK (q:Ky) (l:List DE) (kn:Bool) (k:AV->Bool):Bool:=
 List.rec (motive:=λ_=>Bool) kn (λe _ ih=>DE.rec (motive:=λ_=>Bool) (λq' _ v=>T3.rec (motive:=λ_=>Bool) (k v) ih false (Ky.cmp q' q)) e) l
def lV (q:Ky) (l:List DE) (kn:Bool) (k:AV->Bool):Bool:=iA q l (tK q l kn k)
def cL (q:Ky) (kv v:AV) (l:List DE):(List DE->Bool)->Bool:=
 List.rec (motive:=λ_=>(List DE->Bool)->Bool) (λk=>k [.mk q kv v])
  (λe r ih k=>DE.rec (motive:=λ_=>Bool) (λq' k' _=>T3.rec (motive:=λ_=>Bool) (k (.mk q' k' v::r)) (ih λm=>k (e::m)) false (Ky.cmp q' q)) e) l
def tL (q:Ky) (kv v:AV) (l:List DE) (k:List DE->Bool):Bool:=iA q l (cL q kv v l k)
def yH (q:Ky) (l:List DE):(List DE->Bool)->Bool:=
 List.rec (motive:=λ_=>(List DE->Bool)->Bool) (λ_=>false)
  (λe r ih k=>DE.rec (motive:=λ_=>Bool) (λq' k' v=>T3.rec (motive:=λ_=>Bool) (k r) (ih λm=>k (e::m)) false (Ky.cmp q' q)) e) l
def lW {α β:Type}(f:α->β) (l:List α):List β:=List.rec (motive:=λ_=>List β) [] (λx _ ih=>f x::ih) l
def DE.key (e:DE):AV:=DE.rec (motive:=λ_=>AV) (λ_ k _=>k) e
def lc {α:Type}(l m:List α):List α:=List.rec (motive:=λ_=>List α) m (λx _ ih=>x::ih) l
def len {α:Type}(l:List α):Nat:=List.rec (motive:=λ_=>Nat) 0 (λ_ _ ih=>Nat.add ih 1) l
def drop {α:Type}(n:Nat):List α->List α:=
 Nat.rec (motive:=λ_=>List α->List α) (λl=>l) (λ_ ih l=>List.rec (motive:=λ_=>List α) [] (λ_ t _=>ih t) l) n
def take {α:Type}(n:Nat):List α->List α:=
 Nat.rec (motive:=λ_=>List α->List α) (λ_=>[]) (λ_ ih l=>List.rec (motive:=λ_=>List α) [] (λx t _=>x::ih t) l) n
def head {α:Type}(l:List α):Option α:=List.rec (motive:=λ_=>Option α) none (λx _ _=>some x) l
def az (b:Bool) (t e:Bool):Bool:=Bool.rec (motive:=λ_=>Bool) e t b
def IE.key (e:IE):AV:=IE.rec (motive:=λ_=>AV) (λk _=>.nat k) e
def kh (q:Nat) (l:List IE) (kn:Bool) (k:AV->Bool):Bool:=
 List.rec (motive:=λ_=>Bool) kn (λe _ ih=>IE.rec (motive:=λ_=>Bool) (λq' v=>Bool.rec (motive:=λ_=>Bool) ih (k v) (Nat.beq q' q)) e) l
def kj (q:Nat) (v:AV) (l:List IE):List IE:=
 List.rec (motive:=λ_=>List IE) [.mk q v] (λe r ih=>IE.rec (motive:=λ_=>List IE) (λq' _=>Bool.rec (motive:=λ_=>List IE) (e::ih) (.mk q' v::r) (Nat.beq q' q)) e) l
def v5 (q:Nat) (l:List IE):List IE:=
 List.rec (motive:=λ_=>List IE) [] (λe r ih=>IE.rec (motive:=λ_=>List IE) (λq' _=>Bool.rec (motive:=λ_=>List IE) (e::ih) r (Nat.beq q' q)) e) l
abbrev OP:=AV->AV->H->K1->Bool
def et (f:Nat->Nat->Nat):OP:=λa b h k=>aG a λn=>aG b λm=>k (.nat (f n m)) h
def ba:OP:=λa b h k=>
 AV.rec (motive:=λ_=>Bool) false (λ_=>false)
  (λn=>AV.rec (motive:=λ_=>Bool) false (λ_=>false) (λm=>k (.nat (Nat.add n m)) h) (λ_=>false)
   (λx=>OV.rec (motive:=λ_=>Bool) (λ_=>false) (λ_=>false) (λ_ _ _=>false) (λ_ _=>false) (λi=>az (Nat.beq n 65) (k (.o (.oc i)) h) false) (λ_=>false) false (λ_=>false) (λ_=>false) (λ_=>false) x) b)
  (λp=>dg b λq=>h.get p λx=>h.get q λy=>bx x λl=>bx y λm=>az (Nat.ble (Nat.add (len l) (len m)) 4096) (alloc (.list (lc l m)) h k) false)
  (λx=>OV.rec (motive:=λ_=>Bool)
   (λ_=>AV.rec (motive:=λ_=>Bool) false (λ_=>false) (λ_=>false) (λ_=>false) (λy=>OV.rec (motive:=λ_=>Bool) (λ_=>k (.o .nI) h) (λ_=>false) (λ_ _ _=>false) (λ_ _=>false) (λ_=>false) (λ_=>false) false (λ_=>false) (λ_=>false) (λ_=>false) y) b)
   (λl=>AV.rec (motive:=λ_=>Bool) false (λ_=>false) (λ_=>false) (λ_=>false) (λy=>OV.rec (motive:=λ_=>Bool) (λ_=>false) (λm=>az (Nat.ble (Nat.add (len l) (len m)) 4096) (k (.o (.bytes (lc l m))) h) false) (λ_ _ _=>false) (λ_ _=>false) (λ_=>false) (λ_=>false) false (λ_=>false) (λ_=>false) (λ_=>false) y) b)
   (λbb kk p=>aG b λm=>k (.o (.sq bb kk (Nat.add p m))) h)
   (λbb kk=>aG b λm=>k (.o (.cg bb (Nat.mod (Nat.add kk m) 256))) h)
   (λ_=>false) (λ_=>false) false (λ_=>false) (λ_=>false) (λ_=>false) x) a
def eM:OP:=λa b h k=>
 AV.rec (motive:=λ_=>Bool) false (λ_=>false)
  (λn=>aG b λm=>az (Nat.ble m n) (k (.nat (Nat.sub n m)) h) false) (λ_=>false)
  (λx=>OV.rec (motive:=λ_=>Bool) (λ_=>false) (λ_=>false)
   (λb₁ k₁ p₁=>AV.rec (motive:=λ_=>Bool) false (λ_=>false) (λ_=>false) (λ_=>false) (λy=>OV.rec (motive:=λ_=>Bool) (λ_=>false) (λ_=>false)
    (λb₂ k₂ p₂=>az (Nat.beq b₁ b₂) (az (Nat.ble (Nat.add k₂ p₂) 1024) (k (.o (.cg 0 (Nat.mod (Nat.sub (Nat.add (Nat.add k₁ p₁) 1024) (Nat.add k₂ p₂)) 256))) h) false) false)
    (λ_ _=>false) (λ_=>false) (λ_=>false) false (λ_=>false) (λ_=>false) (λ_=>false) y) b)
   (λ_ _=>false) (λ_=>false) (λ_=>false) false (λ_=>false) (λ_=>false) (λ_=>false) x) a
def hW:OP:=λa b h k=>
 AV.rec (motive:=λ_=>Bool) false (λ_=>false) (λn=>aG b λm=>az (Nat.ble n 4294967296) (k (.nat (Nat.mul n m)) h) false) (λ_=>false)
  (λx=>OV.rec (motive:=λ_=>Bool) (λ_=>false) (λ_=>false)
   (λbb kk p=>aG b λm=>az (Nat.beq p 0) (k (.o (.cg (Nat.add (Nat.mul 4 (Nat.mul m (Nat.div bb 4))) (Nat.mod bb 4)) (Nat.mod (Nat.mul kk m) 256))) h) false)
   (λ_ _=>false) (λ_=>false) (λ_=>false) false (λ_=>false) (λ_=>false) (λ_=>false) x) a
def lX:OP:=λa b h k=>aG b λm=>
 AV.rec (motive:=λ_=>Bool) false (λ_=>false) (λn=>az (Nat.beq m 0) false (k (.nat (Nat.mod n m)) h)) (λ_=>false)
  (λx=>OV.rec (motive:=λ_=>Bool) (λ_=>false) (λ_=>false)
   (λbb kk p=>az (Nat.beq m 256) (k (.o (.sq bb (Nat.mod (Nat.add kk p) 256) 0)) h) (az (Nat.ble (Nat.add 256 p) m) (k a h) false))
   (λbb kk=>az (Nat.beq m 256) (az (Nat.beq bb 0) (k (.nat (Nat.mod kk 256)) h) (k (.o (.sq bb (Nat.mod kk 256) 0)) h)) false)
   (λ_=>false) (λ_=>false) false (λ_=>false) (λ_=>false) (λ_=>false) x) a
def jk:OP:=λa b h k=>aG a λn=>aG b λm=>az (Nat.beq m 0) false (az (Nat.ble m 1000000) (k (.nat (Nat.div n m)) h) false)
def v7:OP:=λa b h k=>aG a λn=>aG b λm=>az (Nat.ble m 64) (az (Nat.ble n 4294967296) (k (.nat (Nat.shiftLeft n m)) h) false) false
def tM:OP:=et Nat.shiftRight
def pU:OP:=et Nat.land
def xW:OP:=et Nat.lor
def lY (l:List Nat):List Nat->Bool:=
 List.rec (motive:=λ_=>List Nat->Bool) (λm=>List.rec (motive:=λ_=>Bool) true (λ_ _ _=>false) m)
  (λx _ ih m=>List.rec (motive:=λ_=>Bool) false (λy t _=>Bool.rec false (ih t) (Nat.beq x y)) m) l
def eqO (x y:OV) (k:Bool->Bool):Bool:=
 OV.rec (motive:=λ_=>Bool)
  (λi=>OV.rec (motive:=λ_=>Bool) (λj=>k (Nat.beq i j)) (λ_=>false) (λ_ _ _=>false) (λ_ _=>false) (λ_=>false) (λ_=>false) false (λ_=>false) (λ_=>false) (λ_=>false) y)
  (λl=>OV.rec (motive:=λ_=>Bool) (λ_=>false) (λm=>az (lY l m) (k true) (az (Nat.beq (len l) (len m)) false (k false))) (λ_ _ _=>false) (λ_ _=>false) (λ_=>false) (λ_=>false) false (λ_=>false) (λ_=>false) (λ_=>false) y)
  (λb₁ k₁ p₁=>OV.rec (motive:=λ_=>Bool) (λ_=>false) (λ_=>false)
   (λb₂ k₂ p₂=>az (Nat.beq b₁ b₂) (az (Nat.beq (Nat.add p₁ p₂) 0) (k (Nat.beq (Nat.mod k₁ 256) (Nat.mod k₂ 256))) false) false)
   (λ_ _=>false) (λ_=>false) (λ_=>false) false (λ_=>false) (λ_=>false) (λ_=>false) y)
  (λ_ _=>false) (λ_=>false) (λ_=>false) false (λ_=>false) (λ_=>false) (λ_=>false) x
def i3 (x:OV) (k:Bool):Bool:=
 OV.rec (motive:=λ_=>Bool) (λ_=>k) (λ_=>k) (λ_ _ _=>k) (λ_ _=>k) (λ_=>k) (λ_=>k) false (λ_=>k) (λ_=>k) (λ_=>false) x
def tN (x:OV) (k:Bool):Bool:=
 OV.rec (motive:=λ_=>Bool) (λ_=>k) (λ_=>false) (λ_ _ _=>k) (λ_ _=>false) (λ_=>false) (λ_=>false) false (λ_=>false) (λ_=>false) (λ_=>false) x
def vO (a b:AV) (k:Bool->Bool):Bool:=
 AV.rec (motive:=λ_=>Bool)
  (AV.rec (motive:=λ_=>Bool) (k true) (λ_=>false) (λ_=>k false) (λ_=>false) (λx=>tN x (k false)) b)
  (λ_=>false)
  (λn=>AV.rec (motive:=λ_=>Bool) (k false) (λ_=>false) (λm=>k (Nat.beq n m)) (λ_=>false) (λ_=>false) b)
  (λ_=>false)
  (λx=>AV.rec (motive:=λ_=>Bool) (tN x (k false)) (λ_=>false) (λ_=>false) (λ_=>false) (λy=>eqO x y k) b) a
def A6 (f:AV->AV->(Bool->Bool)->Bool) (l:List AV):List AV->(Bool->Bool)->Bool:=
 List.rec (motive:=λ_=>List AV->(Bool->Bool)->Bool) (λm k=>List.rec (motive:=λ_=>Bool) (k true) (λ_ _ _=>false) m)
  (λx _ ih m k=>List.rec (motive:=λ_=>Bool) false (λy t _=>f x y λb=>ih t λr=>k (Bool.rec (motive:=λ_=>Bool) false r b)) m) l
def Bk (fuel:Nat):H->AV->AV->(Bool->Bool)->Bool:=
 Nat.rec (motive:=λ_=>H->AV->AV->(Bool->Bool)->Bool) (λ_ a b k=>vO a b k)
  (λ_ ih h a b k=>AV.rec (motive:=λ_=>Bool) (vO a b k) (λ_=>false) (λ_=>vO a b k)
   (λp=>dg b λq=>h.get p λx=>h.get q λy=>
    AO.rec (motive:=λ_=>Bool) (λ_ _=>false)
     (λl=>bx y λm=>az (Nat.beq (len l) (len m)) (A6 (ih h) l m k) (k false))
     (λl=>dx y λm=>az (Nat.beq (len l) (len m)) (A6 (ih h) l m k) false)
     (λ_=>false) (λ_=>false) (λ_=>false) (λ_ _=>false) (λ_=>false) (λ_=>false) (λ_=>false) x)
   (λ_=>vO a b k) a) fuel
abbrev CP:=AV->AV->H->(Bool->Bool)->Bool
def bI:CP:=λa b h k=>Bk 3 h a b k
def iB:CP:=λa b h k=>Bk 3 h a b λr=>Bool.rec (k true) (k false) r
def tO (f:Nat->Nat->Bool):CP:=λa b _ k=>aG a λn=>aG b λm=>k (f n m)
noncomputable def ltN (n m:Nat):Bool:=Nat.ble (Nat.succ n) m
noncomputable def gtN (n m:Nat):Bool:=Nat.ble (Nat.succ m) n
noncomputable def geN (n m:Nat):Bool:=Nat.ble m n
def iP:CP:=tO ltN
def qL:CP:=tO Nat.ble
def fP:CP:=tO gtN
def th:CP:=tO geN
def fG:CP:=λa b _ k=>hU b (AV.rec (motive:=λ_=>Bool) (k true) (λ_=>k false) (λ_=>k false) (λ_=>k false) (λx=>i3 x (k false)) a)
def dB:CP:=λa b _ k=>hU b (AV.rec (motive:=λ_=>Bool) (k false) (λ_=>k true) (λ_=>k true) (λ_=>k true) (λx=>i3 x (k true)) a)
def lg (a:AV) (l:List AV):(Bool->Bool)->Bool:=
 List.rec (motive:=λ_=>(Bool->Bool)->Bool) (λk=>k false) (λx _ ih k=>vO x a λb=>ih λr=>k (Bool.rec (motive:=λ_=>Bool) r true b)) l
def km:CP:=λa b h k=>lU b h λ_ o=>
 AO.rec (motive:=λ_=>Bool) (λ_ _=>false) (λl=>lg a l k) (λl=>lg a l k) (λl=>rP h a λq=>lV q l (k false) λ_=>k true) (λ_=>false) (λ_=>false) (λ_ _=>false) (λl=>aG a λn=>kh n l (k false) λ_=>k true) (λ_=>false) (λ_=>false) o
def kq:CP:=λa b h k=>km a b h λr=>Bool.rec (k true) (k false) r
noncomputable def eK (v:AV):EC:=λ_ _ h k=>k v h
def eL (p:P4):EC:=λ_ r h k=>opt (r.get p) λv=>k v h
def tP (a:P4) (v:AV) (h:H) (k:K1):Bool:=vN v h λ_ _ f=>opt (f.get a) λx=>k x h
def cV (e:EC) (a:P4):EC:=λco r h k=>e co r h λv h=>tP a v h k
def aa (p a:P4):EC:=λ_ r h k=>opt (r.get p) λv=>tP a v h k
def iQ (e:EC) (a:P4) (c:Nat) (f:P4):EC:=λco r h k=>e co r h λv h=>vN v h λ_ c' fs=>Option.rec (motive:=λ_=>Bool) (az (Nat.beq c c') (co f [v] h k) false) (λx=>k x h) (fs.get a)
noncomputable def aB (op:OP) (a b:EC):EC:=λco r h k=>a co r h λx h=>b co r h λy h=>op x y h k
noncomputable def tQ (t:TC):EC:=λco r h k=>t co r h λb h=>k (.bool b) h
def bl (e:EC):TC:=λco r h k=>e co r h λv h=>dp v λb=>k b h
def bz (t:TC):TC:=λco r h k=>t co r h λb h=>Bool.rec (k true h) (k false h) b
noncomputable def bw:TC:=λ_ _ h k=>k true h
noncomputable def aP:TC:=λ_ _ h k=>k false h
def bh (t u:TC):TC:=λco r h k=>t co r h λb h=>Bool.rec (k false h) (u co r h k) b
def bL (t u:TC):TC:=λco r h k=>t co r h λb h=>Bool.rec (u co r h k) (k true h) b
def dI (e u:EC):EC:=λco r h k=>e co r h λv h=>dp v λb=>Bool.rec (k v h) (u co r h k) b
def rQ (e u:EC):EC:=λco r h k=>e co r h λv h=>dp v λb=>Bool.rec (u co r h k) (k v h) b
def dJ (t:TC) (a b:EC):EC:=λco r h k=>t co r h λx h=>Bool.rec (b co r h k) (a co r h k) x
abbrev QC:=AV->CO->Tr AV->H->(Bool->H->Bool)->Bool
noncomputable def ai (op:CP) (b:EC):QC:=λx co r h k=>b co r h λy h=>op x y h λt=>k t h
def fQ (op:CP) (b:EC) (q:QC):QC:=λx co r h k=>b co r h λy h=>op x y h λt=>Bool.rec (k false h) (q y co r h k) t
noncomputable def aD (a:EC) (q:QC):TC:=λco r h k=>a co r h λx h=>q x co r h k
noncomputable def lN:LC:=λ_ _ h k=>k [] h
noncomputable def lC (e:EC) (l:LC):LC:=λco r h k=>e co r h λv h=>l co r h λvs h=>k (v::vs) h
def aJ (l:LC):EC:=λco r h k=>l co r h λvs h=>az (Nat.ble (len vs) 4096) (alloc (.tup vs) h k) false
def bt (l:LC):EC:=λco r h k=>l co r h λvs h=>az (Nat.ble (len vs) 4096) (alloc (.list vs) h k) false
abbrev DC:=CO->Tr AV->H->List DE->(List DE->H->Bool)->Bool
noncomputable def iR:DC:=λ_ _ h d k=>k d h
def bu (ke ve:EC) (c:DC):DC:=λco r h d k=>ke co r h λx h=>ve co r h λv h=>rP h x λq=>tL q x v d λd=>c co r h d k
def ku (c:DC):EC:=λco r h k=>c co r h [] λd h=>alloc (.dict d) h k
def gG:EC:=λ_ _ h k=>alloc (.bk []) h k
noncomputable def ah (f:P4) (l:LC):EC:=λco r h k=>l co r h λvs h=>co f vs h k
noncomputable def ak (f:List AV->H->K1->Bool) (l:LC):EC:=λco r h k=>l co r h λvs h=>f vs h k
def aZ (c:Nat) (i:P4) (l:LC):EC:=λco r h k=>l co r h λvs h=>alloc (.inst c .lf) h λs h=>co i (s::vs) h λx h=>hU x (k s h)
def yI (v:AV) (k:P4->Bool):Bool:=
 AV.rec (motive:=λ_=>Bool) false (λ_=>false) (λ_=>false) (λ_=>false)
  (λx=>OV.rec (motive:=λ_=>Bool) (λ_=>false) (λ_=>false) (λ_ _ _=>false) (λ_ _=>false) (λ_=>false) (λ_=>false) false k (λ_=>false) (λ_=>false) x) v
def gf (e:EC) (l:LC):EC:=λco r h k=>e co r h λv h=>yI v λf=>l co r h λvs h=>co f vs h k
inductive CF where
 |nil
 |cons (c:Nat) (f:P4) (r:CF)
def CF.find (c:Nat) (l:CF) (k:P4->Bool):Bool:=CF.rec (motive:=λ_=>Bool) false (λc' f _ ih=>az (Nat.beq c c') (k f) ih) l
def ag (e:EC) (a:P4) (cf:CF) (l:LC):EC:=λco r h k=>e co r h λv h=>vN v h λ_ c fs=>
 Option.rec (motive:=λ_=>Bool) (cf.find c λf=>l co r h λvs h=>co f (v::vs) h k) (λ_=>false) (fs.get a)
def gE (o:AO):Bool:=AO.rec (motive:=λ_=>Bool) (λ_ _=>false) (λ_=>true) (λ_=>false) (λ_=>false) (λ_=>false) (λ_=>false) (λ_ _=>false) (λ_=>false) (λ_=>false) (λ_=>false) o
def isD (o:AO):Bool:=AO.rec (motive:=λ_=>Bool) (λ_ _=>false) (λ_=>false) (λ_=>false) (λ_=>true) (λ_=>false) (λ_=>false) (λ_ _=>false) (λ_=>true) (λ_=>false) (λ_=>false) o
def isB (o:AO):Bool:=AO.rec (motive:=λ_=>Bool) (λ_ _=>false) (λ_=>false) (λ_=>false) (λ_=>false) (λ_=>true) (λ_=>false) (λ_ _=>false) (λ_=>false) (λ_=>false) (λ_=>false) o
def aS (e:EC) (kd:AO->Bool) (m:P4->List AV->H->K1->Bool) (l:LC):EC:=λco r h k=>e co r h λv h=>lU v h λp o=>az (kd o) (l co r h λvs h=>m p vs h k) false
def dS (vs:List AV) (k:AV->Bool):Bool:=List.rec (motive:=λ_=>Bool) false (λx t _=>List.rec (motive:=λ_=>Bool) (k x) (λ_ _ _=>false) t) vs
def iS (vs:List AV) (k:Bool):Bool:=List.rec (motive:=λ_=>Bool) k (λ_ _ _=>false) vs
def bJ:P4->List AV->H->K1->Bool:=λp vs h k=>dS vs λx=>h.get p λo=>bx o λl=>az (Nat.ble (len l) 4096) (h.put p (.list (lc l [x])) λh=>k .none h) false
def pV (l:List AV) (k:Bool):Bool:=List.rec (motive:=λ_=>Bool) k (λx _ ih=>aG x λ_=>ih) l
def yJ (n:Nat) (l:List AV):(List AV->Bool)->Bool:=
 List.rec (motive:=λ_=>(List AV->Bool)->Bool) (λ_=>false) (λx t ih k=>aG x λm=>Bool.rec (motive:=λ_=>Bool) (ih λr=>k (x::r)) (k t) (Nat.beq m n)) l
def gH:P4->List AV->H->K1->Bool:=λp vs h k=>dS vs λx=>aG x λn=>h.get p λo=>bx o λl=>az (Nat.ble (len l) 4096) (pV l (yJ n l λm=>h.put p (.list m) λh=>k .none h)) false
def nJ:P4->List AV->H->K1->Bool:=λp vs h k=>dS vs λx=>h.get p λo=>
 bx o λl=>aG x λn=>az (Nat.beq n 0) (az (Nat.ble (len l) 4096) (List.rec (motive:=λ_=>Bool) false (λy t _=>h.put p (.list t) λh=>k y h) l) false) false
def qM:P4->List AV->H->K1->Bool:=λp vs h k=>dS vs λx=>h.get p λo=>
 gc o λl=>az (Nat.ble (len l) 4096) (rP h x λq=>lV q l false λv=>yH q l λm=>h.put p (.dict m) λh=>k v h) false
def gI (o:AO) (k:List IE->Bool):Bool:=AO.rec (motive:=λ_=>Bool) (λ_ _=>false) (λ_=>false) (λ_=>false) (λ_=>false) (λ_=>false) (λ_=>false) (λ_ _=>false) k (λ_=>false) (λ_=>false) o
def lh:P4->List AV->H->K1->Bool:=λp vs h k=>dS vs λx=>h.get p λo=>
 gI o λl=>az (Nat.ble (len l) 4096) (aG x λn=>kh n l false λv=>h.put p (.bk (v5 n l)) λh=>k v h) false
def nK:P4->List AV->H->K1->Bool:=λp vs h k=>dS vs λx=>h.get p λo=>gc o λl=>rP h x λq=>lV q l (k .none h) λv=>k v h
def onBytes (v:AV) (k:List Nat->Bool):Bool:=
 AV.rec (motive:=λ_=>Bool) false (λ_=>false) (λ_=>false) (λ_=>false)
  (λx=>OV.rec (motive:=λ_=>Bool) (λ_=>false) k (λ_ _ _=>false) (λ_ _=>false) (λ_=>false) (λ_=>false) false (λ_=>false) (λ_=>false) (λ_=>false) x) v
def qN:P4->List AV->H->K1->Bool:=λp vs h k=>dS vs λx=>h.get p λo=>
 bx o λl=>lU x h λ_ o=>bx o λm=>az (Nat.ble (Nat.add (len l) (len m)) 4096) (h.put p (.list (lc l m)) λh=>k .none h) false
def nL (o:AO) (k:List Nat->Bool):Bool:=AO.rec (motive:=λ_=>Bool) (λ_ _=>false) (λ_=>false) (λ_=>false) (λ_=>false) k (λ_=>false) (λ_ _=>false) (λ_=>false) (λ_=>false) (λ_=>false) o
def qO:P4->List AV->H->K1->Bool:=λp vs h k=>dS vs λx=>h.get p λo=>
 nL o λl=>onBytes x λm=>az (Nat.ble (Nat.add (len l) (len m)) 4096) (h.put p (.nC (lc l m)) λh=>k .none h) false
def gJ {α:Type}(l:List α) (k:Nat->Bool):Bool:=az (Nat.ble (len l) 4096) (k (len l)) false
def cq:List AV->H->K1->Bool:=λvs h k=>dS vs λx=>
 AV.rec (motive:=λ_=>Bool) false (λ_=>false) (λ_=>false)
  (λp=>h.get p λo=>AO.rec (motive:=λ_=>Bool) (λ_ _=>false) (λl=>gJ l λn=>k (.nat n) h) (λ_=>false) (λ_=>false) (λl=>gJ l λn=>k (.nat n) h) (λ_=>false) (λ_ _=>false) (λ_=>false) (λ_=>false) (λ_=>false) o)
  (λ_=>onBytes x λl=>gJ l λn=>k (.nat n) h) x
def nM (f:Nat->Nat->Nat) (l:List AV):Nat->(Nat->Bool)->Bool:=
 List.rec (motive:=λ_=>Nat->(Nat->Bool)->Bool) (λn k=>k n) (λx _ ih n k=>aG x λm=>ih (f n m) k) l
def dC (n m:Nat):Nat:=Bool.rec (motive:=λ_=>Nat) m n (Nat.ble n m)
def dD (n m:Nat):Nat:=Bool.rec (motive:=λ_=>Nat) n m (Nat.ble n m)
def nN (f:Nat->Nat->Nat) (vs:List AV) (h:H) (k:K1):Bool:=
 List.rec (motive:=λ_=>Bool) false (λx t _=>aG x λn=>nM f t n λm=>k (.nat m) h) vs
def xX {α:Type}(l:List α) (k:Bool):Bool:=
 List.rec (motive:=λ_=>Bool) false (λ_ t _=>List.rec (motive:=λ_=>Bool) k (λ_ t _=>List.rec (motive:=λ_=>Bool) k (λ_ _ _=>false) t) t) l
def bMM (f:Nat->Nat->Nat):List AV->H->K1->Bool:=λvs h k=>
 List.rec (motive:=λ_=>Bool) false (λx t _=>List.rec (motive:=λ_=>Bool) (lU x h λ_ o=>bx o λl=>az (Nat.ble (len l) 4096) (nN f l h k) false) (λ_ _ _=>xX t (nN f vs h k)) t) vs
def fk:=bMM dC
def lZ:=bMM dD
def jl:List AV->H->K1->Bool:=λvs h k=>dS vs λx=>
 AV.rec (motive:=λ_=>Bool) false (λb=>Bool.rec (k (.nat 0) h) (k (.nat 1) h) b) (λ_=>k x h) (λ_=>false) (λ_=>false) x
def pW (l:List AV):(List Nat->Bool)->Bool:=
 List.rec (motive:=λ_=>(List Nat->Bool)->Bool) (λk=>k [])
  (λx _ ih k=>AV.rec (motive:=λ_=>Bool) false (λ_=>false) (λn=>az (ltN n 256) (ih λr=>k (n::r)) false) (λ_=>false)
   (λy=>OV.rec (motive:=λ_=>Bool) (λ_=>false) (λ_=>false) (λ_ _ _=>false) (λ_ _=>false) (λ_=>false) (λi=>ih λr=>k (Nat.add 256 i::r)) false (λ_=>false) (λ_=>false) (λ_=>false) y) x) l
def eN:List AV->H->K1->Bool:=λvs h k=>dS vs λx=>
 AV.rec (motive:=λ_=>Bool) false (λ_=>false) (λ_=>false)
  (λp=>h.get p λo=>AO.rec (motive:=λ_=>Bool) (λ_ _=>false) (λl=>az (Nat.ble (len l) 4096) (pW l λr=>k (.o (.bytes r)) h) false) (λ_=>false) (λ_=>false) (λl=>az (Nat.ble (len l) 4096) (k (.o (.bytes l)) h) false) (λ_=>false) (λ_ _=>false) (λ_=>false) (λ_=>false) (λ_=>false) o)
  (λ_=>onBytes x λ_=>k x h) x
def dK:List AV->H->K1->Bool:=λvs h k=>
 List.rec (motive:=λ_=>Bool) false (λx t _=>aG x λn=>List.rec (motive:=λ_=>Bool) (alloc (.ji 0 n) h k) (λy t _=>iS t (aG y λm=>alloc (.ji n m) h k)) t) vs
def lj:List AV->H->K1->Bool:=λvs h k=>dS vs λx=>lU x h λ_ o=>
 AO.rec (motive:=λ_=>Bool) (λ_ _=>false) (λl=>az (Nat.ble (len l) 4096) (alloc (.list l) h k) false) (λ_=>false) (λ_=>false) (λ_=>false) (λ_=>false) (λ_ _=>false) (λl=>az (Nat.ble (len l) 4096) (alloc (.list (lW IE.key l)) h k) false) (λ_=>false) (λ_=>false) o
def one {α:Type}(l:List α) (k:Bool):Bool:=List.rec (motive:=λ_=>Bool) k (λ_ t _=>List.rec (motive:=λ_=>Bool) k (λ_ _ _=>false) t) l
def gK:List AV->H->K1->Bool:=λvs h k=>dS vs λx=>lU x h λ_ o=>
 AO.rec (motive:=λ_=>Bool) (λ_ _=>false) (λl=>one l (alloc (.list l) h k)) (λ_=>false) (λ_=>false) (λ_=>false) (λ_=>false) (λ_ _=>false) (λl=>one l (alloc (.list (lW IE.key l)) h k)) (λ_=>false) (λ_=>false) o
def v8:List AV->H->K1->Bool:=λvs h k=>dS vs λx=>lU x h λ_ o=>bx o λl=>iS l (k (.bool false) h)
def l0 (l:List AV):List IE->H->(List IE->Bool)->Bool:=
 List.rec (motive:=λ_=>List IE->H->(List IE->Bool)->Bool) (λd _ k=>k d)
  (λx _ ih d h k=>lU x h λ_ o=>dx o λxs=>List.rec (motive:=λ_=>Bool) false (λa t _=>dS t λv=>aG a λq=>ih (kj q v d) h k) xs) l
def qP:List AV->H->K1->Bool:=λvs h k=>dS vs λx=>lU x h λ_ o=>bx o λl=>az (Nat.ble (len l) 4096) (l0 l [] h λd=>alloc (.bk d) h k) false
def eO:List AV->H->K1->Bool:=λvs h k=>iS vs (alloc (.nC []) h k)
def qQ (n:Nat):AV:=Bool.rec (motive:=λ_=>AV) (.o (.oc (Nat.sub n 256))) (.nat n) (ltN n 256)
def ixC:OP:=λa b h k=>
 AV.rec (motive:=λ_=>Bool) false (λ_=>false) (λ_=>false)
  (λp=>h.get p λo=>AO.rec (motive:=λ_=>Bool) (λ_ _=>false) (λl=>aG b λn=>az (Nat.ble n 4096) (opt (head (drop n l)) λv=>k v h) false) (λl=>aG b λn=>az (Nat.ble n 4096) (opt (head (drop n l)) λv=>k v h) false)
   (λl=>rP h b λq=>lV q l false λv=>k v h) (λ_=>false) (λ_=>false) (λ_ _=>false) (λl=>aG b λn=>kh n l false λv=>k v h) (λl=>rP h b λq=>lV q l false λv=>k v h) (λl=>aG b λn=>kh n l false λv=>k v h) o)
  (λ_=>onBytes a λl=>aG b λn=>az (Nat.ble n 4096) (opt (head (drop n l)) λv=>k (qQ v) h) false) a
def bU (o i:EC):EC:=aB ixC o i
def v9 (a:AV) (lo hi:Nat) (h:H) (k:K1):Bool:=
 AV.rec (motive:=λ_=>Bool) false (λ_=>false) (λ_=>false)
  (λp=>h.get p λo=>AO.rec (motive:=λ_=>Bool) (λ_ _=>false) (λl=>az (Nat.ble (len l) 4096) (alloc (.list (drop lo (take hi l))) h k) false) (λl=>az (Nat.ble (len l) 4096) (az (ltN hi (len l)) (alloc (.tup (drop lo (take hi l))) h k) false) false) (λ_=>false) (λl=>az (Nat.ble (len l) 4096) (alloc (.nC (drop lo (take hi l))) h k) false) (λ_=>false) (λ_ _=>false) (λ_=>false) (λ_=>false) (λ_=>false) o)
  (λ_=>onBytes a λl=>az (Nat.ble (len l) 4096) (k (.o (.bytes (drop lo (take hi l)))) h) false) a
def l6 (o lo hi:EC):EC:=λco r h k=>o co r h λa h=>lo co r h λx h=>hi co r h λy h=>aG x λn=>aG y λm=>v9 a n m h k
def fa (o lo:EC):EC:=λco r h k=>o co r h λa h=>lo co r h λx h=>aG x λn=>v9 a n 4097 h k
def ew (o hi:EC):EC:=λco r h k=>o co r h λa h=>hi co r h λy h=>aG y λm=>v9 a 0 m h k
inductive Cu where
 |lst (v:AV)
 |tup (v:AV)
 |nD (v:AV)
 |ji (lo hi:Nat)
def tR (o:AO) (kd:List DE->Bool) (ki:List IE->Bool):Bool:=
 AO.rec (motive:=λ_=>Bool) (λ_ _=>false) (λ_=>false) (λ_=>false) (λ_=>false) (λ_=>false) (λ_=>false) (λ_ _=>false) (λ_=>false) kd ki o
def pX (v:AV) (h:H) (k:Cu->H->Bool):Bool:=
 dg v λp=>h.get p λo=>AO.rec (motive:=λ_=>Bool) (λ_ _=>false) (λ_=>k (.lst v) h) (λ_=>k (.tup v) h) (λl=>h.put p (.ld l) (k (.nD v))) (λ_=>false) (λ_=>false) (λlo hi=>az (Nat.ble (Nat.add lo hi) 1000000) (k (.ji lo hi) h) false)
  (λl=>h.put p (.li l) (k (.nD v))) (λ_=>false) (λ_=>false) o
def bA (c:Cu) (h:H) (k:H->Bool):Bool:=
 Cu.rec (motive:=λ_=>Bool) (λ_=>k h) (λ_=>k h) (λv=>dg v λp=>h.get p λo=>tR o (λl=>h.put p (.dict l) k) (λl=>h.put p (.bk l) k)) (λ_ _=>k h) c
def nO (c:Cu) (i:Nat) (h:H) (ke:Bool) (k:AV->Bool):Bool:=
 Cu.rec (motive:=λ_=>Bool)
  (λv=>dg v λp=>h.get p λo=>bx o λl=>Option.rec (motive:=λ_=>Bool) ke k (head (drop i l)))
  (λv=>dg v λp=>h.get p λo=>dx o λl=>Option.rec (motive:=λ_=>Bool) ke k (head (drop i l)))
  (λv=>dg v λp=>h.get p λo=>tR o (λl=>Option.rec (motive:=λ_=>Bool) ke (λe=>k (DE.key e)) (head (drop i l))) (λl=>Option.rec (motive:=λ_=>Bool) ke (λe=>k (IE.key e)) (head (drop i l))))
  (λlo hi=>Bool.rec (motive:=λ_=>Bool) ke (k (.nat (Nat.add lo i))) (ltN (Nat.add lo i) hi)) c
def jm (ps:List P4):List AV->Tr AV->(Tr AV->Bool)->Bool:=
 List.rec (motive:=λ_=>List AV->Tr AV->(Tr AV->Bool)->Bool) (λvs r k=>iS vs (k r))
  (λp _ ih vs r k=>List.rec (motive:=λ_=>Bool) false (λv t _=>ih t (r.set v p) k) vs) ps
inductive Tg where
 |one (p:P4)
 |tup (ps:List P4)
def jn (t:Tg) (v:AV) (r:Tr AV) (h:H) (k:Tr AV->Bool):Bool:=
 Tg.rec (motive:=λ_=>Bool) (λp=>k (r.set v p)) (λps=>lU v h λ_ o=>dx o λl=>jm ps l r k) t
inductive hZ where
 |nil
 |cons (p q:P4) (r:hZ)
def yK (c:hZ):Tr AV->Tr AV->(Tr AV->Bool)->Bool:=
 hZ.rec (motive:=λ_=>Tr AV->Tr AV->(Tr AV->Bool)->Bool) (λ_ x k=>k x) (λp q _ ih r x k=>opt (r.get p) λv=>ih r (x.set v q) k) c
def compLoop (tg:Tg) (cond:TC) (elt:EC) (co:CO) (v:Cu) (fuel:Nat):Nat->List AV->Tr AV->H->(List AV->H->Bool)->Bool:=
 Nat.rec (motive:=λ_=>Nat->List AV->Tr AV->H->(List AV->H->Bool)->Bool) (λ_ _ _ _ _=>false)
  (λ_ ih i acc r h k=>nO v i h (k acc h) λx=>jn tg x r h λr=>cond co r h λb h=>Bool.rec (ih (Nat.succ i) acc r h k) (elt co r h λy h=>az (Nat.ble (len acc) 4096) (ih (Nat.succ i) (lc acc [y]) r h k) false) b) fuel
def cn (tg:Tg) (bE:hZ) (it:EC) (cond:TC) (elt:EC):EC:=λco r h k=>
 it co r h λv h=>pX v h λc h=>yK bE r .lf λr'=>compLoop tg cond elt co c 64 0 [] r' h λacc h=>bA c h λh=>alloc (.list acc) h k
noncomputable def ar:SC:=λ_ _ _ _=>false
def ao (p:P4) (e:EC):SC:=λco r h k=>e co r h λv h=>k .nx (r.set v p) h
def bT (ps:List P4) (e:EC):SC:=λco r h k=>e co r h λv h=>lU v h λ_ o=>dx o λl=>jm ps l r λr=>k .nx r h
def ae (o:EC) (a:P4) (cl:Nat) (e:EC):SC:=λco r h k=>e co r h λv h=>o co r h λx h=>vN x h λp c f=>az (Nat.beq c cl) (h.put p (.inst c (f.set v a)) λh=>k .nx r h) false
def cX (o i e:EC):SC:=λco r h k=>e co r h λv h=>o co r h λx h=>i co r h λj h=>lU x h λp ob=>
 AO.rec (motive:=λ_=>Bool) (λ_ _=>false) (λ_=>false) (λ_=>false)
  (λl=>az (Nat.ble (len l) 4096) (rP h j λq=>tL q j v l λm=>h.put p (.dict m) λh=>k .nx r h) false) (λ_=>false) (λ_=>false) (λ_ _=>false)
  (λl=>az (Nat.ble (len l) 4096) (aG j λn=>h.put p (.bk (kj n v l)) λh=>k .nx r h) false) (λ_=>false) (λ_=>false) ob
def iC (p:P4) (op:OP) (e:EC):SC:=λco r h k=>opt (r.get p) λx=>e co r h λy h=>op x y h λv h=>k .nx (r.set v p) h
def jo (o:EC) (a:P4) (cl:Nat) (op:OP) (e:EC):SC:=λco r h k=>o co r h λw h=>tP a w h λx h=>e co r h λy h=>op x y h λv h=>vN w h λp c f=>az (Nat.beq c cl) (h.put p (.inst c (f.set v a)) λh=>k .nx r h) false
noncomputable def bN:SC:=λ_ r h k=>k .nx r h
def bC (s b:SC):SC:=λco r h k=>s co r h λf r h=>Fl.rec (motive:=λ_=>Bool) (b co r h k) (k .brk r h) (k .cont r h) (λv=>k (.ret v) r h) f
def aE (t:TC) (a b:SC):SC:=λco r h k=>t co r h λx h=>Bool.rec (b co r h k) (a co r h k) x
def gh (t:TC) (b:SC):SC:=λco r h k=>
 Nat.rec (motive:=λ_=>Tr AV->H->Bool) (λ_ _=>false)
  (λ_ ih r h=>t co r h λx h=>Bool.rec (k .nx r h) (b co r h λf r h=>Fl.rec (motive:=λ_=>Bool) (ih r h) (k .nx r h) (ih r h) (λv=>k (.ret v) r h) f) x) 64 r h
def forLoop (tg:Tg) (b:SC) (co:CO) (k:KF) (v:Cu) (fuel:Nat):Nat->Tr AV->H->Bool:=
 Nat.rec (motive:=λ_=>Nat->Tr AV->H->Bool) (λ_ _ _=>false)
  (λ_ ih i r h=>nO v i h (k .nx r h) λx=>jn tg x r h λr=>b co r h λf r h=>Fl.rec (motive:=λ_=>Bool) (ih (Nat.succ i) r h) (k .nx r h) (ih (Nat.succ i) r h) (λv=>k (.ret v) r h) f) fuel
def dh (tg:Tg) (it:EC) (b:SC):SC:=λco r h k=>it co r h λv h=>pX v h λc h=>forLoop tg b co (λf r h=>bA c h λh=>k f r h) c 200 0 r h
noncomputable def aj (e:EC):SC:=λco r h k=>e co r h λv h=>k (.ret v) r h
noncomputable def iD:SC:=λ_ r h k=>k (.ret .none) r h
noncomputable def bo (e:EC):SC:=λco r h k=>e co r h λ_ h=>k .nx r h
inductive PD where
 |mk (p:P4) (d:Option AV)
inductive Fn where
 |py (ps:List PD) (b:SC)
 |prim (f:List AV->H->K1->Bool)
def iE (ps:List PD):List AV->Tr AV->(Tr AV->Bool)->Bool:=
 List.rec (motive:=λ_=>List AV->Tr AV->(Tr AV->Bool)->Bool) (λvs r k=>iS vs (k r))
  (λp _ ih vs r k=>PD.rec (motive:=λ_=>Bool) (λp d=>List.rec (motive:=λ_=>Bool) (opt d λv=>ih [] (r.set v p) k) (λv t _=>ih t (r.set v p) k) vs) p) ps
def Bl (k:K1):KF:=λf _ h=>Fl.rec (motive:=λ_=>Bool) (k .none h) false false (λv=>k v h) f
def tS (co:CO) (f:Fn) (vs:List AV) (h:H) (k:K1):Bool:=
 Fn.rec (motive:=λ_=>Bool) (λps b=>iE ps vs .lf λr=>b co r h (Bl k)) (λg=>g vs h k) f
def call (tab:Tr Fn) (fuel:Nat):CO:=
 Nat.rec (motive:=λ_=>CO) (λ_ _ _ _=>false) (λ_ ih f vs h k=>opt (tab.get f) λfn=>tS ih fn vs h k) fuel
def Bm (e:FT) (k:Nat->AV->Bool):Bool:=FT.rec (motive:=λ_=>Bool) k e
def wa:List AV->H->K1->Bool:=λvs h k=>
 List.rec (motive:=λ_=>Bool) false (λx t _=>dS t λy=>aG y λn=>lU x h λp o=>tI o λl=>List.rec (motive:=λ_=>Bool) false (λe r _=>Bm e λtop v=>az (Nat.beq top n) (h.put p (.src r) λh=>k v h) false) l) vs
end
open PySem PySem.W PySem.Calls PyProof.Rows
section
set_option genInjectivity false
set_option genSizeOf false
noncomputable abbrev pw:Program:=PySem.Challenge.pw_nu0144_01
theorem wpe {α:Type}{M:Model}{A:Around}{s:Shared}{E:Value->Shared->Prop}{Q:α->Shared->Prop}{t t':Sem α}(e:t=t') (h:wpAny M A t' Q E s):wpAny M A t Q E s:=e▸h
theorem wif {α:Type}{M:Model}{A:Around}{s:Shared}{E:Value->Shared->Prop}{Q:α->Shared->Prop}{c:Prop} [Decidable c] {a b:Sem α}(h:¬c) (k:wpAny M A b Q E s):wpAny M A (if c then a else b) Q E s:=(if_neg h).symm▸k
theorem wit {α:Type}{M:Model}{A:Around}{s:Shared}{E:Value->Shared->Prop}{Q:α->Shared->Prop}{c:Prop} [Decidable c] {a b:Sem α}(h:c) (k:wpAny M A a Q E s):wpAny M A (if c then a else b) Q E s:=(if_pos h).symm▸k
theorem wifb {α β:Type}{M:Model}{A:Around}{s:Shared}{E:Value->Shared->Prop}{Q:β->Shared->Prop}{c:Prop} [Decidable c] {a b:Sem α}{f:α->Sem β}(h:¬c) (k:wpAny M A (b >>= f) Q E s):wpAny M A ((if c then a else b) >>= f) Q E s:=(if_neg h).symm▸k
section
variable {α:Type}
theorem Tr.bF (p:P4):(Tr.lf:Tr α).get p=none:=by cases p<;>rfl
theorem Tr.au (w:α):∀(p:P4) (t:Tr α),(Tr.set w p t).get p=some w
 |.e,.lf=>rfl
 |.e,.nd ..=>rfl
 |.a p,.lf=>Tr.au w p .lf
 |.a p,.nd _ x _ _ _=>Tr.au w p x
 |.b p,.lf=>Tr.au w p .lf
 |.b p,.nd _ _ x _ _=>Tr.au w p x
 |.c p,.lf=>Tr.au w p .lf
 |.c p,.nd _ _ _ x _=>Tr.au w p x
 |.d p,.lf=>Tr.au w p .lf
 |.d p,.nd _ _ _ _ x=>Tr.au w p x
theorem Tr.aw (w:α):∀(p q:P4) (t:Tr α),p ≠ q->(Tr.set w p t).get q=t.get q:=by
 intro p
 induction p with
 |e=>intro q t h;cases t<;>cases q<;>first|exact absurd rfl h|exact Tr.bF _|rfl
 |a p ih=>intro q t h;cases t<;>cases q<;>first|exact (ih _ _ λe=>h (by rw [e])).trans (Tr.bF _)|exact ih _ _ λe=>h (by rw [e])|exact Tr.bF _|rfl
 |b p ih=>intro q t h;cases t<;>cases q<;>first|exact (ih _ _ λe=>h (by rw [e])).trans (Tr.bF _)|exact ih _ _ λe=>h (by rw [e])|exact Tr.bF _|rfl
 |c p ih=>intro q t h;cases t<;>cases q<;>first|exact (ih _ _ λe=>h (by rw [e])).trans (Tr.bF _)|exact ih _ _ λe=>h (by rw [e])|exact Tr.bF _|rfl
 |d p ih=>intro q t h;cases t<;>cases q<;>first|exact (ih _ _ λe=>h (by rw [e])).trans (Tr.bF _)|exact ih _ _ λe=>h (by rw [e])|exact Tr.bF _|rfl
end
noncomputable def P4.rank:P4->Nat
 |.e=>0
 |.a p=>4*p.rank
 |.b p=>4*p.rank+1
 |.c p=>4*p.rank+2
 |.d p=>4*p.rank+3
theorem P4.ll:∀p:P4,p.succ.rank=p.rank+1
 |.e=>rfl
 |.a _=>rfl
 |.b _=>rfl
 |.c _=>rfl
 |.d p=>by show 4*(p.succ).rank=_;rw [P4.ll p];show _=4*p.rank+3+1;rfl
noncomputable def H.t:H->Tr AO
 |.mk t _=>t
noncomputable def H.nx:H->P4
 |.mk _ n=>n
structure Va where
 x:Nat->Nat
 oct:Nat->Nat
 un:Nat->Nat
 fF:Nat->Value
 str:Nat->Option Str
 attr:P4->Option Str
 fn:P4->Option Addr
 cls:Nat->Option Addr
 fld:Nat->P4->Bool
 l7:Nat->P4->Option P4
 nP:Nat->P4->Option P4
 init:Nat->Option P4
 draws:List FT->Int->Int->Prop
 tT:∀i,oct i<26
 pY:∀{i:Nat}{s:Str},str i=some s->s.length<=1000
 pZ:∀{i j:Nat}{s:Str},str i=some s->str j=some s->i=j
 names:List Str
 nQ:names.length<=1000
 tU:∀{q:P4}{s:Str},attr q=some s->s ∈ names
 qR:∀{i j:P4}{s:Str},attr i=some s->attr j=some s->i=j
noncomputable def Va.iT (V:Va) (b:Nat):Nat:=(b / 4)*V.x (b % 4)
noncomputable def Va.byte (V:Va) (n:Nat):UInt8:=UInt8.ofNat (if n<256 then n else 65+V.oct (n - 256))
abbrev Mu:=P4->Option Addr
def Rep (V:Va) (μ:Mu):AV->Value->Prop
 |.none,v=>v = .none
 |.bool b,v=>v = .bool b
 |.nat n,v=>∃t,v = .int (n:Int) t
 |.ref p,v=>∃a,μ p=some a/\v = .ref a
 |.o (.str i),v=>∃x t,V.str i=some x/\v = .str x t
 |.o (.bytes l),v=>∃t,v = .bytes (l.map V.byte).toArray t
 |.o (.sq b k p),v=>∃t,v = .int (((V.iT b+k) % 256+p:Nat):Int) t
 |.o (.cg b k),v=>∃(i:Int) (t:Tok),v = .int i t/\i % 256=(((V.iT b+k) % 256:Nat):Int)
 |.o (.ot i),v=>∃t,v = .int (V.oct i:Int) t
 |.o (.oc i),v=>∃t,v = .int ((65+V.oct i:Nat):Int) t
 |.o .nI,v=>handedIn v=true
 |.o (.fn f),v=>∃a,V.fn f=some a/\v = .ref a
 |.o (.un i),v=>∃t,v = .int (V.un i:Int) t
 |.o (.fF i),v=>v=V.fF i/\handedIn v=true
inductive aR (V:Va) (μ:Mu):List AV->List Value->Prop where
 |nil:aR V μ [] []
 |cons {x:AV}{v:Value}{l:List AV}{vs:List Value}:Rep V μ x v->aR V μ l vs->aR V μ (x::l) (v::vs)
def Mu.le (μ μ':Mu):Prop:=∀p a,μ p=some a->μ' p=some a
theorem Mu.le_refl (μ:Mu):μ.le μ:=λ_ _ e=>e
theorem Mu.le_trans {μ μ' μ'':Mu}(x:μ.le μ') (y:μ'.le μ''):μ.le μ'':=λp a e=>y p a (x p a e)
theorem Rep.mono {V:Va}{μ μ':Mu}(le:μ.le μ'){x:AV}{v:Value}(r:Rep V μ x v):Rep V μ' x v:=by
 cases x with
 |ref p=>refine aI r λa h e=>?_;clear r;exact yEA a (le p a h) e
 |o y=>cases y<;>exact r
 |_=>exact r
theorem Rep.rf {V:Va}{μ:Mu}{p:P4}{v:Value}(r:Rep V μ (.ref p) v){P:Prop}(c:∀a,μ p=some a->v = .ref a->P):P:=aI r c
theorem aR.mono {V:Va}{μ μ':Mu}(le:μ.le μ'){l:List AV}{vs:List Value}(r:aR V μ l vs):aR V μ' l vs:=by
 induction r with
 |nil=>exact .nil
 |cons h _ ih=>exact .cons (h.mono le) ih
theorem len_eq {α:Type}(l:List α):Mine.len l=l.length:=by
 induction l with
 |nil=>rfl
 |cons x r ih=>show Nat.add (Mine.len r) 1=_;rw [ih];rfl
theorem tV {α:Type}(l m:List α):Mine.lc l m=l++m:=by
 induction l with
 |nil=>rfl
 |cons x r ih=>show x::Mine.lc r m=_;rw [ih];rfl
theorem drop_eq {α:Type}:∀(n:Nat) (l:List α),Mine.drop n l=l.drop n
 |0,_=>rfl
 |_+1,[]=>rfl
 |n+1,_::r=>drop_eq n r
theorem qS {α:Type}:∀(n:Nat) (l:List α),Mine.take n l=l.take n
 |0,_=>rfl
 |_+1,[]=>rfl
 |n+1,x::r=>by show x::Mine.take n r=_;rw [qS n r];rfl
theorem aR.length {V:Va}{μ:Mu}{l:List AV}{vs:List Value}(r:aR V μ l vs):l.length=vs.length:=by
 induction r with
 |nil=>rfl
 |cons _ _ ih=>simp [ih]
theorem aR.len {V:Va}{μ:Mu}{l:List AV}{vs:List Value}(r:aR V μ l vs):Mine.len l=vs.length:=by rw [len_eq,r.length]
theorem aR.lc {V:Va}{μ:Mu}{l m:List AV}{vs ws:List Value}(r:aR V μ l vs) (q:aR V μ m ws):aR V μ (Mine.lc l m) (vs++ws):=by
 induction r with
 |nil=>exact q
 |cons h _ ih=>exact .cons h ih
theorem aR.drop {V:Va}{μ:Mu}:∀(n:Nat){l:List AV}{vs:List Value},aR V μ l vs->aR V μ (Mine.drop n l) (vs.drop n)
 |0,_,_,r=>by rw [List.drop_zero];exact r
 |n+1,_,_,.nil=>by rw [List.drop_nil];exact .nil
 |n+1,_,_,.cons _ r=>aR.drop n r
theorem aR.take {V:Va}{μ:Mu}:∀(n:Nat){l:List AV}{vs:List Value},aR V μ l vs->aR V μ (Mine.take n l) (vs.take n)
 |0,_,_,r=>by rw [List.take_zero];exact .nil
 |n+1,_,_,.nil=>by rw [List.take_nil];exact .nil
 |n+1,_,_,.cons h r=>.cons h (aR.take n r)
theorem aR.head {V:Va}{μ:Mu}{l:List AV}{vs:List Value}(r:aR V μ l vs):(Mine.head l=none/\vs=[])∨∃x v vs',Mine.head l=some x/\vs=v::vs'/\Rep V μ x v:=by
 cases r with
 |nil=>exact .inl ⟨rfl,rfl⟩
 |cons h _=>exact .inr (yEEEAA _ _ _ rfl rfl h)
theorem aR.at {V:Va}{μ:Mu}{l:List AV}{vs:List Value}(r:aR V μ l vs) (n:Nat):(Mine.head (Mine.drop n l)=none/\vs[n]? = none)∨∃x v,Mine.head (Mine.drop n l)=some x/\vs[n]? = some v/\Rep V μ x v:=by
 rcases (r.drop n).head with ⟨a,b⟩|⟨x,v,vs',a,b,c⟩
 ·refine .inl ⟨a,?_⟩
  have:=congrArg List.head? b
  rwa [List.head?_drop] at this
 ·refine .inr (yEEAA x v a ?_ c)
  have:=congrArg List.head? b
  rwa [List.head?_drop] at this
end
section
set_option genInjectivity false
set_option genSizeOf false
set_option genInjectivity true in
inductive CK where
 |n (i:Int)
 |s (x:Str)
 |nil
 |cons (x y:CK)
instance:DecidableEq CK:=λ_ _=>Classical.propDecidable _
def TupAt (h:Heap) (a:Addr) (P:List Value->Prop):Prop:=∃o items n,h.get? a=some o/\o.cls = .type "tuple" /\ o.data = .seq items n/\P items.toList
noncomputable def CK.P (h:Heap):CK->(Value->Prop) × (List Value->Prop)
 |.n i=>(λv=>∃t,v = .int i t,λ_=>False)
 |.s x=>(λv=>∃t,v = .str x t,λ_=>False)
 |.nil=>(λv=>∃a,v = .ref a/\TupAt h a λl=>l=[],λl=>l=[])
 |.cons x y=>(λv=>∃a,v = .ref a/\TupAt h a λl=>∃u r,l=u::r/\(CK.P h x).1 u/\(CK.P h y).2 r,λl=>∃u r,l=u::r/\(CK.P h x).1 u/\(CK.P h y).2 r)
abbrev CK.l8 (h:Heap) (k:CK) (v:Value):Prop:=(CK.P h k).1 v
abbrev CK.gE (h:Heap) (k:CK) (l:List Value):Prop:=(CK.P h k).2 l
def CK.is (h:Heap) (k:CK) (a:Addr):Prop:=TupAt h a (k.gE h)
theorem TupAt.inj {h:Heap}{a:Addr}{P Q:List Value->Prop}(x:TupAt h a P) (y:TupAt h a Q):∃l,P l/\Q l:=by
 refine cb x λo i n h1 _ h3 p=>?_;clear x
 refine cb y λo' i' n' g1 _ g3 q=>?_;clear y
 rw [h1] at g1;cases g1
 rw [h3] at g3;cases g3
 exact yEA _ p q
theorem TupAt.mono {h h':Heap}{a:Addr}{P Q:List Value->Prop}(k:∀o,h.get? a=some o->o.cls = .type "tuple" -> (∃i n,o.data = .seq i n)->h'.get? a=some o) (f:∀l,P l->Q l) (x:TupAt h a P):TupAt h' a Q:=by
 refine cb x λo i n h1 h2 h3 p=>?_;clear x
 exact yEEEAAA o i n (k _ h1 h2 ⟨_,_,h3⟩) h2 h3 (f _ p)
theorem CK.jp {h:Heap}{i:Int}{a:Addr}(x:(CK.n i).is h a):False:=by refine cb x λ_ _ _ _ _ _ q=>?_;clear x;exact q
theorem CK.jq {h:Heap}{i:Str}{a:Addr}(x:(CK.s i).is h a):False:=by refine cb x λ_ _ _ _ _ _ q=>?_;clear x;exact q
theorem CK.jr {h:Heap}{k:CK}{a:Addr}(x:k.is h a):k.l8 h (.ref a):=by
 cases k with
 |n i=>exact (CK.jp x).elim
 |s i=>exact (CK.jq x).elim
 |nil=>exact yEA a rfl x
 |cons y z=>exact yEA a rfl x
theorem CK.tW {h:Heap}{k:CK}{a:Addr}(x:k.l8 h (.ref a)):k.is h a:=by
 cases k with
 |n i=>obtain⟨_,q⟩:=x;cases q
 |s i=>obtain⟨_,q⟩:=x;cases q
 |nil=>refine aI x λb e q=>?_;clear x;cases e;exact q
 |cons y z=>refine aI x λb e q=>?_;clear x;cases e;exact q
theorem CK.shape {h:Heap}{k:CK}{v:Value}(x:k.l8 h v):(∃i t,k = .n i/\v = .int i t)∨(∃s t,k = .s s/\v = .str s t)∨∃a,v = .ref a/\k.is h a:=by
 cases k with
 |n i=>obtain⟨t,e⟩:=x;exact .inl (yEEA i t rfl e)
 |s i=>obtain⟨t,e⟩:=x;exact .inr (.inl (yEEA i t rfl e))
 |nil=>refine aI x λa e q=>?_;clear x;exact .inr (.inr (yEA a e q))
 |cons p q=>refine aI x λa e q=>?_;clear x;exact .inr (.inr (yEA a e q))
def dV (h h':Heap):Prop:=∀a o,h.get? a=some o->o.cls = .type "tuple" -> (∃i n,o.data = .seq i n)->h'.get? a=some o
theorem CK.ig {h h':Heap}(k:dV h h'):∀c:CK,(∀v,c.l8 h v->c.l8 h' v)/\(∀l,c.gE h l->c.gE h' l)
 |.n i=>⟨λv x=>x,λl x=>x⟩
 |.s i=>⟨λv x=>x,λl x=>x⟩
 |.nil=>⟨λv q_=>aI q_ λa e t=>yEA a e (t.mono (k a) λ_ p=>p),λl x=>x⟩
 |.cons y z=>
  have A:=CK.ig k y
  have B:=CK.ig k z
  have c:∀l:List Value,(∃u r,l=u::r/\y.l8 h u/\z.gE h r)->∃u r,l=u::r/\y.l8 h' u/\z.gE h' r:=λl q_=>bj q_ λu r e p q=>yEEAA u r e (A.1 u p) (B.2 r q)
  ⟨λv q_=>aI q_ λa e t=>yEA a e (t.mono (k a) c),c⟩
theorem CK.eP {h h':Heap}(k:dV h h'){c:CK}{a:Addr}(x:c.is h a):c.is h' a:=x.mono (k a) ((CK.ig k c).2)
theorem CK.nR {h:Heap}:∀c d:CK,(∀v,c.l8 h v->d.l8 h v->c=d)/\(∀l,c.gE h l->d.gE h l->c=d):=by
 intro c
 induction c with
 |n i=>
  intro d
  refine⟨λv x y=>?_,λl x _=>x.elim⟩
  obtain⟨t,rfl⟩:=x
  cases d with
  |n j=>obtain⟨u,e⟩:=y;cases e;rfl
  |s j=>obtain⟨u,e⟩:=y;cases e
  |nil=>refine aI y λu e _=>?_;clear y;cases e
  |cons _ _=>refine aI y λu e _=>?_;clear y;cases e
 |s i=>
  intro d
  refine⟨λv x y=>?_,λl x _=>x.elim⟩
  obtain⟨t,rfl⟩:=x
  cases d with
  |n j=>obtain⟨u,e⟩:=y;cases e
  |s j=>obtain⟨u,e⟩:=y;cases e;rfl
  |nil=>refine aI y λu e _=>?_;clear y;cases e
  |cons _ _=>refine aI y λu e _=>?_;clear y;cases e
 |nil=>
  intro d
  have L:∀l,CK.nil.gE h l->d.gE h l->CK.nil=d:=λl x y=>by
   have x:l=[]:=x
   subst x
   cases d with
   |n j=>exact y.elim
   |s j=>exact y.elim
   |nil=>rfl
   |cons _ _=>refine bf y λu r e _=>?_;clear y;cases e
  refine⟨λv x y=>?_,L⟩
  refine aI x λa r1_ q=>?_;clear x;subst r1_
  refine aI (TupAt.inj q (CK.tW y)) λl p q=>?_
  exact L l p q
 |cons c₁ c₂ ih₁ ih₂=>
  intro d
  have L:∀l,(CK.cons c₁ c₂).gE h l->d.gE h l->CK.cons c₁ c₂=d:=λl x y=>by
   refine bj x λu r r2_ p q=>?_;clear x;subst r2_
   cases d with
   |n j=>exact y.elim
   |s j=>exact y.elim
   |nil=>cases y
   |cons d₁ d₂=>
    refine bj y λu' r' e p' q'=>?_;clear y
    cases e
    rw [(ih₁ d₁).1 _ p p',(ih₂ d₂).2 _ q q']
  refine⟨λv x y=>?_,L⟩
  refine aI x λa r1_ q=>?_;clear x;subst r1_
  refine aI (TupAt.inj q (CK.tW y)) λl p q=>?_
  exact L l p q
noncomputable def CK.hh (w:World):CK->Int × List Int
 |.n i=>(hashInt i,[])
 |.s x=>(hashStr w x,[])
 |.nil=>(reduceHash (Builtin.Tuple.tupleHashOf []),[])
 |.cons x y=>(reduceHash (Builtin.Tuple.tupleHashOf ((CK.hh w x).1::(CK.hh w y).2)),(CK.hh w x).1::(CK.hh w y).2)
noncomputable def CK.dd:CK->Nat × Nat
 |.n _=>(1,0)
 |.s _=>(1,0)
 |.nil=>(1,0)
 |.cons x y=>((CK.dd x).1+(CK.dd y).2+1,(CK.dd x).1+(CK.dd y).2)
noncomputable def CK.fb:CK->Nat
 |.n _=>0
 |.s _=>0
 |.nil=>1
 |.cons x y=>max (CK.fb x+1) (CK.fb y)
noncomputable def CK.sh:CK->CK
 |.n _=>.n 0
 |.s _=>.s Str.empty
 |.nil=>.nil
 |.cons x y=>.cons (CK.sh x) (CK.sh y)
theorem TupAt.typeIs {s:Shared}{a:Addr}{P:List Value->Prop}(x:TupAt s.heap a P):s.TypeIs (.ref a) "tuple":=cC x λo _ _ ho hc _=>(yEA o ho hc)
section
variable {w:World}{A:Around}{E:Value->Shared->Prop}
theorem CK.yL {c:CK}{h:Heap}{a:Addr}(x:c.is h a):c.dd.1=c.dd.2+1/\(c.hh w).1=reduceHash (Builtin.Tuple.tupleHashOf (c.hh w).2):=by
 cases c with
 |n i=>exact (CK.jp x).elim
 |s i=>exact (CK.jq x).elim
 |nil=>exact⟨rfl,by rw [CK.hh]⟩
 |cons y z=>exact⟨rfl,by rw [CK.hh]⟩
theorem ii {D:Nat}(f:Value->Array Int->Sem (ForInStep (Array Int)))
  (hf:∀v b,f v b=(PySem.pyHash v >>= λi=>pure (.yield (b.push i))))
  (hp:∀(d:CK) (v:Value) (s:Shared) (Q:Int->Shared->Prop),d.fb<D->d.l8 s.heap v->Q (d.hh w).1 { s with toks:=s.toks+d.dd.1 }->wpAny (model pw w) A (PySem.pyHash v) Q E s) :
  ∀(c:CK) (s:Shared) (items:List Value) (b:Array Int) (Q:Array Int->Shared->Prop),c.fb<=D ->
   c.gE s.heap items->Q (b++(c.hh w).2.toArray) { s with toks:=s.toks+c.dd.2 }->wpAny (model pw w) A (forIn items b f) Q E s:=by
 intro c
 induction c with
 |n i=>intro s items b Q _ hl _;exact hl.elim
 |s i=>intro s items b Q _ hl _;exact hl.elim
 |nil=>
  intro s items b Q _ hl hq
  have hl:items=[]:=hl
  subst hl
  refine wpe (List.forIn_nil ..) ?_
  refine wpAny_pure ?_
  trivial
 |cons x y _ ihy=>
  intro s items b Q hD hl hq
  refine bj hl λu r r2_ hx hy=>?_;clear hl;subst r2_
  have hD:max (x.fb+1) y.fb<=D:=hD
  refine wpe (List.forIn_cons ..) ?_;rw [hf]
  refine wpAny_bind (wpAny_bind (hp x u s _ (by lia) hx (wpAny_pure ?_)))
  refine ihy _ r (b.push (x.hh w).1) Q (by lia) hy ?_
  have hq:Q (b++((x.hh w).1::(y.hh w).2).toArray) { s with toks:=s.toks+(x.dd.1+y.dd.2) }:=hq
  simpa [Nat.add_assoc] using hq
theorem CK.qT {h:Heap}{c:CK}{a:Addr}(x:c.is h a):0<c.fb:=by
 cases c with
 |n i=>exact (CK.jp x).elim
 |s i=>exact (CK.jq x).elim
 |nil=>exact Nat.one_pos
 |cons y z=>show 0<max (y.fb+1) z.fb;lia
theorem ij:∀(n:Nat) (c:CK) (A:Around) (E:Value->Shared->Prop) (v:Value) (s:Shared) (Q:Int->Shared->Prop),c.fb<n->A.units+c.fb<cLine->c.l8 s.heap v ->
  Q (c.hh w).1 { s with toks:=s.toks+c.dd.1 }->wpAny (model pw w) A (PySem.pyHash v) Q E s:=by
 intro n
 induction n with
 |zero=>intro c A E v s Q hn;lia
 |succ n ih=>
  intro c A E v s Q hn hu hv h
  rcases CK.shape hv with ⟨i,t,rfl,rfl⟩|⟨x,t,rfl,rfl⟩|⟨a,rfl,hk⟩
  ·exact wpAny_pyHash_int h
  ·exact wpAny_pyHash_str h
  ·have hT:=hk.typeIs
   obtain⟨e1,e2⟩:=CK.yL (w:=w) hk
   have hd0:=CK.qT hk
   rw [e1,e2] at h
   refine cb hk λo items n ho _ hd hi=>?_;clear hk
   delta PySem.pyHash
   first|delta pyHashByItsType|skip
   first|refine wpAny_bind (wpAny_cRoomFor_or (.inr (by lia)) ?_)|skip
   refine wpAny_bind (wpAny_specialOf hT F.slot_tuple_hash.lookup ?_)
   refine wif (by rw [beq_builtin_none];exact Bool.false_ne_true) ?_
   refine wpAny_bind (wpAny_specialOf hT F.slot_tuple_hash.lookup ?_)
   refine wpAny_bind (wpAny_callSpecialIfBoundUnlessNone?_slot hT F.slot_tuple_hash (wpAny_call_entry F.slot_tuple_hash hT F.entry_tuple_hash ?_ (F.args_tuple_hash_1 _)))
   show wpAny _ _ (Builtin.Tuple.tupleItemsOf (.ref a) >>= _) _ _ s
   refine wpAny_bind (wpAny_tupleItemsOf ho hd ?_)
   refine wpAny_bind ?_
   rw [<-Array.forIn_toList]
   refine ii (w:=w) (D:=c.fb) _ (λv b=>rfl) (λd v s' Q' hd hv q=>ih d A.in1 _ v s' Q' (by lia) (by skip;lia) hv q) c s items.toList #[] _ (Nat.le_refl _) hi ?_
   show wpAny _ _ (retInt (Builtin.Tuple.tupleHashOf (#[]++(c.hh w).2.toArray).toList)) _ _ _
   have e3:(#[]++(c.hh w).2.toArray:Array Int).toList=(c.hh w).2:=by simp
   rw [e3]
   refine wpAny_ret_mkInt ?_
   show wpAny _ _ (if (decide (-(2:Int) ^ 63<=Builtin.Tuple.tupleHashOf (c.hh w).2)&&decide (Builtin.Tuple.tupleHashOf (c.hh w).2<2 ^ 63))=true then _ else _) Q E _
   unfold reduceHash at h
   by_cases hr:(decide (-(2:Int) ^ 63<=Builtin.Tuple.tupleHashOf (c.hh w).2)&&decide (Builtin.Tuple.tupleHashOf (c.hh w).2<2 ^ 63))=true
   ·refine wit hr ?_
    rw [if_pos hr] at h
    exact wpAny_pure (by trivial)
   ·refine wif hr ?_
    rw [if_neg hr] at h
    exact wpAny_bind (wpAny_rule (wpAny_pure (by trivial)))
theorem CK.tX {h:Heap}:∀(c d:CK){l m:List Value},c.sh=d.sh->c.gE h l->d.gE h m->l.length=m.length:=by
 intro c
 induction c with
 |n i=>intro d l m _ hl;exact hl.elim
 |s i=>intro d l m _ hl;exact hl.elim
 |nil=>
  intro d l m e hl hm
  cases d with
  |n i=>exact hm.elim
  |s i=>exact hm.elim
  |nil=>have hl:l=[]:=hl;have hm:m=[]:=hm;rw [hl,hm]
  |cons _ _=>cases e
 |cons x y _ ihy=>
  intro d l m e hl hm
  cases d with
  |n i=>exact hm.elim
  |s i=>exact hm.elim
  |nil=>cases e
  |cons x' y'=>
   refine bj hl λu r r2_ _ hy=>?_;clear hl;subst r2_
   refine bj hm λu' r' r2_ _ hy'=>?_;clear hm;subst r2_
   have e:CK.cons x.sh y.sh=CK.cons x'.sh y'.sh:=e
   injection e with e1 e2
   simp [ihy y' e2 hy hy']
theorem gz3 {α β γ:Type}(J:α->β->γ->Prop){G:Prop}(k:∀I:α->β->γ->Prop,(∀a b c,I a b c ↔ J a b c)->G):G:=k J λ_ _ _=>Iff.rfl
theorem zip_step {h:Heap}{c d:CK}{xs ys:List Value}{u v:Value}{rest:List (Value × Value)}(hz:(u,v)::rest=List.zip xs ys) (hx:c.gE h xs) (hy:d.gE h ys){P:Prop}
  (k:∀c1 c2 d1 d2 xs' ys',c = .cons c1 c2->d = .cons d1 d2->c1.l8 h u->d1.l8 h v->c2.gE h xs'->d2.gE h ys'->rest=List.zip xs' ys'->P):P:=by
 cases c with
 |n=>exact hx.elim
 |s=>exact hx.elim
 |nil=>have hx:xs=[]:=hx;subst hx;cases hz
 |cons c1 c2=>
  refine bj hx λu' xs' r2_ h1 hx'=>?_;subst r2_
  cases d with
  |n=>exact hy.elim
  |s=>exact hy.elim
  |nil=>have hy:ys=[]:=hy;subst hy;cases hz
  |cons d1 d2=>
   refine bj hy λv' ys' r2_ h2 hy'=>?_;subst r2_
   cases hz
   exact k _ _ _ _ _ _ rfl rfl h1 h2 hx' hy' rfl
theorem zip_end {h:Heap}{c d:CK}{xs ys:List Value}(hz:[]=List.zip xs ys) (hx:c.gE h xs) (hy:d.gE h ys) (hs:c.sh=d.sh):c=d:=by
 cases c with
 |n=>exact hx.elim
 |s=>exact hx.elim
 |nil=>cases d with
  |n=>exact hy.elim
  |s=>exact hy.elim
  |nil=>rfl
  |cons _ _=>cases hs
 |cons c1 c2=>cases d with
  |n=>exact hy.elim
  |s=>exact hy.elim
  |nil=>cases hs
  |cons d1 d2=>refine bj hx λu' xs' r2_ _ _=>?_;subst r2_;refine bj hy λv' ys' r2_ _ _=>?_;subst r2_;cases hz
theorem ik:∀(n:Nat) (c d:CK) (A:Around) (E:Value->Shared->Prop) (u v:Value) (s:Shared) (Q:Bool->Shared->Prop),c.fb<n->d.fb<n->c.sh=d.sh->A.units+n<cLine->c.l8 s.heap u->d.l8 s.heap v ->
  Q (decide (c=d)) s->wpAny (model pw w) A (PySem.eqBool u v) Q E s:=by
 intro n
 induction n with
 |zero=>intro c d A E u v s Q hn;exact absurd hn (Nat.not_lt_zero _)
 |succ n ih=>
  intro c d A E u v s Q hc hd hsh hu hcv hdv h
  rcases CK.shape hcv with ⟨i,t,rfl,rfl⟩|⟨x,t,rfl,rfl⟩|⟨a,rfl,hk⟩
  ·rcases CK.shape hdv with ⟨j,t',rfl,rfl⟩|⟨x,t',rfl,rfl⟩|⟨b,rfl,hk'⟩
   ·refine wpAny_eqBool_int ?_
    have e:(i==j)=decide (CK.n i=CK.n j):=by by_cases q:i=j<;>simp [q]
    first|(rw [e];exact h)|exact (by simpa using h)
   ·cases hsh
   ·cases d with
    |n j=>exact (CK.jp hk').elim
    |s j=>exact (CK.jq hk').elim
    |nil=>cases hsh
    |cons _ _=>cases hsh
  ·rcases CK.shape hdv with ⟨j,t',rfl,rfl⟩|⟨y,t',rfl,rfl⟩|⟨b,rfl,hk'⟩
   ·cases hsh
   ·exact wpAny_eqBool_str (by simpa using h)
   ·cases d with
    |n j=>exact (CK.jp hk').elim
    |s j=>exact (CK.jq hk').elim
    |nil=>cases hsh
    |cons _ _=>cases hsh
  ·obtain⟨b,rfl,hk'⟩:∃b,v = .ref b/\d.is s.heap b:=by
    rcases CK.shape hdv with ⟨j,t',rfl,rfl⟩|⟨y,t',rfl,rfl⟩|⟨b,e,hk'⟩
    ·cases c with
     |n j=>exact (CK.jp hk).elim
     |s j=>exact (CK.jq hk).elim
     |nil=>cases hsh
     |cons _ _=>cases hsh
    ·cases c with
     |n j=>exact (CK.jp hk).elim
     |s j=>exact (CK.jq hk).elim
     |nil=>cases hsh
     |cons _ _=>cases hsh
    ·exact yEA b e hk'
   unfold eqBool
   try with_reducible refine wpAny_holding ?_
   show wpAny _ _ (if (Value.ref a==Value.ref b)=true then _ else _) Q E s
   by_cases hab:(Value.ref a==Value.ref b)=true
   ·refine wit hab ?_
    have e:a=b:=by have:=eq_of_beq hab;injection this
    subst e
    refine aI (TupAt.inj hk hk') λl p q=>?_
    obtain rfl:=(CK.nR c d).2 l p q
    exact wpAny_bind (wpAny_rule (wpAny_pure (by simpa using h)))
   ·refine wif hab ?_
    refine wpAny_bind (wpAny_richCompare_same_room (op:=.Eq) hk.typeIs hk'.typeIs F.slot_tuple_eq
     (wpAny_call_entry F.slot_tuple_eq hk.typeIs F.entry_tuple_eq ?_ (F.args_tuple_eq_2 _ _)) (by omega))
    have hTb:=hk'.typeIs
    refine cb hk λoa xs na hoa _ hda hia=>?_;clear hk
    refine cb hk' λob ys nb hob _ hdb hib=>?_
    show wpAny _ _ (isInstance (.ref b) (.type "tuple") >>= _) _ _ s
    refine wpAny_bind (wpAny_isInstance hTb isSubtype_tuple_tuple ?_)
    refine wif Bool.false_ne_true ?_
    refine wpAny_bind (wpAny_tupleItemsOf hoa hda ?_)
    refine wpAny_bind (wpAny_tupleItemsOf hob hdb ?_)
    refine wpAny_bind ?_
    have hlen:=CK.tX c d hsh hia hib
    refine gz3 (λ(rest:List (Value × Value)) (r:Option PySem.Fin × Unit) (s':Shared)=>r.1=none/\s'=s/\∃c' d' xs' ys',rest=List.zip xs' ys'/\CK.gE s.heap c' xs'/\CK.gE s.heap d' ys'/\c'.sh=d'.sh/\c'.fb<=n/\d'.fb<=n/\decide (c'=d')=decide (c=d)) λIv hv=>?_
    refine wpAny_forIn_list _ Iv _ ?_ ?_ _ _ ((hv _ _ _).mpr ?_)
    ·rintro⟨u,v⟩ rest r s' hI
     obtain⟨hr,rfl,c',d',xs',ys',hz,hx',hy',hsh',hc',hd',hdec⟩:=(hv _ _ _).mp hI
     refine zip_step hz hx' hy' λc1 c2 d1 d2 xs'' ys'' f1 f2 h1 h2 hx'' hy'' f3=>?_
     subst f1 f2 f3
     have hsh':CK.cons c1.sh c2.sh=CK.cons d1.sh d2.sh:=hsh'
     injection hsh' with e1 e2
     have hc':max (c1.fb+1) c2.fb<=n:=hc'
     have hd':max (d1.fb+1) d2.fb<=n:=hd'
     refine wpAny_bind (ih c1 d1 _ _ _ _ _ _ (Nat.le_trans (Nat.le_max_left _ _) hc') (Nat.le_trans (Nat.le_max_left _ _) hd') e1 (Nat.add_right_comm A.units 1 n▸hu) h1 h2 ?_)
     by_cases hk:c1=d1
     ·subst hk
      rw [decide_eq_true rfl]
      refine wif Bool.false_ne_true ?_
      refine wpAny_pure ((hv _ _ _).mpr ⟨rfl,rfl,c2,d2,xs'',ys'',rfl,hx'',hy'',e2,Nat.le_trans (Nat.le_max_right _ _) hc',Nat.le_trans (Nat.le_max_right _ _) hd',?_⟩)
      rw [<-hdec]
      by_cases hxy:c2=d2
      ·simp [hxy]
      ·simp [hxy]
     ·rw [decide_eq_false hk]
      refine wit rfl ?_
      have hf:decide (c=d)=false:=by rw [<-hdec];simp [hk]
      rw [hf] at h
      exact wpAny_bind (wpAny_pure (wpAny_pure (wpAny_pure (yEAA _ rfl (λe=>nomatch e) (wpAny_truthy_bool h)))))
    ·rintro⟨r1,r2⟩ s' hI
     obtain⟨hr,rfl,c',d',xs',ys',hz,hx',hy',hsh',hc',hd',hdec⟩:=(hv _ _ _).mp hI
     simp only at hr
     subst hr
     refine wpAny_pure ?_
     have hcd:=zip_end hz hx' hy' hsh'
     have hfin:(xs.size==ys.size)=decide (c=d):=by
      rw [<-hdec,decide_eq_true hcd]
      simpa using hlen
     refine yEAA _ rfl (λe=>nomatch e) ?_
     show wpAny _ _ (truthOfDropped (.bool (xs.size==ys.size))) _ _ _
     rw [hfin];exact wpAny_truthy_bool h
    ·exact⟨rfl,rfl,c,d,xs.toList,ys.toList,rfl,hia,hib,hsh,by exact Nat.le_of_lt_succ ‹_›,by exact Nat.le_of_lt_succ ‹_›,rfl⟩
theorem kx:∀(n:Nat) (c:CK) (A:Around) (E:Value->Shared->Prop) (v:Value) (s:Shared) (Q:Bool->Shared->Prop),c.fb<=n->c.l8 s.heap v ->
  Q true s->wpAny (model pw w) A (eqIsQuiet n v) Q E s:=by
 intro n
 induction n with
 |zero=>
  intro c A E v s Q hc hv h
  rcases CK.shape hv with ⟨i,t,rfl,rfl⟩|⟨x,t,rfl,rfl⟩|⟨a,rfl,hk⟩
  ·exact wpAny_of_eq (eqIsQuiet_byValue _ rfl) h
  ·exact wpAny_of_eq (eqIsQuiet_byValue _ rfl) h
  ·have:=CK.qT hk;lia
 |succ n ih=>
  intro c A E v s Q hc hv h
  rcases CK.shape hv with ⟨i,t,rfl,rfl⟩|⟨x,t,rfl,rfl⟩|⟨a,rfl,hk⟩
  ·exact wpAny_of_eq (eqIsQuiet_byValue _ rfl) h
  ·exact wpAny_of_eq (eqIsQuiet_byValue _ rfl) h
  ·have hT:=hk.typeIs
   refine cb hk λo items m ho _ hd hi=>?_;clear hk
   unfold eqIsQuiet
   refine wpAny_bind (wpAny_specialOf hT F.slot_tuple_eq.lookup ?_)
   show wpAny _ _ (isInstance (.ref a) (.type "tuple") >>= _) _ _ s
   refine wpAny_bind (wpAny_isInstance hT isSubtype_tuple_tuple ?_)
   refine wif Bool.false_ne_true ?_
   refine wpAny_bind (wpAny_seqItems ho hd ?_)
   refine wpAny_bind ?_
   show wpAny _ _ (forIn items _ _) _ _ s
   rw [<-Array.forIn_toList]
   refine wpAny_forIn_list _ (λrest r s'=>r.1=none/\s'=s/\∃c':CK,c'.gE s.heap rest/\c'.fb<=n+1) _ ?_ ?_ _ _ ⟨rfl,rfl,c,hi,hc⟩
   ·rintro v rest r s' ⟨hr,rfl,c',hl,hd'⟩
    cases c' with
    |n j=>exact hl.elim
    |s j=>exact hl.elim
    |nil=>cases hl
    |cons c1 c2=>
     refine bj hl λu r' e h1 h2=>?_;clear hl
     cases e
     have hd':max (c1.fb+1) c2.fb<=n+1:=hd'
     refine wpAny_bind (ih c1 _ _ _ _ _ (by lia) h1 ?_)
     refine wif Bool.false_ne_true ?_
     exact wpAny_pure ⟨rfl,rfl,c2,h2,by lia⟩
   ·rintro⟨r1,r2⟩ s' ⟨hr,rfl,_⟩
    simp only at hr
    subst hr
    exact wpAny_pure h
end
def aK (w:World) (S:CK):HeapKind pw w CK where
 is:=λh k a=>k.is h a/\k.sh=S/\k.fb<=8
 hash:=λk=>(k.hh w).1
 draws:=λk=>k.dd.1
 room:=λA=>A.units+9<cLine
 inj:=λhx hy=>by refine aI (TupAt.inj hx.1 hy.1) λl p q=>?_;exact (CK.nR _ _).2 l p q
 keeps:=λx ho hd hs=>⟨CK.eP (λb o hb hc ⟨i,n,hq⟩=>(hs.2 b λe=>by subst e;rw [ho] at hb;cases hb;rw [hd] at hq;cases hq).trans hb) x.1,x.2⟩
 pyHash:=λhu hk h=>ij 9 _ _ _ _ _ _ (by have:=hk.2.2;exact Nat.lt_succ_of_le ‹_›) (by have:=hk.2.2;lia) (CK.jr hk.1) h
 eqBool:=λhu hx hy h=>ik 9 _ _ _ _ _ _ _ _ (by have:=hx.2.2;exact Nat.lt_succ_of_le ‹_›) (by have:=hy.2.2;exact Nat.lt_succ_of_le ‹_›) (hx.2.1.trans hy.2.1.symm) (by assumption) (CK.jr hx.1) (CK.jr hy.1) h
 quiet:=λhk h=>kx 8 _ _ _ _ _ _ hk.2.2 (CK.jr hk.1) h
end
section
set_option genInjectivity false
set_option genSizeOf false
structure Wd where
 μ:Mu
 δ:Mu
 lk:Addr->Prop
def Wd.own (W:Wd) (b:Addr):Prop:=(∃p,W.μ p=some b)∨∃p,W.δ p=some b
def Wd.le (W W':Wd):Prop:=W.μ.le W'.μ/\W.δ.le W'.δ/\W.lk=W'.lk
theorem Wd.le_refl (W:Wd):W.le W:=⟨Mu.le_refl _,Mu.le_refl _,rfl⟩
theorem Wd.le_trans {W W' W'':Wd}(x:W.le W') (y:W'.le W''):W.le W'':=⟨Mu.le_trans x.1 y.1,Mu.le_trans x.2.1 y.2.1,x.2.2.trans y.2.2⟩
noncomputable def Va.ck (V:Va):Ky->Option CK
 |.n k=>some (.n k)
 |.s i=>(V.str i).map .s
 |.u i=>some (.n (V.un i))
 |.nil=>some .nil
 |.cons x y=>(V.ck x).bind λa=>(V.ck y).map λb=>.cons a b
inductive cK (V:Va) (μ:Mu):List DE->List (CK × Addr × Value)->Prop where
 |nil:cK V μ [] []
 |cons {q:Ky}{k v:AV}{l:List DE}{c:CK}{b:Addr}{x:Value}{xs:List (CK × Addr × Value)}:V.ck q=some c->Rep V μ k (.ref b)->Rep V μ v x->cK V μ l xs->cK V μ (.mk q k v::l) ((c,b,x)::xs)
inductive cU (V:Va) (μ:Mu):List IE->List (Int × Value)->Prop where
 |nil:cU V μ [] []
 |cons {k:Nat}{v:AV}{l:List IE}{x:Value}{xs:List (Int × Value)}:Rep V μ v x->cU V μ l xs->cU V μ (.mk k v::l) (((k:Int),x)::xs)
theorem cK.mono {V:Va}{μ μ':Mu}(le:μ.le μ'){l:List DE}{xs:List (CK × Addr × Value)}(r:cK V μ l xs):cK V μ' l xs:=by
 induction r with
 |nil=>exact .nil
 |cons a b c _ ih=>exact .cons a (b.mono le) (c.mono le) ih
theorem cU.mono {V:Va}{μ μ':Mu}(le:μ.le μ'){l:List IE}{xs:List (Int × Value)}(r:cU V μ l xs):cU V μ' l xs:=by
 induction r with
 |nil=>exact .nil
 |cons c _ ih=>exact .cons (c.mono le) ih
def kz (V:Va) (μ:Mu) (f:Tr AV) (m:Str->Option Value):Prop:=
 ∀q x,V.attr q=some x->(∀av,f.get q=some av->∃v,m x=some v/\Rep V μ av v)/\(f.get q=none->m x=none)
theorem kz.mono {V:Va}{μ μ':Mu}(le:μ.le μ'){f:Tr AV}{m:Str->Option Value}(r:kz V μ f m):kz V μ' f m:=
 λq x e=>⟨λav h=>aI ((r q x e).1 av h) λv a b=>(yEA v a (b.mono le)),(r q x e).2⟩
theorem kz.set {V:Va}{μ:Mu}{f:Tr AV}{m:Str->Option Value}(r:kz V μ f m){q:P4}{x:Str}{av:AV}{v:Value}(e:V.attr q=some x) (h:Rep V μ av v) :
  kz V μ (f.set av q) (λy=>if y=x then some v else m y):=by
 intro q' x' e'
 by_cases hq:q=q'
 ·subst hq
  rw [e] at e';cases e'
  refine⟨λav' h'=>?_,λh'=>?_⟩
  ·rw [Tr.au] at h';cases h';exact yEA v (if_pos rfl) h
  ·rw [Tr.au] at h';cases h'
 ·have hx:x' ≠ x:=λex=>hq (V.qR e (ex▸e'))
  refine (Eq.symm (Tr.aw _ _ _ _ hq)) ▸ ?_
  simp only [if_neg hx]
  exact r q' x' e'
section
variable (w:World) (V:Va)
def bV (W:Wd) (h:Heap) (a:Addr) (p:P4):AO->Prop
 |.inst c f=>∃d C m,W.δ p=some d/\V.cls c=some C/\h.get? a=some (instObj C d)/\h.Ns1 d m/\Within m V.names/\kz V W.μ f m/\∀q av,f.get q=some av->V.fld c q=true
 |.list l=>∃vs n,h.get? a=some { cls:=.type "list",data:=.seq vs n }/\aR V W.μ l vs.toList
 |.tup l=>∃vs n,h.get? a=some { cls:=.type "tuple",data:=.seq vs n }/\aR V W.μ l vs.toList
 |.dict l=>∃S xs,h.DictOfH (aK w S) a xs/\cK V W.μ l xs
 |.nC l=>h.get? a=some { cls:=.type "bytearray",data:=.bytearray (l.map V.byte).toArray }
 |.src l=>∃b m t u n,h.get? a=some { cls:=.type "list",data:=.seq #[.int b t,.int m u] n }/\V.draws l b m
 |.ji lo hi=>∃t u x,IsRange h a lo hi 1 t u x
 |.bk l=>∃kvs,h.DictOf (intKind pw w) a kvs/\cU V W.μ l kvs
 |.ld l=>∃S xs,h.DictOfH (aK w S) a xs/\cK V W.μ l xs
 |.li l=>∃kvs,h.DictOf (intKind pw w) a kvs/\cU V W.μ l kvs
noncomputable def lm:AO->Bool
 |.ld _=>true
 |.li _=>true
 |_=>false
theorem bV.mono {w:World}{V:Va}{W W':Wd}{h h':Heap}{a:Addr}{p:P4}{o:AO}(le:W.le W') (ka:∀x,h.get? a=some x->h'.get? a=some x) (kd:∀d,W.δ p=some d->∀x,h.get? d=some x->h'.get? d=some x)
  (tk:dV h h') (r:bV w V W h a p o):bV w V W' h' a p o:=by
 cases o with
 |inst c f=>
  refine bG λ_ kk=>?_
  obtain⟨d,C,m,h1,h2,h3,⟨o,es,ep,n1,n2⟩,h4,h5,h6⟩:=r
  refine kk ?_
  exact yEEEAAAAAA d C m (le.2.1 p d h1) h2 (ka _ h3) ⟨o,es,ep,kd d h1 o n1,n2⟩ h4 (h5.mono le.1) h6
 |list l=>refine bf r λvs n h1 h2=>?_;clear r;exact yEEA vs n (ka _ h1) (h2.mono le.1)
 |tup l=>refine bf r λvs n h1 h2=>?_;clear r;exact yEEA vs n (ka _ h1) (h2.mono le.1)
 |dict l=>
  refine bG λ_ kk=>?_
  refine bf r λS xs q2_ h2=>?_;clear r;obtain⟨o,es,ep,g1,g2,g3,g4,g5,g6⟩:=q2_
  refine kk ?_
  exact yEEA S xs ⟨o,es,ep,ka _ g1,g2,g3,g4,λx hx=>⟨CK.eP tk (g5 x hx).1,(g5 x hx).2⟩,g6⟩ (h2.mono le.1)
 |nC l=>exact ka _ r
 |src l=>obtain⟨b,m,t,u,n,h1,h2⟩:=r;exact yEEEEEA b m t u n (ka _ h1) h2
 |ji lo hi=>obtain⟨t,u,x,h1⟩:=r;exact yEEE t u x (ka _ h1)
 |bk l=>refine aI r λkvs q1_ h2=>?_;clear r;obtain⟨o,es,ep,g1,g2⟩:=q1_;exact yEA kvs ⟨o,es,ep,ka _ g1,g2⟩ (h2.mono le.1)
 |ld l=>
  refine bG λ_ kk=>?_
  refine bf r λS xs q2_ h2=>?_;clear r;obtain⟨o,es,ep,g1,g2,g3,g4,g5,g6⟩:=q2_
  refine kk ?_
  exact yEEA S xs ⟨o,es,ep,ka _ g1,g2,g3,g4,λx hx=>⟨CK.eP tk (g5 x hx).1,(g5 x hx).2⟩,g6⟩ (h2.mono le.1)
 |li l=>refine aI r λkvs q1_ h2=>?_;clear r;obtain⟨o,es,ep,g1,g2⟩:=q1_;exact yEA kvs ⟨o,es,ep,ka _ g1,g2⟩ (h2.mono le.1)
structure Inv (oh:Heap) (W:Wd) (h:H) (hp:Heap):Prop where
 bq:∀b o,oh.get? b=some o->hp.get? b=some o
 low:∀b,W.own b->oh.get? b=none
 lt:∀b,W.own b->b<hp.objs.size
 fp:∀p q a,W.μ p=some a->W.μ q=some a->p=q
 fR:∀p q a,W.δ p=some a->W.δ q=some a->p=q
 apart:∀p q a,W.μ p=some a->W.δ q ≠ some a
 nE:∀p a,W.μ p=some a->p.rank<h.nx.rank
 ez:∀p a,W.δ p=some a->p.rank<h.nx.rank
 obj:∀p o,h.t.get p=some o->∃a,W.μ p=some a/\bV w V W hp a p o
 lk:∀b,W.lk b->∃p o,W.μ p=some b/\h.t.get p=some o/\lm o=true
end
def yM (mt:Addr->Prop) (W:Wd) (hp hp':Heap):Prop:=
 ∀b o,hp.get? b=some o->((¬W.own b/\¬mt b)∨(o.cls = .type "tuple" /\ ∃i n,o.data = .seq i n)∨W.lk b)->hp'.get? b=some o
structure Step (mt:Addr->Prop) (W:Wd) (s:Shared) (W':Wd) (s':Shared):Prop where
 le:W.le W'
 fresh:∀b,W'.own b->W.own b∨s.heap.objs.size<=b
 keep:yM mt W s.heap s'.heap
 size:s.heap.objs.size<=s'.heap.objs.size
 gens:s'.gens=s.gens
 os:s'.os=s.os
abbrev none_:Addr->Prop:=λ_=>False
theorem Step.refl {mt:Addr->Prop}(W:Wd) (s:Shared):Step mt W s W s:=⟨W.le_refl,λb h=>.inl h,λb o e _=>e,Nat.le_refl _,rfl,rfl⟩
theorem Step.trans {mt:Addr->Prop}{W W' W'':Wd}{s s' s'':Shared}(x:Step mt W s W' s') (y:Step mt W' s' W'' s''):Step mt W s W'' s'':=
 ⟨Wd.le_trans x.le y.le,λb h=>(y.fresh b h).elim (x.fresh b) λq=>.inr (Nat.le_trans x.size q),
  λb o e c=>y.keep b o (x.keep b o e c) (c.imp (λq_=>q_.elim λa m=>⟨λq=>(x.fresh b q).elim a λz=>absurd (Heap.lt_size e) (Nat.not_lt.mpr z),m⟩) λz=>z.imp id λl=>x.le.2.2▸l),
  Nat.le_trans x.size y.size,y.gens.trans x.gens,y.os.trans x.os⟩
theorem Step.weaken {mt mt':Addr->Prop}{W W':Wd}{s s':Shared}(x:Step mt W s W' s') (h:∀b,mt b->mt' b):Step mt' W s W' s':=
 ⟨x.le,x.fresh,λb o e c=>x.keep b o e (c.imp (λq_=>q_.elim λa m=>⟨a,λq=>m (h b q)⟩) λz=>z),x.size,x.gens,x.os⟩
theorem Step.new {mt mt':Addr->Prop}{W W':Wd}{s s':Shared}(x:Step mt' W s W' s') (h:∀b,mt' b->mt b∨s.heap.objs.size<=b):Step mt W s W' s':=
 ⟨x.le,x.fresh,λb o e c=>x.keep b o e (c.imp (λq_=>q_.elim λa m=>⟨a,λq=>(h b q).elim m λz=>absurd (Heap.lt_size e) (Nat.not_lt.mpr z)⟩) λz=>z),x.size,x.gens,x.os⟩
theorem yM.tup {mt:Addr->Prop}{W:Wd}{hp hp':Heap}(k:yM mt W hp hp'):dV hp hp':=λa o e c d=>k a o e (.inr (.inl ⟨c,d⟩))
theorem Step.toks {mt:Addr->Prop}{W W':Wd}{s s':Shared}(x:Step mt W s W' s') (t:Tok):Step mt W s W' { s' with toks:=t }:=⟨x.le,x.fresh,x.keep,x.size,x.gens,x.os⟩
section
variable {w:World}{V:Va}{oh:Heap}{W:Wd}{h:H}{hp hp':Heap}
theorem Inv.at (I:Inv w V oh W h hp){p:P4}{o:AO}{a:Addr}(e:h.t.get p=some o) (ea:W.μ p=some a):bV w V W hp a p o:=by
 refine aI (I.obj p o e) λb hb r=>?_
 rw [ea] at hb;cases hb;exact r
theorem Inv.ob (I:Inv w V oh W h hp) (p:P4) (o:AO) (e:h.t.get p=some o){P:Prop}(c:∀a,W.μ p=some a->bV w V W hp a p o->P):P:=aI (I.obj p o e) c
theorem Inv.lkk (I:Inv w V oh W h hp) (b:Addr) (e:W.lk b){P:Prop}(c:∀p o,W.μ p=some b->h.t.get p=some o->lm o=true->P):P:=bj (I.lk b e) c
theorem Inv.lst (I:Inv w V oh W h hp){p:P4}{l:List AV}{a:Addr}(e:h.t.get p=some (.list l)) (ea:W.μ p=some a){P:Prop}(c:∀vs n,hp.get? a=some { cls:=.type "list",data:=.seq vs n }->aR V W.μ l vs.toList->P):P:=bf (I.at e ea) c
theorem Inv.tpl (I:Inv w V oh W h hp){p:P4}{l:List AV}{a:Addr}(e:h.t.get p=some (.tup l)) (ea:W.μ p=some a){P:Prop}(c:∀vs n,hp.get? a=some { cls:=.type "tuple",data:=.seq vs n }->aR V W.μ l vs.toList->P):P:=bf (I.at e ea) c
theorem Inv.nD (I:Inv w V oh W h hp){p:P4}{l:List DE}{a:Addr}(e:h.t.get p=some (.dict l)) (ea:W.μ p=some a){P:Prop}(c:∀S xs,hp.DictOfH (aK w S) a xs->cK V W.μ l xs->P):P:=bf (I.at e ea) c
theorem tY {h:H}{p:P4}{k:AO->Bool}(e:h.get p k=true):∃o,h.t.get p=some o/\k o=true:=by
 cases h with
 |mk t n=>
  cases q:t.get p with
  |none=>unfold H.get at e;dsimp only at e;rw [q] at e;exact nf e
  |some o=>unfold H.get at e;dsimp only at e;rw [q] at e;exact yEA o q e
theorem H_k {h:H}{p:P4}{k:AO->Bool}(e:h.get p k=true){P:Prop}(c_:∀o,h.t.get p=some o->k o=true->P):P:=aI (tY e) c_
theorem di {α:Type}{o:Option α}{k:α->Bool}(e:opt o k=true):∃x,o=some x/\k x=true:=by
 cases o with
 |none=>exact nf e
 |some x=>exact yEA x rfl e
theorem opt_k {α:Type}{o:Option α}{k:α->Bool}(e:opt o k=true){P:Prop}(c_:∀x,o=some x->k x=true->P):P:=aI (di e) c_
theorem dy {h:H}{p:P4}{o:AO}{k:H->Bool}(e:h.put p o k=true):k (.mk (h.t.set o p) h.nx)=true:=by cases h;exact e
theorem dW {h:H}{o:AO}{k:K1}(e:alloc o h k=true):k (.ref h.nx) (.mk (h.t.set o h.nx) h.nx.succ)=true:=by cases h;exact e
theorem Inv.keep (I:Inv w V oh W h hp){mt:Addr->Prop}(k:∀b o,hp.get? b=some o->¬mt b->hp'.get? b=some o) (sz:hp.objs.size<=hp'.objs.size) (hm:∀b,mt b->¬W.own b/\oh.get? b=none)
  (ht:∀b o,mt b->hp.get? b=some o->¬(o.cls = .type "tuple" /\ ∃i n,o.data = .seq i n)):Inv w V oh W h hp':=by
 have tk:dV hp hp':=λa o e c d=>k a o e λq=>ht a o q e ⟨c,d⟩
 refine⟨λb o e=>k b o (I.bq b o e) λq=>(by rw [(hm b q).2] at e;exact nn e),I.low,λb q=>Nat.lt_of_lt_of_le (I.lt b q) sz,I.fp,I.fR,I.apart,I.nE,I.ez,λp o e=>?_,I.lk⟩
 refine I.ob p o e λa ea r=>?_
 exact yEA a ea (r.mono W.le_refl (λx q=>k a x q λz=>(hm a z).1 (.inl ⟨p,ea⟩)) (λd ed x q=>k d x q λz=>(hm d z).1 (.inr ⟨p,ed⟩)) tk)
theorem Inv.push (I:Inv w V oh W h hp) (o:Obj):Inv w V oh W h (hp.push o):=
 I.keep (mt:=none_) (λb x e _=>Heap.get?_push_of_some o e) (by rw [Heap.size_push];exact Nat.le_add_right _ _) (λb q=>q.elim) (λb o q=>q.elim)
theorem Inv.nS (I:Inv w V oh W h hp){p:P4}{a:Addr}{o:AO}(e:h.t.get p=some o) (ea:W.μ p=some a) (hl:lm o=false):¬W.lk a:=λq=>by
 refine I.lkk a q λp' o' e1 e2 e3=>?_
 obtain rfl:=I.fp p p' a ea e1
 rw [e] at e2;cases e2
 rw [hl] at e3;exact nf e3
theorem Inv.Bn (I:Inv w V oh W h hp){p:P4}{d:Addr}(ed:W.δ p=some d):¬W.lk d:=λq=>by
 refine I.lkk d q λp' o' e1 e2 e3=>?_
 exact I.apart p' p d e1 ed
theorem Inv.xY (I:Inv w V oh W h hp){p:P4}(hp':∀a,W.μ p=some a->¬W.lk a) (o:AO) (nx:P4):∀b,W.lk b->∃p' o',W.μ p'=some b/\(H.mk (h.t.set o p) nx).t.get p'=some o'/\lm o'=true:=λb q=>by
 refine I.lkk b q λp' o' e1 e2 e3=>?_
 refine yEEAA p' o' e1 ?_ e3
 have:p ≠ p':=λe=>hp' b (e▸e1) q
 refine (Eq.symm (Tr.aw _ _ _ _ this)) ▸ ?_;exact e2
theorem Inv.upd (I:Inv w V oh W h hp){p:P4}{a:Addr}{o:AO}{x:Obj}(ea:W.μ p=some a) (ex:hp.get? a=some x) (hx:¬(x.cls = .type "tuple" /\ ∃i n,x.data = .seq i n)) (hs:Heap.SameBut a hp hp') (hk:¬W.lk a)
  (hr:bV w V W hp' a p o):Inv w V oh W (.mk (h.t.set o p) h.nx) hp':=by
 have tk:dV hp hp':=λb y e c d=>(hs.2 b λq=>by subst q;rw [ex] at e;cases e;exact hx ⟨c,d⟩).trans e
 refine⟨λb y e=>(hs.2 b λq=>(by subst q;rw [I.low b (.inl ⟨p,ea⟩)] at e;exact nn e)).trans (I.bq b y e),I.low,λb q=>by refine (Eq.symm hs.1) ▸ ?_;exact I.lt b q,I.fp,I.fR,I.apart,I.nE,I.ez,λq y e=>?_,I.xY (λb e=>(by rw [ea] at e;cases e;exact hk)) o h.nx⟩
 by_cases hq:p=q
 ·subst hq
  have e':(h.t.set o p).get p=some y:=e
  rw [Tr.au] at e';cases e'
  exact yEA a ea hr
 ·have e':(h.t.set o p).get q=some y:=e
  rw [Tr.aw _ _ _ _ hq] at e'
  refine I.ob q y e' λb eb r=>?_
  refine yEA b eb (r.mono W.le_refl (λz e2=>(hs.2 b λq2=>hq (I.fp p q a ea (q2▸eb))).trans e2) (λd ed z e2=>(hs.2 d λq2=>I.apart p q a ea (q2▸ed)).trans e2) tk)
theorem Inv.updD (I:Inv w V oh W h hp){p:P4}{a d:Addr}{o:AO}{x:Obj}(ea:W.μ p=some a) (ed:W.δ p=some d) (ex:hp.get? d=some x) (hx:¬(x.cls = .type "tuple" /\ ∃i n,x.data = .seq i n)) (hs:Heap.SameBut d hp hp') (hk:¬W.lk a)
  (hr:bV w V W hp' a p o):Inv w V oh W (.mk (h.t.set o p) h.nx) hp':=by
 have tk:dV hp hp':=λb y e c dd=>(hs.2 b λq=>by subst q;rw [ex] at e;cases e;exact hx ⟨c,dd⟩).trans e
 refine⟨λb y e=>(hs.2 b λq=>(by subst q;rw [I.low b (.inr ⟨p,ed⟩)] at e;exact nn e)).trans (I.bq b y e),I.low,λb q=>by refine (Eq.symm hs.1) ▸ ?_;exact I.lt b q,I.fp,I.fR,I.apart,I.nE,I.ez,λq y e=>?_,I.xY (λb e=>(by rw [ea] at e;cases e;exact hk)) o h.nx⟩
 by_cases hq:p=q
 ·subst hq
  have e':(h.t.set o p).get p=some y:=e
  rw [Tr.au] at e';cases e'
  exact yEA a ea hr
 ·have e':(h.t.set o p).get q=some y:=e
  rw [Tr.aw _ _ _ _ hq] at e'
  refine I.ob q y e' λb eb r=>?_
  refine yEA b eb (r.mono W.le_refl (λz e2=>(hs.2 b λq2=>I.apart q p b eb (q2▸ed)).trans e2) (λd' ed' z e2=>(hs.2 d' λq2=>hq (I.fR p q d ed (q2▸ed'))).trans e2) tk)
def Wd.ext (W:Wd) (n:P4) (a:Addr) (d:Option Addr):Wd:=⟨λp=>if p=n then some a else W.μ p,λp=>if p=n then d else W.δ p,W.lk⟩
theorem Inv.new (I:Inv w V oh W h hp){a:Addr}{d:Option Addr}{o:AO}(ha:¬W.own a) (hd:∀b,d=some b->¬W.own b/\b ≠ a/\oh.get? b=none/\b<hp.objs.size) (hlow:oh.get? a=none) (hlt:a<hp.objs.size)
  (hr:bV w V (W.ext h.nx a d) hp a h.nx o):W.le (W.ext h.nx a d)/\Inv w V oh (W.ext h.nx a d) (.mk (h.t.set o h.nx) h.nx.succ) hp:=by
 have nμ:W.μ h.nx=none:=by cases q:W.μ h.nx with|none=>rfl|some b=>exact absurd (I.nE _ _ q) (Nat.lt_irrefl _)
 have nδ:W.δ h.nx=none:=by cases q:W.δ h.nx with|none=>rfl|some b=>exact absurd (I.ez _ _ q) (Nat.lt_irrefl _)
 have le:W.le (W.ext h.nx a d):=⟨λp b e=>by show (if p=h.nx then _ else _)=_;rw [if_neg λq=>(by subst q;rw [nμ] at e;exact nn e)];exact e,λp b e=>by show (if p=h.nx then _ else _)=_;rw [if_neg λq=>(by subst q;rw [nδ] at e;exact nn e)];exact e,rfl⟩
 have own:∀b,(W.ext h.nx a d).own b->W.own b∨b=a∨d=some b:=by
  rintro b (⟨p,e⟩|⟨p,e⟩)
  ·have e:(if p=h.nx then some a else W.μ p)=some b:=e
   split at e
   ·cases e;exact .inr (.inl rfl)
   ·exact .inl (.inl ⟨p,e⟩)
  ·have e:(if p=h.nx then d else W.δ p)=some b:=e
   split at e
   ·exact .inr (.inr e)
   ·exact .inl (.inr ⟨p,e⟩)
 have rk:(H.mk (h.t.set o h.nx) h.nx.succ).nx.rank=h.nx.rank+1:=P4.ll _
 refine⟨le,I.bq,λb q=>?_,λb q=>?_,λp q b e1 e2=>?_,λp q b e1 e2=>?_,λp q b e1 e2=>?_,λp b e=>?_,λp b e=>?_,λp y e=>?_,λb q=>?_⟩
 ·rcases own b q with q|rfl|q
  ·exact I.low b q
  ·exact hlow
  ·exact (hd b q).2.2.1
 ·rcases own b q with q|rfl|q
  ·exact I.lt b q
  ·exact hlt
  ·exact (hd b q).2.2.2
 ·have e1:(if p=h.nx then some a else W.μ p)=some b:=e1
  have e2:(if q=h.nx then some a else W.μ q)=some b:=e2
  split at e1<;>split at e2
  ·rename_i x y;rw [x,y]
  ·cases e1;exact absurd (.inl ⟨q,e2⟩) ha
  ·cases e2;exact absurd (.inl ⟨p,e1⟩) ha
  ·exact I.fp p q b e1 e2
 ·have e1:(if p=h.nx then d else W.δ p)=some b:=e1
  have e2:(if q=h.nx then d else W.δ q)=some b:=e2
  split at e1<;>split at e2
  ·rename_i x y;rw [x,y]
  ·exact absurd (.inr ⟨q,e2⟩) (hd b e1).1
  ·exact absurd (.inr ⟨p,e1⟩) (hd b e2).1
  ·exact I.fR p q b e1 e2
 ·have e1:(if p=h.nx then some a else W.μ p)=some b:=e1
  have e2:(if q=h.nx then d else W.δ q)=some b:=e2
  split at e1<;>split at e2
  ·cases e1;exact (hd a e2).2.1 rfl
  ·cases e1;exact ha (.inr ⟨q,e2⟩)
  ·exact (hd b e2).1 (.inl ⟨p,e1⟩)
  ·exact I.apart p q b e1 e2
 ·refine (Eq.symm rk) ▸ ?_
  have e:(if p=h.nx then some a else W.μ p)=some b:=e
  split at e
  ·rename_i x;refine (Eq.symm x) ▸ ?_;exact Nat.le_refl _
  ·have:=I.nE p b e;exact Nat.le_succ_of_le ‹_›
 ·refine (Eq.symm rk) ▸ ?_
  have e:(if p=h.nx then d else W.δ p)=some b:=e
  split at e
  ·rename_i x;refine (Eq.symm x) ▸ ?_;exact Nat.le_refl _
  ·have:=I.ez p b e;exact Nat.le_succ_of_le ‹_›
 ·have e':(h.t.set o h.nx).get p=some y:=e
  by_cases hq:h.nx=p
  ·subst hq
   rw [Tr.au] at e';cases e'
   exact yEA a (if_pos rfl) hr
  ·rw [Tr.aw _ _ _ _ hq] at e'
   refine I.ob p y e' λb eb r=>?_
   exact yEA b ((if_neg λz=>hq z.symm).trans eb) (r.mono le (λ_ z=>z) (λd ed x z=>z) (λ_ _ z _ _=>z))
 ·refine I.lkk b q λp o' e1 e2 e3=>?_
  have hq:h.nx ≠ p:=λz=>by subst z;rw [nμ] at e1;exact nn e1
  refine yEEAA p o' (le.1 p b e1) ?_ e3
  refine (Eq.symm (Tr.aw _ _ _ _ hq)) ▸ ?_;exact e2
end
end
section
noncomputable def gL:Code->Bool
 |.builtin id _=>guardIds.contains id||Builtin.Bytes.decodersThatHold.contains id
 |_=>false
def iF (l:List (Code × Pos)):Prop:=∀x ∈ l,gL x.1=false
def WG {α:Type}(M:Model) (A:Around) (t:Sem α) (Q:α->Shared->Prop) (E:Value->Shared->Prop) (s:Shared):Prop:=
 ∀Γ p,Γ.In A->gL Γ.code=false->iF Γ.below->Sem.wp M Γ t (λa _ s'=>Q a s') (λe _ s'=>E e s') p s
def CG (M:Model) (A:Around) (c:Code) (R:Result->Shared->Prop) (s:Shared):Prop:=
 ∀Γ p,Γ.code=c->Γ.Below A->iF Γ.below->wpCode M Γ R p s
theorem gzI (J:Nat->Shared->Prop){G:Prop}(k:∀I:Nat->Shared->Prop,(∀n s,I n s ↔ J n s)->G):G:=k J λ_ _=>Iff.rfl
theorem WG.eq {α:Type}{M:Model}{A:Around}{s:Shared}{E:Value->Shared->Prop}{Q:α->Shared->Prop}{t t':Sem α}(e:t=t') (h:WG M A t' Q E s):WG M A t Q E s:=e▸h
theorem WG.eqb {α β:Type}{M:Model}{A:Around}{s:Shared}{E:Value->Shared->Prop}{Q:β->Shared->Prop}{t t':Sem α}{f:α->Sem β}(e:t=t') (h:WG M A (t' >>= f) Q E s):WG M A (t >>= f) Q E s:=e▸h
theorem WG.bodyG {M:Model}{A:Around}{s:Shared}{E:Value->Shared->Prop}{Q:Flow->Shared->Prop}{b:List Stmt}{env:Env}(h:∀b',b'=b->WG M A (execs b' env) Q E s):WG M A (execs b env) Q E s:=h b rfl
theorem WG.consG {M:Model}{A:Around}{s:Shared}{E:Value->Shared->Prop}{Q:Flow->Shared->Prop}{a:Stmt}{b:List Stmt}{env:Env}(h:∀b',b'=b->WG M A (execs (a::b') env) Q E s):WG M A (execs (a::b) env) Q E s:=h b rfl
theorem gif {α:Type}{M:Model}{A:Around}{s:Shared}{E:Value->Shared->Prop}{Q:α->Shared->Prop}{c:Prop} [Decidable c] {a b:Sem α}(h:¬c) (k:WG M A b Q E s):WG M A (if c then a else b) Q E s:=(if_neg h).symm▸k
theorem git {α:Type}{M:Model}{A:Around}{s:Shared}{E:Value->Shared->Prop}{Q:α->Shared->Prop}{c:Prop} [Decidable c] {a b:Sem α}(h:c) (k:WG M A a Q E s):WG M A (if c then a else b) Q E s:=(if_pos h).symm▸k
section
variable {α β:Type}{M:Model}{A:Around}{E:Value->Shared->Prop}{s:Shared}
theorem WG.of {t:Sem α}{Q:α->Shared->Prop}(h:wpAny M A t Q E s):WG M A t Q E s:=λΓ p hΓ _ _=>h Γ p hΓ
theorem CG.of {c:Code}{R:Result->Shared->Prop}(h:codeAny M A c R s):CG M A c R s:=λΓ p hc hΓ _=>h Γ p hc hΓ
theorem WG.pure {a:α}{Q:α->Shared->Prop}(h:Q a s):WG M A (Pure.pure a) Q E s:=λ_ _ _ _ _=>h
theorem WG.mono {t:Sem α}{Q Q':α->Shared->Prop}{E':Value->Shared->Prop}(h:WG M A t Q E s) (hQ:∀a s,Q a s->Q' a s) (hE:∀e s,E e s->E' e s):WG M A t Q' E' s:=
 λΓ p hΓ hd hc=>Sem.wp_mono M Γ t (λa _ s=>hQ a s) (λe _ s=>hE e s) p s (h Γ p hΓ hd hc)
theorem WG.bind {m:Sem α}{f:α->Sem β}{Q:β->Shared->Prop}(h:WG M A m (λa s'=>WG M A (f a) Q E s') E s):WG M A (m >>= f) Q E s:=λΓ p hΓ hd hc=>by
 rw [Sem.wp_bind']
 exact Sem.wp_mono M Γ m (λa p' s' h'=>h' Γ p' hΓ hd hc) (λ_ _ _ h'=>h') p s (h Γ p hΓ hd hc)
theorem WG.leaf {m:Sem α}{f:α->Sem β}{Q:β->Shared->Prop}(h:wpAny M A m (λa s'=>WG M A (f a) Q E s') E s):WG M A (m >>= f) Q E s:=WG.bind (WG.of h)
theorem WG.hold {vs:List Value}{m:Sem α}{Q:α->Shared->Prop}(h:WG M A m Q E s):WG M A (holding vs m) Q E s:=λΓ p hΓ hd hc=>by rw [Sem.wp_holding];exact h Γ p hΓ hd hc
theorem WG.keep {vs:List Value}{m:Sem α}{Q:α->Shared->Prop}(h:WG M A m Q E s):WG M A (m.keep vs) Q E s:=λΓ p hΓ hd hc=>by rw [Sem.wp_keep];exact h Γ p hΓ hd hc
theorem WG.operate {vs:List Value}{m:Sem Value}{Q:Value->Shared->Prop}(h:WG M A m Q E s):WG M A (PySem.operate vs m) Q E s:=λΓ p hΓ hd hc=>by rw [Sem.wp_operate];exact h Γ p hΓ hd hc
theorem WG.onRaise {m:Sem α}{k:Value->Sem Unit}{Q:α->Shared->Prop}(h:WG M A m Q (λe s'=>WG M A (k e) (λ_ s''=>E e s'') E s') s):WG M A (m.onRaise k) Q E s:=λΓ p hΓ hd hc=>by
 rw [Sem.wp_onRaise]
 exact Sem.wp_mono M Γ m (λ_ _ _ h'=>h') (λe p' s' h'=>h' Γ p' hΓ hd hc) p s (h Γ p hΓ hd hc)
theorem WG.of_eq {t u:Sem α}{Q:α->Shared->Prop}(e:t=u) (h:WG M A u Q E s):WG M A t Q E s:=e▸h
theorem WG.aA {pos:Pos}{f:Unit->Sem β}{Q:β->Shared->Prop}(h:WG M A (f ()) Q E s):WG M A (standAt pos >>= f) Q E s:=WG.leaf (wpAny_standAt h)
theorem WG.rule {tag:String}{f:Unit->Sem β}{Q:β->Shared->Prop}(h:WG M A (f ()) Q E s):WG M A (PySem.rule tag >>= f) Q E s:=WG.leaf (wpAny_rule h)
theorem CG.mono {c:Code}{R R':Result->Shared->Prop}(h:CG M A c R s) (hR:∀r s,R r s->R' r s):CG M A c R' s:=λΓ p hc hΓ hl=>wpCode_mono hR (h Γ p hc hΓ hl)
theorem iF.push {Γ:Ctx}{p:Pos}(hd:gL Γ.code=false) (hc:iF Γ.below):iF ((Γ.code,p)::Γ.below):=λx hx=>by
 rcases List.mem_cons.mp hx with rfl|hx
 ·exact hd
 ·exact hc x hx
theorem WG.run {c:Code}{h:Option Value}{Q:Flow->Shared->Prop}(hc:CG M (A.mark h) c (λr s'=>match r with|.ok f=>Q f s' | .error e=>E e s') s) (hnb:h ≠ some byPass) :
  WG M A (PySem.run c h) Q E s:=λΓ p hΓ hd hl=>by rw [Sem.wp_run];exact hc _ p rfl (hΓ.enter c h p hnb) (iF.push hd hl)
theorem WG.runValue {c:Code}{Q:Value->Shared->Prop}(hc:CG M A c (λr s'=>match r with|.ok (.ret v)=>Q v s' | .ok _=>False|.error e=>E e s') s) :
  WG M A (PySem.runValue c) Q E s:=λΓ p hΓ hd hl=>by rw [Sem.wp_runValue];exact hc _ p rfl (hΓ.enter c none p (by intro x;exact nn x)) (iF.push hd hl)
theorem WG.call {f:Value}{pos:List Value}{kw:List (Str × Value)}{Q:Value->Shared->Prop}(hc:CG M A (.call f ⟨pos,kw⟩) (λr s'=>match r with|.ok (.ret v)=>Q v s' | .ok _=>False|.error e=>E e s') s) :
  WG M A (PySem.call f pos kw) Q E s:=WG.runValue hc
theorem CG.cM {c:Code}{R:Result->Shared->Prop}(hd:gL c=false)
  (h:WG M (A.under c) (M.den c) (λfin s'=>match fin with|.done f=>R (.ok f) s' | .again c'=>c'.quiet=true/\CG M A c' R s') (λe s'=>R (.error e) s') s):CG M A c R s:=λΓ p hc hΓ hl=>by
 rw [wpCode_iff_wp,hc]
 refine Sem.wp_mono M Γ _ (λfin p' s' h'=>?_) (λ_ _ _ h'=>h') p s (h Γ p (hc▸hΓ.in) (hc▸hd) hl)
 cases fin with
 |done f=>exact h'
 |again c'=>exact⟨h'.1,h'.2 (Γ.goto c') p' rfl (hΓ.goto c') hl⟩
theorem CG.loop {c:Code}{R:Result->Shared->Prop}(hd:gL c=false) (hq:c.quiet=true) (I:Nat->Shared->Prop)
  (turn:∀n s,I n s->WG M (A.under c) (M.den c)
   (λfin s'=>match fin with
    |.done f=>R (.ok f) s'
    |.again c'=>(c'=c/\∃m,m<n/\I m s')∨(c'.quiet=true/\CG M A c' R s')) (λe s'=>R (.error e) s') s)
  (n:Nat) (h:I n s):CG M A c R s:=by
 induction n using Nat.strongRecOn generalizing s with
 |ind n ih=>
  refine CG.cM hd (WG.mono (turn n s h) (λfin s' hf=>?_) λ_ _ h'=>h')
  cases fin with
  |done f=>exact hf
  |again c'=>
   rcases hf with ⟨rfl,m,hm,hI⟩|hf
   ·exact⟨hq,ih m hm hI⟩
   ·exact hf
end
section
variable {M:Model}{A:Around}{E:Value->Shared->Prop}{s:Shared}{env:Env}
theorem js {x:Str}{pos:Pos}{Q:Value->Shared->Prop}(h:wpAny M A (loadName env x) Q E s) (hd:(x==("__debug__" : Str))=false):WG M A (eval (.Name x pos) env) Q E s:=WG.of (wpAny_Name h hd)
theorem qU {l r:PySem.Expr}{op:Operator}{pos:Pos}{Q:Value->Shared->Prop}(h:WG M A (eval l env) (λa s₁=>WG M A (eval r env) (λb s₂=>WG M A (binaryOp op a b) Q E s₂) E s₁) E s) :
  WG M A (eval (.BinOp l op r pos) env) Q E s:=λΓ p hΓ hd hc=>by
 simp only [eval_BinOp,Sem.wp_bind',Sem.wp_holding,Sem.wp_cmd_standAt,Sem.wp_operate]
 exact Sem.wp_mono M Γ _ (λa p₁ s₁ h₁=>Sem.wp_mono M Γ _ (λb _ s₂ h₂=>h₂ Γ _ hΓ hd hc) (λ_ _ _ h'=>h') _ _ (h₁ Γ p₁ hΓ hd hc)) (λ_ _ _ h'=>h') _ _ (h Γ p hΓ hd hc)
theorem jt {e:PySem.Expr}{whole:Sem Value}{Q:Bool->Shared->Prop}(h:WG M A whole (λv s₁=>wpAny M A (truthy v) Q E s₁) E s) (he:isTrue e env whole=(do let v <-whole;standAt e.pos;holding [v] (truthy v))) :
  WG M A (isTrue e env whole) Q E s:=by
 refine (Eq.symm he) ▸ ?_
 exact WG.bind (WG.mono h (λv s₁ h₁=>WG.aA (WG.hold (WG.of h₁))) λ_ _ x=>x)
theorem l9 {x:PySem.Expr}{pos:Pos}{whole:Sem Value}{Q:Bool->Shared->Prop}(h:WG M A (isTrue x env (eval x env)) (λc s'=>Q (!c) s') E s):WG M A (isTrue (.UnaryOp .Not x pos) env whole) Q E s:=by
 exact WG.bind (WG.mono h (λc s' h'=>WG.pure h') λ_ _ x=>x)
theorem ma {x:PySem.Expr}{rest:List PySem.Expr}{pos:Pos}{whole:Sem Value}{Q:Bool->Shared->Prop}
  (h:WG M A (isTrue x env (eval x env)) (λc s'=>if c then WG M A (isTrue (.BoolOp .And rest pos) env whole) Q E s' else Q false s') E s):WG M A (isTrue (.BoolOp .And (x::rest) pos) env whole) Q E s:=by
 refine WG.bind (WG.mono h (λc s' h'=>?_) λ_ _ x=>x)
 cases c with
 |false=>exact WG.pure h'
 |true=>exact h'
theorem nT {x:PySem.Expr}{rest:List PySem.Expr}{pos:Pos}{whole:Sem Value}{Q:Bool->Shared->Prop}
  (h:WG M A (isTrue x env (eval x env)) (λc s'=>if c then Q true s' else WG M A (isTrue (.BoolOp .Or rest pos) env whole) Q E s') E s):WG M A (isTrue (.BoolOp .Or (x::rest) pos) env whole) Q E s:=by
 refine WG.bind (WG.mono h (λc s' h'=>?_) λ_ _ x=>x)
 cases c with
 |false=>exact h'
 |true=>exact WG.pure h'
theorem wb {test body orelse:PySem.Expr}{pos:Pos}{Q:Value->Shared->Prop}
  (h:WG M A (isTrue test env (eval test env)) (λc s₂=>if c then WG M A (eval body env) Q E s₂ else WG M A (eval orelse env) Q E s₂) E s):WG M A (eval (.IfExp test body orelse pos) env) Q E s:=by
 rw [eval_IfExp]
 refine WG.bind (WG.mono h (λc s₂ h₂=>?_) λ_ _ x=>x)
 cases c<;>exact h₂
theorem lp {op:UnaryOp}{x:PySem.Expr}{pos:Pos}{Q:Value->Shared->Prop}(h:WG M A (eval x env) (λv s₁=>wpAny M A (unaryOp op v) Q E s₁) E s):WG M A (eval (.UnaryOp op x pos) env) Q E s:=by
 rw [eval_UnaryOp]
 exact WG.bind (WG.mono h (λv s₁ h₁=>WG.aA (WG.hold (WG.of h₁))) λ_ _ x=>x)
theorem gM {e₁ e₂:PySem.Expr}{rest:List PySem.Expr}{pos:Pos}{Q:Value->Shared->Prop}
  (h:WG M A (eval e₁ env) (λv s₁=>wpAny M A (truthy v) (λc s₂=>if c then WG M A (eval (.BoolOp .And (e₂::rest) pos) env) Q E s₂ else Q v s₂) E s₁) E s):WG M A (eval (.BoolOp .And (e₁::e₂::rest) pos) env) Q E s:=by
 refine WG.bind (WG.mono h (λv s₁ h₁=>WG.aA (WG.bind (WG.hold (WG.of (wpAny_mono h₁ (λc s₂ h₂=>?_) λ_ _ x=>x))))) λ_ _ x=>x)
 cases c with
 |false=>exact WG.pure h₂
 |true=>exact h₂
theorem nU {e₁ e₂:PySem.Expr}{rest:List PySem.Expr}{pos:Pos}{Q:Value->Shared->Prop}
  (h:WG M A (eval e₁ env) (λv s₁=>wpAny M A (truthy v) (λc s₂=>if c then Q v s₂ else WG M A (eval (.BoolOp .Or (e₂::rest) pos) env) Q E s₂) E s₁) E s):WG M A (eval (.BoolOp .Or (e₁::e₂::rest) pos) env) Q E s:=by
 refine WG.bind (WG.mono h (λv s₁ h₁=>WG.aA (WG.bind (WG.hold (WG.of (wpAny_mono h₁ (λc s₂ h₂=>?_) λ_ _ x=>x))))) λ_ _ x=>x)
 cases c with
 |false=>exact h₂
 |true=>exact WG.pure h₂
theorem gN {pos:Pos}{a:Value}{op:CmpOp}{r:Sem Value}{Q:Value->Shared->Prop}(h:WG M A r (λb s₁=>wpAny M A (compareOp op a b) Q E s₁) E s):WG M A (compareChain pos a [op] [r]) Q E s:=by
 exact WG.bind (WG.hold (WG.mono h (λb s₁ h₁=>WG.aA (WG.operate (WG.of h₁))) λ_ _ x=>x))
theorem mc {pos:Pos}{a:Value}{op op':CmpOp}{ops:List CmpOp}{r r':Sem Value}{rs:List (Sem Value)}{Q:Value->Shared->Prop}
  (h:WG M A r (λb s₁=>wpAny M A (compareOp op a b) (λc s₂=>wpAny M A (truthy c) (λt s₃=>if t then WG M A (compareChain pos b (op'::ops) (r'::rs)) Q E s₃ else Q c s₃) E s₂) E s₁) E s) :
  WG M A (compareChain pos a (op::op'::ops) (r::r'::rs)) Q E s:=by
 refine WG.bind (WG.hold (WG.mono h (λb s₁ h₁=>WG.aA (WG.bind (WG.hold (WG.of (wpAny_mono h₁ (λc s₂ h₂=>
  WG.leaf (wpAny_release' (WG.bind (WG.hold (WG.of (wpAny_mono h₂ (λt s₃ h₃=>?_) λ_ _ x=>x)))))) λ_ _ x=>x))))) λ_ _ x=>x))
 cases t with
 |false=>exact WG.pure h₃
 |true=>exact h₃
theorem fq {pos:Pos}{a:Value}{op:CmpOp}{r:Sem Value}{Q:Bool->Shared->Prop}(h:WG M A r (λb s₁=>wpAny M A (compareOp op a b) (λc s₂=>wpAny M A (truthy c) Q E s₂) E s₁) E s):WG M A (testChain pos a [op] [r]) Q E s:=by
 exact WG.bind (WG.hold (WG.mono h (λb s₁ h₁=>WG.aA (WG.bind (WG.operate (WG.of (wpAny_mono h₁ (λc s₂ h₂=>WG.hold (WG.of h₂)) λ_ _ x=>x))))) λ_ _ x=>x))
theorem nV {pos:Pos}{a:Value}{op op':CmpOp}{ops:List CmpOp}{r r':Sem Value}{rs:List (Sem Value)}{Q:Bool->Shared->Prop}
  (h:WG M A r (λb s₁=>wpAny M A (compareOp op a b) (λc s₂=>wpAny M A (truthy c) (λt s₃=>if t then WG M A (testChain pos b (op'::ops) (r'::rs)) Q E s₃ else Q false s₃) E s₂) E s₁) E s) :
  WG M A (testChain pos a (op::op'::ops) (r::r'::rs)) Q E s:=by
 refine WG.bind (WG.hold (WG.mono h (λb s₁ h₁=>WG.aA (WG.bind (WG.hold (WG.of (wpAny_mono h₁ (λc s₂ h₂=>
  WG.leaf (wpAny_release' (WG.bind (WG.hold (WG.of (wpAny_mono h₂ (λt s₃ h₃=>?_) λ_ _ x=>x)))))) λ_ _ x=>x))))) λ_ _ x=>x))
 cases t with
 |false=>exact WG.pure h₃
 |true=>exact h₃
theorem bg {x:Sem Value}{rest:List (Bool × Sem Value)}{Q:List Value->Shared->Prop}(h:WG M A x (λv s₁=>WG M A (spliced rest) (λvs s₂=>Q (v::vs) s₂) E s₁) E s):WG M A (spliced ((false,x)::rest)) Q E s:=by
 rw [spliced]
 refine WG.bind (WG.mono h (λv s₁ h₁=>?_) λ_ _ x=>x)
 simp only [Bool.false_eq_true,if_false]
 exact WG.bind (WG.pure (WG.bind (WG.hold (WG.mono h₁ (λvs s₂ h₂=>WG.pure h₂) λ_ _ x=>x))))
theorem il {f:Value}{x:Sem Value}{rest:List (Bool × Sem Value)}{Q:Args->Shared->Prop}(h:WG M A (spliced ((false,x)::rest)) (λvs s'=>Q ⟨vs,[]⟩ s') E s):WG M A (evalArgs f true ((false,x)::rest) []) Q E s:=by
 delta evalArgs
 refine WG.bind (WG.mono h (λvs s' h'=>?_) λ_ _ x=>x)
 refine WG.hold ?_
 exact WG.bind (WG.pure (WG.bind (WG.pure (WG.pure h'))))
theorem dM {pos:Pos}{f:Value}{first:List Value}{Q:Value->Shared->Prop}{P:Heap->Prop}{args:List (Bool × Sem Value)}{keywords:List (Option Str × Sem Value)}(hplain:(args.any (·.1)||keywords.any (·.1.isNone))=false)
  (hk:∀h,P h->∃k,(k=Keeper.frame∨k=Keeper.machine∨k=Keeper.boundFrame)/\Looks M h (keeperOf f) k)
  (h:WG M A (evalArgs f true args keywords) (λa s₁=>P s₁.heap/\WG M A (PySem.call f (first++a.pos) a.kw) Q E s₁) E s):WG M A (callWith pos f first args keywords) Q E s:=by
 unfold callWith
 refine WG.bind (WG.hold (WG.mono h (λa s₁ h₁=>WG.aA ?_) λ_ _ x=>x))
 refine aI (hk _ h₁.1) λk hk' L=>?_
 rw [hplain]
 refine WG.leaf (L.here ?_)
 have tail:∀{t:Sem Value},WG M A t Q E s₁->WG M A (t >>= λr=>holding [r] point >>= λ_=>Pure.pure r) Q E s₁:=
  λht=>WG.bind (WG.mono ht (λr s₂ hr=>WG.bind (WG.hold (WG.of (wpAny_point (WG.pure hr))))) λ_ _ x=>x)
 have marked (mk:Value):WG M A (callMarked mk f (first++a.pos) a.kw) Q E s₁:=by unfold callMarked;exact WG.keep h₁.2
 rcases hk' with rfl|rfl|rfl<;>dsimp only<;>first|exact tail h₁.2|(split<;>first|exact tail h₁.2|exact tail (marked _))
theorem cD {pos:Pos}{id:String}{first:List Value}{args:List (Bool × Sem Value)}{Q:Value->Shared->Prop}(hplain:args.any (·.1)=false)
  (h:WG M A (evalArgs (.builtin id) true args []) (λa s₁=>WG M A (PySem.call (.builtin id) (first++a.pos) a.kw) Q E s₁) E s):WG M A (callWith pos (.builtin id) first args []) Q E s:=by
 unfold callWith
 refine WG.bind (WG.hold (WG.mono h (λa s₁ h₁=>WG.aA ?_) λ_ _ x=>x))
 rw [hplain]
 refine WG.bind (WG.pure ?_)
 exact WG.bind (WG.mono h₁ (λr s₂ hr=>WG.bind (WG.hold (WG.of (wpAny_point (WG.pure hr))))) λ_ _ x=>x)
theorem dq {pos:Pos}{T:String}{first:List Value}{args:List (Bool × Sem Value)}{Q:Value->Shared->Prop}(hplain:args.any (·.1)=false)
  (h:WG M A (evalArgs (.type T) true args []) (λa s₁=>WG M A (PySem.call (.type T) (first++a.pos) a.kw) Q E s₁) E s):WG M A (callWith pos (.type T) first args []) Q E s:=by
 unfold callWith
 refine WG.bind (WG.hold (WG.mono h (λa s₁ h₁=>WG.aA ?_) λ_ _ x=>x))
 rw [hplain]
 refine WG.bind (WG.pure ?_)
 exact WG.bind (WG.mono h₁ (λr s₂ hr=>WG.bind (WG.hold (WG.of (wpAny_point (WG.pure hr))))) λ_ _ x=>x)
end
section
variable {w:World}{A:Around}{E:Value->Shared->Prop}{s:Shared}{env:Env}
theorem iG {value:PySem.Expr}{attr:Str}{pos:Pos}{Q:Value->Shared->Prop}(h:WG (model pw w) A (eval value env) (λo s₁=>WG (model pw w) A (getAttr o attr true) Q E s₁) E s)
  (he:eval (.Attribute value attr pos) env=(do
   let o <-eval value env
   standAt pos.atName
   let r <-holding [o] (getAttr o attr true)
   letTemporaryGo value o r
   Pure.pure r)):WG (model pw w) A (eval (.Attribute value attr pos) env) Q E s:=by
 rw [he]
 refine WG.bind (WG.mono h (λo s₁ h₁=>WG.aA (WG.bind (WG.hold (WG.mono h₁ (λr s₂ h₂=>?_) λ_ _ x=>x)))) λ_ _ x=>x)
 exact WG.leaf (wpAny_letTemporaryGo (WG.pure h₂))
end
end
section
section
variable {w:World}{A:Around}{E:Value->Shared->Prop}{s:Shared}{env:Env}{R:Result->Shared->Prop}
theorem dN {id:String}(h:(guardIds.contains id||Builtin.Bytes.decodersThatHold.contains id)=false) (args:Args):gL (.builtin id args)=false:=h
abbrev yN (w:World) (A:Around) (R:Result->Shared->Prop):Fin->Shared->Prop:=λfin s'=>match fin with|.done f=>R (.ok f) s' | .again c'=>c'.quiet=true/\CG (model pw w) A c' R s'
theorem CG.builtin {id:String}{args:Args}{b:Builtin}(hb:entryFor table id=some b) (hd:gL (.builtin id args)=false) (h:WG (model pw w) (A.under (.builtin id args)) (b args) (yN w A R) (λe s'=>R (.error e) s') s) :
  CG (model pw w) A (.builtin id args) R s:=by
 refine CG.cM hd ?_
 show WG _ _ (match entryFor table id with|some b=>b args|none=>unsupported ((withoutEnding? id "#data").getD id)) _ _ s
 rw [hb];exact h
theorem CG.cN {id:String}{args:Args}{b:Builtin}(hq:(Code.builtin id args).quiet=true) (hb:entryFor table id=some b) (hd:gL (.builtin id args)=false)
  (h:wpAny (model pw w) A.in1 (checkBuiltinCall id args) (λ_ s₁=>WG (model pw w) (A.under (.builtin id args)) (b args) (yN w A R) (λe s'=>R (.error e) s') s₁) (λe s'=>R (.error e) s') s) :
  CG (model pw w) A (.call (.builtin id) args) R s:=by
 refine CG.cM rfl ?_
 exact WG.leaf (wpAny_mono h (λ_ s₁ h₁=>WG.pure ⟨hq,CG.builtin hb hd h₁⟩) λ_ _ h'=>h')
theorem p5 {K:Frag}{p x fget:Addr}{rest:List Value}{tp:Value}(X:K.In s.heap) (hp:recIn K p "property" = some (.ref fget::rest))
  (h:CG (model pw w) A (.call (.ref fget) ⟨[.ref x],[]⟩) R s):CG (model pw w) A (.call (.builtin "property.__get__") ⟨[.ref p,.ref x,tp],[]⟩) R s:=by
 obtain⟨d,sl,ho⟩:=rec_of X hp
 obtain⟨hh,g,dr,t,os⟩:=s
 refine CG.cN (plainId_quiet KF.slot_prop.plain _) KF.entry_prop (dN (by decide +kernel) _) (KF.slot_prop.check _ _ _ _ _ _ _ _ (yEA _ ho rfl) (KF.args_prop _ _ _) ?_)
 delta Builtin.«property.__get__»
 rw [dga_obj]
 refine WG.bind (WG.pure ?_)
 refine WG.leaf ((looks_field ho 0 (by rfl)).at ?_)
 exact WG.pure ⟨rfl,h⟩
theorem p6 {K:Frag}{x C:Addr}{ox:Obj}{od:Option Obj}{name:Str}{expr:Bool}{Q:Value->Shared->Prop}{g a:Value}(X:K.In s.heap) (I:InstAt s.heap x ox C od) (hga:findIn K (.ref C) "__getattribute__" = some (some (.builtin "object.__getattribute__")))
  (hf:findObj K C od name=some (.bind g a)) (hk:findIn K (.ref C) "__getattr__" = some none)
  (h:WG (model pw w) A.in1 (PySem.call g [a,.ref x,.ref C]) (λv s'=>handedIn v=true/\Q v s') (λ_ _=>False) { s with toks:=s.toks+1 }) :
  WG (model pw w) A (getAttr (.ref x) name expr) Q E s:=by
 obtain⟨hh,gg,d,t,os⟩:=s
 have L0:=I.type (M:=model pw w)
 have L1:=looks_findIn (M:=model pw w) X hga
 have L2:=looks_find (M:=model pw w) X I hf
 have L3:=looks_findIn (M:=model pw w) X hk
 delta getAttr getAttrBy
 refine WG.leaf (wpAny_mkText (WG.hold (WG.leaf (L0.at (WG.leaf (L1.at ?_))))))
 refine WG.bind (WG.onRaise (WG.runValue (CG.builtin F.plainObj_entry_getattr_hooked (dN (by decide +kernel) _) ?_)))
 refine WG.mono (Q:=λfin s'=>match fin with|.done (.ret v)=>handedIn v=true/\Q v s' | _=>False) (E:=λ_ _=>False) ?_ (λfin s' z=>?_) λ_ _ z=>z.elim
 ·refine WG.bind (WG.pure (WG.leaf (L0.at (WG.leaf (L2.at (WG.leaf (L3.at ?_)))))))
  exact WG.bind (WG.hold (WG.mono h (λv s' z=>WG.pure z) λ_ _ z=>z))
 ·rcases fin with (_|_|_|_)|_
  ·exact z.elim
  ·exact z.elim
  ·exact z.elim
  ·show WG _ _ (handedOut _) _ _ _
   rw [handedOut_of z.1];exact WG.pure z.2
  ·exact z.elim
theorem yO {C:Addr}{rest:List Value}{init:Value}{h:Heap}{g:Array GenState}{d:Drawn}{t:Nat}{os:OsState}(Y:Makes (model pw w) h C) (hi:Looks (model pw w) h (typeLookup (.ref C) "__init__") (some init))
  (hb:∀self,Looks (model pw w) h (bindSpecial init self) (init,[self])) (hne:(some init != some (Value.builtin "object.__init__"))=true)
  (hq:CG (model pw w) (A.under (.builtin "type.__call__" ⟨.ref C::rest,[]⟩)) (.call init ⟨.ref (h.objs.size+1)::rest,[]⟩) (InitBack (h.objs.size+1) R) ⟨(h.push emptyDict).push (instObj C h.objs.size),g,d,t,os⟩) :
  CG (model pw w) A (.call (.ref C) ⟨rest,[]⟩) R ⟨h,g,d,t,os⟩:=by
 have Y':=Y
 refine bG λ_ kk=>?_
 obtain⟨⟨oc,od,cd,sl,hC,e1,e2,e4⟩,made,base,self,top,call,typ⟩:=Y
 refine kk ?_
 refine CG.cM rfl ?_
 refine WG.leaf (wpAny_load hC ?_)
 delta callAny.viaDunder
 refine WG.leaf (call.at ?_)
 dsimp only
 refine WG.eqb (tc_bind ..) ?_
 refine WG.bind (WG.pure (WG.bind (WG.pure ?_)))
 refine WG.pure (a:=Fin.again (.call (.builtin "type.__call__") ⟨.ref C::rest,[]⟩)) (And.intro rfl ?_)
 refine CG.cN (Code.quiet_builtin _ (by decide +kernel)) entry_typeCall (dN (by decide +kernel) _) (check_slot tc_kind tc_split typ (tc_args _ _ _) ?_)
 delta Builtin.«type.__call__»
 have hm:Looks (model pw w) h (mroOf (.ref C)) cd.mro:=((Looks.ld (part:=none) hC).andThen .now).andThen .now
 refine WG.bind (m:=mroOf (.ref C)) (WG.of (hm.at ?_))
 rw [e4]
 refine gif Bool.false_ne_true ?_
 refine WG.leaf (made.at ?_)
 refine WG.bind (WG.pure ?_)
 refine WG.bind (WG.hold (WG.call ?_))
 refine CG.of (new_K Y' hi (.inl hne) ?_)
 have k:∀b o,h.get? b=some o->((h.push emptyDict).push (instObj C h.objs.size)).get? b=some o:=λb o e=>Heap.get?_push_of_some _ (Heap.get?_push_of_some _ e)
 have hx:((h.push emptyDict).push (instObj C h.objs.size)).get? (h.objs.size+1)=some (instObj C h.objs.size):=by heap_get
 have t1:Looks (model pw w) ((h.push emptyDict).push (instObj C h.objs.size)) (typeOf (.ref (h.objs.size+1))) (.ref C):=(Looks.ld hx).andThen .now
 have s1:=self.keeps k
 have i1:=hi.keeps k
 have b1:=(hb (.ref (h.objs.size+1))).keeps k
 delta isInstance callSpecial? specialOf
 refine WG.bind (WG.leaf (t1.at (WG.of (s1.at ?_))))
 refine gif Bool.false_ne_true ?_
 refine WG.bind (WG.hold (WG.bind (WG.leaf (t1.at (WG.of (i1.at ?_))))))
 refine WG.hold (WG.leaf (b1.at ?_))
 refine WG.bind (WG.call (CG.mono hq λr s' z=>?_))
 rcases r with e|(_|_|_|v)
 ·exact z
 ·exact z.elim
 ·exact z.elim
 ·exact z.elim
 ·obtain⟨rfl,z⟩:=z
  exact WG.pure (WG.pure z)
end
end
section
set_option genInjectivity false
set_option genSizeOf false
structure aY where
 kindOf:Str->Option NameKind
 slot:P4->Option Str
 own:Str->Bool
 inj:∀{p q:P4}{x:Str},slot p=some x->slot q=some x->p=q
structure Fm (fi:aY) (env:Env):Prop where
 kind:env.scope.kind = .function
 glob:env.globals=mainGlobals
 bi:env.builtins=builtinsNs
 kinds:∀x,env.kindOf x=fi.kindOf x
def kC (fi:aY) (env:Env) (b:Addr):Prop:=b=env.locals∨∃x,fi.own x=true/\env.cells.lookup x=some b
section
variable (w:World) (V:Va) (oh:Heap) (kH:Bool)
structure aM (fi:aY) (env:Env) (W:Wd) (hp:Heap) (r:Tr AV):Prop where
 loc:∃m,hp.Ns env.locals m/\∀p x av,fi.slot p=some x->r.get p=some av->fi.kindOf x=some .local->∃v,m x=some v/\Rep V W.μ av v
 me:∀p x,fi.slot p=some x->fi.kindOf x=some .local∨((fi.kindOf x=some .cell∨fi.kindOf x=some .free)/\∃c o,env.cells.lookup x=some c/\hp.IsCell c o/\∀av,r.get p=some av->∃v,o=some v/\Rep V W.μ av v)
 un:¬W.own env.locals/\oh.get? env.locals=none
 ej:∀x c,env.cells.lookup x=some c->¬W.own c/\oh.get? c=none/\c<hp.objs.size
 inj:∀x y c,env.cells.lookup x=some c->env.cells.lookup y=some c->x=y
theorem aM.step {fi:aY}{env:Env}{W W':Wd}{s s':Shared}{r:Tr AV}(F:aM V oh fi env W s.heap r) (S:Step none_ W s W' s'):aM V oh fi env W' s'.heap r:=by
 have up:∀b,b<s.heap.objs.size->¬W.own b->¬W'.own b:=λb hb hn q=>(S.fresh b q).elim hn λz=>absurd hb (Nat.not_lt.mpr z)
 refine bG λ_ kk=>?_
 refine aI F.loc λm q1_ hm=>?_;obtain⟨o,es,ep,n1,n2⟩:=q1_
 refine kk ?_
 refine⟨yEA m ⟨o,es,ep,S.keep _ _ n1 (.inl ⟨F.un.1,id⟩),n2⟩ λp x av a b c=>aI (hm p x av a b c) λv d e=>⟨v,d,e.mono S.le.1⟩,λp x a=>?_,⟨up _ (Heap.lt_size n1) F.un.1,F.un.2⟩,λx c e=>?_,F.inj⟩
 ·refine (F.me p x a).imp id λ⟨k,c,o,l,⟨oc,g1,g2⟩,q⟩=>yAEEAA k c o l ⟨oc,S.keep _ _ g1 (.inl ⟨(F.ej x c l).1,id⟩),g2⟩ λav ha=>aI (q av ha) λv d e=>⟨v,d,e.mono S.le.1⟩
 ·exact⟨up c (F.ej x c e).2.2 (F.ej x c e).1,(F.ej x c e).2.1,Nat.lt_of_lt_of_le (F.ej x c e).2.2 S.size⟩
end
def Rm (n:Nat) (A:Around):Prop:=A.depth+4*n+4<recursionLimit/\A.units+32*n+40<cLine
def xZ (n:Nat) (A:Around):Prop:=A.depth+4*n+2<recursionLimit/\A.units+32*n+16<cLine
theorem Rm.call {n:Nat}{A A':Around}(h:Rm n A) (hd:A'.depth<=A.depth+2) (hu:A'.units<=A.units+24):xZ n A':=by unfold Rm at h;unfold xZ;lia
def j8 (kH:Bool) (oh:Heap) (A:Around):Prop:=A.handled=none∨kH=true/\∃e o vs,A.handled=some (.ref e)/\oh.get? e=some o/\o.data = .fields vs/\vs[2]? = some .none
section
variable (w:World) (V:Va) (oh:Heap) (kH:Bool)
abbrev cO (k:K1) (W:Wd) (s:Shared) (Q:Value->Shared->Prop):Prop:=
 ∀av h' v W' s',k av h'=true->Rep V W'.μ av v->Inv w V oh W' h' s'.heap->Step none_ W s W' s'->Q v s'
abbrev Bo (k:KL) (W:Wd) (s:Shared) (Q:List Value->Shared->Prop):Prop:=
 ∀av h' v W' s',k av h'=true->aR V W'.μ av v->Inv w V oh W' h' s'.heap->Step none_ W s W' s'->Q v s'
abbrev jw (k:Bool->H->Bool) (W:Wd) (s:Shared) (Q:Bool->Shared->Prop):Prop:=
 ∀b h' W' s',k b h'=true->Inv w V oh W' h' s'.heap->Step none_ W s W' s'->Q b s'
def ti (n:Nat) (co:CO):Prop:=
 ∀f vs h k,co f vs h k=true->∃a,V.fn f=some a/\∀A,xZ n A->j8 kH oh A->∀W s vals,Inv w V oh W h s.heap->aR V W.μ vs vals ->
  ∀R:Result->Shared->Prop,cO w V oh k W s (λv s'=>R (.ok (.ret v)) s')->CG (model pw w) A (.call (.ref a) ⟨vals,[]⟩) R s
structure Cx (fi:aY) where
 n:Nat
 co:CO
 ok:ti w V oh kH n co
 A:Around
 rm:Rm n A
 ho:j8 kH oh A
 env:Env
 fm:Fm fi env
def SE (fi:aY) (c:EC) (e:PySem.Expr):Prop:=
 ∀(x:Cx w V oh kH fi) r h k,c x.co r h k=true->∀W s,Inv w V oh W h s.heap->aM V oh fi x.env W s.heap r->∀Q E,cO w V oh k W s Q->WG (model pw w) x.A (eval e x.env) Q E s
def ST (fi:aY) (c:TC) (e:PySem.Expr):Prop:=
 ∀(x:Cx w V oh kH fi) r h k,c x.co r h k=true->∀W s,Inv w V oh W h s.heap->aM V oh fi x.env W s.heap r->∀Q E,jw w V oh k W s Q->WG (model pw w) x.A (isTrue e x.env (eval e x.env)) Q E s
def SL (fi:aY) (c:LC) (es:List PySem.Expr):Prop:=
 ∀(x:Cx w V oh kH fi) r h k,c x.co r h k=true->∀W s,Inv w V oh W h s.heap->aM V oh fi x.env W s.heap r->∀pos Q E,Bo w V oh k W s Q->WG (model pw w) x.A (spliced (backTo pos (starEach es x.env))) Q E s
def qV (op:OP) (run:Value->Value->Sem Value):Prop:=
 ∀A n,Rm n A->j8 kH oh A->∀a b h k,op a b h k=true->∀W s u v,Inv w V oh W h s.heap->Rep V W.μ a u->Rep V W.μ b v->∀Q E,cO w V oh k W s Q->wpAny (model pw w) A (run u v) Q E s
def qW (op:CP) (run:Value->Value->Sem Value):Prop:=
 ∀A n,Rm n A->j8 kH oh A->∀a b h k,op a b h k=true->∀W s u v,Inv w V oh W h s.heap->Rep V W.μ a u->Rep V W.μ b v->∀Q E,(∀t tk,k t=true->Q (.bool t) { s with toks:=tk })->wpAny (model pw w) A (run u v) Q E s
end
section
variable {w:World}{V:Va}{oh:Heap}{kH:Bool}{fi:aY}
theorem cO.after {k:K1}{W W':Wd}{s s':Shared}{Q:Value->Shared->Prop}(p:cO w V oh k W s Q) (S:Step none_ W s W' s'):cO w V oh k W' s' Q:=
 λav h' v W'' s'' a b c d=>p av h' v W'' s'' a b c (S.trans d)
theorem jw.after {k:Bool->H->Bool}{W W':Wd}{s s':Shared}{Q:Bool->Shared->Prop}(p:jw w V oh k W s Q) (S:Step none_ W s W' s'):jw w V oh k W' s' Q:=
 λb h' W'' s'' a c d=>p b h' W'' s'' a c (S.trans d)
theorem cO.now {k:K1}{W:Wd}{s:Shared}{Q:Value->Shared->Prop}(p:cO w V oh k W s Q){h:H}{av:AV}{v:Value}(e:k av h=true) (I:Inv w V oh W h s.heap) (r:Rep V W.μ av v) (t:Tok):Q v { s with toks:=t }:=
 p av h v W _ e r I ((Step.refl W s).toks t)
theorem cO.here {k:K1}{W:Wd}{s:Shared}{Q:Value->Shared->Prop}(p:cO w V oh k W s Q){h:H}{av:AV}{v:Value}(e:k av h=true) (I:Inv w V oh W h s.heap) (r:Rep V W.μ av v):Q v s:=
 p av h v W _ e r I (Step.refl W s)
def wc (V:Va):Const->AV->Prop
 |.none,v=>v = .none
 |.bool b,v=>v = .bool b
 |.int i,v=>∃n:Nat,i=n/\v = .nat n
 |.str s,v=>∃i,V.str i=some s/\v = .o (.str i)
 |.bytes b,v=>∃l,v = .o (.bytes l)/\b=l.map V.byte
 |_,_=>False
theorem sK {c:Const}{kd:Nat}{pos:Pos}{v:AV}(hc:wc V c v):SE w V oh kH fi (eK v) (.Constant c kd pos):=by
 intro x r h k e W s I F Q E p
 have e:k v h=true:=e
 cases c with
 |none=>obtain rfl:v = .none:=hc;exact WG.pure (p.here e I rfl)
 |bool b=>obtain rfl:v = .bool b:=hc;exact WG.pure (p.here e I rfl)
 |int i=>refine aI hc λn r1_ r2_=>?_;clear hc;subst r1_;subst r2_;exact WG.of (wpAny_Constant_int (p.now e I ⟨_,rfl⟩ _))
 |str x=>refine aI hc λi h1 r2_=>?_;clear hc;subst r2_;exact WG.of (wpAny_mkText (p.now e I (yEEA _ _ h1 rfl) _))
 |bytes b=>refine aI hc λl r1_ r2_=>?_;clear hc;subst r1_;subst r2_;exact WG.of (show wpAny _ _ (mkTextBytes _) _ _ _ from wpAny_bind (wpAny_fresh (wpAny_pure (p.now e I ⟨_,rfl⟩ _))))
 |_=>exact hc.elim
theorem sL {p:P4}{y:Str}{pos:Pos}(hs:fi.slot p=some y) (hd:(y==("__debug__" : Str))=false) (hc:(y==("__classdict__" : Str))=false):SE w V oh kH fi (eL p) (.Name y pos):=by
 intro x r h k e W s I F Q E q
 refine opt_k e λav hr e=>?_
 refine js ?_ hd
 rcases F.me p y hs with hk|⟨hk,c,o,hl,hc',ha⟩
 ·refine aI F.loc λm hn hm=>?_
  refine aI (hm p y av hs hr hk) λv hv hr'=>?_
  exact wpAny_loadName_local x.fm.kind ((x.fm.kinds y).trans hk) hn hv (q.here e I hr')
 ·refine aI (ha av hr) λv r1_ hr'=>?_;subst r1_
  rcases hk with hk|hk
  ·exact wpAny_loadName_cell x.fm.kind ((x.fm.kinds y).trans hk) hl hc' (q.here e I hr')
  ·exact wpAny_loadName_free x.fm.kind ((x.fm.kinds y).trans hk) hl hc' (q.here e I hr') hc
theorem sG {y:Str}{pos:Pos}{av:AV}{mg:Str->Option Value}{v:Value}(hg:oh.Ns mainGlobals mg) (hv:mg y=some v) (hr:∀μ,Rep V μ av v) (hk:fi.kindOf y=some .globalImplicit) (hd:(y==("__debug__" : Str))=false) :
  SE w V oh kH fi (eK av) (.Name y pos):=by
 intro x r h k e W s I F Q E q
 refine WG.of <| Name_function_global x.fm.kind ((x.fm.kinds y).trans hk) (loadGlobal_global (mg:=mg) ?_ hv (q.here e I (hr _))) hd
 rw [x.fm.glob];exact hg.keeps I.bq
theorem sBin {op:OP}{Op:Operator}{a b:EC}{ea eb:PySem.Expr}{pos:Pos}(ho:qV w V oh kH op (binaryOp Op)) (ha:SE w V oh kH fi a ea) (hb:SE w V oh kH fi b eb):SE w V oh kH fi (aB op a b) (.BinOp ea Op eb pos):=
 λx r h k e W s I F Q E p=>qU (ha x r h _ e W s I F _ _ λav h1 v W1 s1 e1 R1 I1 S1=>hb x r h1 _ e1 W1 s1 I1 (F.step _ _ S1) _ _ λbv h2 u W2 s2 e2 R2 I2 S2=>
  WG.of (ho x.A x.n x.rm x.ho av bv h2 k e2 W2 s2 v u I2 (R1.mono S2.le.1) R2 Q E (p.after (S1.trans S2))))
end
end
section
section
variable {w:World}{V:Va}{oh:Heap}{kH:Bool}{fi:aY}
theorem nW {v:AV}{k:Bool->Bool}(e:dp v k=true):∃b,v = .bool b/\k b=true:=by
 cases v<;>first|(first|exact nf e|exact nn e|cases e)|exact yEA _ rfl e
theorem onBool_k {v:AV}{k:Bool->Bool}(e:dp v k=true){P:Prop}(c_:∀b,v = .bool b->k b=true->P):P:=aI (nW e) c_
theorem p7 {v:AV}{k:Nat->Bool}(e:aG v k=true):∃b,v = .nat b/\k b=true:=by
 cases v<;>first|(first|exact nf e|exact nn e|cases e)|exact yEA _ rfl e
theorem onNat_k {v:AV}{k:Nat->Bool}(e:aG v k=true){P:Prop}(c_:∀b,v = .nat b->k b=true->P):P:=aI (p7 e) c_
theorem p8 {v:AV}{k:P4->Bool}(e:dg v k=true):∃b,v = .ref b/\k b=true:=by
 cases v<;>first|(first|exact nf e|exact nn e|cases e)|exact yEA _ rfl e
theorem onRef_k {v:AV}{k:P4->Bool}(e:dg v k=true){P:Prop}(c_:∀b,v = .ref b->k b=true->P):P:=aI (p8 e) c_
theorem fu {v:AV}{k:Bool}(e:hU v k=true):v = .none/\k=true:=by
 cases v<;>first|exact⟨rfl,e⟩|exact nf e
theorem nX {o:AO}{k:Nat->Tr AV->Bool}(e:jj o k=true):∃c f,o = .inst c f/\k c f=true:=by
 cases o<;>first|(first|exact nf e|exact nn e|cases e)|exact yEEA _ _ rfl e
theorem nY {o:AO}{k:List AV->Bool}(e:bx o k=true):∃l,o = .list l/\k l=true:=by
 cases o<;>first|(first|exact nf e|exact nn e|cases e)|exact yEA _ rfl e
theorem onList_k {o:AO}{k:List AV->Bool}(e:bx o k=true){P:Prop}(c_:∀l,o = .list l->k l=true->P):P:=aI (nY e) c_
theorem p9 {o:AO}{k:List AV->Bool}(e:dx o k=true):∃l,o = .tup l/\k l=true:=by
 cases o<;>first|(first|exact nf e|exact nn e|cases e)|exact yEA _ rfl e
theorem onTup_k {o:AO}{k:List AV->Bool}(e:dx o k=true){P:Prop}(c_:∀l,o = .tup l->k l=true->P):P:=aI (p9 e) c_
theorem nZ {o:AO}{k:List DE->Bool}(e:gc o k=true):∃l,o = .dict l/\k l=true:=by
 cases o<;>first|(first|exact nf e|exact nn e|cases e)|exact yEA _ rfl e
theorem onDict_k {o:AO}{k:List DE->Bool}(e:gc o k=true){P:Prop}(c_:∀l,o = .dict l->k l=true->P):P:=aI (nZ e) c_
theorem tZ {v:AV}{h:H}{k:P4->AO->Bool}(e:lU v h k=true):∃p o,v = .ref p/\h.t.get p=some o/\k p o=true:=by
 refine onRef_k e λp r1_ e=>?_;subst r1_
 refine H_k e λo ho e=>?_
 exact yEEAA p o rfl ho e
theorem onO_k {v:AV}{h:H}{k:P4->AO->Bool}(e:lU v h k=true){P:Prop}(c_:∀p o,v = .ref p->h.t.get p=some o->k p o=true->P):P:=bj (tZ e) c_
theorem n0 {v:AV}{h:H}{k:P4->Nat->Tr AV->Bool}(e:vN v h k=true):∃p c f,v = .ref p/\h.t.get p=some (.inst c f)/\k p c f=true:=by
 refine bG λ_ kk=>?_
 refine onRef_k e λp r1_ e=>?_;subst r1_
 refine H_k e λo ho e=>?_
 refine bf (nX e) λc f r2_ e=>?_;subst r2_
 refine kk ?_
 exact yEEEAA p c f rfl ho e
theorem onI_k {v:AV}{h:H}{k:P4->Nat->Tr AV->Bool}(e:vN v h k=true){P:Prop}(c_:∀p c f,v = .ref p->h.t.get p=some (.inst c f)->k p c f=true->P):P:=cC (n0 e) c_
theorem bW {b t e:Bool}(h:az b t e=true):(b=true/\t=true)∨(b=false/\e=true):=by cases b<;>first|exact .inl ⟨rfl,h⟩|exact .inr ⟨rfl,h⟩
theorem sTof {c:EC}{e:PySem.Expr}(hc:(SE w V oh kH fi) c e) (he:∀env whole,isTrue e env whole=(do let v <-whole;standAt e.pos;holding [v] (truthy v))):(ST w V oh kH fi) (bl c) e:=
 λx r h k hk W s I F Q E p=>jt (hc x r h _ hk W s I F _ _ λav h1 v W1 s1 e1 R1 I1 S1=>by
  refine onBool_k e1 λb r1_ e1=>?_;subst r1_
  obtain rfl:v = .bool b:=R1
  exact wpAny_truthy_bool (p b h1 W1 s1 e1 I1 S1)) (he _ _)
theorem Bp {t:TC}{e:PySem.Expr}{pos:Pos}(ht:(ST w V oh kH fi) t e):(ST w V oh kH fi) (bz t) (.UnaryOp .Not e pos):=
 λx r h k hk W s I F Q E p=>l9 (ht x r h _ hk W s I F _ _ λb h1 W1 s1 e1 I1 S1=>by cases b<;>exact p _ h1 W1 s1 e1 I1 S1)
theorem Bq {pos:Pos}:(ST w V oh kH fi) bw (.BoolOp .And [] pos):=λx r h k hk W s I F Q E p=>WG.of (isTrue_and_nil (p true h W s hk I (Step.refl W s)))
theorem yP {pos:Pos}:(ST w V oh kH fi) aP (.BoolOp .Or [] pos):=λx r h k hk W s I F Q E p=>WG.of (isTrue_or_nil (p false h W s hk I (Step.refl W s)))
theorem Br {t u:TC}{e:PySem.Expr}{es:List PySem.Expr}{pos:Pos}(ht:(ST w V oh kH fi) t e) (hu:(ST w V oh kH fi) u (.BoolOp .And es pos)):(ST w V oh kH fi) (bh t u) (.BoolOp .And (e::es) pos):=
 λx r h k hk W s I F Q E p=>ma (ht x r h _ hk W s I F _ _ λb h1 W1 s1 e1 I1 S1=>by
  cases b with
  |false=>exact p false h1 W1 s1 e1 I1 S1
  |true=>exact hu x r h1 k e1 W1 s1 I1 (F.step _ _ S1) Q E (p.after S1))
theorem sTor {t u:TC}{e:PySem.Expr}{es:List PySem.Expr}{pos:Pos}(ht:(ST w V oh kH fi) t e) (hu:(ST w V oh kH fi) u (.BoolOp .Or es pos)):(ST w V oh kH fi) (bL t u) (.BoolOp .Or (e::es) pos):=
 λx r h k hk W s I F Q E p=>nT (ht x r h _ hk W s I F _ _ λb h1 W1 s1 e1 I1 S1=>by
  cases b with
  |true=>exact p true h1 W1 s1 e1 I1 S1
  |false=>exact hu x r h1 k e1 W1 s1 I1 (F.step _ _ S1) Q E (p.after S1))
theorem sIte {t:TC}{a b:EC}{e ea eb:PySem.Expr}{pos:Pos}(ht:(ST w V oh kH fi) t e) (ha:(SE w V oh kH fi) a ea) (hb:(SE w V oh kH fi) b eb):(SE w V oh kH fi) (dJ t a b) (.IfExp e ea eb pos):=
 λx r h k hk W s I F Q E p=>wb (ht x r h _ hk W s I F _ _ λc h1 W1 s1 e1 I1 S1=>by
  cases c with
  |true=>exact ha x r h1 k e1 W1 s1 I1 (F.step _ _ S1) Q E (p.after S1)
  |false=>exact hb x r h1 k e1 W1 s1 I1 (F.step _ _ S1) Q E (p.after S1))
theorem sNot {c:EC}{e:PySem.Expr}{pos:Pos}(hc:(SE w V oh kH fi) c e):(SE w V oh kH fi) (tQ (bz (bl c))) (.UnaryOp .Not e pos):=
 λx r h k hk W s I F Q E p=>lp (hc x r h _ hk W s I F _ _ λav h1 v W1 s1 e1 R1 I1 S1=>by
  refine onBool_k e1 λb r1_ e1=>?_;subst r1_
  obtain rfl:v = .bool b:=R1
  refine not_of (wpAny_truthy_bool ?_)
  cases b<;>exact p _ h1 _ W1 s1 e1 rfl I1 S1)
theorem sOne {op:BoolOp}{c:EC}{e:PySem.Expr}{pos:Pos}(hc:(SE w V oh kH fi) c e):(SE w V oh kH fi) c (.BoolOp op [e] pos):=
 λx r h k hk W s I F Q E p=>hc x r h k hk W s I F Q E p
theorem sAnd {c u:EC}{e f:PySem.Expr}{es:List PySem.Expr}{pos:Pos}(hc:(SE w V oh kH fi) c e) (hu:(SE w V oh kH fi) u (.BoolOp .And (f::es) pos)):(SE w V oh kH fi) (dI c u) (.BoolOp .And (e::f::es) pos):=
 λx r h k hk W s I F Q E p=>gM (hc x r h _ hk W s I F _ _ λav h1 v W1 s1 e1 R1 I1 S1=>by
  refine onBool_k e1 λb r1_ e1=>?_;subst r1_
  obtain rfl:v = .bool b:=R1
  refine wpAny_truthy_bool ?_
  cases b with
  |false=>exact p _ h1 _ W1 s1 e1 rfl I1 S1
  |true=>exact hu x r h1 k e1 W1 s1 I1 (F.step _ _ S1) Q E (p.after S1))
theorem sOr {c u:EC}{e f:PySem.Expr}{es:List PySem.Expr}{pos:Pos}(hc:(SE w V oh kH fi) c e) (hu:(SE w V oh kH fi) u (.BoolOp .Or (f::es) pos)):(SE w V oh kH fi) (rQ c u) (.BoolOp .Or (e::f::es) pos):=
 λx r h k hk W s I F Q E p=>nU (hc x r h _ hk W s I F _ _ λav h1 v W1 s1 e1 R1 I1 S1=>by
  refine onBool_k e1 λb r1_ e1=>?_;subst r1_
  obtain rfl:v = .bool b:=R1
  refine wpAny_truthy_bool ?_
  cases b with
  |true=>exact p _ h1 _ W1 s1 e1 rfl I1 S1
  |false=>exact hu x r h1 k e1 W1 s1 I1 (F.step _ _ S1) Q E (p.after S1))
def SQ (w:World) (V:Va) (oh:Heap) (kH:Bool) (fi:aY) (q:QC) (ops:List CmpOp) (es:List PySem.Expr):Prop:=
 ∀(x:Cx w V oh kH fi) r h k a,q a x.co r h k=true->∀W s v,Inv w V oh W h s.heap->aM V oh fi x.env W s.heap r->Rep V W.μ a v->∀pos E,
  (∀Q,jw w V oh k W s (λb s'=>Q (.bool b) s')->WG (model pw w) x.A (compareChain pos v ops (evalEach es x.env)) Q E s) /\
  (∀Q,jw w V oh k W s Q->WG (model pw w) x.A (testChain pos v ops (evalEach es x.env)) Q E s)
theorem Bs {op:CP}{Op:CmpOp}{b:EC}{e:PySem.Expr}(ho:qW w V oh kH op (compareOp Op)) (hb:(SE w V oh kH fi) b e):SQ w V oh kH fi (ai op b) [Op] [e]:=by
 intro x r h k a hk W s v I F R pos E
 refine⟨λQ p=>gN ?_,λQ p=>fq ?_⟩
 ·exact hb x r h _ hk W s I F _ _ λav h1 u W1 s1 e1 R1 I1 S1=>ho x.A x.n x.rm x.ho a av h1 _ e1 W1 s1 v u I1 (R.mono S1.le.1) R1 _ _ λt tk e2=>p t h1 W1 _ e2 I1 (S1.toks tk)
 ·exact hb x r h _ hk W s I F _ _ λav h1 u W1 s1 e1 R1 I1 S1=>ho x.A x.n x.rm x.ho a av h1 _ e1 W1 s1 v u I1 (R.mono S1.le.1) R1 _ _ λt tk e2=>wpAny_truthy_bool (p t h1 W1 _ e2 I1 (S1.toks tk))
theorem yQ {op:CP}{Op Op':CmpOp}{ops:List CmpOp}{b:EC}{q:QC}{e f:PySem.Expr}{es:List PySem.Expr}(ho:qW w V oh kH op (compareOp Op)) (hb:(SE w V oh kH fi) b e) (hq:SQ w V oh kH fi q (Op'::ops) (f::es)) :
  SQ w V oh kH fi (fQ op b q) (Op::Op'::ops) (e::f::es):=by
 intro x r h k a hk W s v I F R pos E
 refine⟨λQ p=>mc ?_,λQ p=>nV ?_⟩
 ·exact hb x r h _ hk W s I F _ _ λav h1 u W1 s1 e1 R1 I1 S1=>ho x.A x.n x.rm x.ho a av h1 _ e1 W1 s1 v u I1 (R.mono S1.le.1) R1 _ _ λt tk e2=>wpAny_truthy_bool (by
   cases t with
   |false=>exact p false h1 W1 _ e2 I1 (S1.toks tk)
   |true=>exact (hq x r h1 k av e2 W1 { s1 with toks:=tk } u I1 (F.step _ _ (S1.toks tk)) R1 pos E).1 Q (λb h' W' s' a b' c=>p b h' W' s' a b' ((S1.toks tk).trans c)))
 ·exact hb x r h _ hk W s I F _ _ λav h1 u W1 s1 e1 R1 I1 S1=>ho x.A x.n x.rm x.ho a av h1 _ e1 W1 s1 v u I1 (R.mono S1.le.1) R1 _ _ λt tk e2=>wpAny_truthy_bool (by
   cases t with
   |false=>exact p false h1 W1 _ e2 I1 (S1.toks tk)
   |true=>exact (hq x r h1 k av e2 W1 { s1 with toks:=tk } u I1 (F.step _ _ (S1.toks tk)) R1 pos E).2 Q (λb h' W' s' a b' c=>p b h' W' s' a b' ((S1.toks tk).trans c)))
theorem Bt {a:EC}{q:QC}{e:PySem.Expr}{ops:List CmpOp}{es:List PySem.Expr}{pos:Pos}(ha:(SE w V oh kH fi) a e) (hq:SQ w V oh kH fi q ops es) (hm:lastMarks ops es=false):(SE w V oh kH fi) (tQ (aD a q)) (.Compare e ops es pos):=by
 intro x r h k hk W s I F Q E p
 show WG _ _ (do compareChain pos (<-eval e x.env) ops (markedEach ops es (evalEach es x.env))) Q E s
 rw [markedEach_of_false _ _ _ hm]
 exact WG.bind (ha x r h _ hk W s I F _ _ λav h1 u W1 s1 e1 R1 I1 S1=>(hq x r h1 _ av e1 W1 s1 u I1 (F.step _ _ S1) R1 pos E).1 Q λb h' W' s' c1 c2 c3=>p (.bool b) h' _ W' s' c1 rfl c2 (S1.trans c3))
theorem Bu {a:EC}{q:QC}{e:PySem.Expr}{ops:List CmpOp}{es:List PySem.Expr}{pos:Pos}(ha:(SE w V oh kH fi) a e) (hq:SQ w V oh kH fi q ops es) (hm:lastMarks ops es=false):(ST w V oh kH fi) (aD a q) (.Compare e ops es pos):=by
 intro x r h k hk W s I F Q E p
 show WG _ _ (do testChain pos (<-eval e x.env) ops (markedEach ops es (evalEach es x.env))) Q E s
 rw [markedEach_of_false _ _ _ hm]
 exact WG.bind (ha x r h _ hk W s I F _ _ λav h1 u W1 s1 e1 R1 I1 S1=>(hq x r h1 _ av e1 W1 s1 u I1 (F.step _ _ S1) R1 pos E).2 Q λb h' W' s' c1 c2 c3=>p b h' W' s' c1 c2 (S1.trans c3))
noncomputable def notStar:PySem.Expr->Bool
 |.Starred ..=>false
 |_=>true
theorem bX {e:PySem.Expr}(he:notStar e=true) (es:List PySem.Expr) (env:Env):starEach (e::es) env=(false,eval e env)::starEach es env:=by
 cases e<;>first|exact nf he|rfl
theorem Bv:(SL w V oh kH fi) lN []:=λx r h k hk W s I F pos Q E p=>WG.pure (p [] h [] W s hk .nil I (Step.refl W s))
theorem x4 {c:EC}{l:LC}{e:PySem.Expr}{es:List PySem.Expr}(he:notStar e=true) (hc:(SE w V oh kH fi) c e) (hl:(SL w V oh kH fi) l es):(SL w V oh kH fi) (lC c l) (e::es):=by
 intro x r h k hk W s I F pos Q E p
 rw [bX he]
 refine bg (hc x r h _ hk W s I F _ _ λav h1 v W1 s1 e1 R1 I1 S1=>?_)
 exact hl x r h1 _ e1 W1 s1 I1 (F.step _ _ S1) pos _ _ λavs h2 vs W2 s2 e2 R2 I2 S2=>p (av::avs) h2 (v::vs) W2 s2 e2 (.cons (R1.mono S2.le.1) R2) I2 (S1.trans S2)
theorem gO {W:Wd}{h:H}{s:Shared}{ob:Obj}{o:AO}(I:Inv w V oh W h s.heap) (hr:∀W',W.le W'->(W'=W.ext h.nx s.heap.objs.size none)->bV w V W' (s.heap.push ob) s.heap.objs.size h.nx o) :
  Inv w V oh (W.ext h.nx s.heap.objs.size none) (.mk (h.t.set o h.nx) h.nx.succ) (s.heap.push ob)/\Step none_ W s (W.ext h.nx s.heap.objs.size none) { s with heap:=s.heap.push ob }/\(W.ext h.nx s.heap.objs.size none).μ h.nx=some s.heap.objs.size:=by
 have hn:¬W.own s.heap.objs.size:=λq=>Nat.lt_irrefl _ (I.lt _ q)
 have h0:oh.get? s.heap.objs.size=none:=by
  cases q:oh.get? s.heap.objs.size with
  |none=>rfl
  |some o=>exact absurd (Heap.lt_size (I.bq _ _ q)) (Nat.lt_irrefl _)
 have nδ:W.δ h.nx=none:=by cases q:W.δ h.nx with|none=>rfl|some b=>exact absurd (I.ez _ _ q) (Nat.lt_irrefl _)
 have nμ:W.μ h.nx=none:=by cases q:W.μ h.nx with|none=>rfl|some b=>exact absurd (I.nE _ _ q) (Nat.lt_irrefl _)
 have le:W.le (W.ext h.nx s.heap.objs.size none):=⟨λp b e=>by show (if p=h.nx then _ else _)=_;rw [if_neg λq=>(by subst q;rw [nμ] at e;exact nn e)];exact e,λp b e=>by show (if p=h.nx then _ else _)=_;rw [if_neg λq=>(by subst q;rw [nδ] at e;exact nn e)];exact e,rfl⟩
 obtain⟨_,I'⟩:=(I.push ob).new (a:=s.heap.objs.size) (d:=none) (o:=o) hn (λb q=>by exact nn q) h0 (by skip;rw [Heap.size_push];exact Nat.le_refl _) (hr _ le rfl)
 refine⟨I',⟨le,λb q=>?_,λb x e _=>Heap.get?_push_of_some _ e,by skip;rw [Heap.size_push];exact Nat.le_add_right _ _,rfl,rfl⟩,if_pos rfl⟩
 rcases q with ⟨p,e⟩|⟨p,e⟩
 ·have e:(if p=h.nx then some s.heap.objs.size else W.μ p)=some b:=e
  split at e
  ·cases e;exact .inr (Nat.le_refl _)
  ·exact .inl (.inl ⟨p,e⟩)
 ·have e:(if p=h.nx then none else W.δ p)=some b:=e
  split at e
  ·exact nn e
  ·exact .inl (.inr ⟨p,e⟩)
theorem cO.alloc {k:K1}{W:Wd}{h:H}{s:Shared}{Q:Value->Shared->Prop}{o:AO}{ob:Obj}(p:cO w V oh k W s Q) (e:alloc o h k=true) (I:Inv w V oh W h s.heap)
  (hr:∀W',W.le W'->(W'=W.ext h.nx s.heap.objs.size none)->bV w V W' (s.heap.push ob) s.heap.objs.size h.nx o):Q (.ref s.heap.objs.size) { s with heap:=s.heap.push ob }:=by
 refine pS (gO I hr) λa b c=>?_
 exact p (.ref h.nx) _ _ _ _ (dW e) (yEA _ c rfl) a b
theorem br {n:Nat}(h:Nat.ble n 4096=true):n<=sizeLine:=Nat.le_trans (Nat.le_of_ble_eq_true h) (by unfold sizeLine;decide)
theorem sTup {l:LC}{es:List PySem.Expr}{kd:Nat}{pos:Pos}(hl:(SL w V oh kH fi) l es):(SE w V oh kH fi) (aJ l) (.Tuple es kd pos):=by
 intro x r h k hk W s I F Q E p
 refine WG.aA (WG.bind (hl x r h _ hk W s I F pos _ _ λavs h1 vs W1 s1 e1 R1 I1 S1=>?_))
 obtain⟨e1,e2⟩:=(bW e1).resolve_right (λq=>by cases q.2)
 refine WG.of <| wpAny_newTuple ((p.after S1).alloc e2 I1 λW' le _=>yEEA _ 0 (Heap.get?_push_size _ rfl) ?_) (br (R1.len▸e1))
 simpa using R1.mono le.1
theorem sLst {l:LC}{es:List PySem.Expr}{pos:Pos}(hl:(SL w V oh kH fi) l es):(SE w V oh kH fi) (bt l) (.List es pos):=by
 intro x r h k hk W s I F Q E p
 refine WG.aA (WG.bind (hl x r h _ hk W s I F pos _ _ λavs h1 vs W1 s1 e1 R1 I1 S1=>?_))
 obtain⟨e1,e2⟩:=(bW e1).resolve_right (λq=>by cases q.2)
 refine WG.of <| wpAny_newList ((p.after S1).alloc e2 I1 λW' le _=>yEEA _ 0 (Heap.get?_push_size _ rfl) ?_) (br (R1.len▸e1))
 simpa using R1.mono le.1
theorem aL {M:Model}{A:Around}{E:Value->Shared->Prop}{s:Shared}{f:Value}{pos:Pos}{env:Env}{es:List PySem.Expr}(hs:es.all notStar=true){Q:Args->Shared->Prop}(h:WG M A (spliced (backTo pos (starEach es env))) (λvs s'=>Q ⟨vs,[]⟩ s') E s) :
  WG M A (evalArgs f true (backTo pos (starEach es env)) []) Q E s/\(backTo pos (starEach es env)).any (·.1)=false:=by
 have any:∀es:List PySem.Expr,es.all notStar=true->(backTo pos (starEach es env)).any (·.1)=false:=by
  intro es
  induction es with
  |nil=>intro _;rfl
  |cons e r ih=>
   intro hs
   rw [List.all_cons,Bool.and_eq_true] at hs
   rw [bX hs.1]
   show (false||(backTo pos (starEach r env)).any (·.1))=false
   rw [ih hs.2];rfl
 refine⟨?_,any es hs⟩
 cases es with
 |nil=>
  have h:WG M A (spliced []) (λvs s'=>Q ⟨vs,[]⟩ s') E s:=h
  delta evalArgs
  refine WG.bind (WG.mono h (λvs s' h'=>?_) λ_ _ x=>x)
  first
   |(refine WG.hold ?_;exact WG.bind (WG.pure (WG.bind (WG.pure (WG.pure h')))))
   |(refine WG.bind (WG.pure ?_);refine WG.hold ?_;exact WG.bind (WG.pure (WG.bind (WG.pure (WG.pure h')))))
 |cons e r=>
  rw [List.all_cons,Bool.and_eq_true] at hs
  rw [bX hs.1] at h ⊢
  exact il h
end
end
section
set_option genInjectivity false
set_option genSizeOf false
theorem Rep.handed {V:Va}{μ:Mu}{x:AV}{v:Value}(r:Rep V μ x v):handedIn v=true:=by
 cases x with
 |none=>obtain rfl:v = .none:=r;rfl
 |bool b=>obtain rfl:v = .bool b:=r;rfl
 |nat n=>obtain⟨t,rfl⟩:=r;rfl
 |ref p=>refine aI r λa _ r2_=>?_;clear r;subst r2_;rfl
 |o y=>
  cases y with
  |str i=>refine bf r λx t _ r3_=>?_;clear r;subst r3_;rfl
  |bytes l=>obtain⟨t,rfl⟩:=r;rfl
  |sq b k p=>obtain⟨t,rfl⟩:=r;rfl
  |cg b k=>refine bf r λi t r2_ _=>?_;clear r;subst r2_;rfl
  |ot i=>obtain⟨t,rfl⟩:=r;rfl
  |oc i=>obtain⟨t,rfl⟩:=r;rfl
  |nI=>exact r
  |fn f=>refine aI r λa _ r2_=>?_;clear r;subst r2_;rfl
  |un i=>obtain⟨t,rfl⟩:=r;rfl
  |fF i=>exact r.2
theorem io {h:Heap}{d:Addr}{m:Str->Option Value}{o:Obj}{x:Str}(n:h.Ns d m) (e:h.get? d=some o):lookIn x o=some (m x):=by
 refine cb n λo' es ep e' hd hk hf=>?_;clear n
 rw [e] at e';cases e'
 unfold lookIn
 rw [hd]
 have hx:=hf x
 unfold nsFind findBy at hx
 rw [<-Array.find?_toList] at hx
 cases q:es.toList.find? (·.key.isStr x) with
 |some en=>rw [q] at hx;dsimp only;rw [q,<-hx];rfl
 |none=>
  rw [q] at hx
  dsimp only
  have nr:es.toList.any (·.refKey)=false:=by
   rw [List.any_eq_false]
   intro en hen
   obtain⟨n,t,hkey⟩:=hk en (Array.mem_toList_iff.mp hen)
   unfold DictEntry.refKey
   rw [hkey];simp
  rw [q,nr,<-hx];rfl
structure Bw (V:Va) (K:Frag) (c:Nat) (C:Addr):Prop where
 mks:makesIn K C=true
 ga:findIn K (.ref C) "__getattribute__" = some (some (.builtin "object.__getattribute__"))
 gt:findIn K (.ref C) "__getattr__" = some none
 sa:findIn K (.ref C) "__setattr__" = some (some (.builtin "object.__setattr__"))
 yR:hasDictIn K C=true
 over:plainOver K C=true
 fld:∀q x,V.attr q=some x->V.fld c q=true->findIn K (.ref C) x=some none
 l7:∀q x f,V.attr q=some x->V.l7 c q=some f->∃a,V.fn f=some a/\findIn K (.ref C) x=some (some (.ref a))/\typeIn K (.ref a)=some (.type "function")
 init:∀f,V.init c=some f->∃a,V.fn f=some a/\findIn K (.ref C) "__init__" = some (some (.ref a))/\typeIn K (.ref a)=some (.type "function")
 nP:∀q x f,V.attr q=some x->V.nP c q=some f->∃p a rest,V.fn f=some a/\findIn K (.ref C) x=some (some (.ref p))/\specialIn K (.ref p) "__get__" = some (some (.builtin "property.__get__"))/\takesIn K (.ref p)=some true/\recIn K p "property" = some (.ref a::rest)
def cP (V:Va) (oh:Heap):Prop:=∀c C,V.cls c=some C->∃K:Frag,K.In oh/\Bw V K c C
def iH (V:Va) (oh:Heap):Prop:=∀f a,V.fn f=some a->∃o fd,oh.get? a=some o/\o.data = .func fd
section
variable {w:World}{V:Va}{oh:Heap}{kH:Bool}{fi:aY}
theorem mf {W:Wd}{hp:Heap}{a:Addr}{p:P4}{c:Nat}{f:Tr AV}(r:bV w V W hp a p (.inst c f)) :
  ∃C d od m,V.cls c=some C/\W.δ p=some d/\hp.get? a=some (instObj C d)/\hp.get? d=some od/\hp.Ns d m/\(∀x,lookIn x od=some (m x))/\InstAt hp a (instObj C d) C (some od)/\kz V W.μ f m/\∀q av,f.get q=some av->V.fld c q=true:=by
 refine bG λ_ kk=>?_
 obtain⟨d,C,m,h1,h2,h3,h4,_,h5,h6⟩:=r
 refine kk ?_
 have h4:=h4.ns
 refine dH h4 λod es ep g1 g2=>?_;clear h4
 exact yEEEEAAAAAAAA C d od m h2 h1 h3 g1 ⟨od,es,ep,g1,g2⟩ (λx=>io ⟨od,es,ep,g1,g2⟩ g1) ⟨h3,rfl,rfl,g1⟩ h5 h6
theorem ip (CA:cP V oh){A:Around}{q:P4}{x:Str}(hx:V.attr q=some x){W:Wd}{h:H}{s:Shared}(I:Inv w V oh W h s.heap){p:P4}{c:Nat}{f:Tr AV}{a:Addr}(ho:h.t.get p=some (.inst c f)) (ha:W.μ p=some a)
  {av:AV}(hf:f.get q=some av){Q:Value->Shared->Prop}{E:Value->Shared->Prop}(k:∀v,Rep V W.μ av v->Q v { s with toks:=s.toks+1 }):wpAny (model pw w) A (getAttr (.ref a) x true) Q E s:=by
 refine bG λ_ kk=>?_
 obtain⟨C,d,od,m,hC,hδ,_,hod,hn,hl,IA,FR,hfl⟩:=mf (I.at ho ha)
 obtain⟨K,KI,CK⟩:=CA c C hC
 refine aI ((FR q x hx).1 av hf) λv hv R=>?_
 refine kk ?_
 refine get_value (KI.keeps I.bq) IA CK.ga ?_ R.handed (k v R)
 exact findObj_own CK.yR (CK.fld q x hx (hfl q av hf)) rfl ((hl x).trans (by rw [hv]))
noncomputable def bP:PySem.Expr->Bool
 |.Call (.Name id _) [] [] _=>id != ("super" : Str)
 |_=>true
theorem cc {o:PySem.Expr}(h:bP o=true) (attr:Str) (env:Env) (whole:Sem Value):attributeBase o attr env whole=whole:=by
 cases o with
 |Call f es ks p=>cases f with
  |Name id q=>cases es with
   |nil=>cases ks with
    |nil=>
     have h:(id != ("super" : Str))=true:=h
     delta attributeBase
     dsimp only
     rw [h];rfl
    |cons=>rfl
   |cons=>rfl
  |_=>rfl
 |_=>rfl
theorem sAt (CA:cP V oh){c:EC}{q:P4}{x:Str}{e:PySem.Expr}{pos:Pos}(hx:V.attr q=some x) (hs:bP e=true) (hc:(SE w V oh kH fi) c e):(SE w V oh kH fi) (cV c q) (.Attribute e x pos):=
 λy r h k hk W s I F Q E p=>iG (hc y r h _ hk W s I F _ _ λav h1 v W1 s1 e1 R1 I1 S1=>by
  obtain⟨pp,c',f,rfl,ho,e1⟩:=n0 e1
  refine opt_k e1 λxv hf e1=>?_
  obtain⟨a,ha,rfl⟩:=R1
  exact WG.of <| ip CA hx I1 ho ha hf λv R=>p xv h1 v W1 _ e1 R I1 (S1.toks _)) (by rw [arm_eval_Attribute,cc hs])
theorem sAtL (CA:cP V oh){l q:P4}{y x:Str}{np pos:Pos}(hx:V.attr q=some x) (hs:fi.slot l=some y) (hd:(y==("__debug__" : Str))=false) (hc:(y==("__classdict__" : Str))=false):(SE w V oh kH fi) (aa l q) (.Attribute (.Name y np) x pos):=
 sAt CA hx rfl (sL hs hd hc)
theorem sAtP (CA:cP V oh){c:EC}{q:P4}{x:Str}{cl:Nat}{f:P4}{e:PySem.Expr}{pos:Pos}(hx:V.attr q=some x) (hp:V.nP cl q=some f) (hs:bP e=true) (hc:(SE w V oh kH fi) c e):(SE w V oh kH fi) (iQ c q cl f) (.Attribute e x pos):=
 λy r h k hk W s I F Q E p=>iG (hc y r h _ hk W s I F _ _ λav h1 v W1 s1 e1 R1 I1 S1=>by
  refine onI_k e1 λpp c' fs r3_ ho e1=>?_;subst r3_
  refine R1.rf λa ha r2_=>?_;clear R1;subst r2_
  cases hf:fs.get q with
  |some xv=>
   rw [hf] at e1
   exact WG.of <| ip CA hx I1 ho ha hf λv R=>p xv h1 v W1 _ e1 R I1 (S1.toks _)
  |none=>
   rw [hf] at e1
   have e1:az (Nat.beq cl c') (y.co f [.ref pp] h1 k) false=true:=e1
   obtain⟨e0,e2⟩:=(bW e1).resolve_right (λz=>by cases z.2)
   obtain rfl:=Nat.eq_of_beq_eq_true e0
   refine bG λ_ kk=>?_
   obtain⟨C,d,od,m,hC,hδ,_,hod,hn,hl,IA,FR,hfl⟩:=mf (I1.at ho ha)
   obtain⟨K,KI,CK⟩:=CA cl C hC
   obtain⟨pr,af,rest,hfn,g1,g2,g3,g4⟩:=CK.nP q x f hx hp
   obtain⟨af',hfn',call⟩:=y.ok f [.ref pp] h1 k e2
   refine kk ?_
   rw [hfn] at hfn';cases hfn'
   have X:=KI.keeps I1.bq
   refine p6 X IA CK.ga (findObj_data (by refine aI (any_some CK.yR) λcd hcd _=>?_;show (clsIn K C).isSome=true;rw [hcd];rfl) g1 g2 g3) CK.gt (WG.call (p5 (s:={ s1 with toks:=s1.toks+1 }) X g4 ?_))
   exact call y.A.in1 (y.rm.call (by skip;exact Nat.le_add_right _ _) (by skip;lia)) y.ho W1 { s1 with toks:=s1.toks+1 } [.ref a] I1 (.cons (yEA a ha rfl) .nil) _ λav' h' v' W' s' k1 k2 k3 k4=>
    ⟨k2.handed,p av' h' v' W' s' k1 k2 k3 ((S1.toks _).trans k4)⟩) (by rw [arm_eval_Attribute,cc hs])
end
end
section
section
variable {w:World}{V:Va}{oh:Heap}{kH:Bool}{fi:aY}
theorem lq {v:AV}{k:P4->Bool}(e:yI v k=true):∃f,v = .o (.fn f)/\k f=true:=by
 cases v with
 |o y=>cases y<;>first|exact yEA _ rfl e|exact nf e
 |_=>exact nf e
theorem yS {n:Nat}{co:CO}(ok:ti w V oh kH n co){f:P4}{a:Addr}(hf:V.fn f=some a){vs:List AV}{h:H}{k:K1}(e:co f vs h k=true){A:Around}(rm:xZ n A) (ho:j8 kH oh A){W:Wd}{s:Shared}{vals:List Value}
  (I:Inv w V oh W h s.heap) (R:aR V W.μ vs vals){Q:Value->Shared->Prop}{E:Value->Shared->Prop}(p:cO w V oh k W s Q):WG (model pw w) A (PySem.call (.ref a) vals) Q E s:=by
 refine aI (ok f vs h k e) λa' hf' call=>?_
 rw [hf] at hf';cases hf'
 exact WG.call (call A rm ho W s vals I R _ p)
theorem gj {M:Model}{a:Addr}{fd:FuncData}(h:Heap) (x:∃o,h.get? a=some o/\o.data = .func fd):∃k,(k=Keeper.frame∨k=Keeper.machine∨k=Keeper.boundFrame)/\Looks M h (keeperOf (.ref a)) k:=by
 refine aI x λq0_ e hd=>?_;clear x;obtain⟨c,d,dt,sl⟩:=q0_
 obtain rfl:dt = .func fd:=hd
 exact yEA .frame (.inl rfl) ((Looks.ld (part:=none) e).andThen .now)
theorem bc (y:Str) (np:Pos) (es:List PySem.Expr) (pos:Pos) (env:Env):eval (.Call (.Name y np) es [] pos) env=(do callWith pos (<-eval (.Name y np) env) [] (backTo pos (starEach es env)) []):=rfl
theorem ua (FA:iH V oh){c:EC}{l:LC}{y:Str}{np pos:Pos}{es:List PySem.Expr}(hs:es.all notStar=true) (hc:(SE w V oh kH fi) c (.Name y np)) (hl:(SL w V oh kH fi) l es):(SE w V oh kH fi) (gf c l) (.Call (.Name y np) es [] pos):=by
 intro x r h k hk W s I F Q E p
 refine WG.eq (bc ..) ?_
 refine WG.bind (hc x r h _ hk W s I F _ _ λav h1 v W1 s1 e1 R1 I1 S1=>?_)
 refine aI (lq e1) λf r1_ e1=>?_;subst r1_
 refine aI R1 λa hf r2_=>?_;clear R1;subst r2_
 refine bf (FA f a hf) λo fd ho hd=>?_
 refine dM (P:=λh=>∃o,h.get? a=some o/\o.data = .func fd) (by rw [(aL (M:=model pw w) (A:=x.A) (E:=E) (s:=s1) (f:=.none) (pos:=pos) (env:=x.env) hs (Q:=λ_ _=>True) (hl x r h1 _ e1 W1 s1 I1 (F.step _ _ S1) pos _ _ λ_ _ _ _ _ _ _ _ _=>trivial)).2];rfl) (λh z=>gj h z) ?_
 refine (aL hs (hl x r h1 _ e1 W1 s1 I1 (F.step _ _ S1) pos _ _ λavs h2 vs W2 s2 e2 R2 I2 S2=>?_)).1
 exact⟨yEA o (I2.bq _ _ ho) hd,yS x.ok hf e2 (x.rm.call (by exact Nat.le_add_right _ _) (by exact Nat.le_add_right _ _)) x.ho I2 R2 (p.after (S1.trans S2))⟩
theorem yT (FA:iH V oh){f:P4}{l:LC}{y:Str}{np pos:Pos}{es:List PySem.Expr}(hs:es.all notStar=true) (hc:(SE w V oh kH fi) (eK (.o (.fn f))) (.Name y np)) (hl:(SL w V oh kH fi) l es):(SE w V oh kH fi) (ah f l) (.Call (.Name y np) es [] pos):=
 λx r h k hk=>ua FA hs hc hl x r h k hk
theorem uc (CA:cP V oh){n:Nat}{co:CO}(ok:ti w V oh kH n co){c:Nat}{i:P4}{C:Addr}(hC:V.cls c=some C) (hi:V.init c=some i){vs:List AV}{h:H}{k:K1}
  (e:Mine.alloc (.inst c .lf) h (λs h=>co i (s::vs) h λx h=>hU x (k s h))=true){A:Around}(rm:Rm n A) (ho:j8 kH oh A){W:Wd}{s:Shared}{vals:List Value}
  (I:Inv w V oh W h s.heap) (R:aR V W.μ vs vals){Q:Value->Shared->Prop}{E:Value->Shared->Prop}(p:cO w V oh k W s Q):WG (model pw w) A (PySem.call (.ref C) vals) Q E s:=by
 refine aI (CA c C hC) λK KI CK=>?_
 refine cS (CK.init i hi) λfI hfI hfind hty=>?_
 have X:=KI.keeps I.bq
 have e:=dW e
 obtain⟨hh,g,d,t,os⟩:=s
 have own1:∀b,hh.objs.size<=b->¬W.own b:=λb hb q=>absurd (I.lt b q) (Nat.not_lt.mpr hb)
 have hz:∀b,hh.objs.size<=b->oh.get? b=none:=λb hb=>by
  cases q:oh.get? b with
  |none=>rfl
  |some o=>exact absurd (Heap.lt_size (I.bq _ _ q)) (Nat.not_lt.mpr hb)
 have I2:=(I.push emptyDict).push (instObj C hh.objs.size)
 have z1:(hh.push emptyDict).objs.size=hh.objs.size+1:=Heap.size_push _ _
 have z2:((hh.push emptyDict).push (instObj C hh.objs.size)).objs.size=hh.objs.size+2:=by rw [Heap.size_push,z1]
 have gi:((hh.push emptyDict).push (instObj C hh.objs.size)).get? (hh.objs.size+1)=some (instObj C hh.objs.size):=by rw [<-z1];exact Heap.get?_push_size _ rfl
 have gd:((hh.push emptyDict).push (instObj C hh.objs.size)).Ns hh.objs.size λ_=>none:=(Heap.Ns.new hh (.type "dict")).push _
 obtain⟨le,I3⟩:=I2.new (a:=hh.objs.size+1) (d:=some hh.objs.size) (o:=.inst c .lf) (own1 (hh.objs.size+1) (by exact Nat.le_add_right _ _)) (λb q=>by cases q;exact yAAA (own1 hh.objs.size (Nat.le_refl _)) (Nat.ne_of_lt (Nat.lt_succ_self _)) (hz hh.objs.size (Nat.le_refl _)) (by show hh.objs.size<((hh.push emptyDict).push (instObj C hh.objs.size)).objs.size;rw [z2];lia)) (hz (hh.objs.size+1) (by exact Nat.le_add_right _ _)) (by show hh.objs.size+1<((hh.push emptyDict).push (instObj C hh.objs.size)).objs.size;rw [z2];exact Nat.le_refl _)
  (yEEEAAAAAA hh.objs.size C (λ_=>none) (if_pos rfl) hC gi (Heap.Ns1.of_empty gd) (λy hy=>absurd rfl hy) (λq x _=>⟨λav h=>(by rw [Tr.bF] at h;exact nn h),λ_=>rfl⟩) λq av h=>(by rw [Tr.bF] at h;exact nn h))
 have S:Step none_ W ⟨hh,g,d,t,os⟩ (W.ext h.nx (hh.objs.size+1) (some hh.objs.size)) ⟨(hh.push emptyDict).push (instObj C hh.objs.size),g,d,t,os⟩:=by
  refine⟨le,λb q=>?_,λb x e _=>Heap.get?_push_of_some _ (Heap.get?_push_of_some _ e),by show hh.objs.size<=((hh.push emptyDict).push (instObj C hh.objs.size)).objs.size;rw [z2];exact Nat.le_add_right _ _,rfl,rfl⟩
  rcases q with ⟨p,e⟩|⟨p,e⟩
  ·have e:(if p=h.nx then some (hh.objs.size+1) else W.μ p)=some b:=e
   split at e
   ·cases e;exact .inr (by show hh.objs.size<=_;exact Nat.le_add_right _ _)
   ·exact .inl (.inl ⟨p,e⟩)
  ·have e:(if p=h.nx then some hh.objs.size else W.δ p)=some b:=e
   split at e
   ·cases e;exact .inr (Nat.le_refl _)
   ·exact .inl (.inr ⟨p,e⟩)
 refine aI (ok i _ _ _ e) λfI' hfI' call=>?_
 rw [hfI] at hfI';cases hfI'
 refine WG.call (yO (makes_of X CK.mks) (looks_findIn X hfind) (λself=>bind_fn X self hty) rfl ?_)
 refine call (A.under (.builtin "type.__call__" ⟨.ref C::vals,[]⟩)) (rm.call (by rw [depth_under_kw];lia) ?_) ho _ _ (.ref (hh.objs.size+1)::vals) I3 (.cons (yEA _ (if_pos rfl) rfl) (R.mono le.1)) _ λav h' v W' s' k1 k2 k3 k4=>?_
 ·show A.units+(Code.builtin "type.__call__" ⟨.ref C::vals,[]⟩).cUnits<=_
  have:(Code.builtin "type.__call__" ⟨.ref C::vals,[]⟩).cUnits=1:=rfl
  lia
 ·obtain⟨rfl,k1⟩:=fu k1
  obtain rfl:v = .none:=k2
  exact⟨rfl,p (.ref h.nx) h' _ W' s' k1 (yEA _ (k4.le.1 _ _ (if_pos rfl)) rfl) k3 (S.trans k4)⟩
theorem yU (CA:cP V oh){c:Nat}{i:P4}{C:Addr}{l:LC}{y:Str}{np pos:Pos}{es:List PySem.Expr}{mg:Str->Option Value}(hg:oh.Ns mainGlobals mg) (hv:mg y=some (.ref C)) (hk:fi.kindOf y=some .globalImplicit) (hd:(y==("__debug__" : Str))=false)
  (hC:V.cls c=some C) (hi:V.init c=some i) (hs:es.all notStar=true) (hl:(SL w V oh kH fi) l es):(SE w V oh kH fi) (aZ c i l) (.Call (.Name y np) es [] pos):=by
 intro x r h k hk' W s I F Q E p
 refine WG.eq (bc ..) ?_
 refine WG.leaf (Name_function_global x.fm.kind ((x.fm.kinds y).trans hk) (loadGlobal_global (mg:=mg) (by rw [x.fm.glob];exact hg.keeps I.bq) hv ?_) hd)
 refine aI (CA c C hC) λK KI CK=>?_
 have hkeep:keepIn K (.ref C)=true:=by
  have:=CK.mks
  unfold makesIn at this
  split at this
  ·rename_i oc od cd sl ho
   simp only [Bool.and_eq_true] at this
   unfold keepIn
   dsimp only
   rw [ho]
   exact this.1.2
  ·exact nf this
 refine dM (P:=K.In) (by rw [(aL (M:=model pw w) (A:=x.A) (E:=E) (s:=s) (f:=.none) (pos:=pos) (env:=x.env) hs (Q:=λ_ _=>True) (hl x r h _ hk' W s I F pos _ _ λ_ _ _ _ _ _ _ _ _=>trivial)).2];rfl) (λh z=>keeps_K hkeep h z) ?_
 refine (aL hs (hl x r h _ hk' W s I F pos _ _ λavs h2 vs W2 s2 e2 R2 I2 S2=>?_)).1
 exact⟨KI.keeps I2.bq,uc CA x.ok hC hi e2 x.rm x.ho I2 R2 (p.after S2)⟩
end
end
section
theorem md3 (a b c:Nat):((a+b) % 256+c) % 256=(a+(b+c) % 256) % 256:=by rw [Nat.mod_add_mod,Nat.add_mod_mod,Nat.add_assoc]
theorem dv4 (x y:Nat):(4*x+y % 4) / 4=x:=by lia
theorem md4 (x y:Nat):(4*x+y % 4) % 4=y % 4:=by rw [Nat.mul_add_mod,Nat.mod_mod]
section
variable {w:World}{V:Va}{oh:Heap}{kH:Bool}{fi:aY}
theorem aN {b t:Bool}(h:az b t false=true):b=true/\t=true:=by cases b<;>first|exact⟨rfl,h⟩|exact nf h
theorem wd {f:Nat->Nat->Nat}{run:Value->Value->Sem Value}(h:∀A E s (Q:Value->Shared->Prop) (n m:Nat) t u,Q (.int (f n m:Nat) s.toks) { s with toks:=s.toks+1 }->wpAny (model pw w) A (run (.int n t) (.int m u)) Q E s):(qV w V oh kH) (et f) run:=by
 intro A n rm ho a b hh k e W s u v I Ra Rb Q E p
 refine onNat_k e λx r1_ e1=>?_;subst r1_
 refine onNat_k e1 λy r1_ e2=>?_;subst r1_
 obtain⟨t,rfl⟩:=Ra
 obtain⟨t',rfl⟩:=Rb
 exact h A E s Q x y t t' (p.now e2 I ⟨_,rfl⟩ _)
theorem oAnd:(qV w V oh kH) pU (binaryOp .BitAnd):=wd λA E s Q n m t u q=>PyProof.Rows.and_int q
theorem rR (n m:Nat):Builtin.bitOr (n:Int) m=((Nat.lor n m:Nat):Int):=by
 delta Builtin.bitOr Builtin.bitAnd
 have h1:decide (0<=Builtin.bitNot (n:Int))=false:=by delta Builtin.bitNot;simp;lia
 have h2:decide (0<=Builtin.bitNot (m:Int))=false:=by delta Builtin.bitNot;simp;lia
 have e:∀x:Int,Builtin.bitNot (Builtin.bitNot x)=x:=λx=>by delta Builtin.bitNot;lia
 rw [h1,h2]
 simp only [e,Int.toNat_natCast]
 rfl
theorem oOr:(qV w V oh kH) xW (binaryOp .BitOr):=wd λA E s Q n m t u q=>PyProof.Rows.or_int ((rR n m).symm▸q)
theorem oa (n m:Nat):(n:Int).fdiv (m:Int)=((n / m:Nat):Int):=by
 rw [Int.fdiv_eq_ediv_of_nonneg _ (Int.natCast_nonneg m)];exact (Int.natCast_ediv n m).symm
theorem jx (n m:Nat):(n:Int).fmod (m:Int)=((n % m:Nat):Int):=by
 rw [Int.fmod_eq_emod_of_nonneg _ (Int.natCast_nonneg m)];exact (Int.natCast_emod n m).symm
theorem qX (m:Nat):(2:Int) ^ (m:Int).toNat=((2 ^ m:Nat):Int):=by rw [Int.toNat_natCast];rfl
theorem yV (n m:Nat):(n:Int).fdiv (2 ^ (m:Int).toNat)=((Nat.shiftRight n m:Nat):Int):=by
 rw [qX,oa]
 exact congrArg _ (Nat.shiftRight_eq_div_pow n m).symm
theorem oShr:(qV w V oh kH) tM (binaryOp .RShift):=wd λA E s Q n m t u q=>PyProof.Rows.rshift_int (by exact Int.natCast_nonneg _) ((yV n m).symm▸q)
theorem oDiv:(qV w V oh kH) jk (binaryOp .FloorDiv):=by
 intro A n rm ho a b hh k e W s u v I Ra Rb Q E p
 refine onNat_k e λx r1_ e1=>?_;subst r1_
 refine onNat_k e1 λy r1_ e2=>?_;subst r1_
 obtain⟨t,rfl⟩:=Ra
 obtain⟨t',rfl⟩:=Rb
 rcases bW e2 with ⟨_,e3⟩|⟨e3,e4⟩
 ·exact nf e3
 ·obtain⟨e5,e6⟩:=aN e4
  refine PyProof.Rows.floordiv_int (by have:=Nat.ne_of_beq_eq_false e3;lia) ?_ (.inl (PyProof.noPylong_small (by have:=Nat.le_of_ble_eq_true e5;simp;lia)))
  rw [oa]
  exact p.now e6 I ⟨_,rfl⟩ _
theorem yW (n m:Nat):(n:Int)*2 ^ (m:Int).toNat=((Nat.shiftLeft n m:Nat):Int):=by
 rw [qX,<-Int.natCast_mul]
 exact congrArg _ (Nat.shiftLeft_eq n m).symm
theorem qY {n:Nat}(h:Nat.ble n 4294967296=true):((n:Int)).natAbs<2 ^ 64:=by
 have:=Nat.le_of_ble_eq_true h
 simp;lia
theorem oShl:(qV w V oh kH) v7 (binaryOp .LShift):=by
 intro A n rm ho a b hh k e W s u v I Ra Rb Q E p
 refine onNat_k e λx r1_ e1=>?_;subst r1_
 refine onNat_k e1 λy r1_ e2=>?_;subst r1_
 obtain⟨t,rfl⟩:=Ra
 obtain⟨t',rfl⟩:=Rb
 obtain⟨e3,e4⟩:=aN e2
 obtain⟨e5,e6⟩:=aN e4
 have:=Nat.le_of_ble_eq_true e3
 exact PyProof.Rows.lshift_int_small (by exact Int.natCast_nonneg _) (by lia) (qY e5) (by rw [yW];exact p.now e6 I ⟨_,rfl⟩ _)
theorem mh {n:Int}(h:n.natAbs<2 ^ 64):Builtin.Int.intBits n<=64:=PyProof.Rows.intBits_le h
theorem oMul:(qV w V oh kH) hW (binaryOp .Mult):=by
 intro A n rm ho a b hh k e W s u v I Ra Rb Q E p
 cases a with
 |nat x=>
  have e1:(aG b λm=>az (Nat.ble x 4294967296) (k (.nat (Nat.mul x m)) hh) false)=true:=e
  refine onNat_k e1 λy r1_ e2=>?_;subst r1_
  obtain⟨t,rfl⟩:=Ra
  obtain⟨t',rfl⟩:=Rb
  obtain⟨e3,e4⟩:=aN e2
  exact PyProof.Rows.mul_int (by rw [<-Int.natCast_mul];exact p.now e4 I ⟨_,rfl⟩ _) (IntMulOk.of_left (mh (qY e3)))
 |o y=>
  cases y with
  |sq bb kk pp=>
   have e1:(aG b λm=>az (Nat.beq pp 0) (k (.o (.cg (Nat.add (Nat.mul 4 (Nat.mul m (Nat.div bb 4))) (Nat.mod bb 4)) (Nat.mod (Nat.mul kk m) 256))) hh) false)=true:=e
   refine onNat_k e1 λm r1_ e2=>?_;subst r1_
   obtain⟨t,rfl⟩:=Ra
   obtain⟨t',rfl⟩:=Rb
   obtain⟨e3,e4⟩:=aN e2
   obtain rfl:=Nat.eq_of_beq_eq_true e3
   refine PyProof.Rows.mul_int ?_ (IntMulOk.of_left (mh (by simp;lia)))
   refine p.now e4 I (yEEA _ _ rfl ?_) _
   have hl:V.iT (Nat.add (Nat.mul 4 (Nat.mul m (Nat.div bb 4))) (Nat.mod bb 4))=m*V.iT bb:=by
    unfold Va.iT
    have h1:(Nat.add (Nat.mul 4 (Nat.mul m (Nat.div bb 4))) (Nat.mod bb 4)) / 4=m*(bb / 4):=by
     exact dv4 _ _
    have h2:(Nat.add (Nat.mul 4 (Nat.mul m (Nat.div bb 4))) (Nat.mod bb 4)) % 4=bb % 4:=by
     exact md4 _ _
    rw [h1,h2,Nat.mul_assoc]
   rw [hl]
   show (((V.iT bb+kk) % 256+0:Nat):Int)*(m:Int) % 256=(((m*V.iT bb+kk*m % 256) % 256:Nat):Int)
   rw [<-Int.natCast_mul]
   norm_cast
   rw [Nat.add_zero,Nat.mod_mul_mod,Nat.add_mod_mod]
   congr 1
   rw [Nat.add_mul,Nat.mul_comm (V.iT bb) m]
  |_=>exact nf e
 |_=>exact nf e
theorem oMod:(qV w V oh kH) lX (binaryOp .Mod):=by
 intro A n rm ho a b hh k e W s u v I Ra Rb Q E p
 refine onNat_k e λm r1_ e1=>?_;subst r1_
 obtain⟨t',rfl⟩:=Rb
 cases a with
 |nat x=>
  obtain⟨t,rfl⟩:=Ra
  have e2:az (Nat.beq m 0) false (k (.nat (Nat.mod x m)) hh)=true:=e1
  rcases bW e2 with ⟨_,e3⟩|⟨e3,e4⟩
  ·exact nf e3
  ·exact PyProof.Rows.mod_int' (by have:=Nat.ne_of_beq_eq_false e3;lia) (by rw [jx];exact p.now e4 I ⟨_,rfl⟩ _)
 |o y=>
  cases y with
  |sq bb kk pp=>
   obtain⟨t,rfl⟩:=Ra
   have e2:az (Nat.beq m 256) (k (.o (.sq bb (Nat.mod (Nat.add kk pp) 256) 0)) hh) (az (Nat.ble (Nat.add 256 pp) m) (k (.o (.sq bb kk pp)) hh) false)=true:=e1
   rcases bW e2 with ⟨e3,e4⟩|⟨e3,e4⟩
   ·obtain rfl:=Nat.eq_of_beq_eq_true e3
    refine PyProof.Rows.mod_int' (by decide) ?_
    rw [jx]
    have hv:((V.iT bb+kk) % 256+pp) % 256=(V.iT bb+(kk+pp) % 256) % 256+0:=md3 _ _ _
    rw [hv]
    exact p.now e4 I ⟨_,rfl⟩ _
   ·obtain⟨e5,e6⟩:=aN e4
    have h1:256+pp<=m:=Nat.le_of_ble_eq_true e5
    have h2:(V.iT bb+kk) % 256<256:=Nat.mod_lt _ (by decide)
    refine PyProof.Rows.mod_int' (by lia) ?_
    rw [jx,Nat.mod_eq_of_lt (by lia)]
    exact p.now e6 I ⟨_,rfl⟩ _
  |cg bb kk=>
   refine bf Ra λi t r2_ hi=>?_;clear Ra;subst r2_
   have e2:az (Nat.beq m 256) (az (Nat.beq bb 0) (k (.nat (Nat.mod kk 256)) hh) (k (.o (.sq bb (Nat.mod kk 256) 0)) hh)) false=true:=e1
   obtain⟨e3,e4⟩:=aN e2
   obtain rfl:=Nat.eq_of_beq_eq_true e3
   refine PyProof.Rows.mod_int' (by decide) ?_
   rw [Int.fmod_eq_emod_of_nonneg _ (by decide)]
   have hi:i % ((256:Nat):Int)=(((V.iT bb+kk) % 256:Nat):Int):=hi
   rw [hi]
   rcases bW e4 with ⟨e5,e6⟩|⟨e5,e6⟩
   ·obtain rfl:=Nat.eq_of_beq_eq_true e5
    have hl:V.iT 0=0:=by unfold Va.iT;simp
    rw [hl,Nat.zero_add]
    exact p.now e6 I ⟨_,rfl⟩ _
   ·have hv:(V.iT bb+kk) % 256=(V.iT bb+kk % 256) % 256+0:=(Nat.add_mod_mod _ _ _).symm
    rw [hv]
    exact p.now e6 I ⟨_,rfl⟩ _
  |_=>exact nf e1
 |_=>exact nf e1
theorem oSub:(qV w V oh kH) eM (binaryOp .Sub):=by
 intro A n rm ho a b hh k e W s u v I Ra Rb Q E p
 cases a with
 |nat x=>
  have e1:(aG b λm=>az (Nat.ble m x) (k (.nat (Nat.sub x m)) hh) false)=true:=e
  refine onNat_k e1 λy r1_ e2=>?_;subst r1_
  obtain⟨t,rfl⟩:=Ra
  obtain⟨t',rfl⟩:=Rb
  obtain⟨e3,e4⟩:=aN e2
  have hle:y<=x:=Nat.le_of_ble_eq_true e3
  refine PyProof.Rows.sub_int ?_
  rw [<-Int.ofNat_sub hle]
  exact p.now e4 I ⟨_,rfl⟩ _
 |o y=>
  cases y with
  |sq b₁ k₁ p₁=>
   cases b with
   |o z=>
    cases z with
    |sq b₂ k₂ p₂=>
     obtain⟨t,rfl⟩:=Ra
     obtain⟨t',rfl⟩:=Rb
     have e2:az (Nat.beq b₁ b₂) (az (Nat.ble (Nat.add k₂ p₂) 1024) (k (.o (.cg 0 (Nat.mod (Nat.sub (Nat.add (Nat.add k₁ p₁) 1024) (Nat.add k₂ p₂)) 256))) hh) false) false=true:=e
     obtain⟨e3,e4⟩:=aN e2
     obtain⟨e5,e6⟩:=aN e4
     obtain rfl:=Nat.eq_of_beq_eq_true e3
     have h5:k₂+p₂<=1024:=Nat.le_of_ble_eq_true e5
     refine PyProof.Rows.sub_int (p.now e6 I (yEEA _ _ rfl ?_) _)
     have hl:V.iT 0=0:=by unfold Va.iT;simp
     rw [hl]
     show _=(((0+(k₁+p₁+1024 - (k₂+p₂)) % 256) % 256:Nat):Int)
     omega
    |_=>exact nf e
   |_=>exact nf e
  |_=>exact nf e
 |_=>exact nf e
theorem oAdd:(qV w V oh kH) ba (binaryOp .Add):=by
 intro A n rm ho a b hh k e W s u v I Ra Rb Q E p
 cases a with
 |none=>exact nf e
 |bool _=>exact nf e
 |nat x=>
  cases b with
  |nat y=>
   obtain⟨t,rfl⟩:=Ra
   obtain⟨t',rfl⟩:=Rb
   exact PyProof.Rows.add_int (by rw [<-Int.natCast_add];exact p.now e I ⟨_,rfl⟩ _)
  |o z=>
   cases z with
   |ot i=>
    obtain⟨t,rfl⟩:=Ra
    obtain⟨t',rfl⟩:=Rb
    have e1:az (Nat.beq x 65) (k (.o (.oc i)) hh) false=true:=e
    obtain⟨e2,e3⟩:=aN e1
    obtain rfl:=Nat.eq_of_beq_eq_true e2
    exact PyProof.Rows.add_int (by rw [<-Int.natCast_add];exact p.now e3 I ⟨_,rfl⟩ _)
   |_=>exact nf e
  |_=>exact nf e
 |ref p'=>
  have e1:(dg b λq=>hh.get p' λx=>hh.get q λy=>bx x λl=>bx y λm=>az (Nat.ble (Nat.add (len l) (len m)) 4096) (Mine.alloc (.list (lc l m)) hh k) false)=true:=e
  refine onRef_k e1 λq r1_ e2=>?_;subst r1_
  refine H_k e2 λx hx e3=>?_
  refine H_k e3 λy hy e4=>?_
  refine onList_k e4 λl r1_ e5=>?_;subst r1_
  refine onList_k e5 λm r1_ e6=>?_;subst r1_
  obtain⟨e7,e8⟩:=aN e6
  refine Ra.rf λa ha r2_=>?_;clear Ra;subst r2_
  refine Rb.rf λb hb r2_=>?_;clear Rb;subst r2_
  refine I.lst hx ha λvs n1 g1 r1=>?_
  refine I.lst hy hb λws n2 g2 r2=>?_
  have hsz:vs.size+ws.size<=sizeLine:=by
   have h1:=r1.len
   have h2:=r2.len
   have h3:len l+len m<=4096:=Nat.le_of_ble_eq_true e7
   rw [h1,h2] at h3
   simp only [Array.length_toList] at h3
   exact Nat.le_trans h3 (by unfold sizeLine;decide)
  refine PySem.P.add_list g1 g2 (p.alloc e8 I λW' le _=>yEEA _ 0 (Heap.get?_push_size _ rfl) ?_) hsz
  have:=(r1.mono le.1).lc (r2.mono le.1)
  simpa using this
 |o y=>
  cases y with
  |str i=>
   cases b with
   |o z=>
    cases z with
    |str j=>
     refine bf Ra λx t hx r3_=>?_;clear Ra;subst r3_
     refine bf Rb λx' t' hx' r3_=>?_;clear Rb;subst r3_
     exact PyProof.Rows.add_str (λt' tk=>p.now e I (av:=.o .nI) (show handedIn (.str _ _)=true from rfl) tk) (by have:=V.pY hx;have:=V.pY hx';unfold sizeLine;lia)
    |_=>exact nf e
   |_=>exact nf e
  |bytes l=>
   cases b with
   |o z=>
    cases z with
    |bytes m=>
     obtain⟨t,rfl⟩:=Ra
     obtain⟨t',rfl⟩:=Rb
     have e1:az (Nat.ble (Nat.add (len l) (len m)) 4096) (k (.o (.bytes (lc l m))) hh) false=true:=e
     obtain⟨e2,e3⟩:=aN e1
     have h3:len l+len m<=4096:=Nat.le_of_ble_eq_true e2
     rw [len_eq,len_eq] at h3
     exact PySem.W.KBy.add_bytes (by simp;lia) λt' tk=>p.now e3 I ⟨t',by rw [tV];simp⟩ tk
    |_=>exact nf e
   |_=>exact nf e
  |sq bb kk pp=>
   have e1:(aG b λm=>k (.o (.sq bb kk (Nat.add pp m))) hh)=true:=e
   refine onNat_k e1 λm r1_ e2=>?_;subst r1_
   obtain⟨t,rfl⟩:=Ra
   obtain⟨t',rfl⟩:=Rb
   refine PyProof.Rows.add_int ?_
   rw [<-Int.natCast_add,Nat.add_assoc]
   exact p.now e2 I ⟨_,rfl⟩ _
  |cg bb kk=>
   have e1:(aG b λm=>k (.o (.cg bb (Nat.mod (Nat.add kk m) 256))) hh)=true:=e
   refine onNat_k e1 λm r1_ e2=>?_;subst r1_
   refine bf Ra λi t r2_ hi=>?_;clear Ra;subst r2_
   obtain⟨t',rfl⟩:=Rb
   refine PyProof.Rows.add_int (p.now e2 I (yEEA _ _ rfl ?_) _)
   show _=(((V.iT bb+(kk+m) % 256) % 256:Nat):Int)
   lia
  |_=>exact nf e
theorem we {f:Nat->Nat->Bool}{run:Value->Value->Sem Value}(h:∀A E s (Q:Value->Shared->Prop) (n m:Nat) t u,Q (.bool (f n m)) s->wpAny (model pw w) A (run (.int n t) (.int m u)) Q E s):(qW w V oh kH) (tO f) run:=by
 intro A n rm ho a b hh k e W s u v I Ra Rb Q E p
 refine onNat_k e λx r1_ e1=>?_;subst r1_
 refine onNat_k e1 λy r1_ e2=>?_;subst r1_
 obtain⟨t,rfl⟩:=Ra
 obtain⟨t',rfl⟩:=Rb
 exact h A E s Q x y t t' (p _ s.toks e2)
theorem wg (n m:Nat):Nat.ble n m=decide (n<=m):=by
 cases h:Nat.ble n m with
 |true=>exact (decide_eq_true (Nat.le_of_ble_eq_true h)).symm
 |false=>exact (decide_eq_false λq=>by rw [Nat.ble_eq_true_of_le q] at h;cases h).symm
theorem i4 {n m:Nat}{p:Prop} [Decidable p] (h:n<=m ↔ p):Nat.ble n m=decide p:=by rw [wg];exact decide_eq_decide.mpr h
theorem cLt:(qW w V oh kH) iP (compareOp .Lt):=we λA E s Q n m t u q=>PyProof.Rows.lt_int (by rw [<-i4 (n:=n+1) (m:=m) (by lia)];exact q)
theorem cLe:(qW w V oh kH) qL (compareOp .LtE):=we λA E s Q n m t u q=>PyProof.Rows.le_int (by rw [<-i4 (n:=n) (m:=m) (by lia)];exact q)
theorem cGt:(qW w V oh kH) fP (compareOp .Gt):=we λA E s Q n m t u q=>PyProof.Rows.gt_int (by rw [<-i4 (n:=m+1) (m:=n) (by lia)];exact q)
theorem cGe:(qW w V oh kH) th (compareOp .GtE):=we λA E s Q n m t u q=>PyProof.Rows.ge_int (by rw [<-i4 (n:=m) (m:=n) (by lia)];exact q)
theorem mi {x:OV}{k:Bool}(e:i3 x k=true):k=true/\∀(μ:Mu) v,Rep V μ (.o x) v->(v==Value.none)=false:=by
 cases x with
 |str i=>exact⟨e,λμ v r=>by refine bf r λx t _ r3_=>?_;clear r;subst r3_;rfl⟩
 |bytes l=>exact⟨e,λμ v r=>by obtain⟨t,rfl⟩:=r;rfl⟩
 |sq b k p=>exact⟨e,λμ v r=>by obtain⟨t,rfl⟩:=r;rfl⟩
 |cg b k=>exact⟨e,λμ v r=>by refine bf r λi t r2_ _=>?_;clear r;subst r2_;rfl⟩
 |ot i=>exact⟨e,λμ v r=>by obtain⟨t,rfl⟩:=r;rfl⟩
 |oc i=>exact⟨e,λμ v r=>by obtain⟨t,rfl⟩:=r;rfl⟩
 |nI=>exact nf e
 |fn f=>exact⟨e,λμ v r=>by refine aI r λa _ r2_=>?_;clear r;subst r2_;rfl⟩
 |un i=>exact⟨e,λμ v r=>by obtain⟨t,rfl⟩:=r;rfl⟩
 |fF i=>exact nf e
theorem qZ {a:AV}{k1 k2:Bool}(e:(AV.rec (motive:=λ_=>Bool) k1 (λ_=>k2) (λ_=>k2) (λ_=>k2) (λx=>i3 x k2) a)=true){μ:Mu}{v:Value}(r:Rep V μ a v):((v==Value.none)=true/\k1=true)∨((v==Value.none)=false/\k2=true):=by
 cases a with
 |none=>obtain rfl:v = .none:=r;exact .inl ⟨rfl,e⟩
 |bool b=>obtain rfl:v = .bool b:=r;exact .inr ⟨rfl,e⟩
 |nat n=>obtain⟨t,rfl⟩:=r;exact .inr ⟨rfl,e⟩
 |ref p=>refine r.rf λa _ r2_=>?_;clear r;subst r2_;exact .inr ⟨rfl,e⟩
 |o x=>obtain⟨e1,h⟩:=mi (V:=V) e;exact .inr ⟨h μ v r,e1⟩
theorem cIs:(qW w V oh kH) fG (compareOp .Is):=by
 intro A n rm ho a b hh k e W s u v I Ra Rb Q E p
 obtain⟨rfl,e1⟩:=fu e
 obtain rfl:v = .none:=Rb
 refine PyProof.Rows.is_none_gen ?_
 rcases qZ e1 Ra with ⟨h1,h2⟩|⟨h1,h2⟩<;>rw [h1]<;>exact p _ s.toks h2
theorem cIsn:(qW w V oh kH) dB (compareOp .IsNot):=by
 intro A n rm ho a b hh k e W s u v I Ra Rb Q E p
 obtain⟨rfl,e1⟩:=fu e
 obtain rfl:v = .none:=Rb
 refine PyProof.Rows.isnot_none_gen ?_
 rcases qZ e1 Ra with ⟨h1,h2⟩|⟨h1,h2⟩<;>rw [h1]<;>exact p _ s.toks h2
end
end
section
theorem wh {prog:Program}{w:World}{t:Sem Fin}{s:Shared}{R:Result->Shared->Prop}(hreg:s.asleep)
  (h:WG (model prog w) callerA t (λfin s'=>∃f,fin = .done f/\R (.ok f) s'/\leftWithCleanup s'.gens=false) (λe s'=>R (.error e) s'/\leftWithCleanup s'.gens=false) s) :
  ∃n r s' s'',runN (denote table) prog w n s ⟨t,.builtin "claim.caller" {},default,[]⟩ = .halted (outcomeOf r) s' /\
   schedN (denote table) prog w n (.single s ⟨t,.builtin "claim.caller" {},default,[]⟩) = .halted (outcomeOf r) s'/\s'.forget=s''.forget/\R r s'':=by
 have hw:=h ⟨.builtin "claim.caller" {},none,none,[],none⟩ default caller_in (by decide +kernel) λ_ x=>by cases x
 refine bG λ_ kk=>?_
 obtain⟨n,r,s₁,s₂,a,b,c,d⟩:=wp_halts_full (M:=model prog w) (R:=R) hreg (Sem.wp_mono _ _ t (λfin p' s' ⟨f,e,x⟩=>by subst e;exact x) (λ_ _ _ x=>x) default s hw)
 refine kk ?_
 exact yEEE n r s₂ (yEAAA s₁ b a c d)
theorem holds_WG {r:OpenRow}{q:Program}{loose:List Str}{Xt:Shared->Bool}{XP:(Str->Option Value)->Heap->Prop}{α:Type}{Yf:Shared->α}{Ya:World->α}{YP:World->Heap->Prop}{d:DefRec}{kwd:List (Str × PySem.Expr)}{N:Nat}
  (left:LeftO r.prog q loose Xt Yf Ya N) (hY:∀w s,Yf s=Ya w->YP w s.heap) (hYk:∀w h h',YP w h->(∀b o,h.get? b=some o->h'.get? b=some o)->YP w h')
  (hX:∀s,Xt s=true->XP (s.heap.nsMap mainGlobals) s.heap) (hXk:∀mg h h',XP mg h->(∀b o,h.get? b=some o->h'.get? b=some o)->XP mg h')
  (hdef:defOf q r.name=some (d,kwd)) (hp:r.prog.theDef r.name=some (d.params,d.body,d.scope)) (hk:kwWritten? d.params.kwonlyargs d.params.kw_defaults=some kwd) (hRf:∀s,Xt s=true->RecFacts r.records s.heap) (hwr:(!r.writes||r.records.isEmpty)=true)
  (ud:r.wellSaid=true) (ok:(chainsOk q&&opensWell r.prog&&(frees r.toRowW&&r.within.isEmpty))=true) (hb:r.prog.bare) (hw:r.toRowW.promised)
  (walk:∀(w:World) (s₀ s₁:Shared) (mg mb:Str->Option Value),Ground q loose r.records XP w s₀ mg mb s₁.heap->YP w s₁.heap->∀a,mg r.name=some (.ref a) ->
   ∀(args:List WData) (vals:List Value) (as:List Addr),r.claim.pre args=true->WData.layableAll args=true->Laid r.records w s₀ s₁ args vals as ->
   WG (model r.prog w) callerA (PySem.call (.ref a) vals) (λv s'=>GoodWG r.claim (classAt s₀.heap) (ExcName.means s₀.heap) args s₁ (.ok (.ret v)) s')
    (λe s'=>GoodWG r.claim (classAt s₀.heap) (ExcName.means s₀.heap) args s₁ (.error e) s') s₁):r.Holds:=by
 obtain⟨⟨hch,top⟩,fr,wi⟩:(chainsOk q=true/\opensWell r.prog=true)/\frees r.toRowW=true/\r.within.isEmpty=true:=by simpa only [Bool.and_eq_true] using ok
 obtain⟨hsame,hu,ha,hap,hm⟩:=frees_parts fr
 have hwi:r.claim.within=[]:=List.isEmpty_iff.mp wi
 refine yAAAA ud hw ⟨hb,top,by show r.makers.map _=[];rw [hm];rfl⟩ hw.witness λw=>⟨(left.behind hX hch w).1,λs' hs'=>?_⟩
 refine bG λ_ kk=>?_
 obtain⟨s₀,hf,hg0,s,hT,hz,hgens,hg,G,y⟩:=(left.behind (XP:=λmg h=>XP mg h/\RecFacts r.records h) (λs hs=>⟨hX s hs,hRf s hs⟩) hch w).2 s' hs'
 refine kk ?_
 have G0:Ground q loose [] XP w s (s.heap.nsMap mainGlobals) (s.heap.nsMap builtinsNs) s.heap:=⟨G.T,G.B,G.D,G.TE,G.TD,G.W,G.X.1,G.cls,G.has,G.apart,G.once,G.K⟩
 have RF:=G.X.2
 have top':=hT
 have g0:s.gens = #[]:=Array.eq_empty_of_size_eq_zero (beq_iff_eq.mp hgens)
 have G1:Ground q loose r.records XP w s _ _ s.heap:=RF.ground G0
 refine yEAAE s₀ hf hg0 s (yAAAA hT (λn hn=>?_) RF.1 RF.2.1 λargs hpre hlay ord hord=>?_)
 ·obtain rfl:n=r.name:=by split at hn<;>simp_all
  exact pinned_of_view hg G0 hdef hp hk
 obtain⟨⟨vs,s₁⟩,hlaid⟩:=Option.isSome_iff_exists.mp (layAllW_isSome (P:=w.params) (ord:=ord) G1.has args r.args s (pre_splitW hpre).1)
 have kp:=layAllW_keeps _ _ _ hlaid
 have al:=layAllW_rest _ _ _ hlaid
 refine cS (reads_layAllW hord _ _ _ hlaid hlay s₁.heap (λ_ _ e=>e)) λas hrd hin hold=>?_
 have L:Laid r.records w s s₁ args vs as:=⟨yEA ord hord hlaid,hrd,hin,hold,kp,al.1.trans g0,al.2.2.1⟩
 have G2:=G1.keeps hXk kp
 refine bG λ_ kk=>?_
 obtain⟨a,_,_,_,_,_,_,e1,_⟩:=G2.fn hdef
 refine kk ?_
 let K:Heap->Prop:=λh'=>r.writes=true->namesKept r.prog r.keeps s.heap h'/\∀x ∈ r.records,∀a,classAt s.heap x.1=some a->recordClass h' a x.1 (x.2.map (·.1))=true
 have good:∀{res:Result}{s':Shared},GoodWG r.claim (classAt s.heap) (ExcName.means s.heap) args s₁ res s'->(r.claim.Ends s args vs s₁ res s'/\s'.os=s.os/\K s'.heap)/\leftWithCleanup s'.gens=false:=λg=>
  have z:=g.laid (c:=r.claim) hsame hwi (ident_freeW hu ha hap) L
  ⟨⟨z.1,z.2.1,λq=>⟨namesKept_of top' hg _ kp g.2.1.old,noTable hwr q⟩⟩,leftWithCleanup_false_of_bare z.2.2⟩
 have run:WG (model r.prog w) callerA (callStub r.name vs).cur (λfin s'=>∃f,fin = .done f/\(r.claim.Ends s args vs s₁ (.ok f) s'/\s'.os=s.os/\K s'.heap)/\leftWithCleanup s'.gens=false)
   (λe s'=>(r.claim.Ends s args vs s₁ (.error e) s'/\s'.os=s.os/\K s'.heap)/\leftWithCleanup s'.gens=false) s₁:=by
  refine WG.leaf (wpAny_nsGet G2.T.g ?_)
  rw [e1]
  exact WG.bind (WG.mono (walk w s s₁ _ _ G2 (hYk _ _ _ (hY w s y) kp) a e1 args vs as hpre hlay L) (λv s' g=>WG.pure (yEA _ rfl (good g))) λe s' g=>good g)
 refine bG λ_ kk=>?_
 obtain⟨k,res,s₂,s₃,hrun,hsched,hfo,hcase,hos,hkp⟩:=wh (R:=λres s'=>r.claim.Ends s args vs s₁ res s'/\s'.os=s.os/\K s'.heap) (Shared.asleep_of_life al.2.2.2 hz) run
 obtain⟨eh,_,_,eo,_⟩:=Shared.forget_eq hfo
 refine kk ?_
 have hcase:=hcase.congr eh
 have hkp:K s₂.heap:=eh▸hkp
 rw [<-eo] at hos
 have lf:s₂.heap.life=s.heap.life:=(runN_life _ _ _ hrun).trans al.2.2.2
 refine yEEA vs s₁ hlaid (yEEEAAAAA k _ s₂ hsched ?_ (λ_ i x hx=>by rw [g0] at hx;simp at hx) hkp (by rw [lf]) (Shared.rest_eq hos))
 rcases hcase with ⟨v,rfl,d1,d2,d3,d4,d5⟩|⟨e,ob,cls,rfl,d1,d2,d3,d4,d5⟩
 ·exact .inl (yEAAAA v rfl d1 d2 d3 ⟨λb o y _=>d4 b o y,d5⟩)
 ·exact .inr (yEEEAAAAA e ob cls rfl d1 d2 d3 d4 λb o y _=>d5 b o y)
end
open PySem.SeqAt
section
def mj (n:Nat) (s:Shared) (u v:Value) (t:Bool):Prop:=(u=v->t=true)/\∀A:Around,A.units+n<cLine->RcAt A s u v t/\RcNeAt A s u v (!t)/\EqAt A s u v t
noncomputable def ra:Value->Bool
 |.float _ _=>false
 |_=>true
theorem wj {A:Around}{s:Shared}{u v:Value}{t:Bool}(hs:u=v->t=true) (hf:ra u=true) (rc:RcAt A s u v t):EqAt A s u v t:=λpw w E Q hq=>by
 unfold eqBool
 refine wpAny_holding ?_
 refine wpAny_ite_split (λhab=>?_) (λhab=>?_)
 ·obtain rfl:=hs (eq_of_beq hab)
  exact wpAny_bind (wpAny_rule (wpAny_pure hq))
 ·have ht:wpAny (model pw w) A (truthOfDropped (.bool t)) Q E s:=wpAny_truthy_bool hq
  cases u<;>first|((first|exact nf hf|exact nn hf|cases hf);done)|exact wpAny_bind (rc pw w E _ ht)
theorem cH {n:Nat}{s:Shared}{u v:Value}{t:Bool}(hs:u=v->t=true) (hf:ra u=true) (rc:∀A,RcAt A s u v t) (rn:∀A,RcNeAt A s u v (!t)):mj n s u v t:=
 ⟨hs,λA _=>⟨rc A,rn A,wj hs hf (rc A)⟩⟩
theorem rb {n:Nat}{s:Shared}{i j:Int}{t u:Tok}:mj n s (.int i t) (.int j u) (i==j):=
 cH (λe=>by injection e with e1 e2;subst e1;exact beq_self_eq_true _) rfl (λA pw w E Q h=>PyProof.Rows.eq_int h) (λA pw w E Q h=>PyProof.Rows.ne_int h)
theorem wl {n:Nat}{s:Shared}{i j:Str}{t u:Tok}:mj n s (.str i t) (.str j u) (i==j):=
 cH (λe=>by injection e with e1 e2;subst e1;exact beq_self_eq_true _) rfl (λA pw w E Q h=>PyProof.Rows.eq_str h) (λA pw w E Q h=>PyProof.Rows.ne_str h)
theorem ue {n:Nat}{s:Shared}:mj n s .none .none true:=
 cH (λ_=>rfl) rfl (λA pw w E Q h=>PySem.EqNone.eq_none_none h) (λA pw w E Q h=>PySem.EqNone.ne_none_none h)
theorem gP {n:Nat}{s:Shared}{i:Int}{t:Tok}:mj n s .none (.int i t) false:=
 cH (λe=>by cases e) rfl (λA pw w E Q h=>PySem.EqNone.eq_none_int h) (λA pw w E Q h=>PySem.EqNone.ne_none_int h)
theorem ml {n:Nat}{s:Shared}{i:Str}{t:Tok}:mj n s .none (.str i t) false:=
 cH (λe=>by cases e) rfl (λA pw w E Q h=>PySem.EqNone.eq_none_str h) (λA pw w E Q h=>PySem.EqNone.ne_none_str h)
theorem gQ {n:Nat}{s:Shared}{i:Int}{t:Tok}:mj n s (.int i t) .none false:=
 cH (λe=>by cases e) rfl (λA pw w E Q h=>PySem.EqNone.eq_int_none h) (λA pw w E Q h=>PySem.EqNone.ne_int_none h)
theorem mm {n:Nat}{s:Shared}{i:Str}{t:Tok}:mj n s (.str i t) .none false:=
 cH (λe=>by cases e) rfl (λA pw w E Q h=>PySem.EqNone.eq_str_none h) (λA pw w E Q h=>PySem.EqNone.ne_str_none h)
theorem rS {n:Nat}{s:Shared}{i j:Array UInt8}{t u:Tok}:mj n s (.bytes i t) (.bytes j u) (i.toList==j.toList):=
 cH (λe=>by injection e with e1 e2;subst e1;exact beq_self_eq_true _) rfl (λA pw w E Q h=>PySem.W.eq_bytes h) (λA pw w E Q h=>PySem.W.ne_bytes h)
section
variable {w:World}{V:Va}{oh:Heap}{kH:Bool}{fi:aY}
theorem lr:∀(l m:List Nat),lY l m=true->l=m
 | [],[],_=>rfl
 | [],_::_,e=>by exact nf e
 |_::_,[],e=>by exact nf e
 |x::l,y::m,e=>by
  have e1:(Bool.rec false (lY l m) (Nat.beq x y):Bool)=true:=e
  cases q:Nat.beq x y with
  |false=>rw [q] at e1;exact nf e1
  |true=>rw [q] at e1;rw [Nat.eq_of_beq_eq_true q,lr l m e1]
theorem mn (n m:Nat):((n:Int)==(m:Int))=Nat.beq n m:=by
 cases q:Nat.beq n m with
 |true=>rw [Nat.eq_of_beq_eq_true q];exact beq_self_eq_true _
 |false=>
  have:=Nat.ne_of_beq_eq_false q
  exact beq_eq_false_iff_ne.mpr (by lia)
theorem rT {x y:OV}{k:Bool->Bool}(e:eqO x y k=true){n:Nat}{μ:Mu}{s:Shared}{u v:Value}(Ra:Rep V μ (.o x) u) (Rb:Rep V μ (.o y) v):∃t,k t=true/\mj n s u v t:=by
 cases x with
 |str i=>
  cases y with
  |str j=>
   refine bf Ra λa t ha r3_=>?_;clear Ra;subst r3_
   refine bf Rb λb t' hb r3_=>?_;clear Rb;subst r3_
   have e1:k (Nat.beq i j)=true:=e
   refine yEA (a==b) ?_ wl
   cases q:Nat.beq i j with
   |true=>
    obtain rfl:=Nat.eq_of_beq_eq_true q
    rw [ha] at hb;cases hb
    rw [beq_self_eq_true];rw [q] at e1;exact e1
   |false=>
    have hne:=Nat.ne_of_beq_eq_false q
    have:(a==b)=false:=by
     cases q2:(a==b) with
     |false=>rfl
     |true=>exact absurd (V.pZ ha ((eq_of_beq q2)▸hb)) hne
    rw [this];rw [q] at e1;exact e1
  |_=>exact nf e
 |bytes l=>
  cases y with
  |bytes m=>
   obtain⟨t,rfl⟩:=Ra
   obtain⟨t',rfl⟩:=Rb
   have e1:az (lY l m) (k true) (az (Nat.beq (len l) (len m)) false (k false))=true:=e
   refine yEA _ ?_ rS
   rcases bW e1 with ⟨e2,e3⟩|⟨e2,e3⟩
   ·obtain rfl:=lr l m e2
    rw [beq_self_eq_true];exact e3
   ·rcases bW e3 with ⟨_,e4⟩|⟨e4,e5⟩
    ·exact nf e4
    ·have hne:=Nat.ne_of_beq_eq_false e4
     rw [len_eq,len_eq] at hne
     have:((l.map V.byte).toArray.toList==(m.map V.byte).toArray.toList)=false:=by
      cases q2:((l.map V.byte).toArray.toList==(m.map V.byte).toArray.toList) with
      |false=>rfl
      |true=>exact absurd (by have:=congrArg List.length (eq_of_beq q2);simpa using this) hne
     rw [this];exact e5
  |_=>exact nf e
 |sq b₁ k₁ p₁=>
  cases y with
  |sq b₂ k₂ p₂=>
   obtain⟨t,rfl⟩:=Ra
   obtain⟨t',rfl⟩:=Rb
   have e1:az (Nat.beq b₁ b₂) (az (Nat.beq (Nat.add p₁ p₂) 0) (k (Nat.beq (Nat.mod k₁ 256) (Nat.mod k₂ 256))) false) false=true:=e
   obtain⟨e2,e3⟩:=aN e1
   obtain⟨e4,e5⟩:=aN e3
   obtain rfl:=Nat.eq_of_beq_eq_true e2
   have h4:p₁+p₂=0:=Nat.eq_of_beq_eq_true e4
   refine yEA _ ?_ rb
   rw [mn]
   have hb:Nat.beq ((V.iT b₁+k₁) % 256+p₁) ((V.iT b₁+k₂) % 256+p₂)=Nat.beq (Nat.mod k₁ 256) (Nat.mod k₂ 256):=by
    have:((V.iT b₁+k₁) % 256+p₁=(V.iT b₁+k₂) % 256+p₂) ↔ (k₁ % 256=k₂ % 256):=by lia
    cases q:Nat.beq (Nat.mod k₁ 256) (Nat.mod k₂ 256) with
    |true=>exact Nat.beq_eq.mpr (this.mpr (Nat.eq_of_beq_eq_true q))
    |false=>
     have hne:=Nat.ne_of_beq_eq_false q
     cases q2:Nat.beq ((V.iT b₁+k₁) % 256+p₁) ((V.iT b₁+k₂) % 256+p₂) with
     |false=>rfl
     |true=>exact absurd (this.mp (Nat.eq_of_beq_eq_true q2)) hne
   rw [hb];exact e5
  |_=>exact nf e
 |_=>exact nf e
theorem jy {x:OV}{b:Bool}(e:tN x b=true){n:Nat}{μ:Mu}{s:Shared}{u:Value}(Ra:Rep V μ (.o x) u):b=true/\mj n s .none u false/\mj n s u .none false:=by
 cases x with
 |str i=>refine bf Ra λa t ha r3_=>?_;clear Ra;subst r3_;exact⟨e,ml,mm⟩
 |sq b k p=>obtain⟨t,rfl⟩:=Ra;exact⟨e,gP,gQ⟩
 |_=>exact nf e
theorem eA {a b:AV}{k:Bool->Bool}(e:vO a b k=true){n:Nat}{μ:Mu}{s:Shared}{u v:Value}(Ra:Rep V μ a u) (Rb:Rep V μ b v):∃t,k t=true/\mj n s u v t:=by
 cases a with
 |none=>
  obtain rfl:u = .none:=Ra
  cases b with
  |none=>obtain rfl:v = .none:=Rb;exact yEA true e ue
  |nat m=>obtain⟨t,rfl⟩:=Rb;exact yEA false e gP
  |o y=>refine pS (jy (n:=n) (s:=s) (show tN y (k false)=true from e) Rb) λe1 e2 _=>?_;exact yEA false e1 e2
  |_=>exact nf e
 |nat i=>
  obtain⟨t,rfl⟩:=Ra
  cases b with
  |none=>obtain rfl:v = .none:=Rb;exact yEA false e gQ
  |nat m=>obtain⟨t',rfl⟩:=Rb;exact yEA _ (by rw [mn];exact e) rb
  |_=>exact nf e
 |o x=>
  cases b with
  |none=>obtain rfl:v = .none:=Rb;refine pS (jy (n:=n) (s:=s) (show tN x (k false)=true from e) Ra) λe1 _ e2=>?_;exact yEA false e1 e2
  |o y=>exact rT e Ra Rb
  |_=>exact nf e
 |_=>exact nf e
theorem ls {f:AV->AV->(Bool->Bool)->Bool}{n:Nat}{μ:Mu}{s:Shared}(hf:∀a b k u v,f a b k=true->Rep V μ a u->Rep V μ b v->∃t,k t=true/\mj n s u v t) :
  ∀{l:List AV}{xs:List Value},aR V μ l xs->∀{m:List AV}{ys:List Value},aR V μ m ys->∀{k:Bool->Bool},A6 f l m k=true ->
   ∃ts:List Bool,ts.length=xs.length/\xs.length=ys.length/\k (ts.all id)=true/\∀(j:Nat) (h1:j<xs.length) (h2:j<ys.length),mj n s xs[j] ys[j] (ts.getD j false):=by
 intro l xs r
 induction r with
 |nil=>
  intro m ys q k e
  cases q with
  |nil=>exact yEAAA [] rfl rfl e λj h1 _=>absurd h1 (Nat.not_lt_zero _)
  |cons _ _=>exact nf e
 | @cons x u l xs hx _ ih=>
  intro m ys q k e
  cases q with
  |nil=>exact nf e
  | @cons y v m ys hy q=>
   have e1:(f x y λb=>A6 f l m λr=>k (Bool.rec (motive:=λ_=>Bool) false r b))=true:=e
   refine bG λ_ kk=>?_
   refine aI (hf _ _ _ _ _ e1 hx hy) λt e2 g=>?_
   obtain⟨ts,h1,h2,h3,h4⟩:=ih q e2
   refine kk ?_
   refine yEAAA (t::ts) (by simp [h1]) (by simp [h2]) ?_ λj a b=>?_
   ·cases t with
    |false=>exact h3
    |true=>simpa using h3
   ·cases j with
    |zero=>exact g
    |succ j=>exact h4 j (by simpa using a) (by simpa using b)
theorem rU {W:Wd}{hp:Heap}{a:Addr}{p:P4}{l:List AV}(r:bV w V W hp a p (.list l)):∃vs:Array Value,hp.IsList a vs/\aR V W.μ l vs.toList:=by
 refine bf r λvs n h1 h2=>?_;clear r
 exact yEA vs ⟨_,h1,rfl,n,rfl⟩ h2
theorem isList_k {W:Wd}{hp:Heap}{a:Addr}{p:P4}{l:List AV}(r:bV w V W hp a p (.list l)){P:Prop}(c_:∀(vs:Array Value),hp.IsList a vs->aR V W.μ l vs.toList->P):P:=aI (rU r) c_
theorem qc {W:Wd}{hp:Heap}{a:Addr}{p:P4}{l:List AV}(r:bV w V W hp a p (.tup l)):∃vs:Array Value,hp.IsTuple a vs/\aR V W.μ l vs.toList:=by
 refine bf r λvs n h1 h2=>?_;clear r
 exact yEA vs ⟨_,h1,rfl,n,rfl⟩ h2
theorem isTup_k {W:Wd}{hp:Heap}{a:Addr}{p:P4}{l:List AV}(r:bV w V W hp a p (.tup l)){P:Prop}(c_:∀(vs:Array Value),hp.IsTuple a vs->aR V W.μ l vs.toList->P):P:=aI (qc r) c_
theorem og:∀(ts:List Bool) (n:Nat),ts.length=n->(List.range n).all (λj=>ts.getD j false)=ts.all id:=by
 intro ts n h
 subst h
 have:(List.range ts.length).map (λj=>ts.getD j false)=ts:=by
  apply List.ext_getElem
  ·simp
  ·intro i h1 h2
   simp at h1
   simp [List.getD,h1]
 conv=>rhs;rw [<-this]
 rw [List.all_map];rfl
theorem IsList.inj {hp:Heap}{a:Addr}{xs ys:Array Value}(h:hp.IsList a xs) (g:hp.IsList a ys):xs=ys:=by
 obtain⟨o,h1,_,n,h2⟩:=h
 obtain⟨o',g1,_,n',g2⟩:=g
 rw [h1] at g1;cases g1
 rw [h2] at g2;cases g2;rfl
theorem IsTuple.inj {hp:Heap}{a:Addr}{xs ys:Array Value}(h:hp.IsTuple a xs) (g:hp.IsTuple a ys):xs=ys:=by
 obtain⟨o,h1,_,n,h2⟩:=h
 obtain⟨o',g1,_,n',g2⟩:=g
 rw [h1] at g1;cases g1
 rw [h2] at g2;cases g2;rfl
theorem oj {ts:List Bool}{n:Nat}{s:Shared}{xs:List Value}(hl:ts.length=xs.length) (h:∀(j:Nat) (h1:j<xs.length) (h2:j<xs.length),mj n s xs[j] xs[j] (ts.getD j false)):ts.all id=true:=by
 rw [List.all_eq_true]
 intro b hb
 obtain⟨i,hi,rfl⟩:=List.getElem_of_mem hb
 have:=(h i (by lia) (by lia)).1 rfl
 simpa [List.getD,hi] using this
theorem lu {W:Wd}{h:H}{s:Shared}(I:Inv w V oh W h s.heap):∀(n:Nat){a b:AV}{k:Bool->Bool}{u v:Value},Bk n h a b k=true->Rep V W.μ a u->Rep V W.μ b v->∃t,k t=true/\mj n s u v t:=by
 intro n
 induction n with
 |zero=>intro a b k u v e Ra Rb;exact eA e Ra Rb
 |succ n ih=>
  intro a b k u v e Ra Rb
  cases a with
  |ref p=>
   have e1:(dg b λq=>h.get p λx=>h.get q λy=>
    AO.rec (motive:=λ_=>Bool) (λ_ _=>false)
     (λl=>bx y λm=>az (Nat.beq (len l) (len m)) (A6 (Bk n h) l m k) (k false))
     (λl=>dx y λm=>az (Nat.beq (len l) (len m)) (A6 (Bk n h) l m k) false)
     (λ_=>false) (λ_=>false) (λ_=>false) (λ_ _=>false) (λ_=>false) (λ_=>false) (λ_=>false) x)=true:=e
   refine onRef_k e1 λq r1_ e2=>?_;subst r1_
   refine H_k e2 λx hx e3=>?_
   refine H_k e3 λy hy e4=>?_
   refine Ra.rf λa ha r2_=>?_;clear Ra;subst r2_
   refine Rb.rf λb hb r2_=>?_;clear Rb;subst r2_
   have room:∀{A:Around},A.units+(n+1)<cLine->A.in1.units+n<cLine:=λ{A} h=>by show A.units+1+n<cLine;lia
   cases x with
   |list l=>
    refine onList_k e4 λm r1_ e5=>?_;subst r1_
    refine isList_k (I.at hx ha) λxs h1 r1=>?_
    refine isList_k (I.at hy hb) λys h2 r2=>?_
    rcases bW e5 with ⟨e6,e7⟩|⟨e6,e7⟩
    ·obtain⟨ts,g1,g2,g3,g4⟩:=ls (λa b k u v=>ih) r1 r2 e7
     have hsz:xs.size=ys.size:=by simpa using g2
     have g1:ts.length=xs.size:=by simpa using g1
     have hit:∀A:Around,A.units+(n+1)<cLine->∀j (k1:j<xs.size) (k2:j<ys.size),EqAt A.in1 s xs[j] ys[j] (ts.getD j false):=λA hA j k1 k2=>by
      have:=(g4 j (by simpa using k1) (by simpa using k2)).2 A.in1 (room hA)
      simpa using this.2.2
     have hself:Value.ref a=Value.ref b->ts.all id=true:=λe=>by
      injection e with e;subst e
      obtain rfl:=IsList.inj h1 h2
      exact oj (by simpa using g1) g4
     refine yEAA (ts.all id) g3 hself λA hA=>?_
     have R1:=RcAt.lists (A:=A) h1 h2 hsz (by lia) (hit A hA)
     have R2:=RcNeAt.lists (A:=A) h1 h2 hsz (by lia) (hit A hA)
     rw [og ts xs.size g1] at R1 R2
     refine⟨R1,R2,?_⟩
     by_cases hab:a=b
     ·subst hab;rw [hself rfl];exact EqAt.same _
     ·exact EqAt.of_refs hab R1
    ·have hne:=Nat.ne_of_beq_eq_false e6
     rw [r1.len,r2.len] at hne
     have hsz:(xs.size != ys.size)=true:=by simpa using hne
     have hab:a ≠ b:=λe=>by subst e;obtain rfl:=IsList.inj h1 h2;exact hne rfl
     refine yEAA false e7 (λe=>by injection e with e;exact absurd e hab) λA hA=>?_
     have R1:=RcAt.lists_lengths (A:=A) h1 h2 hsz (by lia)
     exact⟨R1,RcNeAt.lists_lengths h1 h2 hsz (by lia),EqAt.of_refs hab R1⟩
   |tup l=>
    refine onTup_k e4 λm r1_ e5=>?_;subst r1_
    obtain⟨e6,e7⟩:=aN e5
    refine isTup_k (I.at hx ha) λxs h1 r1=>?_
    refine isTup_k (I.at hy hb) λys h2 r2=>?_
    obtain⟨ts,g1,g2,g3,g4⟩:=ls (λa b k u v=>ih) r1 r2 e7
    have hsz:xs.size=ys.size:=by simpa using g2
    have g1:ts.length=xs.size:=by simpa using g1
    have hit:∀A:Around,A.units+(n+1)<cLine->∀j (k1:j<xs.size) (k2:j<ys.size),EqAt A.in1 s xs[j] ys[j] (ts.getD j false):=λA hA j k1 k2=>by
     have:=(g4 j (by simpa using k1) (by simpa using k2)).2 A.in1 (room hA)
     simpa using this.2.2
    have hself:Value.ref a=Value.ref b->ts.all id=true:=λe=>by
     injection e with e;subst e
     obtain rfl:=IsTuple.inj h1 h2
     exact oj (by simpa using g1) g4
    refine yEAA (ts.all id) g3 hself λA hA=>?_
    have R1:=RcAt.tuples (A:=A) h1 h2 (by lia) (hit A hA)
    have R2:=RcNeAt.tuples (A:=A) h1 h2 (by lia) (hit A hA)
    have hm:min xs.size ys.size=xs.size:=by lia
    have hq:(xs.size==ys.size)=true:=by simp [hsz]
    rw [hm,og ts xs.size g1,hq,Bool.and_true] at R1 R2
    refine⟨R1,R2,?_⟩
    by_cases hab:a=b
    ·subst hab;rw [hself rfl];exact EqAt.same _
    ·exact EqAt.of_refs hab R1
   |_=>exact nf e4
  |bool b=>exact nf e
  |none=>refine aI (eA (n:=n+1) (s:=s) (show vO .none b k=true from e) Ra Rb) λt h1 h2=>?_;exact yEA t h1 h2
  |nat i=>refine aI (eA (n:=n+1) (s:=s) (show vO (.nat i) b k=true from e) Ra Rb) λt h1 h2=>?_;exact yEA t h1 h2
  |o x=>refine aI (eA (n:=n+1) (s:=s) (show vO (.o x) b k=true from e) Ra Rb) λt h1 h2=>?_;exact yEA t h1 h2
theorem cEq:qW w V oh kH bI (compareOp .Eq):=by
 intro A n rm ho a b hh k e W s u v I Ra Rb Q E p
 refine aI (lu I 3 e Ra Rb) λt h1 h2=>?_
 exact (h2.2 A (by have:=rm.2;lia)).1 pw w E Q (p t s.toks h1)
theorem cNe:qW w V oh kH iB (compareOp .NotEq):=by
 intro A n rm ho a b hh k e W s u v I Ra Rb Q E p
 refine aI (lu I 3 e Ra Rb) λt h1 h2=>?_
 exact (h2.2 A (by have:=rm.2;lia)).2.1 pw w E Q (p (!t) s.toks (by cases t<;>exact h1))
end
end
section
section
variable {w:World}{V:Va}{oh:Heap}{kH:Bool}{fi:aY}
theorem lx {v:AV}{k:Ky->Bool}(e:Bj v k=true){μ:Mu}{hp:Heap}{u:Value}(R:Rep V μ v u):∃q c,V.ck q=some c/\c.l8 hp u/\c.fb=0/\k q=true:=by
 cases v with
 |nat n=>obtain⟨t,rfl⟩:=R;exact yEEAAA (.n n) (.n n) rfl ⟨t,rfl⟩ rfl e
 |o x=>
  cases x with
  |str i=>refine bf R λx t hx r3_=>?_;clear R;subst r3_;exact yEEAAA (.s i) (.s x) (by show (V.str i).map CK.s=_;rw [hx];rfl) ⟨t,rfl⟩ rfl e
  |un i=>obtain⟨t,rfl⟩:=R;exact yEEAAA (.u i) (.n (V.un i)) rfl ⟨t,rfl⟩ rfl e
  |_=>exact nf e
 |_=>exact nf e
theorem rV {f:AV->(Ky->Bool)->Bool}{μ:Mu}{hp:Heap}{d:Nat}(hf:∀v k u,f v k=true->Rep V μ v u->∃q c,V.ck q=some c/\c.l8 hp u/\c.fb<=d/\k q=true) :
  ∀{l:List AV}{vs:List Value},aR V μ l vs->∀{k:Ky->Bool},kyL f l k=true->∃q c,V.ck q=some c/\c.gE hp vs/\c.fb<=d+1/\k q=true:=by
 intro l vs r
 induction r with
 |nil=>intro k e;exact yEEAAA .nil .nil rfl rfl (by show 1<=d+1;exact Nat.le_add_left _ _) e
 | @cons x v l vs hx _ ih=>
  intro k e
  have e1:(f x λq=>kyL f l λr=>k (.cons q r))=true:=e
  refine bG λ_ kk=>?_
  obtain⟨q,c,h1,h2,h3,e2⟩:=hf _ _ _ e1 hx
  obtain⟨q',c',g1,g2,g3,e3⟩:=ih e2
  refine kk ?_
  refine yEEAAA (.cons q q') (.cons c c') ?_ ⟨v,vs,rfl,h2,g2⟩ ?_ e3
  ·show ((V.ck q).bind λa=>(V.ck q').map λb=>CK.cons a b)=_
   rw [h1,g1];rfl
  ·show max (c.fb+1) c'.fb<=d+1;lia
theorem uf {W:Wd}{h:H}{hp:Heap}(I:Inv w V oh W h hp):∀(n:Nat){v:AV}{k:Ky->Bool}{u:Value},ky n h v k=true->Rep V W.μ v u->∃q c,V.ck q=some c/\c.l8 hp u/\c.fb<=n/\k q=true:=by
 intro n
 induction n with
 |zero=>
  intro v k u e R
  refine bG λ_ kk=>?_
  obtain⟨q,c,h1,h2,h3,h4⟩:=lx (hp:=hp) (show Bj v k=true from e) R
  refine kk ?_
  exact yEEAAA q c h1 h2 (by lia) h4
 |succ n ih=>
  intro v k u e R
  cases v with
  |none=>exact nf e
  |bool b=>exact nf e
  |nat m=>
   obtain⟨t,rfl⟩:=R
   exact yEEAAA (.n m) (.n m) rfl ⟨t,rfl⟩ (Nat.zero_le _) e
  |ref p=>
   refine bG λ_ kk=>?_
   refine H_k (show h.get p (λo=>dx o λl=>kyL (ky n h) l k)=true from e) λo ho e1=>?_
   refine onTup_k e1 λl r1_ e2=>?_;subst r1_
   refine R.rf λa ha r2_=>?_;clear R;subst r2_
   refine I.tpl ho ha λvs m g1 g2=>?_
   obtain⟨q,c,h1,h2,h3,h4⟩:=rV (λv k u=>ih) g2 e2
   refine kk ?_
   exact yEEAAA q c h1 (CK.jr ⟨_,vs,m,g1,rfl,rfl,h2⟩) h3 h4
  |o x=>
   refine bG λ_ kk=>?_
   obtain⟨q,c,h1,h2,h3,h4⟩:=lx (hp:=hp) (show Bj (.o x) k=true from e) R
   refine kk ?_
   exact yEEAAA q c h1 h2 (by lia) h4
theorem cY {W:Wd}{h:H}{hp:Heap}(I:Inv w V oh W h hp){v:AV}{k:Ky->Bool}{u:Value}(e:rP h v k=true) (R:Rep V W.μ v u):∃b q c,u = .ref b/\V.ck q=some c/\c.is hp b/\c.fb<=8/\k q=true:=by
 refine bG λ_ kk=>?_
 refine onRef_k e λp r1_ e1=>?_;subst r1_
 obtain⟨q,c,h1,h2,h3,h4⟩:=uf I 2 e1 R
 refine R.rf λb hb r2_=>?_;clear R;subst r2_
 refine kk ?_
 exact yEEEAAAA b q c rfl h1 (CK.tW h2) (by lia) h4
theorem rW:∀(x y:Ky){c d:CK},Ky.tJ x y=true->V.ck x=some c->V.ck y=some d->c.sh=d.sh:=by
 intro x
 induction x with
 |n i=>
  intro y c d e hc hd
  cases hc
  cases y with
  |n j=>cases hd;rfl
  |u j=>cases hd;rfl
  |_=>exact nf e
 |s i=>
  intro y c d e hc hd
  refine mapS hc λx hx r2_=>?_;subst r2_
  cases y with
  |s j=>refine mapS hd λy hy r2_=>?_;subst r2_;rfl
  |_=>exact nf e
 |u i=>
  intro y c d e hc hd
  cases hc
  cases y with
  |n j=>cases hd;rfl
  |u j=>cases hd;rfl
  |_=>exact nf e
 |nil=>
  intro y c d e hc hd
  cases hc
  cases y with
  |nil=>cases hd;rfl
  |_=>exact nf e
 |cons a b iha ihb=>
  intro y c d e hc hd
  cases y with
  |cons a' b'=>
   refine bindS hc λc1 h1 h2=>?_
   refine mapS h2 λc2 h3 r2_=>?_;subst r2_
   refine bindS hd λd1 g1 g2=>?_
   refine mapS g2 λd2 g3 r2_=>?_;subst r2_
   have e1:(Bool.rec (motive:=λ_=>Bool) false (Ky.tJ b b') (Ky.tJ a a'))=true:=e
   cases q:Ky.tJ a a' with
   |false=>rw [q] at e1;exact nf e1
   |true=>
    rw [q] at e1
    show CK.cons c1.sh c2.sh=CK.cons d1.sh d2.sh
    rw [iha a' q h1 g1,ihb b' e1 h3 g3]
  |_=>exact nf e
theorem x5 {b:Bool}(e:T3.ofB b = .y):b=true:=by cases b<;>first|rfl|cases e
theorem x6 {b:Bool}(e:T3.ofB b = .n):b=false:=by cases b<;>first|rfl|cases e
theorem iq:∀(x y:Ky){c d:CK},V.ck x=some c->V.ck y=some d->(Ky.cmp x y = .y->c=d)/\(Ky.cmp x y = .n->c ≠ d):=by
 intro x
 induction x with
 |n i=>
  intro y c d hc hd
  cases hc
  cases y with
  |n j=>
   cases hd
   refine⟨λe=>by rw [Nat.eq_of_beq_eq_true (x5 e)],λe q=>?_⟩
   have:=Nat.ne_of_beq_eq_false (x6 e)
   injection q with q;lia
  |s j=>refine mapS hd λy hy r2_=>?_;subst r2_;exact⟨λe=>(by cases e),λ_ q=>by cases q⟩
  |u j=>exact⟨λe=>(by cases e),λe=>(by cases e)⟩
  |nil=>cases hd;exact⟨λe=>(by cases e),λ_ q=>by cases q⟩
  |cons a b=>
   refine bindS hd λd1 g1 g2=>?_
   refine mapS g2 λd2 g3 r2_=>?_;subst r2_
   exact⟨λe=>(by cases e),λ_ q=>by cases q⟩
 |s i=>
  intro y c d hc hd
  refine mapS hc λx hx r2_=>?_;subst r2_
  cases y with
  |n j=>cases hd;exact⟨λe=>(by cases e),λ_ q=>by cases q⟩
  |s j=>
   refine mapS hd λy hy r2_=>?_;subst r2_
   refine⟨λe=>?_,λe q=>?_⟩
   ·have:=Nat.eq_of_beq_eq_true (x5 e);subst this;rw [hx] at hy;cases hy;rfl
   ·injection q with q;subst q;exact Nat.ne_of_beq_eq_false (x6 e) (V.pZ hx hy)
  |u j=>cases hd;exact⟨λe=>(by cases e),λ_ q=>by cases q⟩
  |nil=>cases hd;exact⟨λe=>(by cases e),λ_ q=>by cases q⟩
  |cons a b=>
   refine bindS hd λd1 g1 g2=>?_
   refine mapS g2 λd2 g3 r2_=>?_;subst r2_
   exact⟨λe=>(by cases e),λ_ q=>by cases q⟩
 |u i=>
  intro y c d hc hd
  cases hc
  cases y with
  |n j=>exact⟨λe=>(by cases e),λe=>(by cases e)⟩
  |s j=>refine mapS hd λy hy r2_=>?_;subst r2_;exact⟨λe=>(by cases e),λ_ q=>by cases q⟩
  |u j=>
   cases hd
   have key:∀b,Nat.beq i j=b->(Ky.cmp (.u i) (.u j))=Bool.rec (motive:=λ_=>T3) .u .y b:=λb hb=>by subst hb;rfl
   cases q:Nat.beq i j with
   |true=>refine⟨λ_=>by rw [Nat.eq_of_beq_eq_true q],λe=>?_⟩;rw [key _ q] at e;cases e
   |false=>refine⟨λe=>?_,λe=>?_⟩<;>rw [key _ q] at e<;>cases e
  |nil=>cases hd;exact⟨λe=>(by cases e),λ_ q=>by cases q⟩
  |cons a b=>
   refine bindS hd λd1 g1 g2=>?_
   refine mapS g2 λd2 g3 r2_=>?_;subst r2_
   exact⟨λe=>(by cases e),λ_ q=>by cases q⟩
 |nil=>
  intro y c d hc hd
  cases hc
  cases y with
  |n j=>cases hd;exact⟨λe=>(by cases e),λ_ q=>by cases q⟩
  |s j=>refine mapS hd λy hy r2_=>?_;subst r2_;exact⟨λe=>(by cases e),λ_ q=>by cases q⟩
  |u j=>cases hd;exact⟨λe=>(by cases e),λ_ q=>by cases q⟩
  |nil=>cases hd;exact⟨λ_=>rfl,λe=>(by cases e)⟩
  |cons a b=>
   refine bindS hd λd1 g1 g2=>?_
   refine mapS g2 λd2 g3 r2_=>?_;subst r2_
   exact⟨λe=>(by cases e),λ_ q=>by cases q⟩
 |cons a b iha ihb=>
  intro y c d hc hd
  refine bindS hc λc1 h1 h2=>?_
  refine mapS h2 λc2 h3 r2_=>?_;subst r2_
  cases y with
  |n j=>cases hd;exact⟨λe=>(by cases e),λ_ q=>by cases q⟩
  |s j=>refine mapS hd λy hy r2_=>?_;subst r2_;exact⟨λe=>(by cases e),λ_ q=>by cases q⟩
  |u j=>cases hd;exact⟨λe=>(by cases e),λ_ q=>by cases q⟩
  |nil=>cases hd;exact⟨λe=>(by cases e),λ_ q=>by cases q⟩
  |cons a' b'=>
   refine bindS hd λd1 g1 g2=>?_
   refine mapS g2 λd2 g3 r2_=>?_;subst r2_
   obtain⟨A1,A2⟩:=iha a' h1 g1
   obtain⟨B1,B2⟩:=ihb b' h3 g3
   have key:∀t u,Ky.cmp b b'=t->Ky.cmp a a'=u->Ky.cmp (.cons a b) (.cons a' b')=T3.rec (motive:=λ_=>T3) u .n (T3.rec (motive:=λ_=>T3) .u .n .u u) t:=λt u ht hu=>by subst ht;subst hu;rfl
   refine⟨λe=>?_,λe q=>?_⟩
   ·cases qb:Ky.cmp b b'<;>cases qa:Ky.cmp a a'<;>rw [key _ _ qb qa] at e<;>first|cases e;done|rw [A1 qa,B1 qb]
   ·injection q with q1 q2
    cases qb:Ky.cmp b b'<;>cases qa:Ky.cmp a a'<;>rw [key _ _ qb qa] at e<;>first|(cases e;done)|exact A2 qa q1|exact B2 qb q2
theorem qd {q:Ky}{l:List DE}{b:Bool}(e:iA q l b=true):b=true/\(l=[]∨∃q' k' v' t,l = .mk q' k' v'::t/\Ky.tJ q' q=true):=by
 cases l with
 |nil=>exact⟨e,.inl rfl⟩
 |cons x t=>
  obtain⟨q',k',v'⟩:=x
  have e1:(Bool.rec (motive:=λ_=>Bool) false b (Ky.tJ q' q))=true:=e
  cases h:Ky.tJ q' q with
  |false=>rw [h] at e1;exact nf e1
  |true=>rw [h] at e1;exact⟨e1,.inr (yEEE q' k' v' (yEA t rfl h))⟩
theorem cZ {μ:Mu}{hp:Heap}{a b:Addr}{S:CK}{l:List DE}{xs:List (CK × Addr × Value)}(hm:hp.DictOfH (aK w S) a xs) (r:cK V μ l xs){q:Ky}{c:CK}(hq:V.ck q=some c) (hc:c.is hp b) (hd:c.fb<=8)
  {t:Bool}(e:iA q l t=true):t=true/\∃S',hp.DictOfH (aK w S') a xs/\(aK w S').is hp c b:=by
 obtain⟨ht,h⟩:=qd e
 refine⟨ht,?_⟩
 rcases h with rfl|⟨q',k',v',t',rfl,hs⟩
 ·cases r
  refine bK hm λo es ep h1 h2 h3 h4 h5 h6=>?_;clear hm
  exact yEAAA c.sh ⟨o,es,ep,h1,h2,h3,by trivial,λx hx=>(by cases hx),h6⟩ hc rfl hd
 ·cases r with
  | @cons _ _ _ _ c' b' x' xs' g1 g2 g3 g4=>
   refine bK (id hm) λo es ep h1 h2 h3 h4 h5 h6=>?_
   have:=(h5 _ List.mem_cons_self).2.1
   exact yEAAA S hm hc ((rW _ _ hs g1 hq).symm.trans this) hd
theorem dX {μ:Mu}{q:Ky}{c:CK}(hq:V.ck q=some c){kn:Bool}{k:AV->Bool}{l:List DE}{xs:List (CK × Addr × Value)}(r:cK V μ l xs) (e:tK q l kn k=true) :
  (atKey xs c=none/\kn=true)∨∃v a x,atKey xs c=some (a,x)/\Rep V μ v x/\k v=true:=by
 induction r with
 |nil=>exact .inl ⟨rfl,e⟩
 | @cons q' k' v' l c' b' x' xs g1 g2 g3 g4 ih=>
  have e1:(T3.rec (motive:=λ_=>Bool) (k v') (tK q l kn k) false (Ky.cmp q' q))=true:=e
  obtain⟨C1,C2⟩:=iq q' q g1 hq
  cases h:Ky.cmp q' q with
  |y=>
   rw [h] at e1
   obtain rfl:=C1 h
   exact .inr (yEEEAA v' b' x' (by simp [atKey]) g3 e1)
  |n=>
   rw [h] at e1
   have hne:=C2 h
   have ha:atKey ((c',b',x')::xs) c=atKey xs c:=by simp [atKey,List.find?_cons,hne]
   rw [ha];exact ih e1
  |u=>rw [h] at e1;exact nf e1
theorem cK.len {μ:Mu}{l:List DE}{xs:List (CK × Addr × Value)}(r:cK V μ l xs):Mine.len l=xs.length:=by
 induction r with
 |nil=>rfl
 |cons _ _ _ _ ih=>show Nat.add (Mine.len _) 1=_;rw [ih];rfl
theorem iI {μ:Mu}{q:Ky}{c:CK}(hq:V.ck q=some c){kv v:AV}{b:Addr}{y:Value}(Rk:Rep V μ kv (.ref b)) (Rv:Rep V μ v y){l:List DE}{xs:List (CK × Addr × Value)}(r:cK V μ l xs) :
  (xs.map (·.1)).Nodup->∀{k:List DE->Bool},cL q kv v l k=true->∃m,k m=true/\cK V μ m (storedH xs c b y):=by
 induction r with
 |nil=>intro _ k e;exact yEA _ e (.cons hq Rk Rv .nil)
 | @cons q' k' v' l c' b' x' xs g1 g2 g3 g4 ih=>
  intro hn k e
  rw [List.map_cons,List.nodup_cons] at hn
  have e1:(T3.rec (motive:=λ_=>Bool) (k (.mk q' k' v::l)) (cL q kv v l λm=>k (.mk q' k' v'::m)) false (Ky.cmp q' q))=true:=e
  obtain⟨C1,C2⟩:=iq q' q g1 hq
  cases h:Ky.cmp q' q with
  |y=>
   rw [h] at e1
   obtain rfl:=C1 h
   refine yEA _ e1 ?_
   rw [storedH_old (p:=(b',x')) (by simp [atKey])]
   have:((c',b',x')::xs).map (putAt c' y)=(c',b',y)::xs:=by
    rw [List.map_cons,map_putAt_of_not_mem xs c' y hn.1,putAt,if_pos rfl]
   rw [this]
   exact .cons g1 g2 Rv g4
  |n=>
   rw [h] at e1
   have hne:=C2 h
   refine aI (ih hn.2 e1) λm e2 r2=>?_
   refine yEA _ e2 ?_
   have ha:atKey ((c',b',x')::xs) c=atKey xs c:=by simp [atKey,List.find?_cons,hne]
   have:storedH ((c',b',x')::xs) c b y=(c',b',x')::storedH xs c b y:=by
    unfold storedH
    rw [ha]
    split
    ·rw [List.map_cons,putAt,if_neg hne]
    ·rfl
   rw [this]
   exact .cons g1 g2 g3 r2
  |u=>rw [h] at e1;exact nf e1
theorem gk {μ:Mu}{q:Nat}{kn:Bool}{k:AV->Bool}{l:List IE}{xs:List (Int × Value)}(r:cU V μ l xs) (e:kh q l kn k=true) :
  (valueAt xs (q:Int)=none/\kn=true)∨∃v x,valueAt xs (q:Int)=some x/\Rep V μ v x/\k v=true:=by
 induction r with
 |nil=>exact .inl ⟨rfl,e⟩
 | @cons n v l x xs g1 g2 ih=>
  have e1:(Bool.rec (motive:=λ_=>Bool) (kh q l kn k) (k v) (Nat.beq n q))=true:=e
  cases h:Nat.beq n q with
  |true=>
   rw [h] at e1
   obtain rfl:=Nat.eq_of_beq_eq_true h
   exact .inr (yEEAA v x (by simp [valueAt]) g1 e1)
  |false=>
   rw [h] at e1
   have hne:=Nat.ne_of_beq_eq_false h
   have ha:valueAt (((n:Int),x)::xs) (q:Int)=valueAt xs (q:Int):=by simp [valueAt,List.find?_cons,show ¬((n:Int)=(q:Int)) by lia]
   rw [ha];exact ih e1
theorem cU.len {μ:Mu}{l:List IE}{xs:List (Int × Value)}(r:cU V μ l xs):Mine.len l=xs.length:=by
 induction r with
 |nil=>rfl
 |cons _ _ ih=>show Nat.add (Mine.len _) 1=_;rw [ih];rfl
theorem jz {μ:Mu}{q:Nat}{v:AV}{y:Value}(Rv:Rep V μ v y){l:List IE}{xs:List (Int × Value)}(r:cU V μ l xs):(xs.map (·.1)).Nodup->cU V μ (kj q v l) (stored xs (q:Int) y):=by
 induction r with
 |nil=>intro _;exact .cons Rv .nil
 | @cons n v' l x xs g1 g2 ih=>
  intro hn
  rw [List.map_cons,List.nodup_cons] at hn
  have e1:kj q v (.mk n v'::l)=Bool.rec (motive:=λ_=>List IE) (.mk n v'::kj q v l) (.mk n v::l) (Nat.beq n q):=rfl
  rw [e1]
  cases h:Nat.beq n q with
  |true=>
   obtain rfl:=Nat.eq_of_beq_eq_true h
   have:stored (((n:Int),x)::xs) (n:Int) y=((n:Int),y)::xs:=by
    unfold stored
    rw [if_pos (by simp),List.map_cons]
    simp only [if_true]
    have:xs.map (λkv=>if kv.1=(n:Int) then (kv.1,y) else kv)=xs:=by
     have:∀kv ∈ xs,(λkv:Int × Value=>if kv.1=(n:Int) then (kv.1,y) else kv) kv=kv:=λkv hkv=>if_neg (λe2:kv.1=(n:Int)=>hn.1 (show (n:Int) ∈ xs.map (·.1) from List.mem_map.mpr (yEA kv hkv e2)))
     exact (List.map_congr_left this).trans (List.map_id _)
    rw [this]
   rw [this]
   exact .cons Rv g2
  |false=>
   have hne:¬((n:Int)=(q:Int)):=by have:=Nat.ne_of_beq_eq_false h;lia
   have:stored (((n:Int),x)::xs) (q:Int) y=((n:Int),x)::stored xs (q:Int) y:=by
    unfold stored
    have:(((n:Int),x)::xs).any (λkv=>kv.1=(q:Int))=xs.any (λkv=>kv.1=(q:Int)):=by simp [hne]
    rw [this]
    split
    ·rw [List.map_cons,if_neg hne]
    ·rfl
   rw [this]
   exact .cons g1 (ih hn.2)
theorem qe {μ:Mu}{q:Nat}{l:List IE}{xs:List (Int × Value)}(r:cU V μ l xs):(xs.map (·.1)).Nodup->cU V μ (v5 q l) (without xs (q:Int)):=by
 induction r with
 |nil=>intro _;exact .nil
 | @cons n v' l x xs g1 g2 ih=>
  intro hn
  rw [List.map_cons,List.nodup_cons] at hn
  have e1:v5 q (.mk n v'::l)=Bool.rec (motive:=λ_=>List IE) (.mk n v'::v5 q l) l (Nat.beq n q):=rfl
  rw [e1]
  cases h:Nat.beq n q with
  |true=>
   obtain rfl:=Nat.eq_of_beq_eq_true h
   have:without (((n:Int),x)::xs) (n:Int)=xs:=by
    show List.filter _ (_::xs)=_
    rw [List.filter_cons_of_neg (by simp)]
    exact without_of_not_mem xs _ hn.1
   rw [this];exact g2
  |false=>
   have hne:¬((n:Int)=(q:Int)):=by have:=Nat.ne_of_beq_eq_false h;lia
   have:without (((n:Int),x)::xs) (q:Int)=((n:Int),x)::without xs (q:Int):=by
    show List.filter _ (_::xs)=_
    rw [List.filter_cons_of_pos (by simpa using hne)];rfl
   rw [this];exact .cons g1 (ih hn.2)
theorem eQ (GS:(oh.get? sysModules).isSome=true){W:Wd}{h:H}{hp:Heap}(I:Inv w V oh W h hp){p:P4}{a:Addr}(ha:W.μ p=some a):(a==sysModules)=false:=by
 cases q:(a==sysModules) with
 |false=>rfl
 |true=>
  have:=I.low a (.inl ⟨p,ha⟩)
  rw [eq_of_beq q] at this
  rw [this] at GS;exact nf GS
theorem intKind_is {n:Nat}{t:Tok}:(intKind pw w).is (n:Int) (.int (n:Int) t)=true:=by simp [intKind,Value.isInt]
theorem iJ {a:AV}{μ:Mu}{s:Shared}{v:Value}(Ra:Rep V μ a v):∀{l:List AV}{xs:List Value},aR V μ l xs->∀{k:Bool->Bool},lg a l k=true ->
  ∃ts:List Bool,ts.length=xs.length/\k (ts.any id)=true/\∀(j:Nat) (h1:j<xs.length),mj 0 s xs[j] v (ts.getD j false):=by
 intro l xs r
 induction r with
 |nil=>intro k e;exact yEAA [] rfl e λj h1=>absurd h1 (Nat.not_lt_zero _)
 | @cons x u l xs hx _ ih=>
  intro k e
  have e1:(vO x a λb=>lg a l λr=>k (Bool.rec (motive:=λ_=>Bool) r true b))=true:=e
  refine aI (eA (n:=0) (s:=s) e1 hx Ra) λt e2 g=>?_
  refine cS (ih e2) λts h1 h2 h3=>?_
  refine yEAA (t::ts) (by simp [h1]) ?_ λj h=>?_
  ·cases t with
   |false=>simpa using h2
   |true=>exact h2
  ·cases j with
   |zero=>exact g
   |succ j=>exact h3 j (by simpa using h)
theorem jA {s:Shared}{xs:Array Value}{v:Value}{ts:List Bool}(hl:ts.length=xs.toList.length) (h:∀(j:Nat) (h1:j<xs.toList.length),mj 0 s xs.toList[j] v (ts.getD j false)) :
  ∃e:Value->Bool,(∀A:Around,A.units<cLine->∀y,y ∈ xs->EqAt A s y v (e y))/\xs.any e=ts.any id:=by
 classical
 refine yEA (λy=>decide (∃j,∃h1:j<xs.toList.length,ts.getD j false=true/\xs.toList[j]=y)) (λA hA y hy=>?_) ?_
 ·dsimp only
  by_cases hq:∃j,∃h1:j<xs.toList.length,ts.getD j false=true/\xs.toList[j]=y
  ·rw [decide_eq_true hq]
   obtain⟨j,h1,ht,rfl⟩:=hq
   rw [<-ht]
   exact ((h j h1).2 A hA).2.2
  ·rw [decide_eq_false hq]
   obtain⟨j,hj,rfl⟩:=List.getElem_of_mem (Array.mem_toList_iff.mpr hy)
   have:=((h j hj).2 A hA).2.2
   cases ht:ts.getD j false with
   |false=>rw [ht] at this;exact this
   |true=>exact absurd ⟨j,hj,ht,rfl⟩ hq
 ·rw [<-Array.any_toList]
  cases q:ts.any id with
  |false=>
   rw [List.any_eq_false] at q ⊢
   intro y hy
   simp only [decide_eq_true_eq]
   rintro⟨j,h1,ht,_⟩
   have hj:j<ts.length:=by lia
   have:ts[j]=true:=by simpa [List.getD,hj] using ht
   exact q ts[j] (List.getElem_mem hj) this
  |true=>
   rw [List.any_eq_true] at q ⊢
   refine bG λ_ kk=>?_
   refine aI q λb hb hb'=>?_;clear q
   obtain⟨j,hj,rfl⟩:=List.getElem_of_mem hb
   refine kk ?_
   have h1:j<xs.toList.length:=by lia
   refine yEA (xs.toList[j]) (List.getElem_mem h1) (decide_eq_true ⟨j,h1,?_,rfl⟩)
   have hb':ts[j]=true:=hb'
   simpa [List.getD,hj] using hb'
theorem om (GS:(oh.get? sysModules).isSome=true){A:Around}{n:Nat}(rm:Rm n A){a b:AV}{h:H}{k:Bool->Bool}(e:km a b h k=true){W:Wd}{s:Shared}{u v:Value}(I:Inv w V oh W h s.heap) (Ra:Rep V W.μ a u) (Rb:Rep V W.μ b v) :
  ∃t,k t=true/\(∀E Q,(∀tk,Q (.bool t) { s with toks:=tk })->wpAny (model pw w) A (compareOp .In u v) Q E s)/\∀E Q,(∀tk,Q (.bool (!t)) { s with toks:=tk })->wpAny (model pw w) A (compareOp .NotIn u v) Q E s:=by
 refine onO_k e λp o r2_ ho e1=>?_;subst r2_
 refine Rb.rf λd hd r2_=>?_;clear Rb;subst r2_
 have hu:A.in1.units<cLine:=by show A.units+1<cLine;have:=rm.2;lia
 cases o with
 |list l=>
  refine bG λ_ kk=>?_
  refine isList_k (I.at ho hd) λxs g1 g2=>?_
  refine cS (iJ (s:=s) Ra g2 (show lg a l k=true from e1)) λts h1 h2 h3=>?_
  refine aI (jA h1 h3) λf f1 f2=>?_
  refine kk ?_
  exact yEAA _ h2 (λE Q q=>in_listAt f g1 (f1 _ hu) (f2▸q s.toks)) λE Q q=>notIn_listAt f g1 (f1 _ hu) (f2▸q s.toks)
 |tup l=>
  refine bG λ_ kk=>?_
  refine isTup_k (I.at ho hd) λxs g1 g2=>?_
  refine cS (iJ (s:=s) Ra g2 (show lg a l k=true from e1)) λts h1 h2 h3=>?_
  refine aI (jA h1 h3) λf f1 f2=>?_
  refine kk ?_
  exact yEAA _ h2 (λE Q q=>in_tupleAt f g1 (f1 _ hu) (f2▸q s.toks)) λE Q q=>notIn_tupleAt f g1 (f1 _ hu) (f2▸q s.toks)
 |dict l=>
  have e2:(rP h a λq=>lV q l (k false) λ_=>k true)=true:=e1
  refine bG λ_ kk=>?_
  obtain⟨b,q,c,rfl,hq,hc,hdp,e3⟩:=cY I e2 Ra
  refine I.nD ho hd λS xs hm r=>?_
  obtain⟨e4,S',hm',hk⟩:=cZ hm r hq hc hdp e3
  refine kk ?_
  have hr:(aK w S').room A.in1:=by show A.units+1+9<cLine;have:=rm.2;lia
  have fin:∃t,k t=true/\(atKey xs c).isSome=t:=by
   rcases dX hq r e4 with ⟨x1,x2⟩|⟨v,a',x,x1,_,x2⟩
   ·exact yEA false x2 (by rw [x1];rfl)
   ·exact yEA true x2 (by rw [x1];rfl)
  refine aI fin λt ht hs=>?_;clear fin
  exact yEAA t ht (λE Q q=>wpAny_in_heap hr hk (eQ GS I hd) hm' (hs▸q _)) λE Q q=>wpAny_notIn_heap hr hk (eQ GS I hd) hm' (hs▸q _)
 |bk l=>
  refine bG λ_ kk=>?_
  refine onNat_k (show aG a (λn=>kh n l (k false) λ_=>k true)=true from e1) λm r1_ e2=>?_;subst r1_
  obtain⟨t',rfl⟩:=Ra
  refine aI (I.at ho hd) λxs hm r=>?_
  refine kk ?_
  have fin:∃t,k t=true/\(valueAt xs (m:Int)).isSome=t:=by
   rcases gk r e2 with ⟨x1,x2⟩|⟨v,x,x1,_,x2⟩
   ·exact yEA false x2 (by rw [x1];rfl)
   ·exact yEA true x2 (by rw [x1];rfl)
  refine aI fin λt ht hs=>?_;clear fin
  exact yEAA t ht (λE Q q=>wpAny_in_of intKind_is (eQ GS I hd) hm.mapOf (hs▸q _)) λE Q q=>wpAny_notIn_of intKind_is (eQ GS I hd) hm.mapOf (hs▸q _)
 |_=>exact nf e1
theorem cIn (GS:(oh.get? sysModules).isSome=true):qW w V oh kH km (compareOp .In):=by
 intro A n rm ho a b hh k e W s u v I Ra Rb Q E p
 refine cS (om GS rm e I Ra Rb) λt h1 h2 _=>?_
 exact h2 E Q λtk=>p t tk h1
theorem cNin (GS:(oh.get? sysModules).isSome=true):qW w V oh kH kq (compareOp .NotIn):=by
 intro A n rm ho a b hh k e W s u v I Ra Rb Q E p
 refine cS (om GS rm e I Ra Rb) λt h1 _ h2=>?_
 exact h2 E Q λtk=>p (!t) tk (by cases t<;>exact h1)
end
end
section
section
variable {w:World}{V:Va}{oh:Heap}{kH:Bool}{fi:aY}
def qf (V:Va) (q:P4):CF->Prop
 |.nil=>True
 |.cons c f r=>V.l7 c q=some f/\qf V q r
theorem rg {q:P4}{c:Nat}{k:P4->Bool}:∀{cf:CF},qf V q cf->cf.find c k=true->∃f,V.l7 c q=some f/\k f=true
 |.nil,_,e=>by exact nf e
 |.cons c' f r,ok,e=>by
  have e1:az (Nat.beq c c') (k f) (CF.find c r k)=true:=e
  rcases bW e1 with ⟨e2,e3⟩|⟨_,e3⟩
  ·obtain rfl:=Nat.eq_of_beq_eq_true e2
   exact yEA f ok.1 e3
  ·exact rg ok.2 e3
theorem ug {env:Env}{pos:Pos}{es:List PySem.Expr}(hs:es.all notStar=true) (hn:es.length<29) :
  methodCallForm (es.length+([]:List Keyword).length) (backTo pos (starEach es env)) (backToKw pos (keywordEach [] env))=true:=by
 have any:∀es:List PySem.Expr,es.all notStar=true->(backTo pos (starEach es env)).all (λx=>!x.1)=true:=by
  intro es
  induction es with
  |nil=>intro _;rfl
  |cons e r ih=>
   intro hs
   rw [List.all_cons,Bool.and_eq_true] at hs
   rw [bX hs.1]
   show (true&&(backTo pos (starEach r env)).all (λx=>!x.1))=true
   rw [ih hs.2];rfl
 unfold methodCallForm
 rw [any es hs]
 have h2:(backToKw pos (keywordEach [] env))=[]:=rfl
 rw [h2]
 simp
 exact Nat.le_succ_of_le ‹_›
def gm (e:EC) (a:P4) (cf:CF) (l:LC) (co:CO) (r:Tr AV) (h:H) (K:P4->List AV->H->Bool):Bool:=e co r h λv h=>vN v h λ_ c fs=>
 Option.rec (motive:=λ_=>Bool) (cf.find c λf=>l co r h λvs h=>K f (v::vs) h) (λ_=>false) (fs.get a)
abbrev RQ (Q:Value->Shared->Prop) (E:Value->Shared->Prop) (r:Result) (s':Shared):Prop:=match r with|.ok (.ret v)=>Q v s' | .ok _=>False|.error e=>E e s'
theorem uh (CA:cP V oh) (FA:iH V oh){c:EC}{q:P4}{x:Str}{cf:CF}{l:LC}{e:PySem.Expr}{apos pos:Pos}{es:List PySem.Expr}(hx:V.attr q=some x) (ok:qf V q cf) (hb:bP e=true) (hline:(apos.endLine==pos.line)=true)
  (hs:es.all notStar=true) (hn:es.length<29) (hc:SE w V oh kH fi c e) (hl:SL w V oh kH fi l es) (y:Cx w V oh kH fi){s:Shared}{E:Value->Shared->Prop}{r:Tr AV}{h:H}{kk:P4->List AV->H->Bool}(hk:gm c q cf l y.co r h kk=true){W:Wd}(I:Inv w V oh W h s.heap) (F:aM V oh fi y.env W s.heap r){Q:Value->Shared->Prop}
  (p:∀f a vs h2 vals W2 s2,kk f vs h2=true->V.fn f=some a->aR V W2.μ vs vals->Inv w V oh W2 h2 s2.heap->Step none_ W s W2 s2->CG (model pw w) y.A (.call (.ref a) ⟨vals,[]⟩) (RQ Q E) s2):WG (model pw w) y.A (eval (.Call (.Attribute e x apos) es [] pos) y.env) Q E s:=by
 refine WG.eq (arm_eval_Call ..) ?_;rw [cc hb]
 refine WG.bind (hc y r h _ hk W s I F _ _ λav h1 v W1 s1 e1 R1 I1 S1=>?_)
 refine onI_k e1 λpp c' fs r3_ ho e2=>?_;subst r3_
 refine R1.rf λa ha r2_=>?_;clear R1;subst r2_
 have hpos:methodCallPos true e y.env apos pos=pure pos:=by unfold methodCallPos;simp [hline]
 refine WG.aA ?_
 unfold methodCall
 rw [ug hs hn]
 cases hf:fs.get q with
 |some xv=>rw [hf] at e2;exact nf e2
 |none=>
  rw [hf] at e2
  refine bG λ_ kk=>?_
  refine aI (rg ok (show cf.find c' _=true from e2)) λf hm e3=>?_
  obtain⟨C,d,od,m,hC,hδ,_,hod,hn',hlk,IA,FR,hfl⟩:=mf (I1.at ho ha)
  obtain⟨K,KI,CK⟩:=CA c' C hC
  refine cS (CK.l7 q x f hx hm) λaf hfn g1 g2=>?_
  refine kk ?_
  have X:=KI.keeps I1.bq
  have hsh:shadowIn (some od) x=some false:=by
   show (lookIn x od).map (·.isSome)=some false
   rw [hlk,(FR q x hx).2 hf];rfl
  refine WG.bind (WG.hold (WG.of (method_fn X IA CK.ga CK.gt g1 g2 hsh ?_)))
  refine WG.bind (WG.of_eq hpos (WG.pure ?_))
  refine bf (FA f af hfn) λo fd hfo hfd=>?_
  refine dM (P:=λh=>∃o,h.get? af=some o/\o.data = .func fd) (by rw [(aL (M:=model pw w) (A:=y.A) (E:=E) (s:=s1) (f:=.none) (pos:=pos) (env:=y.env) hs (Q:=λ_ _=>True) (hl y r h1 _ e3 W1 s1 I1 (F.step _ _ S1) pos _ _ λ_ _ _ _ _ _ _ _ _=>trivial)).2];rfl) (λh z=>gj h z) ?_
  refine (aL hs (hl y r h1 _ e3 W1 s1 I1 (F.step _ _ S1) pos _ _ λavs h2 vs W2 s2 e4 R2 I2 S2=>?_)).1
  exact⟨yEA o (I2.bq _ _ hfo) hfd,WG.call (p f af _ h2 _ W2 s2 e4 hfn (.cons (yEA a (S2.le.1 _ _ ha) rfl) R2) I2 (S1.trans S2))⟩
theorem Bx (CA:cP V oh) (FA:iH V oh){c:EC}{q:P4}{x:Str}{cf:CF}{l:LC}{e:PySem.Expr}{apos pos:Pos}{es:List PySem.Expr}(hx:V.attr q=some x) (ok:qf V q cf) (hb:bP e=true) (hline:(apos.endLine==pos.line)=true)
  (hs:es.all notStar=true) (hn:es.length<29) (hc:SE w V oh kH fi c e) (hl:SL w V oh kH fi l es):SE w V oh kH fi (ag c q cf l) (.Call (.Attribute e x apos) es [] pos):=
 λy r h k hk W s I F Q E p=>uh CA FA hx ok hb hline hs hn hc hl y (kk:=λf vs h=>y.co f vs h k) hk I F λf a vs h2 vals W2 s2 e4 hfn R2 I2 S2=>by
  refine aI (y.ok f vs h2 k e4) λa' ha hcg=>?_
  rw [hfn] at ha;cases ha
  exact hcg y.A (y.rm.call (by exact Nat.le_add_right _ _) (by exact Nat.le_add_right _ _)) y.ho W2 s2 vals I2 R2 _ λav h' v W' s' e0 r0 i0 S0=>p av h' v W' s' e0 r0 i0 (S2.trans S0)
def fS (w:World) (V:Va) (oh:Heap) (kH:Bool) (m:P4->List AV->H->K1->Bool) (id:String):Prop:=
 ∀A n,Rm n A->j8 kH oh A->∀p vs h k,m p vs h k=true->∀W s a vals,Inv w V oh W h s.heap->W.μ p=some a->aR V W.μ vs vals->∀Q E,cO w V oh k W s Q->WG (model pw w) A (PySem.call (.builtin id) (.ref a::vals)) Q E s
def KdS (w:World) (V:Va) (kd:AO->Bool) (T:String):Prop:=
 ∀o,kd o=true->∀W hp a p,bV w V W hp a p o->∃ob,hp.get? a=some ob/\ob.cls = .type T/\ob.dict=none
theorem rh:KdS w V gE "list":=by
 intro o e W hp a p r
 cases o with
 |list l=>refine bf r λvs n h1 _=>?_;clear r;exact yEAA _ h1 rfl rfl
 |_=>exact nf e
theorem ui:KdS w V isD "dict":=by
 intro o e W hp a p r
 cases o with
 |dict l=>refine bf r λS xs q2_ _=>?_;clear r;obtain⟨ob,es,ep,h1,h2,_⟩:=q2_;exact yEAA ob h1 h2.1 h2.2.1
 |bk l=>refine aI r λxs q1_ _=>?_;clear r;obtain⟨ob,es,ep,h1,h2,_⟩:=q1_;exact yEAA ob h1 h2.1 h2.2.1
 |_=>exact nf e
theorem kBya:KdS w V isB "bytearray":=by
 intro o e W hp a p r
 cases o with
 |nC l=>exact yEAA _ r rfl rfl
 |_=>exact nf e
theorem yX {kd:AO->Bool}{m:P4->List AV->H->K1->Bool}{T id:String}{c:EC}{x:Str}{l:LC}{e:PySem.Expr}{apos pos:Pos}{es:List PySem.Expr}(hk:KdS w V kd T) (hm:fS w V oh kH m id) (pa:PlainAttrs T) (slot:Slot T x id)
  (hty:typeOf (.builtin id)=pure (.type "method_descriptor")) (hb:bP e=true) (hline:(apos.endLine==pos.line)=true) (hs:es.all notStar=true) (hn:es.length<29) (hc:SE w V oh kH fi c e) (hl:SL w V oh kH fi l es) :
  SE w V oh kH fi (aS c kd m l) (.Call (.Attribute e x apos) es [] pos):=by
 intro y r h k hkk W s I F Q E p
 refine WG.eq (arm_eval_Call ..) ?_;rw [cc hb]
 refine WG.bind (hc y r h _ hkk W s I F _ _ λav h1 v W1 s1 e1 R1 I1 S1=>?_)
 refine onO_k e1 λpp o r2_ ho e2=>?_;subst r2_
 refine R1.rf λa ha r2_=>?_;clear R1;subst r2_
 obtain⟨e3,e4⟩:=aN e2
 refine cS (hk o e3 W1 _ a pp (I1.at ho ha)) λob g1 g2 g3=>?_
 have hpos:methodCallPos true e y.env apos pos=pure pos:=by unfold methodCallPos;simp [hline]
 refine WG.aA ?_
 unfold methodCall
 rw [ug hs hn]
 refine WG.bind (WG.hold (WG.of (getMethod_builtin (yEA ob g1 g2) pa slot hty (λb eb=>by injection eb with eb;subst eb;exact yEA ob g1 g3) ?_)))
 refine WG.bind (WG.of_eq hpos (WG.pure ?_))
 refine cD (aL (M:=model pw w) (A:=y.A) (E:=E) (s:=s1) (f:=.none) (pos:=pos) (env:=y.env) hs (Q:=λ_ _=>True) (hl y r h1 _ e4 W1 s1 I1 (F.step _ _ S1) pos _ _ λ_ _ _ _ _ _ _ _ _=>trivial)).2 ?_
 refine (aL hs (hl y r h1 _ e4 W1 s1 I1 (F.step _ _ S1) pos _ _ λavs h2 vs W2 s2 e5 R2 I2 S2=>?_)).1
 exact hm y.A y.n y.rm y.ho pp avs h2 k e5 W2 s2 a vs I2 (S2.le.1 _ _ ha) R2 Q E (p.after (S1.trans S2))
theorem ct {W:Wd}{s:Shared}{p:P4}{a:Addr}{x:Obj}{h':Heap}(ea:W.μ p=some a) (ex:s.heap.get? a=some x) (hx:¬(x.cls = .type "tuple" /\ ∃i n,x.data = .seq i n)) (hs:Heap.SameBut a s.heap h') (hk:¬W.lk a) (tk:Tok) :
  Step none_ W s W { s with heap:=h',toks:=tk }:=by
 refine⟨W.le_refl,λb h=>.inl h,λb o e c=>?_,Nat.le_of_eq hs.1.symm,rfl,rfl⟩
 refine (hs.2 b λq=>?_).trans e
 subst q
 rw [ex] at e;cases e
 rcases c with ⟨c,_⟩|c|c
 ·exact c (.inl ⟨p,ea⟩)
 ·exact hx c
 ·exact hk c
theorem iK {vs:Array Value}{n:Nat}:¬(({ cls:=.type "list",data:=.seq vs n }:Obj).cls = .type "tuple" /\ ∃i m,({ cls:=.type "list",data:=.seq vs n }:Obj).data = .seq i m):=λq=>by
 have:=q.1
 injection this with this
 exact absurd this (by decide)
theorem dY {k:K1}{W:Wd}{h:H}{s:Shared}{Q:Value->Shared->Prop}(p':cO w V oh k W s Q){p:P4}{a:Addr}{vs ys:Array Value}{n n':Nat}{m:List AV}{av:AV}{v:Value}{h':Heap}(I:Inv w V oh W h s.heap) (ea:W.μ p=some a)
  (ex:s.heap.get? a=some { cls:=.type "list",data:=.seq vs n }) (hs:Heap.SameBut a s.heap h') (hy:h'.get? a=some { cls:=.type "list",data:=.seq ys n' }) (hr:aR V W.μ m ys.toList) (e:k av (.mk (h.t.set (.list m) p) h.nx)=true) (R:Rep V W.μ av v) (hk:¬W.lk a) (tk:Tok) :
  Q v { s with heap:=h',toks:=tk }:=
 p' av _ v W _ e R (I.upd (o:=.list m) ea ex iK hs hk (yEEA ys n' hy hr)) (ct ea ex iK hs hk tk)
theorem dO {s:Shared}{a:Addr}{vs:Array Value}{n:Nat}(ex:s.heap.get? a=some { cls:=.type "list",data:=.seq vs n }) (f:Array Value->Array Value):∃n',(s.heap.update a (Obj.mapSeq f)).get? a=some { cls:=.type "list",data:=.seq (f vs) n' }:=
 ⟨_,Heap.get?_update_self _ ex rfl⟩
theorem rX {vs:List AV}{k:AV->Bool}(e:dS vs k=true):∃x,vs=[x]/\k x=true:=by
 cases vs with
 |nil=>exact nf e
 |cons x t=>cases t with
  |nil=>exact yEA x rfl e
  |cons _ _=>exact nf e
theorem arg1_k {vs:List AV}{k:AV->Bool}(e:dS vs k=true){P:Prop}(c_:∀x,vs=[x]->k x=true->P):P:=aI (rX e) c_
theorem aR.one {μ:Mu}{x:AV}{vals:List Value}(r:aR V μ [x] vals):∃v,vals=[v]/\Rep V μ x v:=by
 cases r with
 |cons h t=>cases t;exact yEA _ rfl h
theorem aR.one_k {μ:Mu}{x:AV}{vals:List Value}(r:aR V μ [x] vals){P:Prop}(c:∀v,vals=[v]->Rep V μ x v->P):P:=aI r.one c
theorem rY:fS w V oh kH bJ "list.append":=by
 intro A n rm ho p vs h k e W s a vals I ea R Q E pp
 refine arg1_k e λx r1_ e1=>?_;subst r1_
 refine R.one_k λv r1_ Rx=>?_;subst r1_
 refine H_k e1 λo ho' e2=>?_
 refine onList_k e2 λl r1_ e3=>?_;subst r1_
 obtain⟨e4,e5⟩:=aN e3
 refine I.lst ho' ea λys m g1 g2=>?_
 have hsz:ys.size<=sizeLine:=by have:=br e4;rw [g2.len] at this;simpa using this
 refine WG.of <| append_at g1 (λh' hs hy=>?_) hsz
 refine dY pp I ea g1 hs hy (m:=lc l [x]) ?_ (dy e5) rfl (I.nS ho' ea rfl) s.toks
 have:=g2.lc (.cons Rx .nil)
 simpa using this
theorem wm:fS w V oh kH nJ "list.pop":=by
 intro A n rm ho p vs h k e W s a vals I ea R Q E pp
 refine arg1_k e λx r1_ e1=>?_;subst r1_
 refine R.one_k λv r1_ Rx=>?_;subst r1_
 refine H_k e1 λo ho' e2=>?_
 refine onList_k e2 λl r1_ e3=>?_;subst r1_
 refine onNat_k e3 λm r1_ e4=>?_;subst r1_
 obtain⟨e5,e6⟩:=aN e4
 obtain⟨e7,e8⟩:=aN e6
 obtain rfl:=Nat.eq_of_beq_eq_true e5
 obtain⟨t,rfl⟩:=Rx
 refine I.lst ho' ea λys m g1 g2=>?_
 have hsz:ys.size<=sizeLine:=by have:=br e7;rw [g2.len] at this;simpa using this
 cases l with
 |nil=>exact nf e8
 |cons y l=>
  obtain⟨yl⟩:=ys
  cases g2 with
  | @cons _ u _ ul hy hl=>
   have h0:(Array.mk (u::ul))[0]? = some u:=rfl
   refine WG.of <| call_meets F.slot_list_pop (yEA _ g1 rfl) F.entry_list_pop (F.args_list_pop_2 _ _) (MeetsSeq.list_pop_at a (Array.mk (u::ul)) m 0 t 0 u (by decide) (by unfold seqIndex?;simp) h0 hsz) ⟨g1,?_⟩
   obtain⟨n',hn'⟩:=dO g1 (λxs=>xs.eraseIdxIfInBounds 0)
   refine dY pp I ea g1 (Heap.SameBut.update ..) hn' (m:=l) ?_ (dy e8) hy (I.nS ho' ea rfl) s.toks
   simpa using hl
theorem oo {l:List AV}{k:Bool}(e:pV l k=true):k=true/\∀x ∈ l,∃n,x = .nat n:=by
 induction l with
 |nil=>exact⟨e,λx hx=>by cases hx⟩
 |cons x t ih=>
  refine onNat_k (show aG x (λ_=>pV t k)=true from e) λn r1_ e1=>?_;subst r1_
  obtain⟨h1,h2⟩:=ih e1
  refine⟨h1,λy hy=>?_⟩
  rcases List.mem_cons.mp hy with rfl|hy
  ·exact⟨n,rfl⟩
  ·exact h2 y hy
noncomputable def mq (n:Nat):Value->Bool
 |.int i _=>i==(n:Int)
 |_=>false
theorem qg {μ:Mu}{n:Nat}{l:List AV}{xs:List Value}(r:aR V μ l xs):∀{k:List AV->Bool},yJ n l k=true ->
  ∃m j,k m=true/\aR V μ m (xs.eraseIdx j)/\∃h:j<xs.length,mq n xs[j]=true/\∀i (hi:i<xs.length),i<j->mq n xs[i]=false:=by
 induction r with
 |nil=>intro k e;exact nf e
 | @cons x v l xs hx r ih=>
  intro k e
  refine onNat_k (show aG x (λm=>Bool.rec (motive:=λ_=>Bool) (yJ n l λr=>k (x::r)) (k l) (Nat.beq m n))=true from e) λm r1_ e1=>?_;subst r1_
  obtain⟨t,rfl⟩:=hx
  cases q:Nat.beq m n with
  |true=>
   rw [q] at e1
   refine⟨l,0,e1,r,Nat.zero_lt_succ _,?_,λi hi h=>absurd h (Nat.not_lt_zero _)⟩
   show ((m:Int)==(n:Int))=true
   rw [mn];exact q
  |false=>
   rw [q] at e1
   refine bG λ_ kk=>?_
   obtain⟨m',j,e2,r2,hj,h1,h2⟩:=ih e1
   refine kk ?_
   refine⟨.nat m::m',j+1,e2,.cons ⟨t,rfl⟩ r2,Nat.succ_lt_succ hj,h1,λi hi h=>?_⟩
   cases i with
   |zero=>show ((m:Int)==(n:Int))=false;rw [mn];exact q
   |succ i=>exact h2 i (Nat.lt_of_succ_lt_succ hi) (Nat.lt_of_succ_lt_succ h)
theorem aR.mem {μ:Mu}{l:List AV}{xs:List Value}(r:aR V μ l xs):∀v ∈ xs,∃x ∈ l,Rep V μ x v:=by
 induction r with
 |nil=>intro v hv;cases hv
 | @cons x u l xs hx _ ih=>
  intro v hv
  rcases List.mem_cons.mp hv with rfl|hv
  ·exact yEA x List.mem_cons_self hx
  ·refine aI (ih v hv) λy hy r=>?_;exact yEA y (List.mem_cons_of_mem _ hy) r
theorem rZ:fS w V oh kH gH "list.remove":=by
 intro A n rm ho p vs h k e W s a vals I ea R Q E pp
 refine arg1_k e λx r1_ e1=>?_;subst r1_
 refine R.one_k λv r1_ Rx=>?_;subst r1_
 refine onNat_k e1 λi r1_ e2=>?_;subst r1_
 refine H_k e2 λo ho' e3=>?_
 refine onList_k e3 λl r1_ e4=>?_;subst r1_
 obtain⟨e5,e6⟩:=aN e4
 obtain⟨e7,hall⟩:=oo e6
 obtain⟨t,rfl⟩:=Rx
 refine I.lst ho' ea λys m g1 g2=>?_
 have hsz:ys.size<=sizeLine:=by have:=br e5;rw [g2.len] at this;simpa using this
 refine bG λ_ kk=>?_
 obtain⟨m',j,e8,r2,hj,h1,h2⟩:=qg g2 e7
 refine kk ?_
 have hj':j<ys.size:=by simpa using hj
 have he:∀y,y ∈ ys->MeetsSeq.EqGives y (.int (i:Int) t) (mq i y):=λy hy=>by
  refine aI (g2.mem y (Array.mem_toList_iff.mpr hy)) λx hx rx=>?_
  obtain⟨n,rfl⟩:=hall x hx
  obtain⟨u,rfl⟩:=rx
  exact λpw w A E s Q q=>wpAny_eqBool_int q
 refine WG.of <| call_meets F.slot_list_remove (yEA _ g1 rfl) F.entry_list_remove (F.args_list_remove_2 _ _) (MeetsSeq.list_remove a ys m (.int (i:Int) t) (mq i) he j hj' (by simpa using h1) (λm hm h=>by have:=h2 m (by simpa using hm) h;rw [Array.getElem_toList] at this;exact this) hsz) ⟨g1,?_⟩
 obtain⟨n',hn'⟩:=dO g1 (λxs=>xs.eraseIdxIfInBounds j)
 refine dY pp I ea g1 (Heap.SameBut.update ..) hn' (m:=m') ?_ (dy e8) rfl (I.nS ho' ea rfl) s.toks
 obtain⟨yl⟩:=ys
 simpa using r2
theorem wo:fS w V oh kH qN "list.extend":=by
 intro A n rm ho p vs h k e W s a vals I ea R Q E pp
 refine arg1_k e λx r1_ e1=>?_;subst r1_
 refine R.one_k λv r1_ Rx=>?_;subst r1_
 refine H_k e1 λo ho' e2=>?_
 refine onList_k e2 λl r1_ e3=>?_;subst r1_
 refine onO_k e3 λq o2 r2_ ho2 e4=>?_;subst r2_
 refine onList_k e4 λm r1_ e5=>?_;subst r1_
 obtain⟨e6,e7⟩:=aN e5
 refine Rx.rf λb hb r2_=>?_;clear Rx;subst r2_
 refine I.lst ho' ea λys m1 g1 g2=>?_
 refine I.lst ho2 hb λzs m2 f1 f2=>?_
 have hsz:ys.size+zs.size<=4096:=by
  have:len l+len m<=4096:=Nat.le_of_ble_eq_true e6
  rw [g2.len,f2.len] at this;simpa using this
 have hl:sizeLine=2 ^ 24:=rfl
 refine WG.of <| call_meets F.slot_list_extend (yEA _ g1 rfl) F.entry_list_extend (F.args_list_extend_2 _ _) (AutoSeq1.list_extend_list_list_0 a ys m1 b zs m2 ?_ (by lia) (by lia)) ⟨g1,f1,?_⟩
 ·unfold Builtin.List.listTooLong
  simp
  lia
 ·obtain⟨n',hn'⟩:=dO g1 (λxs=>xs++zs)
  refine dY pp I ea g1 (Heap.SameBut.update ..) hn' (m:=lc l m) ?_ (dy e7) rfl (I.nS ho' ea rfl) s.toks
  have:=g2.lc f2
  simpa using this
end
end
section
section
variable {w:World}{V:Va}{oh:Heap}{kH:Bool}{fi:aY}
theorem yY (GS:(oh.get? sysModules).isSome=true):fS w V oh kH nK "dict.get":=by
 intro A n rm ho p vs h k e W s a vals I ea R Q E pp
 refine arg1_k e λx r1_ e1=>?_;subst r1_
 refine R.one_k λv r1_ Rx=>?_;subst r1_
 refine H_k e1 λo ho' e2=>?_
 refine onDict_k e2 λl r1_ e3=>?_;subst r1_
 obtain⟨b,q,c,rfl,hq,hc,hdp,e4⟩:=cY I e3 Rx
 refine I.nD ho' ea λS xs hm r=>?_
 obtain⟨e5,S',hm',hk⟩:=cZ hm r hq hc hdp e4
 have hr:(aK w S').room A.in1:=by show A.units+1+9<cLine;have:=rm.2;lia
 refine WG.of <| call_meetsIn F.slot_dict_get hm'.typeIs F.entry_dict_get (F.args_dict_get_2 _ _) (meetsH_dict_get _ a b (eQ GS I ea)) (yAEEAA hr c xs hk hm' ?_)
 rcases dX hq r e5 with ⟨x1,x2⟩|⟨v,a',x,x1,x3,x2⟩
 ·rw [x1];exact pp.now x2 I rfl _
 ·rw [x1];exact pp.now x2 I x3 _
theorem bB {x:Obj}(h:x.cls = .type "dict"):¬(x.cls = .type "tuple" /\ ∃i n,x.data = .seq i n):=λq=>by
 rw [h] at q
 have:=q.1
 injection this with this
 exact absurd this (by decide)
theorem mr {o:AO}{k:List IE->Bool}(e:gI o k=true):∃l,o = .bk l/\k l=true:=by
 cases o<;>first|(first|exact nf e|exact nn e|cases e)|exact yEA _ rfl e
theorem fH {n m:Nat}(h:Nat.ble n 4096=true) (e:n=m):m<=sizeLine:=e▸br h
theorem cU.nodup {hp:Heap}{a:Addr}{kvs:List (Int × Value)}(hm:hp.DictOf (intKind pw w) a kvs):(kvs.map (·.1)).Nodup:=by refine bK hm λ_ _ _ _ _ _ _ _ h=>?_;clear hm;exact h
theorem cK.nodup {hp:Heap}{S:CK}{a:Addr}{xs:List (CK × Addr × Value)}(hm:hp.DictOfH (aK w S) a xs):(xs.map (·.1)).Nodup:=by refine bK hm λ_ _ _ _ _ _ _ _ h=>?_;clear hm;exact h
theorem oq {k:K1}{W:Wd}{h:H}{s:Shared}{Q:Value->Shared->Prop}(p':cO w V oh k W s Q){p:P4}{a:Addr}{S:CK}{xs ys:List (CK × Addr × Value)}{m:List DE}{av:AV}{v:Value}{h':Heap}(I:Inv w V oh W h s.heap) (ea:W.μ p=some a)
  (hm:s.heap.DictOfH (aK w S) a xs) (hs:Heap.SameBut a s.heap h') (hy:h'.DictOfH (aK w S) a ys) (hr:cK V W.μ m ys) (e:k av (.mk (h.t.set (.dict m) p) h.nx)=true) (R:Rep V W.μ av v) (hk:¬W.lk a) (tk:Tok) :
  Q v { s with heap:=h',toks:=tk }:=by
 refine cC hm λo es ep g1 g2 _=>?_;clear hm
 exact p' av _ v W _ e R (I.upd (o:=.dict m) ea g1 (bB g2.1) hs hk (yEEA S ys hy hr)) (ct ea g1 (bB g2.1) hs hk tk)
theorem mu {k:K1}{W:Wd}{h:H}{s:Shared}{Q:Value->Shared->Prop}(p':cO w V oh k W s Q){p:P4}{a:Addr}{xs ys:List (Int × Value)}{m:List IE}{av:AV}{v:Value}{h':Heap}(I:Inv w V oh W h s.heap) (ea:W.μ p=some a)
  (hm:s.heap.DictOf (intKind pw w) a xs) (hs:Heap.SameBut a s.heap h') (hy:h'.DictOf (intKind pw w) a ys) (hr:cU V W.μ m ys) (e:k av (.mk (h.t.set (.bk m) p) h.nx)=true) (R:Rep V W.μ av v) (hk:¬W.lk a) (tk:Tok) :
  Q v { s with heap:=h',toks:=tk }:=by
 refine cC hm λo es ep g1 g2 _=>?_;clear hm
 exact p' av _ v W _ e R (I.upd (o:=.bk m) ea g1 (bB g2.1) hs hk (yEA ys hy hr)) (ct ea g1 (bB g2.1) hs hk tk)
theorem wq:fS w V oh kH lh "dict.pop":=by
 intro A n rm ho p vs h k e W s a vals I ea R Q E pp
 refine arg1_k e λx r1_ e1=>?_;subst r1_
 refine R.one_k λv r1_ Rx=>?_;subst r1_
 refine H_k e1 λo ho' e2=>?_
 refine aI (mr e2) λl r1_ e3=>?_;subst r1_
 obtain⟨e4,e5⟩:=aN e3
 refine onNat_k e5 λi r1_ e6=>?_;subst r1_
 obtain⟨t,rfl⟩:=Rx
 refine aI (I.at ho' ea) λxs hm r=>?_
 rcases gk r e6 with ⟨_,x2⟩|⟨v,x,x1,x3,x2⟩
 ·exact nf x2
 ·refine WG.of <| call_meetsIn F.slot_dict_pop hm.typeIs F.entry_dict_pop (F.args_dict_pop_2 _ _) (meets_dict_pop_there _ a (k:=(i:Int)) intKind_is [] (.inl rfl) rfl) (yEEAAA xs x hm (fH e4 r.len) x1 λh' hm' hs=>?_)
  exact mu pp I ea hm hs hm' (qe r (cU.nodup hm)) (dy x2) x3 (I.nS ho' ea rfl) _
theorem qh {μ:Mu}{q:Ky}{c:CK}(hq:V.ck q=some c){l:List DE}{xs:List (CK × Addr × Value)}(r:cK V μ l xs):∀{k:List DE->Bool},yH q l k=true ->
  ∃m j p,k m=true/\xs[j]? = some (c,p)/\cK V μ m (xs.eraseIdx j):=by
 induction r with
 |nil=>intro k e;exact nf e
 | @cons q' k' v' l c' b' x' xs g1 g2 g3 g4 ih=>
  intro k e
  have e1:(T3.rec (motive:=λ_=>Bool) (k l) (yH q l λm=>k (.mk q' k' v'::m)) false (Ky.cmp q' q))=true:=e
  obtain⟨C1,C2⟩:=iq q' q g1 hq
  cases h:Ky.cmp q' q with
  |y=>
   rw [h] at e1
   obtain rfl:=C1 h
   exact yEEEAA l 0 (b',x') e1 rfl g4
  |n=>
   rw [h] at e1
   refine cC (ih e1) λm j p e2 h2 r2=>?_
   exact yEEEAA _ (j+1) p e2 h2 (.cons g1 g2 g3 r2)
  |u=>rw [h] at e1;exact nf e1
theorem fT {α β:Type}(f:α->β):∀(l:List α) (j:Nat),(l.map f).eraseIdx j=(l.eraseIdx j).map f
 | [],_=>rfl
 |_::_,0=>rfl
 |x::l,j+1=>by show f x::(l.map f).eraseIdx j=f x::(l.eraseIdx j).map f;rw [fT f l j]
theorem mv {A:Around}{E:Value->Shared->Prop}{s:Shared}{S:CK}{d a:Addr}{xs:List (CK × Addr × Value)}{c:CK}{j:Nat}{p:Addr × Value}{Q:Option DictEntry->Shared->Prop}(hu:(aK w S).room A) (hkey:(aK w S).is s.heap c a)
  (hm:s.heap.DictOfH (aK w S) d xs) (hj:xs[j]? = some (c,p)) (hsz:xs.length<=sizeLine)
  (h:∀h',h'.DictOfH (aK w S) d (xs.eraseIdx j)->Heap.SameBut d s.heap h'->∀tk,Q (some (entryOfKey (aK w S) (c,p))) { s with heap:=h',toks:=tk }):wpAny (model pw w) A (Builtin.Dict.takeOut d (.ref a)) Q E s:=by
 refine bK hm λo es ep ho hc hd he his hn=>?_;clear hm
 unfold Builtin.Dict.takeOut
 try with_reducible refine wpAny_holding ?_
 refine wpAny_bind ((aK w S).pyHash hu hkey ?_)
 refine wpAny_bind (wpAny_dictFind_heap (s:={ s with toks:=s.toks+(aK w S).draws c }) hu hkey ho hd he his hn (λhno=>absurd hj (hno j p)) λj' p' hj'=>?_)
 obtain rfl:=idxH_unique hn hj hj'
 rw [hj] at hj';cases hj'
 refine wpAny_bind (wpAny_dictEntries (s:={ s with toks:=s.toks+(aK w S).draws c }) ho hd ?_)
 have hex:es[j]? = some (entryOfKey (aK w S) (c,p)):=by rw [entry_at he j,hj];rfl
 rw [hex]
 have hes:es.size<=sizeLine:=by rw [size_of_entries he];exact hsz
 refine wpAny_bind (wpAny_updateDictKeys (hz:=hes) (s:={ s with toks:=s.toks+(aK w S).draws c }) ho hd (wpAny_pure (h _ (yEEEAAAAA _ _ (ep+1) (Heap.get?_update_self _ ho (Obj.isFreed_of_dict (Obj.data_mapDictKeys hd _))) (hc.mapDictKeys _) (Obj.data_mapDictKeys hd _) ?_ ?_ ?_) (Heap.SameBut.update ..) _)))
 ·obtain⟨l⟩:=es
  have he:l=xs.map (entryOfKey (aK w S)):=he
  subst he
  simpa using fT (entryOfKey (aK w S)) xs j
 ·intro x hx
  exact (aK w S).keeps (his x (List.mem_of_mem_eraseIdx hx)) ho hd (Heap.SameBut.update ..)
 ·exact (List.Sublist.map _ (List.eraseIdx_sublist _ _)).nodup hn
theorem qi {S:CK}(d a:Addr):MeetsIn pw w (Builtin.«dict.pop» ⟨[.ref d,.ref a],[]⟩) (λA R s=>(aK w S).room A.in1/\∃c xs j p,(aK w S).is s.heap c a/\s.heap.DictOfH (aK w S) d xs/\xs[j]? = some (c,p)/\xs.length<=sizeLine /\
   ∀h',h'.DictOfH (aK w S) d (xs.eraseIdx j)->Heap.SameBut d s.heap h'->∀tk,R (.ok (.ret p.2)) { s with heap:=h',toks:=tk }):=
 .of_wp λA R s q_=>by
  obtain⟨hu,c,xs,j,p,hkey,hm,hj,hsz,h⟩:=q_
  unfold Builtin.«dict.pop»
  refine wpAny_bind ?_
  unfold Builtin.Dict.keyAndDefault
  refine wpAny_bind (wpAny_notOrdered_dict hm.typeIs ?_)
  show wpAny _ _ (pure (d,Value.ref a,none)) _ _ s
  refine wpAny_pure ?_
  have hkp:(keyPart (.ref a)).isSome=false:=rfl
  refine wif Bool.false_ne_true ?_
  refine bK (id hm) λo es ep ho hc hd he his hn=>?_
  have hne:es.isEmpty=false:=by
   cases q:es.isEmpty with
   |false=>rfl
   |true=>
    have:es.size=0:=by simpa using q
    rw [size_of_entries he] at this
    have:=List.length_eq_zero_iff.mp this
    subst this;exact nn hj
  first|refine wpAny_bind (wpAny_bind (wpAny_dictEntries ho hd (wpAny_pure ?_)))|refine wpAny_bind (wpAny_dictEntries ho hd (wpAny_bind (wpAny_pure ?_)))
  rw [hne]
  refine wif Bool.false_ne_true ?_
  refine wpAny_bind (mv hu hkey hm hj hsz λh' hm' hs' tk=>?_)
  refine wif Bool.false_ne_true ?_
  exact wpAny_bind (wpAny_letGo (wpAny_pure (yEA p.2 rfl (h h' hm' hs' tk))))
theorem wt:fS w V oh kH qM "dict.pop":=by
 intro A n rm ho p vs h k e W s a vals I ea R Q E pp
 refine arg1_k e λx r1_ e1=>?_;subst r1_
 refine R.one_k λv r1_ Rx=>?_;subst r1_
 refine H_k e1 λo ho' e2=>?_
 refine onDict_k e2 λl r1_ e3=>?_;subst r1_
 obtain⟨e4,e5⟩:=aN e3
 obtain⟨b,q,c,rfl,hq,hc,hdp,e6⟩:=cY I e5 Rx
 refine I.nD ho' ea λS xs hm r=>?_
 obtain⟨e7,S',hm',hk⟩:=cZ hm r hq hc hdp e6
 have hr:(aK w S').room A.in1:=by show A.units+1+9<cLine;have:=rm.2;lia
 rcases dX hq r e7 with ⟨_,x2⟩|⟨v,a',x,x1,x3,x2⟩
 ·exact nf x2
 ·refine cC (qh hq r x2) λm j p' e8 hj r2=>?_
  have hp:p'.2=x:=by have:=atKey_of_get (cK.nodup hm') hj;rw [this] at x1;injection x1 with x1;rw [x1]
  subst hp
  refine WG.of <| call_meetsIn F.slot_dict_pop hm'.typeIs F.entry_dict_pop (F.args_dict_pop_2 _ _) (qi a b) ⟨hr,c,xs,j,p',hk,hm',hj,fH e4 r.len,λh' hm2 hs tk=>?_⟩
  exact oq pp I ea hm' hs hm2 r2 (dy e8) x3 (I.nS ho' ea rfl) _
end
end
section
section
variable {w:World}{V:Va}{oh:Heap}{kH:Bool}{fi:aY}{A:Around}{E:Value->Shared->Prop}{s:Shared}
theorem kD:entryFor table "proto.unchain" = some Builtin.«proto.unchain»:=entryFor_of_tree (by kernel_rfl)
theorem i5 (ho:j8 kH oh A):j8 kH oh A.in1:=ho
theorem i6 (ho:j8 kH oh A) (st:∀b o,oh.get? b=some o->s.heap.get? b=some o){α:Type}{Q:α->Shared->Prop}
  (k:∀e h',(∀b o,s.heap.get? b=some o->h'.get? b=some o)->Shared.TypeIs { s with heap:=h' } e "StopIteration" -> s.heap.objs.size<=h'.objs.size->E e { s with heap:=h' }) :
  wpAny (model pw w) A (newExc (.type "StopIteration") [] >>= λe=>(raiseNew e:Sem α)) Q E s:=by
 refine wpAny_bind (wpAny_bind (wpAny_newObj_type ?_ (by size_fits)))
 refine wpAny_bind (m:=firstArgMember _ _) (wpAny_of_eq (a:=Value.none) (by first|rfl|(simp only [firstArgMember];rfl)) ?_)
 refine wpAny_newObj_type ?_ (by size_fits)
 have up:∀(o₁ o₂:Obj) b o,s.heap.get? b=some o->((s.heap.push o₁).push o₂).get? b=some o:=λo₁ o₂ b o e=>Heap.get?_push_of_some _ (Heap.get?_push_of_some _ e)
 delta raiseNew
 refine wpAny_bind (wpAny_handled ?_)
 rcases ho with hh|⟨_,e,oe,vs,hh,he,hv,hc⟩
 ·rw [hh]
  refine wpAny_bind (wpAny_pure (wpAny_throw ?_))
  exact k _ _ (up _ _) (yEA _ (Heap.get?_push_size _ rfl) rfl) (by rw [Heap.size_push,Heap.size_push];lia)
 ·rw [hh]
  dsimp only
  have he1:=st _ _ he
  have he2:=up { cls:=.type "tuple",data:=.seq (List.toArray []) } { cls:=.type "StopIteration",data:=.fields (#[Value.ref s.heap.objs.size,.none,.none,.none,.bool false,Value.none]++ownMembersOf (.type "StopIteration") []) } _ _ he1
  have ne:(Value.ref e != Value.ref (s.heap.push { cls:=.type "tuple",data:=.seq (List.toArray []) }).objs.size)=true:=by
   have:e ≠ (s.heap.push { cls:=.type "tuple",data:=.seq (List.toArray []) }).objs.size:=λq=>by
    have h1:=Heap.lt_size he1
    rw [q,Heap.size_push] at h1
    exact absurd h1 (Nat.not_lt.mpr (Nat.le_succ _))
   simpa using this
  refine wit ne ?_
  refine wpAny_bind (wpAny_holding (wpAny_runValue (codeAny_builtin kD ?_)))
  refine wpAny_bind (wpAny_field he2 hv hc ?_)
  refine wit (by decide) ?_
  refine wpAny_pure ?_
  refine wpAny_bind ?_
  delta updateField
  refine wpAny_bind (wpAny_load (Heap.get?_push_size _ rfl) ?_)
  refine wit (by rw [Array.size_append];exact Nat.lt_of_lt_of_le (show 2<6 by decide) (Nat.le_add_right _ _)) ?_
  refine wpAny_update (Heap.get?_push_size _ rfl) ?_
  refine wpAny_throw ?_
  refine k _ _ (λb o q=>?_) (yEA _ (Heap.get?_update_self _ (Heap.get?_push_size _ rfl) rfl) rfl) (by rw [(Heap.SameBut.update ..).1,Heap.size_push,Heap.size_push];lia)
  refine (Heap.get?_update_other _ _ ?_).trans (up _ _ b o q)
  intro z
  have h1:=Heap.lt_size q
  rw [<-z,Heap.size_push] at h1
  exact absurd h1 (Nat.not_lt.mpr (Nat.le_succ _))
def kF (it:Addr) (h h':Heap):Prop:=(∀b o,b ≠ it->h.get? b=some o->h'.get? b=some o)/\h.objs.size<=h'.objs.size
theorem gn {it:Addr}{f:Obj->Obj}{h h':Heap}(k:∀b o,(h.update it f).get? b=some o->h'.get? b=some o) (sz:(h.update it f).objs.size<=h'.objs.size):kF it h h':=
 ⟨λb o hb e=>k b o (((Heap.SameBut.update h it f).2 b hb).trans e),by rw [(Heap.SameBut.update h it f).1] at sz;exact sz⟩
theorem fI {it:Addr}{v:Value}{e:Value}{h':Heap}{Q:Option Value->Shared->Prop}(T:Shared.TypeIs { s with heap:=h' } e "StopIteration") (h:Q none { s with heap:=h' }) :
  wpAny (model pw w) A (do if <-isInstance e (.type "StopIteration") then pure none else throw e) Q E { s with heap:=h' }:=by
 refine wpAny_bind (wpAny_isInstance (T:="StopIteration") (b:=true) T isSubtype_stop ?_)
 exact wpAny_pure h
theorem qj {it l:Addr}{i:Nat}{items:Array Value}{Q:Option Value->Shared->Prop}(ho:j8 kH oh A) (st:∀b o,oh.get? b=some o->s.heap.get? b=some o) (h0:oh.get? it=none)
  (hit:s.heap.IsListIter it l i) (hl:s.heap.IsList l items) (hx:items[i]? = none)
  (hQ:∀h',kF it s.heap h'->Q none { s with heap:=h' }):wpAny (model pw w) A (pyNext (.ref it)) Q E s:=by
 refine cS (id hit) λo hoo hc hd=>?_
 obtain⟨ol,hol,_,nl,hdl⟩:=hl
 unfold pyNext
 refine wpAny_bind (wpAny_attempt (wpAny_callSpecial?_slot (name:=Str.ofString "__next__") hit.typeIs slot_listiter_next
  (wpAny_call_entry slot_listiter_next hit.typeIs entry_listiter_next ?_ (args_listiter_next _))))
 show wpAny _ _ (field (.ref it) 0 >>= _) _ _ s
 refine wpAny_bind (wpAny_field hoo hd (x:=.ref l) rfl ?_)
 refine wif (show ¬((Value.ref l==Value.none)=true) from Bool.false_ne_true) ?_
 show wpAny _ _ (field (.ref it) 1 >>= _) _ _ s
 refine wpAny_bind (wpAny_field hoo hd (x:=.int i 0) rfl ?_)
 show wpAny _ _ (seqItems? (.ref l) >>= _) _ _ s
 refine wpAny_bind (wpAny_seqItems hol hdl ?_)
 simp only [Int.toNat_natCast,hx]
 refine wpAny_bind (wpAny_rule (wpAny_bind (wpAny_setField hoo hd (by simp) ?_)))
 refine i6 (i5 ho) (λb o e=>((Heap.SameBut.update ..).2 b λq=>by subst q;rw [h0] at e;exact nn e).trans (st b o e)) λe h' k T sz=>?_
 exact fI (v:=.none) (it:=it) T (hQ _ (gn k sz))
theorem uj {it:Addr}{f:Obj->Obj}(st:∀b o,oh.get? b=some o->s.heap.get? b=some o) (h0:oh.get? it=none):∀b o,oh.get? b=some o->(s.heap.update it f).get? b=some o:=
 λb o e=>((Heap.SameBut.update ..).2 b λq=>by subst q;rw [h0] at e;exact nn e).trans (st b o e)
theorem iL {it l:Addr}{i:Nat}{items:Array Value}{Q:Option Value->Shared->Prop}(ho:j8 kH oh A) (st:∀b o,oh.get? b=some o->s.heap.get? b=some o) (h0:oh.get? it=none)
  (hit:s.heap.IsTupleIter it l i) (hl:s.heap.IsTuple l items) (hx:items[i]? = none)
  (hQ:∀h',kF it s.heap h'->Q none { s with heap:=h' }):wpAny (model pw w) A (pyNext (.ref it)) Q E s:=by
 refine cS (id hit) λo hoo hc hd=>?_
 obtain⟨ol,hol,_,nl,hdl⟩:=hl
 unfold pyNext
 refine wpAny_bind (wpAny_attempt (wpAny_callSpecial?_slot (name:=Str.ofString "__next__") hit.typeIs F.slot_tuple_iterator_next
  (wpAny_call_entry F.slot_tuple_iterator_next hit.typeIs F.entry_tuple_iterator_next ?_ (F.args_tuple_iterator_next_1 _))))
 show wpAny _ _ (field (.ref it) 0 >>= _) _ _ s
 refine wpAny_bind (wpAny_field hoo hd (x:=.ref l) rfl ?_)
 refine wif (show ¬((Value.ref l==Value.none)=true) from Bool.false_ne_true) ?_
 show wpAny _ _ (field (.ref it) 1 >>= _) _ _ s
 refine wpAny_bind (wpAny_field hoo hd (x:=.int i 0) rfl ?_)
 show wpAny _ _ (seqItems? (.ref l) >>= _) _ _ s
 refine wpAny_bind (wpAny_seqItems hol hdl ?_)
 simp only [Int.toNat_natCast,hx]
 refine wpAny_bind (wpAny_rule (wpAny_bind (wpAny_setField hoo hd (by simp) ?_)))
 refine i6 (i5 ho) (uj st h0) λe h' k T sz=>?_
 exact fI (v:=.none) (it:=it) T (hQ _ (gn k sz))
theorem ou {it:Addr}{x left step:Int}{Q:Option Value->Shared->Prop}(ho:j8 kH oh A) (st:∀b o,oh.get? b=some o->s.heap.get? b=some o)
  (hit:IsRangeIter s.heap it x left step) (hleft:left<=0)
  (hQ:∀h',kF it s.heap h'->Q none { s with heap:=h' }):wpAny (model pw w) A (pyNext (.ref it)) Q E s:=by
 have hT:s.TypeIs (.ref it) "range_iterator":=yEA _ hit rfl
 delta pyNext
 refine wpAny_bind (wpAny_attempt (wpAny_callSpecial?_slot (name:=Str.ofString "__next__") hT F.slot_range_iterator_next
  (wpAny_call_entry F.slot_range_iterator_next hT F.entry_range_iterator_next ?_ (F.args_range_iterator_next_1 _))))
 show wpAny _ _ (field (.ref it) 0 >>= _) _ _ s
 refine wpAny_bind (wpAny_field hit rfl (x:=rawInt x) rfl ?_)
 refine wpAny_bind (wpAny_field hit rfl (x:=rawInt left) rfl ?_)
 refine wpAny_bind (wpAny_field hit rfl (x:=rawInt step) rfl ?_)
 refine wit hleft ?_
 refine wpAny_bind (wpAny_rule ?_)
 refine wpAny_bind ?_
 refine i6 (i5 ho) st λe h' k T sz=>?_
 exact fI (v:=.none) (it:=it) T (hQ _ ⟨λb o _ e=>k b o e,sz⟩)
theorem uk {d:Addr}{o:Obj}{es:Array DictEntry}{ep:Nat}{Q:Value->Shared->Prop}(hd:(d==sysModules)=false) (hoo:s.heap.get? d=some o) (hc:o.ExactDict) (hdat:o.data = .dict es ep)
  (hQ:Q (.ref s.heap.objs.size) { s with heap:=s.heap.push { cls:=.type "dict_keyiterator",data:=.fields #[.ref d,.int 0 0,.int es.size 0,.int ep 0] } }) :
  wpAny (model pw w) A (pyIter (.ref d)) Q E s:=by
 have hT:s.TypeIs (.ref d) "dict":=yEA o hoo hc.1
 refine wpAny_pyIter_slot hT F.slot_dict_iter (wpAny_call_entry F.slot_dict_iter hT F.entry_dict_iter ?_ (F.args_dict_iter_1 _))
 unfold Builtin.«dict.__iter__»
 refine wpAny_bind ?_
 unfold Builtin.Dict.dictSlotNone
 refine wpAny_bind (wpAny_notOrdered_dict hT ?_)
 show wpAny _ _ (pure (Value.ref d)) _ _ s
 refine wpAny_pure ?_
 show wpAny _ _ (Builtin.Dict.showsAll d >>= _) _ _ s
 refine wifb (by rw [hd];exact Bool.false_ne_true) ?_
 refine wpAny_bind (wpAny_pure ?_)
 refine wpAny_bind (wpAny_dictEntries hoo hdat ?_)
 refine wpAny_bind (wpAny_dictEpoch hoo hdat ?_)
 exact wpAny_bind (wpAny_newObj_type (wpAny_pure (yEA _ rfl (yEEAA ("dict_keyiterator") _ ⟨_,Heap.get?_push_size _ rfl,rfl⟩ F.slot_dict_keyiterator_next.lookup hQ))))
theorem d_next {it d:Addr}{i:Nat}{o:Obj}{es:Array DictEntry}{ep:Nat}{x:Option DictEntry}{Q:Option Value->Shared->Prop}(ho:j8 kH oh A) (st:∀b o,oh.get? b=some o->s.heap.get? b=some o) (h0:oh.get? it=none)
  (hit:s.heap.IsKeyIter it d i es.size ep) (hoo:s.heap.get? d=some o) (hdat:o.data = .dict es ep) (hx:es[i]? = x)
  (hQ:x.elim (∀h',kF it s.heap h'->Q none { s with heap:=h' }) λen=>∀h',h'.IsKeyIter it d (i+1) es.size ep->Heap.SameBut it s.heap h'->Q (some en.key) { s with heap:=h' }) :
  wpAny (model pw w) A (pyNext (.ref it)) Q E s:=by
 refine cS (id hit) λoi hoi hci hdi=>?_
 delta pyNext
 refine wpAny_bind (wpAny_attempt (wpAny_callSpecial?_slot (name:=Str.ofString "__next__") hit.typeIs F.slot_dict_keyiterator_next
  (wpAny_call_entry F.slot_dict_keyiterator_next hit.typeIs F.entry_dict_keyiterator_next ?_ (F.args_dict_keyiterator_next_1 _))))
 refine wpAny_bind (wpAny_pure (wpAny_bind (wpAny_bind (wpAny_bind (wpAny_typeNameOfWhole_keyiter hit.typeIs (wpAny_pure (wpAny_bind (wpAny_fieldsOf hoi hdi ?_))))))))
 refine wif (show ¬(Value.ref d==Value.none)=true from Bool.false_ne_true) (wpAny_bind (wpAny_pure (wpAny_bind (wpAny_dictEntries hoo hdat ?_))))
 refine wif (by simp) (wpAny_bind (wpAny_pure (wpAny_bind (wpAny_dictEpoch hoo hdat ?_))))
 refine wif (by simp) (wpAny_pure ?_)
 have e:(if (i:Int)<0 then none else es[(i:Int).toNat]?)=x:=by rw [if_neg (Int.not_lt.mpr (Int.natCast_nonneg _)),Int.toNat_natCast,hx]
 show wpAny _ _ (match (if (i:Int)<0 then none else es[(i:Int).toNat]?) with|_=>_) _ _ _
 rw [e]
 cases x with
 |none=>
  refine wpAny_bind (wpAny_bind (wpAny_typeNameOfWhole_keyiter hit.typeIs (wpAny_pure (wpAny_bind (wpAny_setField hoi hdi (show (if Builtin.Dict_items.ownsTuple "dict_keyiterator" = true then 2 else 0)<4 by decide) ?_)))))
  refine i6 (i5 ho) (uj st h0) λe h' k T sz=>?_
  exact fI (v:=.none) (it:=it) T (hQ _ (gn k sz))
 |some en=>
  refine wpAny_bind (wpAny_bind (wpAny_typeNameOfWhole_keyiter hit.typeIs (wpAny_pure (wpAny_bind (wpAny_isOneOf_keyiter hit.typeIs (wpAny_bind (wpAny_setField hoi hdi (show (if Builtin.Dict_items.ownsTuple "dict_keyiterator" = true then 2 else 0)+1<4 by decide) ?_)))))))
  have hit':(s.heap.update it (Obj.mapFields (·.setIfInBounds 1 (rawInt ((i:Int)+1))))).IsKeyIter it d (i+1) es.size ep:=
   yEAA _ (Heap.get?_update_self _ hoi (Obj.isFreed_of_fields (Obj.data_mapFields hdi _))) ((Obj.cls_mapFields ..).trans hci) (by rw [Obj.data_mapFields hdi];simp [rawInt])
  refine wpAny_bind (wpAny_holding (wpAny_bind (wpAny_isOneOf_keyiter (s:={ s with heap:=s.heap.update it (Obj.mapFields (·.setIfInBounds 1 (rawInt ((i:Int)+1)))) }) hit'.typeIs ?_)))
  exact wpAny_pure (wpAny_pure (yEA _ rfl (wpAny_pure (hQ _ hit' (Heap.SameBut.update ..)))))
end
end
section
set_option genInjectivity false
set_option genSizeOf false
section
variable {w:World}{V:Va}{oh:Heap}{kH:Bool}{fi:aY}{A:Around}{E:Value->Shared->Prop}{s:Shared}
def dU (W:Wd) (hp:Heap) (it:Addr) (i:Nat):Cu->Prop
 |.lst v=>∃p a,v = .ref p/\W.μ p=some a/\hp.IsListIter it a i
 |.tup v=>∃p a,v = .ref p/\W.μ p=some a/\hp.IsTupleIter it a i
 |.ji lo hi=>∃left:Int,IsRangeIter hp it ((lo+i:Nat):Int) left 1/\(lo+i<hi->left=(hi:Int) - ((lo+i:Nat):Int))/\(¬lo+i<hi->left<=0)
 |.nD v=>∃p a o es ep,v = .ref p/\W.μ p=some a/\W.lk a/\hp.get? a=some o/\o.ExactDict/\o.data = .dict es ep/\hp.IsKeyIter it a i es.size ep
structure ly (W W':Wd) (c:Cu):Prop where
 μ:W'.μ=W.μ
 δ:W'.δ=W.δ
 up:∀b,W.lk b->W'.lk b
 no:∀v,c = .nD v->∃p b,v = .ref p/\W.μ p=some b/\¬W.lk b
theorem ly.refl (W:Wd) (c:Cu) (h:∀v,c ≠ .nD v):ly W W c:=⟨rfl,rfl,λ_ x=>x,λv e=>absurd e (h v)⟩
theorem ly.own {W W':Wd}{c:Cu}(L:ly W W' c) (b:Addr):W'.own b ↔ W.own b:=by unfold Wd.own;rw [L.μ,L.δ]
theorem dU.keep {W W':Wd}{hp hp':Heap}{it:Addr}{i:Nat}{c:Cu}(le:W.le W') (k:∀o,hp.get? it=some o->hp'.get? it=some o) (kl:∀b o,W.lk b->hp.get? b=some o->hp'.get? b=some o) (x:dU W hp it i c):dU W' hp' it i c:=by
 cases c with
 |lst v=>refine bj x λp a e1 e2 q4_=>?_;clear x;refine aI q4_ λo g1 g2=>?_;exact yEEAA p a e1 (le.1 _ _ e2) (yEA o (k _ g1) g2)
 |tup v=>refine bj x λp a e1 e2 q4_=>?_;clear x;refine aI q4_ λo g1 g2=>?_;exact yEEAA p a e1 (le.1 _ _ e2) (yEA o (k _ g1) g2)
 |ji lo hi=>refine aI x λl e1 e2=>?_;clear x;exact yEA l (k _ e1) e2
 |nD v=>obtain⟨p,a,o,es,ep,e1,e2,e3,e4,e5,e6,oi,g1,g2⟩:=x;exact yEEEEEA p a o es ep e1 (yAAAA (le.1 _ _ e2) (le.2.2▸e3) (kl _ _ e3 e4) e5 (yAEA e6 oi (k _ g1) g2))
theorem dU.step {mt:Addr->Prop}{W W':Wd}{s s':Shared}{it:Addr}{i:Nat}{c:Cu}(S:Step mt W s W' s') (hn:¬W.own it) (hm:¬mt it) (x:dU W s.heap it i c):dU W' s'.heap it i c:=
 x.keep S.le (λo e=>S.keep it o e (.inl ⟨hn,hm⟩)) λb o l e=>S.keep b o e (.inr (.inr l))
theorem eC {W:Wd}{h:H}{hp:Heap}(I:Inv w V oh W h hp){b:Addr}(hb:hp.objs.size<=b):oh.get? b=none:=by
 cases q:oh.get? b with
 |none=>rfl
 |some o=>exact absurd (Heap.lt_size (I.bq _ _ q)) (Nat.not_lt.mpr hb)
theorem eD {W:Wd}{h:H}{hp:Heap}(I:Inv w V oh W h hp){b:Addr}(hb:hp.objs.size<=b):¬W.own b:=λq=>absurd (I.lt b q) (Nat.not_lt.mpr hb)
theorem Inv.lock {W:Wd}{h:H}{hp:Heap}(I:Inv w V oh W h hp){p:P4}{a:Addr}{o o':AO}(e:h.t.get p=some o) (ea:W.μ p=some a) (hl:lm o=false) (hl':lm o'=true)
  (hr:∀W':Wd,W'.μ=W.μ->W'.δ=W.δ->bV w V W' hp a p o'):Inv w V oh ⟨W.μ,W.δ,λb=>W.lk b∨b=a⟩ (.mk (h.t.set o' p) h.nx) hp:=by
 have hn:=I.nS e ea hl
 refine⟨I.bq,λb q=>I.low b q,λb q=>I.lt b q,I.fp,I.fR,I.apart,I.nE,I.ez,λq y ey=>?_,λb q=>?_⟩
 ·by_cases hq:p=q
  ·subst hq
   have e':(h.t.set o' p).get p=some y:=ey
   rw [Tr.au] at e';cases e'
   exact yEA a ea (hr _ rfl rfl)
  ·have e':(h.t.set o' p).get q=some y:=ey
   rw [Tr.aw _ _ _ _ hq] at e'
   refine I.ob q y e' λb eb r=>?_
   refine yEA b eb ?_
   cases y<;>exact r
 ·rcases q with q|rfl
  ·refine I.lkk b q λp' o2 e1 e2 e3=>?_
   refine yEEAA p' o2 e1 ?_ e3
   have:p ≠ p':=λz=>hn (by subst z;rw [ea] at e1;cases e1;exact q)
   show (h.t.set o' p).get p'=_
   rw [Tr.aw _ _ _ _ this];exact e2
  ·exact yEEAA p o' ea (by show (h.t.set o' p).get p=_;rw [Tr.au]) hl'
theorem Inv.unlock {W W':Wd}{h:H}{hp:Heap}(I:Inv w V oh W' h hp){p:P4}{a:Addr}{o o':AO}(e:h.t.get p=some o) (ea:W'.μ p=some a) (hup:∀b,W.lk b->W'.lk b) (hn:¬W.lk a)
  (hr:∀W'':Wd,W''.μ=W'.μ->W''.δ=W'.δ->bV w V W'' hp a p o'):Inv w V oh ⟨W'.μ,W'.δ,W.lk⟩ (.mk (h.t.set o' p) h.nx) hp:=by
 refine⟨I.bq,λb q=>I.low b q,λb q=>I.lt b q,I.fp,I.fR,I.apart,I.nE,I.ez,λq y ey=>?_,λb q=>?_⟩
 ·by_cases hq:p=q
  ·subst hq
   have e':(h.t.set o' p).get p=some y:=ey
   rw [Tr.au] at e';cases e'
   exact yEA a ea (hr _ rfl rfl)
  ·have e':(h.t.set o' p).get q=some y:=ey
   rw [Tr.aw _ _ _ _ hq] at e'
   refine I.ob q y e' λb eb r=>?_
   refine yEA b eb ?_
   cases y<;>exact r
 ·refine I.lkk b (hup b q) λp' o2 e1 e2 e3=>?_
  refine yEEAA p' o2 e1 ?_ e3
  have:p ≠ p':=λz=>hn (by subst z;rw [ea] at e1;cases e1;exact q)
  show (h.t.set o' p).get p'=_
  rw [Tr.aw _ _ _ _ this];exact e2
theorem Inv.qk {W W':Wd}{h:H}{hp:Heap}(I:Inv w V oh W' h hp) (hup:∀b,W.lk b->W'.lk b):Inv w V oh ⟨W'.μ,W'.δ,W.lk⟩ h hp:=by
 refine⟨I.bq,λb q=>I.low b q,λb q=>I.lt b q,I.fp,I.fR,I.apart,I.nE,I.ez,λq y ey=>?_,λb q=>I.lk b (hup b q)⟩
 refine I.ob q y ey λb eb r=>?_
 refine yEA b eb ?_
 cases y<;>exact r
theorem lz {o:AO}{kd:List DE->Bool}{ki:List IE->Bool}(e:tR o kd ki=true):(∃l,o = .ld l/\kd l=true)∨∃l,o = .li l/\ki l=true:=by
 cases o<;>first|(first|exact nf e|exact nn e|cases e)|exact .inl (yEA _ rfl e)|exact .inr (yEA _ rfl e)
theorem ow {mt:Addr->Prop}{W Wl W':Wd}{s s':Shared}{c:Cu}{h:H}{k:H->Bool}(L:ly W Wl c) (S:Step mt Wl s W' s') (I:Inv w V oh W' h s'.heap) (e:bA c h k=true) :
  ∃h',k h'=true/\Inv w V oh ⟨W'.μ,W'.δ,W.lk⟩ h' s'.heap/\Step mt W s ⟨W'.μ,W'.δ,W.lk⟩ s':=by
 have hup:∀b,W.lk b->W'.lk b:=λb q=>S.le.2.2▸L.up b q
 have St:Step mt W s ⟨W'.μ,W'.δ,W.lk⟩ s':=⟨⟨L.μ▸S.le.1,L.δ▸S.le.2.1,rfl⟩,λb q=>(S.fresh b q).imp (L.own b).mp id,
  λb o e c=>S.keep b o e (c.imp (λz=>⟨λq=>z.1 ((L.own b).mp q),z.2⟩) λz=>z.imp id (L.up b)),S.size,S.gens,S.os⟩
 cases c with
 |lst v=>exact yEAA h e (I.qk hup) St
 |tup v=>exact yEAA h e (I.qk hup) St
 |ji lo hi=>exact yEAA h e (I.qk hup) St
 |nD v=>
  have e1:(dg v λp=>h.get p λo=>tR o (λl=>h.put p (.dict l) k) (λl=>h.put p (.bk l) k))=true:=e
  refine onRef_k e1 λp r1_ e2=>?_;subst r1_
  refine H_k e2 λo ho e3=>?_
  refine I.ob p o ho λa ea r=>?_
  have hna:¬W.lk a:=by
   refine bj (L.no _ rfl) λp' b z1 z2 z3=>?_
   cases z1
   have:W'.μ p=some b:=S.le.1 p b (L.μ▸z2)
   rw [ea] at this;cases this
   exact z3
  rcases lz e3 with ⟨l,rfl,e4⟩|⟨l,rfl,e4⟩
  ·exact yEAA _ (dy e4) (I.unlock ho ea hup hna (λW'' h1 h2=>by refine bf r λS' xs g1 g2=>?_;clear r;exact⟨S',xs,g1,h1▸g2⟩)) St
  ·exact yEAA _ (dy e4) (I.unlock ho ea hup hna (λW'' h1 h2=>by refine aI r λxs g1 g2=>?_;clear r;exact⟨xs,g1,h1▸g2⟩)) St
theorem um (GS:(oh.get? sysModules).isSome=true){W:Wd}{h:H}{v:AV}{u:Value}{k:Cu->H->Bool}(I:Inv w V oh W h s.heap) (e:pX v h k=true) (R:Rep V W.μ v u){Q:Value->Shared->Prop}
  (q:∀c h' Wl o,k c h'=true->ly W Wl c->Inv w V oh Wl h' (s.heap.push o)->dU Wl (s.heap.push o) s.heap.objs.size 0 c->Q (.ref s.heap.objs.size) { s with heap:=s.heap.push o }):wpAny (model pw w) A (pyIter u) Q E s:=by
 refine onRef_k e λp r1_ e1=>?_;subst r1_
 refine H_k e1 λo ho e2=>?_
 refine R.rf λa ha r2_=>?_;clear R;subst r2_
 have r:=I.at ho ha
 cases o with
 |list l=>
  refine bG λ_ kk=>?_
  refine isList_k r λxs g1 g2=>?_
  refine kk ?_
  exact wpAny_pyIter_list g1 (q (.lst (.ref p)) h W _ e2 (.refl _ _ (by intro v z;cases z)) (I.push _) (yEEAA p a rfl ha (yEAA _ (Heap.get?_push_size _ rfl) rfl rfl)))
 |tup l=>
  refine bG λ_ kk=>?_
  refine isTup_k r λxs g1 g2=>?_
  refine kk ?_
  exact wpAny_pyIter_tuple g1 (q (.tup (.ref p)) h W _ e2 (.refl _ _ (by intro v z;cases z)) (I.push _) (yEEAA p a rfl ha (yEAA _ (Heap.get?_push_size _ rfl) rfl rfl)))
 |dict l=>
  have e3:=dy (show h.put p (.ld l) (k (.nD (.ref p)))=true from e2)
  refine bf r λS xs hm g2=>?_;clear r
  refine cb (id hm) λob es ep n1 n2 n3 n4=>?_
  refine uk (eQ GS I ha) n1 n2 n3 (q (.nD (.ref p)) _ ⟨W.μ,W.δ,λb=>W.lk b∨b=a⟩ _ e3 ⟨rfl,rfl,λb x=>.inl x,λv z=>by cases z;exact yEEAA p a rfl ha (I.nS ho ha rfl)⟩
   ((I.lock (o':=.ld l) ho ha rfl rfl λW' h1 h2=>yEEA S xs hm (h1▸g2)).push _) ?_)
  exact yEEEEEA p a ob es ep rfl (yAAAA ha (.inr rfl) (Heap.get?_push_of_some _ n1) n2 (yAEA n3 _ (Heap.get?_push_size _ rfl) ⟨rfl,rfl⟩))
 |bk l=>
  have e3:=dy (show h.put p (.li l) (k (.nD (.ref p)))=true from e2)
  refine bG λ_ kk=>?_
  refine aI r λxs hm g2=>?_;clear r
  refine cb (id hm) λob es ep n1 n2 n3 n4=>?_
  refine kk ?_
  refine uk (eQ GS I ha) n1 n2 n3 (q (.nD (.ref p)) _ ⟨W.μ,W.δ,λb=>W.lk b∨b=a⟩ _ e3 ⟨rfl,rfl,λb x=>.inl x,λv z=>by cases z;exact yEEAA p a rfl ha (I.nS ho ha rfl)⟩
   ((I.lock (o':=.li l) ho ha rfl rfl λW' h1 h2=>yEA xs hm (h1▸g2)).push _) ?_)
  exact yEEEEEA p a ob es ep rfl (yAAAA ha (.inr rfl) (Heap.get?_push_of_some _ n1) n2 (yAEA n3 _ (Heap.get?_push_size _ rfl) ⟨rfl,rfl⟩))
 |ji lo hi=>
  obtain⟨e3,e4⟩:=aN (show az (Nat.ble (Nat.add lo hi) 1000000) (k (.ji lo hi) h) false=true from e2)
  have hle:lo+hi<=1000000:=Nat.le_of_ble_eq_true e3
  refine bG λ_ kk=>?_
  obtain⟨t,u,x,hr⟩:=r
  refine kk ?_
  refine wpAny_pyIter_range hr (small_one (by exact Int.natCast_nonneg _) (by lia) (by exact Int.natCast_nonneg _) (by lia)) ?_
  refine q (.ji lo hi) h W _ e4 (.refl _ _ (by intro v z;cases z)) (I.push _) (yEAA _ (Heap.get?_push_size _ rfl) ?_ ?_)
  ·intro hlt;rw [rangeSize_one,if_pos (by lia)];rfl
  ·intro hlt;rw [rangeSize_one,if_neg (by lia)];exact Int.le_refl _
 |_=>exact nf e2
theorem cK.at {μ:Mu}{l:List DE}{xs:List (CK × Addr × Value)}(r:cK V μ l xs):∀n,(Mine.head (Mine.drop n l)=none/\xs[n]? = none)∨∃e c b x,Mine.head (Mine.drop n l)=some e/\xs[n]? = some (c,b,x)/\Rep V μ (DE.key e) (.ref b):=by
 induction r with
 |nil=>intro n;cases n<;>exact .inl ⟨rfl,rfl⟩
 |cons g1 g2 g3 g4 ih=>
  intro n
  cases n with
  |zero=>exact .inr (yEEE _ _ _ (yEAA _ rfl rfl g2))
  |succ n=>exact ih n
theorem cU.at {μ:Mu}{l:List IE}{xs:List (Int × Value)}(r:cU V μ l xs):∀n,(Mine.head (Mine.drop n l)=none/\xs[n]? = none)∨∃(e:IE) (k:Nat) (x:Value),Mine.head (Mine.drop n l)=some e/\xs[n]? = some ((k:Int),x)/\IE.key e = .nat k:=by
 induction r with
 |nil=>intro n;cases n<;>exact .inl ⟨rfl,rfl⟩
 |cons g1 g2 ih=>
  intro n
  cases n with
  |zero=>exact .inr (yEEEAA _ _ _ rfl rfl rfl)
  |succ n=>exact ih n
theorem pairs_at {es:List DictEntry}{kvs:List (Int × Value)}(h:Pairs (intKind pw w) es kvs) (n:Nat):(es[n]? = none/\kvs[n]? = none)∨∃e k x t,es[n]? = some e/\kvs[n]? = some (k,x)/\e.key = .int k t:=by
 induction h generalizing n with
 |nil=>exact .inl ⟨rfl,rfl⟩
 | @cons e kv es kvs h1 h2 _ ih=>
  cases n with
  |zero=>
   obtain⟨t,ht⟩:=Value.isInt_shape h1
   exact .inr (yEEE e kv.1 kv.2 (yEAA t rfl rfl ht))
  |succ n=>exact ih n
theorem uo (ho:j8 kH oh A){W:Wd}{h:H}{it:Addr}{i:Nat}{c:Cu}{ke:Bool}{k:AV->Bool}(I:Inv w V oh W h s.heap) (x:dU W s.heap it i c) (h0:oh.get? it=none) (hn:¬W.own it) (e:nO c i h ke k=true){Q:Option Value->Shared->Prop}
  (pE:ke=true->∀h',kF it s.heap h'->Q none { s with heap:=h' })
  (pI:∀av v h' tk,k av=true->Rep V W.μ av v->dU W h' it (i+1) c->Heap.SameBut it s.heap h'->Q (some v) { s with heap:=h',toks:=tk }):wpAny (model pw w) A (pyNext (.ref it)) Q E s:=by
 cases c with
 |lst v=>
  refine bj x λp a r2_ ha hit=>?_;clear x;subst r2_
  refine H_k (show h.get p (λo=>bx o λl=>Option.rec (motive:=λ_=>Bool) ke k (head (drop i l)))=true from e) λo hoo e2=>?_
  refine onList_k e2 λl r1_ e3=>?_;subst r1_
  refine isList_k (I.at hoo ha) λxs g1 g2=>?_
  rcases g2.at i with ⟨z1,z2⟩|⟨av,v,z1,z2,z3⟩
  ·rw [z1] at e3
   exact qj ho I.bq h0 hit g1 (by simpa using z2) (pE e3)
  ·rw [z1] at e3
   exact wpAny_pyNext_list_item hit g1 (by simpa using z2) λh' q1 q2=>pI av v h' s.toks e3 z3 (yEEAA p a rfl ha q1) q2
 |tup v=>
  refine bj x λp a r2_ ha hit=>?_;clear x;subst r2_
  refine H_k (show h.get p (λo=>dx o λl=>Option.rec (motive:=λ_=>Bool) ke k (head (drop i l)))=true from e) λo hoo e2=>?_
  refine onTup_k e2 λl r1_ e3=>?_;subst r1_
  refine isTup_k (I.at hoo ha) λxs g1 g2=>?_
  rcases g2.at i with ⟨z1,z2⟩|⟨av,v,z1,z2,z3⟩
  ·rw [z1] at e3
   exact iL ho I.bq h0 hit g1 (by simpa using z2) (pE e3)
  ·rw [z1] at e3
   exact wpAny_pyNext_tuple_item hit g1 (by simpa using z2) λh' q1 q2=>pI av v h' s.toks e3 z3 (yEEAA p a rfl ha q1) q2
 |ji lo hi=>
  refine cS x λleft hit l1 l2=>?_;clear x
  have e1:Bool.rec (motive:=λ_=>Bool) ke (k (.nat (Nat.add lo i))) (ltN (Nat.add lo i) hi)=true:=e
  cases q:ltN (Nat.add lo i) hi with
  |false=>
   rw [q] at e1
   have:¬lo+i<hi:=λz=>by
    have:ltN (Nat.add lo i) hi=true:=Nat.ble_eq_true_of_le z
    rw [q] at this;exact nf this
   exact ou ho I.bq hit (l2 this) (pE e1)
  |true=>
   rw [q] at e1
   have hlt:lo+i<hi:=Nat.le_of_ble_eq_true q
   refine wpAny_pyNext_range_item hit (by rw [l1 hlt];lia) λh' q1 q2=>pI _ _ h' _ e1 ⟨_,rfl⟩ (yEAA (left - 1) ?_ (λz=>?_) λz=>?_) q2
   ·have:((lo+(i+1):Nat):Int)=((lo+i:Nat):Int)+1:=by rfl
    rw [this];exact q1
   ·rw [l1 hlt];lia
   ·rw [l1 hlt];lia
 |nD v=>
  obtain⟨p,a,o,es,ep,rfl,ha,hlk,q1,q2,q3,hit⟩:=x
  refine H_k (show h.get p (λo=>tR o (λl=>Option.rec (motive:=λ_=>Bool) ke (λe=>k (DE.key e)) (head (drop i l))) (λl=>Option.rec (motive:=λ_=>Bool) ke (λe=>k (IE.key e)) (head (drop i l))))=true from e) λoa hoo e2=>?_
  have r:=I.at hoo ha
  have hne:a ≠ it:=λz=>by
   refine cS hit λoi g1 g2 _=>?_;clear hit
   subst z;rw [q1] at g1;cases g1
   rw [q2.1] at g2;injection g2 with g2;exact absurd g2 (by decide)
  have hlast:∀h',Heap.SameBut it s.heap h'->h'.get? a=some o:=λh' z=>(z.2 a hne).trans q1
  rcases lz e2 with ⟨l,rfl,e3⟩|⟨l,rfl,e3⟩
  ·refine bf r λS xs q2_ g=>?_;clear r;obtain⟨o',es',ep',n1,n2,n3,n4,_⟩:=q2_
   rw [q1] at n1;cases n1
   rw [q3] at n3;cases n3
   have hx:=entry_at n4 i
   rcases g.at i with ⟨z1,z2⟩|⟨en,c,b,y,z1,z2,z3⟩
   ·rw [z1] at e3
    rw [z2] at hx
    exact d_next ho I.bq h0 hit q1 q3 hx (pE e3)
   ·rw [z1] at e3
    rw [z2] at hx
    exact d_next ho I.bq h0 hit q1 q3 hx λh' w1 w2=>pI (DE.key en) _ h' s.toks e3 z3 (yEEEEEA p a o es ep rfl (yAAAA ha hlk (hlast h' w2) q2 ⟨q3,w1⟩)) w2
  ·refine aI r λxs q1_ g=>?_;clear r;obtain⟨o',es',ep',n1,n2,n3,n4,n5,_⟩:=q1_
   rw [q1] at n1;cases n1
   rw [q3] at n3;cases n3
   rcases pairs_at n5 i with ⟨w1,w2⟩|⟨en,kk,y,t,w1,w2,w3⟩
   ·rcases g.at i with ⟨z1,z2⟩|⟨_,_,_,_,z2,_⟩
    ·rw [z1] at e3
     exact d_next (x:=none) ho I.bq h0 hit q1 q3 (by simpa using w1) (pE e3)
    ·rw [w2] at z2;exact nn z2
   ·rcases g.at i with ⟨_,z2⟩|⟨ie,m,y',z1,z2,z3⟩
    ·rw [w2] at z2;cases z2
    ·rw [w2] at z2
     cases z2
     rw [z1] at e3
     refine d_next (x:=some en) ho I.bq h0 hit q1 q3 (by simpa using w1) λh' v1 v2=>pI (IE.key ie) _ h' s.toks e3 ?_ (yEEEEEA p a o es ep rfl (yAAAA ha hlk (hlast h' v2) q2 ⟨q3,v1⟩)) v2
     rw [z3,w3];exact⟨t,rfl⟩
end
end
section
set_option genInjectivity false
set_option genSizeOf false
section
variable {w:World}{V:Va}{oh:Heap}{kH:Bool}{fi:aY}{A:Around}{E:Value->Shared->Prop}{s:Shared}
theorem uq {K:Frag}{C:Addr}{x:Str}(h:findIn K (.ref C) x=some none):takerIn K C x=some none:=by unfold takerIn;rw [h];rfl
theorem bQ {x:Obj}{es:Array DictEntry}{ep:Nat}(h:x.data = .dict es ep):¬(x.cls = .type "tuple" /\ ∃i n,x.data = .seq i n):=λ⟨_,i,n,q⟩=>by rw [h] at q;cases q
theorem lA (CA:cP V oh){q:P4}{x:Str}(hx:V.attr q=some x){W:Wd}{h:H}(I:Inv w V oh W h s.heap){p:P4}{c:Nat}{f:Tr AV}{a:Addr}(hf:V.fld c q=true) (ho:h.t.get p=some (.inst c f)) (ha:W.μ p=some a)
  {av:AV}{v:Value}(R:Rep V W.μ av v){Q:Unit->Shared->Prop}(k:∀s',Inv w V oh W (.mk (h.t.set (.inst c (f.set av q)) p) h.nx) s'.heap->Step none_ W s W s'->Q () s'):wpAny (model pw w) A (setAttr (.ref a) x v) Q E s:=by
 obtain⟨d,C,m,hδ,hC,hga,hns,hw,FR,hfl⟩:=I.at ho ha
 obtain⟨od,es,ep,hod,hdd,hrest⟩:=id hns
 have IA:InstAt s.heap a (instObj C d) C (some od):=⟨hga,rfl,rfl,hod⟩
 refine aI (CA c C hC) λK KI CK=>?_
 have X:=KI.keeps I.bq
 obtain⟨hp,gg,dr,tt,os⟩:=s
 refine set_plain X IA CK.sa (osa_open (s:=⟨hp,gg,dr,tt+1,os⟩) X IA CK.over (uq (CK.fld q x hx hf)) λb=>?_)
 refine aI (any_some CK.yR) λcd hc hd'=>?_
 dsimp only
 refine wpAny_bind (wpAny_pure (wpAny_bind (wpAny_bind (wpAny_loadPart hga (wpAny_bind ((looks_clsIn X hc).at ?_))))))
 rw [hd']
 refine wpAny_pure (a:=some d) (wpAny_bind (wpAny_pure (wpAny_bind ?_)))
 have hw':Within (λy=>if y=x then some v else m y) V.names:=λy hy=>by
  by_cases e:y=x
  ·subst e;exact V.tU hx
  ·exact hw y (by simpa [e] using hy)
 refine wpAny_nsSet1 (s:=⟨hp,gg,dr,tt+1,os⟩) hns λh' hn' hs=>?_
 refine cC (hn'.count hw') λoD esD epD hoD hdD hcD=>?_
 refine wpAny_bind (wpAny_lookBehind hoD (by rw [hdD];exact pastItsLine_dict (Nat.le_trans hcD (Nat.le_trans V.nQ (by rw [sizeLine_eq];decide)))) ?_)
 refine wpAny_pure ?_
 have nt:=bQ hdd
 have hl:¬W.lk d:=I.Bn hδ
 refine k _ (I.updD (x:=od) ha hδ hod nt hs (I.nS ho ha rfl) ?_) ?_
 ·exact⟨d,C,_,hδ,hC,(hs.2 a λe=>I.apart p p a ha (e▸hδ)).trans hga,hn',hw',FR.set hx R,λq' av' e'=>by
   by_cases hq:q=q'
   ·subst hq;exact hf
   ·rw [Tr.aw _ _ _ _ hq] at e';exact hfl q' av' e'⟩
 ·refine⟨W.le_refl,λb h=>.inl h,λb o e c=>(hs.2 b λq=>?_).trans e,Nat.le_of_eq hs.1.symm,rfl,rfl⟩
  subst q
  rw [hod] at e;cases e
  rcases c with ⟨c,_⟩|c|c
  ·exact c (.inr ⟨p,hδ⟩)
  ·exact nt c
  ·exact hl c
theorem aM.cellAt {env:Env}{W:Wd}{hp:Heap}{r:Tr AV}(F:aM V oh fi env W hp r){p:P4}{x:Str}(hs:fi.slot p=some x) (hk:fi.kindOf x=some .cell):∃c o,env.cells.lookup x=some c/\hp.IsCell c o:=by
 rcases F.me p x hs with h|⟨_,c,o,h1,h2,_⟩
 ·rw [hk] at h;cases h
 ·exact yEEA c o h1 h2
theorem gR {env:Env}{W:Wd}{h:H}{b:Addr}{h':Heap}{ob:Obj}(I:Inv w V oh W h s.heap) (hm:kC fi env b) (hu:¬W.own b/\oh.get? b=none) (e:s.heap.get? b=some ob) (nt:¬(ob.cls = .type "tuple" /\ ∃i n,ob.data = .seq i n)) (hs:Heap.SameBut b s.heap h') (tk:Tok) :
  Inv w V oh W h h'/\Step (kC fi env) W s W { s with heap:=h',toks:=tk }:=by
 have hl:¬W.lk b:=λq=>by refine bf (I.lk b q) λp o e1 _=>?_;exact hu.1 (.inl ⟨p,e1⟩)
 refine⟨I.keep (mt:=λc=>c=b) (λc o e hc=>(hs.2 c hc).trans e) (Nat.le_of_eq hs.1.symm) (λc hc=>hc▸hu) λc o hc e'=>?_,W.le_refl,λc h=>.inl h,λc o e' z=>(hs.2 c λq=>?_).trans e',Nat.le_of_eq hs.1.symm,rfl,rfl⟩
 ·subst hc;rw [e] at e';cases e';exact nt
 ·subst q
  rw [e] at e';cases e'
  rcases z with z|z|z
  ·exact z.2 hm
  ·exact nt z
  ·exact hl z
theorem eR {env:Env}(fm:Fm fi env){W:Wd}{h:H}{r:Tr AV}{p:P4}{y:Str}{av:AV}{v:Value}(hs:fi.slot p=some y) (hk:fi.kindOf y=some .local∨(fi.kindOf y=some .cell/\fi.own y=true))
  (I:Inv w V oh W h s.heap) (F:aM V oh fi env W s.heap r) (R:Rep V W.μ av v){Q:Unit->Shared->Prop}
  (k:∀s',Inv w V oh W h s'.heap->aM V oh fi env W s'.heap (r.set av p)->Step (kC fi env) W s W s'->Q () s'):wpAny (model pw w) A (storeName env y v) Q E s:=by
 refine aI F.loc λm hn hm=>?_
 refine cC (id hn) λol es ep l1 l2 l3=>?_
 rcases hk with hk|⟨hk,ho⟩
 ·refine wpAny_storeName_local ((fm.kinds y).trans hk) hn (λh' hn' hsb=>?_) (by rw [fm.kind];rfl)
  obtain⟨I',S'⟩:=gR (fi:=fi) (env:=env) I (.inl rfl) F.un l1 (bQ l2) hsb (s.toks+1)
  refine k _ I' ⟨yEA _ hn' λq x av' e1 e2 e3=>?_,λq x e1=>?_,F.un,λx c e1=>?_,F.inj⟩ S'
  ·by_cases hx:x=y
   ·subst hx
    obtain rfl:=fi.inj hs e1
    rw [Tr.au] at e2;cases e2
    exact yEA v (if_pos rfl) R
   ·have hq:p ≠ q:=λz=>hx (by subst z;rw [hs] at e1;cases e1;rfl)
    rw [Tr.aw _ _ _ _ hq] at e2
    refine aI (hm q x av' e1 e2 e3) λu g1 g2=>?_
    exact yEA u ((if_neg hx).trans g1) g2
  ·refine (F.me q x e1).imp id λ⟨k1,c,o,g1,g2,g3⟩=>yAEEAA k1 c o g1 ?_ λav' e2=>?_
   ·refine aI g2 λoc c1 c2=>?_;clear g2
    refine yEA oc ((hsb.2 c λz=>?_).trans c1) c2
    subst z;rw [l1] at c1;cases c1;rw [l2] at c2;cases c2
   ·have hq:p ≠ q:=λz=>by
     subst z;rw [hs] at e1;cases e1
     rw [hk] at k1;rcases k1 with k1|k1<;>cases k1
    rw [Tr.aw _ _ _ _ hq] at e2
    exact g3 av' e2
  ·exact⟨(F.ej x c e1).1,(F.ej x c e1).2.1,by rw [hsb.1];exact (F.ej x c e1).2.2⟩
 ·refine bf (F.cellAt hs hk) λc o g1 g2=>?_
  refine aI (id g2) λoc c1 c2=>?_
  refine wpAny_storeName_cell fm.kind ((fm.kinds y).trans hk) g1 g2 λh' hc' hsb=>?_
  have hu:=F.ej y c g1
  obtain⟨I',S'⟩:=gR (fi:=fi) (env:=env) I (.inr (yEA y ho g1)) ⟨hu.1,hu.2.1⟩ c1 (λ⟨_,i,n,q⟩=>by rw [c2] at q;cases q) hsb s.toks
  have hlc:env.locals ≠ c:=λz=>by subst z;rw [l1] at c1;cases c1;rw [l2] at c2;cases c2
  refine k _ I' ⟨yEA m (hn.sameBut hsb hlc) λq x av' e1 e2 e3=>?_,λq x e1=>?_,F.un,λx c' e1=>?_,F.inj⟩ S'
  ·have hq:p ≠ q:=λz=>by subst z;rw [hs] at e1;cases e1;rw [hk] at e3;cases e3
   rw [Tr.aw _ _ _ _ hq] at e2
   exact hm q x av' e1 e2 e3
  ·by_cases hx:x=y
   ·subst hx
    obtain rfl:=fi.inj hs e1
    refine .inr (yAEEAA (.inl hk) c (some v) g1 hc' λav' e2=>?_)
    rw [Tr.au] at e2;cases e2
    exact yEA v rfl R
   ·have hq:p ≠ q:=λz=>hx (by subst z;rw [hs] at e1;cases e1;rfl)
    refine (F.me q x e1).imp id λ⟨k1,c',o',f1,f2,f3⟩=>yAEEAA k1 c' o' f1 ?_ λav' e2=>?_
    ·exact f2.sameBut hsb λz=>hx (F.inj x y c (z▸f1) g1)
    ·rw [Tr.aw _ _ _ _ hq] at e2
     exact f3 av' e2
  ·exact⟨(F.ej x c' e1).1,(F.ej x c' e1).2.1,by rw [hsb.1];exact (F.ej x c' e1).2.2⟩
inductive lB (V:Va) (μ:Mu):Fl->Flow->Prop where
 |nx:lB V μ .nx .next
 |brk:lB V μ .brk .brk
 |cont:lB V μ .cont .cont
 |ret {v:AV}{u:Value}:Rep V μ v u->lB V μ (.ret v) (.ret u)
abbrev oy (w:World) (V:Va) (oh:Heap) (fi:aY) (env:Env) (k:KF) (W:Wd) (s:Shared) (Q:Flow->Shared->Prop):Prop:=
 ∀fl r' h' f W' s',k fl r' h'=true->lB V W'.μ fl f->Inv w V oh W' h' s'.heap->aM V oh fi env W' s'.heap r'->Step (kC fi env) W s W' s'->Q f s'
def SS (w:World) (V:Va) (oh:Heap) (kH:Bool) (fi:aY) (c:SC) (st:Stmt):Prop:=
 ∀(x:Cx w V oh kH fi) r h k,c x.co r h k=true->∀W s,Inv w V oh W h s.heap->aM V oh fi x.env W s.heap r->∀Q E,oy w V oh fi x.env k W s Q->WG (model pw w) x.A (exec st x.env) Q E s
def SB (w:World) (V:Va) (oh:Heap) (kH:Bool) (fi:aY) (c:SC) (sts:List Stmt):Prop:=
 ∀(x:Cx w V oh kH fi) r h k,c x.co r h k=true->∀W s,Inv w V oh W h s.heap->aM V oh fi x.env W s.heap r->∀Q E,oy w V oh fi x.env k W s Q->WG (model pw w) x.A (execs sts x.env) Q E s
theorem oy.after {env:Env}{k:KF}{W W':Wd}{s s':Shared}{Q:Flow->Shared->Prop}(p:oy w V oh fi env k W s Q) (S:Step (kC fi env) W s W' s'):oy w V oh fi env k W' s' Q:=
 λfl r' h' f W'' s'' a b c d e=>p fl r' h' f W'' s'' a b c d (S.trans e)
theorem Step.up {mt:Addr->Prop}{W W':Wd}{s s':Shared}(S:Step none_ W s W' s'):Step mt W s W' s':=S.weaken λb h=>h.elim
theorem By:(SB w V oh kH fi) bN []:=λx r h k hk W s I F Q E p=>WG.pure (p .nx r h .next W s hk .nx I F (Step.refl W s))
theorem yZ {c b:SC}{st:Stmt}{sts:List Stmt}(hc:(SS w V oh kH fi) c st) (hb:(SB w V oh kH fi) b sts):(SB w V oh kH fi) (bC c b) (st::sts):=by
 intro x r h k hk W s I F Q E p
 refine WG.eq (execs_cons ..) ?_
 refine WG.bind (hc x r h _ hk W s I F _ _ λfl r1 h1 f W1 s1 e1 R1 I1 F1 S1=>?_)
 cases R1 with
 |nx=>exact hb x r1 h1 k e1 W1 s1 I1 F1 Q E (p.after S1)
 |brk=>exact WG.pure (p _ _ _ _ _ _ e1 .brk I1 F1 S1)
 |cont=>exact WG.pure (p _ _ _ _ _ _ e1 .cont I1 F1 S1)
 |ret r=>exact WG.pure (p _ _ _ _ _ _ e1 (.ret r) I1 F1 S1)
theorem Bz {st:Stmt}:(SS w V oh kH fi) ar st:=λx r h k hk=>by exact nf hk
theorem BA {c:EC}{e:PySem.Expr}{pos:Pos}(hc:(SE w V oh kH fi) c e):(SS w V oh kH fi) (aj c) (.Return (some e) pos):=by
 intro x r h k hk W s I F Q E p
 refine WG.eq (exec_Return_some ..) ?_
 exact WG.aA (WG.bind (hc x r h _ hk W s I F _ _ λav h1 v W1 s1 e1 R1 I1 S1=>WG.pure (p _ _ _ _ W1 s1 e1 (.ret R1) I1 (F.step _ _ S1) S1.up)))
theorem y0 {pos:Pos}:(SS w V oh kH fi) iD (.Return none pos):=λx r h k hk W s I F Q E p=>WG.of (wpAny_Return_none (p _ r h _ W s hk (.ret rfl) I F (Step.refl W s)))
theorem oz:entryFor table "proto.let_go" = some Builtin.«proto.let_go»:=entryFor_of_tree (by kernel_rfl)
theorem mw {e:PySem.Expr}{pos:Pos}{v:Value}{Q:Flow->Shared->Prop}(h:Q .next s):wpAny (model pw w) A (dropValue e pos v) Q E s:=by
 unfold dropValue
 split
 ·exact wpAny_pure h
 ·refine wpAny_bind (wpAny_standAt (wpAny_bind (wpAny_runValue (codeAny_builtin oz ?_))))
  exact wpAny_pure (wpAny_pure h)
 ·exact wpAny_pure h
theorem sSEx {c:EC}{e:PySem.Expr}{pos:Pos}(hw:∀env,swapsWith e none pos.line env=pure false) (hc:(SE w V oh kH fi) c e):(SS w V oh kH fi) (bo c) (.Expr e pos):=by
 intro x r h k hk W s I F Q E p
 refine WG.eq (exec_Expr _ _ _ (by unfold interactive;rw [x.fm.kind];rfl) (hw _) ..) ?_
 exact WG.aA (WG.bind (hc x r h _ hk W s I F _ _ λav h1 v W1 s1 e1 R1 I1 S1=>WG.of (mw (p _ _ _ _ W1 s1 e1 .nx I1 (F.step _ _ S1) S1.up))))
theorem sSIf {t:TC}{a b:SC}{e:PySem.Expr}{sa sb:List Stmt}{pos:Pos}(ht:(ST w V oh kH fi) t e) (ha:(SB w V oh kH fi) a sa) (hb:(SB w V oh kH fi) b sb):(SS w V oh kH fi) (aE t a b) (.If e sa sb pos):=by
 intro x r h k hk W s I F Q E p
 refine WG.eq (exec_If ..) ?_
 refine WG.aA (WG.bind (ht x r h _ hk W s I F _ _ λc h1 W1 s1 e1 I1 S1=>?_))
 cases c with
 |true=>exact ha x r h1 k e1 W1 s1 I1 (F.step _ _ S1) Q E (p.after S1.up)
 |false=>exact hb x r h1 k e1 W1 s1 I1 (F.step _ _ S1) Q E (p.after S1.up)
theorem WG.bindName {M:Model}{env:Env}{y:Str}{v:Value}{Q:Unit->Shared->Prop}(h:wpAny M A (storeName env y v) Q E s):WG M A (bindName env y v) Q E s:=WG.of (wpAny_bindName h)
noncomputable def rj (fi:aY) (y:Str):Bool:=match fi.kindOf y with
 |some .local=>true
 |some .cell=>fi.own y
 |_=>false
theorem rj.ok {y:Str}(h:rj fi y=true):fi.kindOf y=some .local∨(fi.kindOf y=some .cell/\fi.own y=true):=by
 have g:∀q,fi.kindOf y=q->(match q with|some .local=>true|some .cell=>fi.own y|_=>false)=true->fi.kindOf y=some .local∨(fi.kindOf y=some .cell/\fi.own y=true):=λq e h=>by
  cases q with
  |none=>exact nf h
  |some z=>cases z<;>first|exact .inl e|exact .inr ⟨e,h⟩|exact nf h
 exact g _ rfl h
theorem BB {p:P4}{y:Str}{c:EC}{e:PySem.Expr}{np pos:Pos}(hs:fi.slot p=some y) (hk:rj fi y=true) (hw:∀env,swapsWith e (some (.Name y np)) pos.line env=pure false) (hc:(SE w V oh kH fi) c e):(SS w V oh kH fi) (ao p c) (.Assign [.Name y np] e pos):=by
 intro x r h k hk' W s I F Q E pp
 refine WG.eq (exec_Assign_Name _ _ _ _ _ (hw _) ..) ?_
 refine WG.aA (WG.bind (hc x r h _ hk' W s I F _ _ λav h1 v W1 s1 e1 R1 I1 S1=>WG.aA (WG.bind (WG.bindName (eR x.fm hs (rj.ok hk) I1 (F.step _ _ S1) R1 λs2 I2 F2 S2=>WG.pure ?_)))))
 exact pp _ _ _ _ _ _ e1 .nx I2 F2 (S1.up.trans S2)
theorem wu (CA:cP V oh){o c:EC}{q:P4}{cl:Nat}{y:Str}{eo e:PySem.Expr}{ap pos:Pos}(hx:V.attr q=some y) (hf:V.fld cl q=true) (hw:∀env,swapsWith e (some (.Attribute eo y ap)) pos.line env=pure false) (ho:(SE w V oh kH fi) o eo) (hc:(SE w V oh kH fi) c e) :
  (SS w V oh kH fi) (ae o q cl c) (.Assign [.Attribute eo y ap] e pos):=by
 intro x r h k hk' W s I F Q E pp
 refine WG.eq (plainObj_exec_Assign_Attribute _ _ _ _ _ (hw _) ..) ?_
 refine WG.aA (WG.bind (hc x r h _ hk' W s I F _ _ λav h1 v W1 s1 e1 R1 I1 S1=>?_))
 refine WG.eqb (assign_Attribute ..) ?_
 refine WG.bind (WG.bind (WG.hold (ho x r h1 _ e1 W1 s1 I1 (F.step _ _ S1) _ _ λxv h2 u W2 s2 e2 R2 I2 S2=>?_)))
 refine onI_k e2 λp c' f r3_ hp e3=>?_;subst r3_
 obtain⟨e4,e5⟩:=aN e3
 obtain rfl:=Nat.eq_of_beq_eq_true e4
 refine R2.rf λa ha r2_=>?_;clear R2;subst r2_
 refine WG.aA (WG.bind (WG.hold (WG.of (lA CA hx I2 hf hp ha (R1.mono S2.le.1) λs3 I3 S3=>?_))))
 have S13:=S1.trans (S2.trans S3)
 exact WG.of (wpAny_release' (WG.pure (pp _ _ _ _ W2 s3 (dy e5) .nx I3 (F.step _ _ S13) S13.up)))
end
end
section
set_option genInjectivity false
set_option genSizeOf false
section
variable {w:World}{V:Va}{oh:Heap}{kH:Bool}{fi:aY}{A:Around}{E:Value->Shared->Prop}{s:Shared}
theorem lD {t:Addr}{items:Array Value}{Q:List Value->Shared->Prop}(ho:j8 kH oh A) (st:∀b o,oh.get? b=some o->s.heap.get? b=some o) (ht:s.heap.IsTuple t items)
  (hQ:∀h',(∀b o,s.heap.get? b=some o->h'.get? b=some o)->s.heap.objs.size<=h'.objs.size->Q items.toList { s with heap:=h' }):wpAny (model pw w) A (unpackItems (.ref t) items.size none) Q E s:=by
 have hlt:t ≠ s.heap.objs.size:=by refine aI ht λo ho _=>?_;clear ht;exact Nat.ne_of_lt (Heap.lt_size ho)
 have h0:oh.get? s.heap.objs.size=none:=by
  cases q:oh.get? s.heap.objs.size with
  |none=>rfl
  |some o=>exact absurd (Heap.lt_size (st _ _ q)) (Nat.lt_irrefl _)
 unfold unpackItems
 refine wpAny_bind ?_
 unfold notIterableAtAll
 refine wpAny_bind (wpAny_specialOf ht.typeIs PySem.F.slot_tuple_iter.lookup ?_)
 refine wpAny_pure ?_
 refine wif Bool.false_ne_true ?_
 refine wpAny_bind (wpAny_holding (wpAny_pyIter_tuple ht ?_))
 refine wpAny_bind (wpAny_holding (wpAny_draw_tuple hlt items.size 0 _ _ (yEAA _ (Heap.get?_push_size _ rfl) rfl rfl) (ht.push _) (by lia) λh₁ hit₁ hs₁=>?_))
 have hall:List.take items.size (List.drop 0 items.toList)=items.toList:=by
  rw [List.drop_zero];exact List.take_of_length_le (by simp)
 rw [hall]
 refine wif (by simp) ?_
 have ht₁:h₁.IsTuple t items:=(ht.push _).extBut hs₁.extBut hlt
 have old:∀b o,s.heap.get? b=some o->h₁.get? b=some o:=λb o e=>hs₁.extBut b o (Nat.ne_of_lt (Heap.lt_size e)) (Heap.get?_push_of_some _ e)
 refine wpAny_bind (wpAny_holding (iL (s:={ s with heap:=h₁ }) ho (λb o e=>old b o (st b o e)) h0 hit₁ ht₁ (by simp) λh₂ he₂=>?_))
 refine wif Bool.false_ne_true ?_
 refine wpAny_pure (hQ h₂ (λb o e=>he₂.1 b o (Nat.ne_of_lt (Heap.lt_size e)) (old b o e)) (Nat.le_trans ?_ he₂.2))
 show _<=h₁.objs.size
 rw [hs₁.1,Heap.size_push];exact Nat.le_add_right _ _
theorem du {W:Wd}{h:H}{h':Heap}(I:Inv w V oh W h s.heap) (k:∀b o,s.heap.get? b=some o->h'.get? b=some o) (sz:s.heap.objs.size<=h'.objs.size) (tk:Tok):Inv w V oh W h h'/\Step none_ W s W { s with heap:=h',toks:=tk }:=
 ⟨I.keep (mt:=none_) (λb o e _=>k b o e) sz (λb z=>z.elim) (λb o z=>z.elim),W.le_refl,λb z=>.inl z,λb o e _=>k b o e,sz,rfl,rfl⟩
inductive bO (fi:aY):List P4->List PySem.Expr->Prop where
 |nil:bO fi [] []
 |cons {p:P4}{y:Str}{pos:Pos}{ps:List P4}{es:List PySem.Expr}:fi.slot p=some y->rj fi y=true->bO fi ps es->bO fi (p::ps) (.Name y pos::es)
theorem dE {vs:List AV}{k:Bool}(e:iS vs k=true):vs=[]/\k=true:=by
 cases vs with
 |nil=>exact⟨rfl,e⟩
 |cons _ _=>exact nf e
theorem ww {env:Env}(fm:Fm fi env){ps:List P4}{es:List PySem.Expr}(ok:bO fi ps es):∀{vs:List AV}{vals:List Value}{W:Wd}{s:Shared}{h:H}{r:Tr AV}{k:Tr AV->Bool}{Q:Unit->Shared->Prop},aR V W.μ vs vals->jm ps vs r k=true ->
  Inv w V oh W h s.heap->aM V oh fi env W s.heap r->(∀r' s',k r'=true->Inv w V oh W h s'.heap->aM V oh fi env W s'.heap r'->Step (kC fi env) W s W s'->Q () s') ->
  wpAny (model pw w) A (assignInOrder ((assignEach es env).map (·.2)) vals) Q E s:=by
 induction ok with
 |nil=>
  intro vs vals W s h r k Q R e I F q
  obtain⟨rfl,e⟩:=dE (show iS vs (k r)=true from e)
  cases R
  exact wpAny_pure (q r s e I F (Step.refl W s))
 | @cons p y pos ps es h1 h2 _ ih=>
  intro vs vals W s h r k Q R e I F q
  cases R with
  |nil=>exact nf e
  | @cons x v vs vals hx R=>
   have e1:jm ps vs (r.set x p) k=true:=e
   refine wpAny_bind (wpAny_holding (wpAny_assign_Name (eR fm h1 (rj.ok h2) I F hx λs1 I1 F1 S1=>?_)))
   exact ih R e1 I1 F1 λr' s' a b c d=>q r' s' a b c (S1.trans d)
inductive fv (fi:aY):Tg->PySem.Expr->Prop where
 |one {p:P4}{y:Str}{pos:Pos}:fi.slot p=some y->rj fi y=true->fv fi (.one p) (.Name y pos)
 |tup {ps:List P4}{es:List PySem.Expr}{kd:Nat}{pos:Pos}:bO fi ps es->fv fi (.tup ps) (.Tuple es kd pos)
theorem bO.len {ps:List P4}{es:List PySem.Expr}(ok:bO fi ps es) (env:Env):(assignEach es env).length=ps.length/\(assignEach es env).findIdx? (·.1)=none:=by
 induction ok with
 |nil=>exact⟨rfl,rfl⟩
 | @cons p y pos ps es _ _ _ ih=>
  have e:assignEach (.Name y pos::es) env=(false,assign (.Name y pos) env)::assignEach es env:=rfl
  rw [e]
  refine⟨by simp [ih.1],?_⟩
  rw [List.findIdx?_cons]
  simp [ih.2]
theorem lE {ps:List P4}:∀{vs:List AV}{r:Tr AV}{k:Tr AV->Bool},jm ps vs r k=true->vs.length=ps.length:=by
 induction ps with
 |nil=>intro vs r k e;obtain⟨rfl,_⟩:=dE (show iS vs (k r)=true from e);rfl
 |cons p ps ih=>
  intro vs r k e
  cases vs with
  |nil=>exact nf e
  |cons x vs=>have:=ih (show jm ps vs (r.set x p) k=true from e);simp [this]
theorem jB (ho:j8 kH oh A){env:Env}(fm:Fm fi env){tg:Tg}{e:PySem.Expr}(ok:fv fi tg e){av:AV}{v:Value}{W:Wd}{h:H}{r:Tr AV}{k:Tr AV->Bool}{Q:Unit->Shared->Prop}(R:Rep V W.μ av v) (e:jn tg av r h k=true)
  (I:Inv w V oh W h s.heap) (F:aM V oh fi env W s.heap r) (q:∀r' s',k r'=true->Inv w V oh W h s'.heap->aM V oh fi env W s'.heap r'->Step (kC fi env) W s W s'->Q () s'):wpAny (model pw w) A (assign ‹PySem.Expr› env v) Q E s:=by
 cases ok with
 | @one p y pos h1 h2=>exact wpAny_assign_Name (eR fm h1 (rj.ok h2) I F R λs1 I1 F1 S1=>q _ s1 e I1 F1 S1)
 | @tup ps es kd pos ok=>
  refine bG λ_ kk=>?_
  refine onO_k (show lU av h (λ_ o=>dx o λl=>jm ps l r k)=true from e) λp o r2_ hoo e1=>?_;subst r2_
  refine onTup_k e1 λl r1_ e2=>?_;subst r1_
  refine R.rf λa ha r2_=>?_;clear R;subst r2_
  refine isTup_k (I.at hoo ha) λxs g1 g2=>?_
  refine kk ?_
  refine wpAny_bind (wpAny_standAt ?_)
  delta unpack
  obtain⟨n1,n2⟩:=ok.len env
  have hsz:(assignEach es env).length=xs.size:=by rw [n1,<-lE e2,g2.length];rfl
  rw [hsz,n2]
  refine wpAny_bind (wpAny_holding (lD ho I.bq g1 λh' k1 k2=>?_))
  obtain⟨I',S'⟩:=du I k1 k2 s.toks
  exact ww fm ok g2 e2 I' (F.step _ _ S') λr' s' a b c d=>q r' s' a b c (S'.up.trans d)
theorem dU.obj {W:Wd}{hp:Heap}{it:Addr}{i:Nat}{c:Cu}(x:dU W hp it i c):∃o T,hp.get? it=some o/\o.cls = .type T/\T ∈ ["list_iterator","tuple_iterator","range_iterator","dict_keyiterator"]:=by
 cases c with
 |lst v=>refine bj x λp a e1 e2 q4_=>?_;clear x;refine cS q4_ λo g1 g2 _=>?_;exact yEEAA o _ g1 g2 (by decide)
 |tup v=>refine bj x λp a e1 e2 q4_=>?_;clear x;refine cS q4_ λo g1 g2 _=>?_;exact yEEAA o _ g1 g2 (by decide)
 |ji lo hi=>refine aI x λl e1 e2=>?_;clear x;exact yEEAA _ _ e1 rfl (by decide)
 |nD v=>obtain⟨p,a,o,es,ep,e1,e2,e3,e4,e5,e6,oi,g1,g2,_⟩:=x;exact yEEAA oi _ g1 g2 (by decide)
theorem dU.mx {W:Wd}{hp:Heap}{it:Addr}{i:Nat}{c:Cu}(x:dU W hp it i c):∀o,hp.get? it=some o->¬(o.cls = .type "tuple" /\ ∃i n,o.data = .seq i n):=λo e q_=>q_.elim λh _=>by
 refine bj x.obj λo' T g1 g2 g3=>?_
 rw [e] at g1;cases g1
 rw [h] at g2;cases g2
 exact absurd g3 (by decide)
theorem jC {W:Wd}{it:Addr}{i:Nat}{c:Cu}(x:dU W s.heap it i c) (target:PySem.Expr) (v:Value){Q:Unit->Shared->Prop}(h:Q () s):wpAny (model pw w) A (letOwnedTupleGo target (.ref it) v) Q E s:=by
 refine bj x.obj λo T g1 g2 g3=>?_
 have main:wpAny (model pw w) A (do
   let (.ref r,.ref a):=(Value.ref it,v)|return
   let o <-load r
   match o.cls,o.data with
   |.type n,.fields vs=>
    if ["enumerate","zip","dict_itemiterator","dict_reverseitemiterator","odict_iterator","itertools.zip_longest","itertools.pairwise"].contains n&&vs[0]? == some (rawInt a) then
     rule "for.unpacks-the-owned-tuple"
     updateField r 0 .none
   |_,_=>pure ()) Q E s:=by
  cases v with
  |ref a=>
   refine wpAny_bind (wpAny_load g1 ?_)
   split
   ·rename_i n vs q1 q2
    rw [g2] at q1
    cases q1
    have:(["enumerate","zip","dict_itemiterator","dict_reverseitemiterator","odict_iterator","itertools.zip_longest","itertools.pairwise"].contains T)=false:=by
     simp only [List.mem_cons,List.mem_nil_iff,or_false] at g3
     rcases g3 with rfl|rfl|rfl|rfl<;>decide
    rw [this,Bool.false_and]
    exact wpAny_pure h
   ·exact wpAny_pure h
  |_=>exact wpAny_pure h
 cases target<;>first|exact main|exact wpAny_pure h
theorem aM.fw {env:Env}{mt:Addr->Prop}{W W':Wd}{s s':Shared}{r:Tr AV}(F:aM V oh fi env W s.heap r) (S:Step mt W s W' s') (hl:¬mt env.locals) (hc:∀x c,env.cells.lookup x=some c->¬mt c):aM V oh fi env W' s'.heap r:=by
 have up:∀b,b<s.heap.objs.size->¬W.own b->¬W'.own b:=λb hb hn q=>(S.fresh b q).elim hn λz=>absurd hb (Nat.not_lt.mpr z)
 refine bG λ_ kk=>?_
 refine aI F.loc λm q1_ hm=>?_;obtain⟨o,es,ep,n1,n2⟩:=q1_
 refine kk ?_
 refine⟨yEA m ⟨o,es,ep,S.keep _ _ n1 (.inl ⟨F.un.1,hl⟩),n2⟩ λp x av a b c=>aI (hm p x av a b c) λv d e=>⟨v,d,e.mono S.le.1⟩,λp x a=>?_,⟨up _ (Heap.lt_size n1) F.un.1,F.un.2⟩,λx c e=>?_,F.inj⟩
 ·refine (F.me p x a).imp id λ⟨k,c,o,l,⟨oc,g1,g2⟩,q⟩=>yAEEAA k c o l ⟨oc,S.keep _ _ g1 (.inl ⟨(F.ej x c l).1,hc x c l⟩),g2⟩ λav ha=>aI (q av ha) λv d e=>⟨v,d,e.mono S.le.1⟩
 ·exact⟨up c (F.ej x c e).2.2 (F.ej x c e).1,(F.ej x c e).2.1,Nat.lt_of_lt_of_le (F.ej x c e).2.2 S.size⟩
theorem eS {W:Wd}{h:H}{it:Addr}{h':Heap}(I:Inv w V oh W h s.heap) (hn:¬W.own it) (h0:oh.get? it=none) (nt:∀o,s.heap.get? it=some o->¬(o.cls = .type "tuple" /\ ∃i n,o.data = .seq i n)) (k:kF it s.heap h') (tk:Tok) :
  Inv w V oh W h h'/\Step (λb=>b=it) W s W { s with heap:=h',toks:=tk }:=by
 have hl:¬W.lk it:=λq=>by refine bf (I.lk it q) λp o e1 _=>?_;exact hn (.inl ⟨p,e1⟩)
 refine⟨I.keep (mt:=λc=>c=it) (λc o e hc=>k.1 c o hc e) k.2 (λc hc=>hc▸⟨hn,h0⟩) λc o hc e'=>nt o (hc▸e'),W.le_refl,λc h=>.inl h,λc o e' z=>k.1 c o (λq=>?_) e',k.2,rfl,rfl⟩
 subst q
 rcases z with z|z|z
 ·exact z.2 rfl
 ·exact nt o e' z
 ·exact hl z
end
end
section
section
variable {w:World}{V:Va}{oh:Heap}{kH:Bool}{fi:aY}{A:Around}{E:Value->Shared->Prop}{s:Shared}
abbrev i7:Value->Shared->Prop:=λ_ _=>False
theorem WG.calm {α:Type}{M:Model}{m:Sem α}{k:Value->Sem Unit}{Q:α->Shared->Prop}(h:WG M A m Q i7 s):WG M A (m.onRaise k) Q E s:=WG.onRaise (WG.mono h (λ_ _ x=>x) λ_ _ x=>x.elim)
theorem CG.block {env:Env}{R:Result->Shared->Prop}{sts:List Stmt}(h:WG (model pw w) A (execs sts env) (λf s'=>R (.ok f) s') i7 s):CG (model pw w) A (.block sts env) R s:=by
 refine CG.cM rfl ?_
 rw [Around.under_of_weight rfl]
 exact WG.bind (WG.calm (WG.mono h (λf s' q=>WG.pure q) λ_ _ x=>x))
theorem WG.runOwn {c:Code}{env:Env}{Q:Flow->Shared->Prop}(hc:CG (model pw w) A c (λr s'=>match r with|.ok f=>Q f s' | .error e=>False) s):WG (model pw w) A (runOwn c env none) Q E s:=by
 unfold PySem.runOwn
 exact WG.calm (WG.run (h:=none) (CG.mono hc λr s' q=>by cases r<;>exact q) λx=>nn x)
theorem CG.forLoop {R:Result->Shared->Prop}{target:PySem.Expr}{it:Value}{body:List Stmt}{env:Env}(I:Nat->Shared->Prop)
  (turn:∀n s,I n s->WG (model pw w) A (pyNext it) (λr s₁=>match r with
   |none=>R (.ok .next) s₁
   |some v=>WG (model pw w) A (letOwnedTupleGo target it v) (λ_ s₂=>WG (model pw w) A (assign target env v) (λ_ s₃=>WG (model pw w) A (execs body env) (λf s₄=>match f with
     |.next|.cont=>∃m,m<n/\I m s₄
     |.brk=>R (.ok .next) s₄
     |.ret v=>R (.ok (.ret v)) s₄) i7 s₃) i7 s₂) i7 s₁) i7 s)
  (n:Nat) (h:I n s):CG (model pw w) A (.forLoop target it body [] env) R s:=by
 refine CG.loop rfl rfl I (λn s hI=>?_) n h
 rw [Around.under_of_weight rfl]
 refine WG.calm ?_
 refine WG.aA (WG.bind (WG.calm (WG.mono (turn n s hI) (λr s₁ h₁=>?_) λ_ _ x=>x)))
 cases r with
 |none=>exact WG.pure (.inr ⟨rfl,CG.block (WG.of (wpAny_execs_nil h₁))⟩)
 |some v=>
  refine WG.bind (WG.mono h₁ (λ_ s₂ h₂=>WG.bind (WG.mono h₂ (λ_ s₃ h₃=>WG.bind (WG.mono h₃ (λf s₄ h₄=>?_) λ_ _ x=>x)) λ_ _ x=>x)) λ_ _ x=>x)
  cases f with
  |next=>exact WG.pure (.inl ⟨rfl,h₄⟩)
  |cont=>exact WG.pure (.inl ⟨rfl,h₄⟩)
  |brk=>exact WG.pure h₄
  |ret v=>exact WG.pure h₄
theorem aM.qk {env:Env}{W:Wd}{L:Addr->Prop}{hp:Heap}{r:Tr AV}(F:aM V oh fi env W hp r):aM V oh fi env ⟨W.μ,W.δ,L⟩ hp r:=⟨F.loc,F.me,F.un,F.ej,F.inj⟩
theorem aM.x7 {env:Env}{W W':Wd}{hp:Heap}{r:Tr AV}(F:aM V oh fi env W hp r) (hμ:W'.μ=W.μ) (hδ:W'.δ=W.δ):aM V oh fi env W' hp r:=by
 obtain⟨μ,δ,lk⟩:=W
 obtain⟨μ',δ',lk'⟩:=W'
 obtain rfl:μ'=μ:=hμ
 obtain rfl:δ'=δ:=hδ
 exact F.qk
theorem BC (GS:(oh.get? sysModules).isSome=true){tg:Tg}{c:EC}{b:SC}{te e:PySem.Expr}{body:List Stmt}{pos:Pos}(hs:∀env x,foldedSetIterable e env x=pure x) (ok:fv fi tg te) (hc:(SE w V oh kH fi) c e) (hb:(SB w V oh kH fi) b body):(SS w V oh kH fi) (dh tg c b) (.For te e body [] pos):=by
 intro x r h k hk W s I F Q E p
 refine WG.eq (exec_For ..) ?_
 refine WG.aA (WG.bind (hc x r h _ hk W s I F _ _ λav h1 v W1 s1 e1 R1 I1 S1=>?_))
 refine WG.bind (WG.of_eq (hs _ _) (WG.pure (WG.aA ?_)))
 refine WG.bind (WG.hold (WG.of (um GS I1 e1 R1 λcu h2 Wl o e2 L I2 T2=>?_)))
 have hu1:¬W1.own s1.heap.objs.size:=eD I1 (Nat.le_refl _)
 have hz1:oh.get? s1.heap.objs.size=none:=eC I1 (Nat.le_refl _)
 have F1:=F.step _ _ S1
 have FL:aM V oh fi x.env Wl (s1.heap.push o) r:=by
  obtain⟨_,S'⟩:=du (h':=s1.heap.push o) I1 (λb o' e=>Heap.get?_push_of_some o e) (by rw [Heap.size_push];exact Nat.le_add_right _ _) s1.toks
  exact (F1.step _ _ S').x7 L.μ L.δ
 have Sl:Step none_ W1 s1 W1 { s1 with heap:=s1.heap.push o }:=(du (h':=s1.heap.push o) I1 (λb o' e=>Heap.get?_push_of_some o e) (by rw [Heap.size_push];exact Nat.le_add_right _ _) s1.toks).2
 generalize hit:s1.heap.objs.size=it at *
 have hil:∀b,b<it->b ≠ it:=λb hb=>Nat.ne_of_lt hb
 have hloc:x.env.locals ≠ it:=by
  refine aI F1.loc λm hn _=>?_
  exact hit▸Nat.ne_of_lt hn.lt
 have hcel:∀y c,x.env.cells.lookup y=some c->c ≠ it:=λy c q=>hit▸Nat.ne_of_lt (F1.ej y c q).2.2
 refine gzI (λn s'=>∃i r' h' W',forLoop tg b x.co (λf r h=>bA cu h λh=>k f r h) cu n i r' h'=true/\Inv w V oh W' h' s'.heap/\aM V oh fi x.env W' s'.heap r'/\dU W' s'.heap it i cu /\
  Step (λb=>kC fi x.env b∨b=it) Wl { s1 with heap:=s1.heap.push o } W' s') λIv hv=>?_
 refine WG.runOwn (CG.forLoop (A:=x.A) Iv (λn s' hI=>?_) 200 ((hv _ _).mpr (yEEE 0 r h2 (yEAAAA Wl e2 I2 FL T2 (Step.refl _ _)))))
 refine bG λ_ kk=>?_
 obtain⟨i,r',h',W',e3,I3,F3,T3,S3⟩:=(hv _ _).mp hI
 refine kk ?_
 have fin:∀fl f r'' h'' W'' s'',(bA cu h'' λh=>k fl r'' h)=true->Inv w V oh W'' h'' s''.heap->aM V oh fi x.env W'' s''.heap r''->Step (λb=>kC fi x.env b∨b=it) Wl { s1 with heap:=s1.heap.push o } W'' s''->lB V W''.μ fl f->Q f s'':=by
  intro fl f r'' h'' W'' s'' u1 u2 u3 u4 u5
  refine bG λ_ kk=>?_
  refine cS (ow L u4 u2 u1) λh5 k5 I5 S5=>?_
  refine kk ?_
  refine p fl r'' h5 f ⟨W''.μ,W''.δ,W1.lk⟩ s'' k5 u5 I5 u3.qk ?_
  refine (S1.up.trans (Sl.up.trans S5)).new λb hb=>?_
  rcases hb with hb|hb
  ·exact .inl hb
  ·exact .inr (by subst hb;rw [<-hit];exact S1.size)
 have hown:∀b,it=b->¬W'.own b:=λb hb q=>by
  subst hb
  rcases S3.fresh it q with z|z
  ·exact hu1 ((L.own it).mp z)
  ·have:(s1.heap.push o).objs.size<=it:=z
   rw [Heap.size_push,hit] at this;exact Nat.lt_irrefl _ ‹_›
 cases n with
 |zero=>exact nf e3
 |succ n=>
  have e4:nO cu i h' ((λf r h=>bA cu h λh=>k f r h) .nx r' h') (λxv=>jn tg xv r' h' λr=>b x.co r h' λf r h=>Fl.rec (motive:=λ_=>Bool) (forLoop tg b x.co (λf r h=>bA cu h λh=>k f r h) cu n (Nat.succ i) r h)
   ((λf r h=>bA cu h λh=>k f r h) .nx r h) (forLoop tg b x.co (λf r h=>bA cu h λh=>k f r h) cu n (Nat.succ i) r h) (λv=>(λf r h=>bA cu h λh=>k f r h) (.ret v) r h) f)=true:=e3
  refine WG.of (uo x.ho I3 T3 hz1 (hown it rfl) e4 (λke h4 g4=>?_) λav4 v4 h4 tk4 e5 R4 T4 g4=>?_)
  ·obtain⟨I4,S4⟩:=eS I3 (hown it rfl) hz1 T3.mx g4 s'.toks
   exact fin .nx .next r' h' W' { s' with heap:=h4 } ke I4 (F3.fw S4 hloc hcel) (S3.trans (S4.weaken λb hb=>.inr hb)) .nx
  ·have g4':kF it s'.heap h4:=⟨g4.extBut,Nat.le_of_eq g4.1.symm⟩
   obtain⟨I4,S4⟩:=eS I3 (hown it rfl) hz1 T3.mx g4' tk4
   have F4:=F3.fw S4 hloc hcel
   refine WG.of (jC (s:={ s' with heap:=h4,toks:=tk4 }) T4 te v4 (WG.of (jB x.ho x.fm ok R4 e5 I4 F4 λr5 s5 e6 I5 F5 S5=>?_)))
   have T5:dU W' s5.heap it (i+1) cu:=T4.step (s:={ s' with heap:=h4,toks:=tk4 }) S5 (hown it rfl) λz=>by
    rcases z with z|⟨y,_,z⟩
    ·exact hloc z.symm
    ·exact hcel y it z rfl
   refine hb x r5 h' _ e6 W' s5 I5 F5 _ _ λfl r6 h6 f W6 s6 e7 R6 I6 F6 S6=>?_
   have S36:Step (λb=>kC fi x.env b∨b=it) Wl { s1 with heap:=s1.heap.push o } W6 s6:=
    S3.trans ((S4.weaken λb hb=>.inr hb).trans ((S5.weaken λb hb=>.inl hb).trans (S6.weaken λb hb=>.inl hb)))
   have T6:dU W6 s6.heap it (i+1) cu:=T5.step S6 (hown it rfl) λz=>by
    rcases z with z|⟨y,_,z⟩
    ·exact hloc z.symm
    ·exact hcel y it z rfl
   cases R6 with
   |nx=>exact yEA n (Nat.lt_succ_self _) ((hv _ _).mpr (yEEE (i+1) r6 h6 (yEAAAA W6 e7 I6 F6 T6 S36)))
   |cont=>exact yEA n (Nat.lt_succ_self _) ((hv _ _).mpr (yEEE (i+1) r6 h6 (yEAAAA W6 e7 I6 F6 T6 S36)))
   |brk=>exact fin .nx .next r6 h6 W6 s6 e7 I6 F6 S36 .nx
   |ret rr=>exact fin _ _ r6 h6 W6 s6 e7 I6 F6 S36 (.ret rr)
end
end
section
section
variable {w:World}{V:Va}{oh:Heap}{kH:Bool}{fi:aY}{A:Around}{E:Value->Shared->Prop}{s:Shared}
theorem CG.whileLoop {R:Result->Shared->Prop}{test:PySem.Expr}{body:List Stmt}{env:Env}(I:Nat->Shared->Prop)
  (turn:∀n s,I n s->WG (model pw w) A (isTrue test env (eval test env)) (λb s₂=>
    if b then WG (model pw w) A (execs body env) (λf s₃=>match f with
      |.next|.cont=>∃m,m<n/\I m s₃
      |.brk=>R (.ok .next) s₃
      |.ret v=>R (.ok (.ret v)) s₃) i7 s₂
    else R (.ok .next) s₂) i7 s)
  (n:Nat) (h:I n s):CG (model pw w) A (.whileLoop test body [] env) R s:=by
 refine CG.loop rfl rfl I (λn s hI=>?_) n h
 rw [Around.under_of_weight rfl]
 refine WG.calm ?_
 refine WG.bind (WG.mono (turn n s hI) (λb s₂ h₂=>?_) λ_ _ x=>x)
 cases b with
 |false=>
  have h₂:R (.ok .next) s₂:=h₂
  exact WG.bind (WG.of (wpAny_execs_nil (WG.pure h₂)))
 |true=>
  refine WG.bind (WG.mono h₂ (λf s₃ h₃=>?_) λ_ _ x=>x)
  cases f with
  |next=>exact WG.pure (.inl ⟨rfl,h₃⟩)
  |cont=>exact WG.pure (.inl ⟨rfl,h₃⟩)
  |brk=>exact WG.pure h₃
  |ret v=>exact WG.pure h₃
theorem wx {t:TC}{b:SC}{e:PySem.Expr}{body:List Stmt}{pos:Pos}(ht:(ST w V oh kH fi) t e) (hb:(SB w V oh kH fi) b body):(SS w V oh kH fi) (gh t b) (.While e body [] pos):=by
 intro x r h k hk W s I F Q E p
 refine WG.eq (exec_While ..) ?_
 refine gzI (λn s'=>∃r' h' W',(Nat.rec (motive:=λ_=>Tr AV->H->Bool) (λ_ _=>false)
  (λ_ ih r h=>t x.co r h λy h=>Bool.rec (k .nx r h) (b x.co r h λf r h=>Fl.rec (motive:=λ_=>Bool) (ih r h) (k .nx r h) (ih r h) (λv=>k (.ret v) r h) f) y) n) r' h'=true /\
   Inv w V oh W' h' s'.heap/\aM V oh fi x.env W' s'.heap r'/\Step (kC fi x.env) W s W' s') λIv hv=>?_
 refine WG.aA (WG.runOwn (CG.whileLoop (A:=x.A) Iv (λn s' hI=>?_) 64 ((hv _ _).mpr (yEEEAAA r h W hk I F (Step.refl _ _)))))
 refine cb ((hv _ _).mp hI) λr' h' W' e3 I3 F3 S3=>?_;clear hI
 cases n with
 |zero=>exact nf e3
 |succ n=>
  refine ht x r' h' _ e3 W' s' I3 F3 _ _ λy h4 W4 s4 e4 I4 S4=>?_
  have F4:=F3.step _ _ S4
  cases y with
  |false=>exact p .nx r' h4 .next W4 s4 e4 .nx I4 F4 (S3.trans S4.up)
  |true=>
   refine hb x r' h4 _ e4 W4 s4 I4 F4 _ _ λfl r6 h6 f W6 s6 e7 R6 I6 F6 S6=>?_
   have S36:=S3.trans (S4.up.trans S6)
   cases R6 with
   |nx=>exact yEA n (Nat.lt_succ_self _) ((hv _ _).mpr (yEEEAAA r6 h6 W6 e7 I6 F6 S36))
   |cont=>exact yEA n (Nat.lt_succ_self _) ((hv _ _).mpr (yEEEAAA r6 h6 W6 e7 I6 F6 S36))
   |brk=>exact p .nx r6 h6 .next W6 s6 e7 .nx I6 F6 S36
   |ret rr=>exact p _ r6 h6 _ W6 s6 e7 (.ret rr) I6 F6 S36
def IpS (w:World) (V:Va) (oh:Heap) (kH:Bool) (op:OP) (o:Operator):Prop:=qV w V oh kH op (inplaceOp o)
theorem x8:IpS w V oh kH (et Nat.add) .Add:=wd λA E s Q n m t u q=>PyProof.Rows.iadd_int q
theorem y1 {p:P4}{y:Str}{op:OP}{O:Operator}{c:EC}{e:PySem.Expr}{np pos:Pos}(ho:IpS w V oh kH op O) (hs:fi.slot p=some y) (hk:rj fi y=true) (hc':(y==("__classdict__" : Str))=false) (hc:(SE w V oh kH fi) c e) :
  (SS w V oh kH fi) (iC p op c) (.AugAssign (.Name y np) O e pos):=by
 intro x r h k hk' W s I F Q E pp
 refine WG.eq (exec_AugAssign_Name ..) ?_
 refine opt_k hk' λav hr e1=>?_
 have load:∀Q' E',(∀v,Rep V W.μ av v->Q' v s)->wpAny (model pw w) x.A (loadName x.env y) Q' E' s:=λQ' E' q=>by
  rcases F.me p y hs with hk|⟨hk,c,o,hl,hcc,ha⟩
  ·refine aI F.loc λm hn hm=>?_
   refine aI (hm p y av hs hr hk) λv hv hr'=>?_
   exact wpAny_loadName_local x.fm.kind ((x.fm.kinds y).trans hk) hn hv (q v hr')
  ·refine aI (ha av hr) λv r1_ hr'=>?_;subst r1_
   rcases hk with hk|hk
   ·exact wpAny_loadName_cell x.fm.kind ((x.fm.kinds y).trans hk) hl hcc (q v hr')
   ·exact wpAny_loadName_free x.fm.kind ((x.fm.kinds y).trans hk) hl hcc (q v hr') hc'
 refine WG.aA (WG.leaf (load _ _ λv R=>?_))
 refine WG.bind (WG.hold (hc x r h _ e1 W s I F _ _ λbv h1 u W1 s1 e2 R1 I1 S1=>WG.aA (WG.bind (WG.operate (WG.of (ho x.A x.n x.rm x.ho av bv h1 _ e2 W1 s1 v u I1 (R.mono S1.le.1) R1 _ _ λnv h2 nu W2 s2 e3 R2 I2 S2=>?_))))))
 refine WG.aA (WG.bind (WG.bindName (eR x.fm hs (rj.ok hk) I2 (F.step _ _ (S1.trans S2)) R2 λs3 I3 F3 S3=>WG.pure ?_)))
 exact pp _ _ _ _ _ _ e3 .nx I3 F3 ((S1.trans S2).up.trans S3)
theorem y2 (CA:cP V oh){o c:EC}{q:P4}{cl:Nat}{y:Str}{op:OP}{O:Operator}{eo e:PySem.Expr}{ap pos:Pos}(hop:IpS w V oh kH op O) (hx:V.attr q=some y) (hf:V.fld cl q=true) (ho:(SE w V oh kH fi) o eo) (hc:(SE w V oh kH fi) c e) :
  (SS w V oh kH fi) (jo o q cl op c) (.AugAssign (.Attribute eo y ap) O e pos):=by
 intro x r h k hk' W s I F Q E pp
 have e0:exec (.AugAssign (.Attribute eo y ap) O e pos) x.env=(do
   standAt pos
   let ov <-eval eo x.env
   let new <-holding [ov] do
    standAt ap.atName
    let old <-getAttr ov y true
    let v <-holding [old] (eval e x.env)
    standAt pos
    operate [old,v] (inplaceOp O old v)
   standAt ap.atName
   holding [new,ov] (setAttr ov y new)
   release [new,ov] []
   pure .next):=rfl
 rw [e0]
 refine WG.aA (WG.bind (ho x r h _ hk' W s I F _ _ λov h1 u W1 s1 e1 R1 I1 S1=>?_))
 refine onI_k (show vN ov h1 (λ_ _ f=>opt (f.get q) λxv=>c x.co r h1 λy h=>op xv y h λv h=>vN ov h λp c f=>az (Nat.beq c cl) (h.put p (.inst c (f.set v q)) λh=>k .nx r h) false)=true from e1) λp c' f r3_ hp e2=>?_;subst r3_
 refine opt_k e2 λxv hfx e3=>?_
 refine R1.rf λa ha r2_=>?_;clear R1;subst r2_
 refine WG.bind (WG.hold (WG.aA (WG.leaf (ip CA hx I1 hp ha hfx λv R2=>?_))))
 have S1':Step none_ W s W1 { s1 with toks:=s1.toks+1 }:=S1.toks _
 refine WG.bind (WG.hold (hc x r h1 _ e3 W1 { s1 with toks:=s1.toks+1 } I1 (F.step _ _ S1') _ _ λbv h3 ub W3 s3 e4 R3 I3 S3=>?_))
 refine WG.aA (WG.operate (WG.of (hop x.A x.n x.rm x.ho xv bv h3 _ e4 W3 s3 v ub I3 (R2.mono S3.le.1) R3 _ _ λnv h4 nu W4 s4 e5 R4 I4 S4=>?_)))
 refine onI_k e5 λp' c2 f2 ep hp2 e6=>?_
 cases ep
 obtain⟨e7,e8⟩:=aN e6
 obtain rfl:=Nat.eq_of_beq_eq_true e7
 have ha4:W4.μ p=some a:=S4.le.1 _ _ (S3.le.1 _ _ ha)
 refine WG.aA (WG.bind (WG.hold (WG.of (lA CA hx I4 hf hp2 ha4 R4 λs5 I5 S5=>?_))))
 have S:=S1'.trans (S3.trans (S4.trans S5))
 exact WG.leaf (wpAny_release' (WG.pure (pp _ _ _ _ W4 s5 (dy e8) .nx I5 (F.step _ _ S) S.up)))
theorem wy {o i c:EC}{eo ei e:PySem.Expr}{sp pos:Pos}(hw:∀env,swapsWith e (some (.Subscript eo ei sp)) pos.line env=pure false) (ho:(SE w V oh kH fi) o eo) (hi:(SE w V oh kH fi) i ei) (hc:(SE w V oh kH fi) c e):(SS w V oh kH fi) (cX o i c) (.Assign [.Subscript eo ei sp] e pos):=by
 intro x r h k hk' W s I F Q E pp
 refine WG.eq (exec_Assign_Subscript _ _ _ _ _ (hw _) ..) ?_
 refine WG.aA (WG.bind (hc x r h _ hk' W s I F _ _ λav h1 v W1 s1 e1 R1 I1 S1=>?_))
 refine WG.eqb (assign_Subscript ..) ?_
 refine WG.bind (WG.bind (WG.hold (ho x r h1 _ e1 W1 s1 I1 (F.step _ _ S1) _ _ λxv h2 u W2 s2 e2 R2 I2 S2=>?_)))
 refine WG.bind (WG.hold (hi x r h2 _ e2 W2 s2 I2 (F.step _ _ (S1.trans S2)) _ _ λjv h3 ju W3 s3 e3 R3 I3 S3=>?_))
 refine onO_k e3 λp ob r2_ hp e4=>?_;subst r2_
 refine R2.rf λa ha r2_=>?_;clear R2;subst r2_
 have ha3:W3.μ p=some a:=S3.le.1 _ _ ha
 have Rv:=R1.mono (Mu.le_trans S2.le.1 S3.le.1)
 have ob3:=I3.at hp ha3
 have S0:=S1.trans (S2.trans S3)
 have fin:∀h' o' s4,k .nx r (.mk (h3.t.set o' p) h3.nx)=true->Inv w V oh W3 (.mk (h3.t.set o' p) h3.nx) h'->s4 = { s3 with heap:=h',toks:=s4.toks }->Step none_ W3 s3 W3 s4->Q .next s4:=λh' o' s4 q1 q2 q3 q4=>by
  have S:=S0.trans q4
  exact pp .nx r _ .next W3 s4 q1 .nx (by rw [q3];exact q2) (F.step _ _ S) S.up
 refine WG.aA (WG.bind (WG.hold (WG.of ?_)))
 have done:∀l s4,Q .next s4->WG (model pw w) x.A (release l []) (λ_ s'=>WG (model pw w) x.A (pure Flow.next) Q E s') E s4:=λl s4 q=>WG.of (wpAny_release' (WG.pure q))
 cases ob with
 |dict l=>
  obtain⟨e5,e6⟩:=aN (show az (Nat.ble (len l) 4096) (rP h3 jv λq=>tL q jv av l λm=>h3.put p (.dict m) λh=>k .nx r h) false=true from e4)
  obtain⟨b,q,c,rfl,hq,hcc,hdp,e7⟩:=cY I3 e6 R3
  refine bf ob3 λS xs hm rr=>?_;clear ob3
  obtain⟨e8,S',hm',hk⟩:=cZ hm rr hq hcc hdp e7
  obtain⟨m,e9,r2⟩:=iI hq R3 Rv rr (cK.nodup hm') e8
  have hr:(aK w S').room x.A.in1:=by show x.A.units+1+9<cLine;have:=x.rm.2;lia
  refine wpAny_setItem_heap (hsz:=fH e5 rr.len) hr hk hm' λh' hm2 hs=>?_
  refine cC hm' λoo es ep g1 g2 _=>?_
  exact done _ _ (fin h' (.dict m) _ (dy e9) (I3.upd (o:=.dict m) ha3 g1 (bB g2.1) hs (I3.nS hp ha3 rfl) (yEEA S' _ hm2 r2)) rfl (ct ha3 g1 (bB g2.1) hs (I3.nS hp ha3 rfl) _))
 |bk l=>
  obtain⟨e5,e6⟩:=aN (show az (Nat.ble (len l) 4096) (aG jv λn=>h3.put p (.bk (kj n av l)) λh=>k .nx r h) false=true from e4)
  refine onNat_k e6 λn r1_ e7=>?_;subst r1_
  obtain⟨t,rfl⟩:=R3
  refine aI ob3 λxs hm rr=>?_;clear ob3
  refine wpAny_setItem_pairs (knd:=intKind pw w) (hsz:=fH e5 rr.len) (intKind_is (n:=n)) hm λh' hm2 hs=>?_
  refine cC (id hm) λoo es ep g1 g2 _=>?_
  exact done _ _ (fin h' (.bk (kj n av l)) _ (dy e7) (I3.upd (o:=.bk _) ha3 g1 (bB g2.1) hs (I3.nS hp ha3 rfl) (yEA _ hm2 (jz Rv rr (cU.nodup hm)))) rfl (ct ha3 g1 (bB g2.1) hs (I3.nS hp ha3 rfl) _))
 |_=>exact nf e4
end
end
section
section
variable {w:World}{V:Va}{oh:Heap}{kH:Bool}{fi:aY}{A:Around}{E:Value->Shared->Prop}{s:Shared}
theorem aM.congr {env:Env}{W:Wd}{hp:Heap}{r r':Tr AV}(F:aM V oh fi env W hp r) (h:∀p,r'.get p=r.get p):aM V oh fi env W hp r':=by
 refine aI F.loc λm hn hm=>?_
 exact⟨yEA m hn λp x av a b c=>hm p x av a (h p▸b) c,λp x a=>(F.me p x a).imp id λ⟨k,c,o,l,g,q⟩=>yAEEAA k c o l g λav ha=>q av (h p▸ha),F.un,F.ej,F.inj⟩
theorem BD {ps:List P4}{c:EC}{e:PySem.Expr}{es:List PySem.Expr}{kd:Nat}{tp pos:Pos}(hw:∀env,swapsWithSole [.Tuple es kd tp] e pos.line env=pure false) (hs:∀env,swappedStores [.Tuple es kd tp] e env=pure none) (ok:bO fi ps es) (hc:(SE w V oh kH fi) c e) :
  (SS w V oh kH fi) (bT ps c) (.Assign [.Tuple es kd tp] e pos):=by
 intro x r h k hk W s I F Q E p
 refine WG.eq (PySem.exec_Assign_arm ..) ?_
 refine WG.aA ?_
 rw [hw]
 refine WG.bind (WG.pure ?_)
 refine gif (by decide) ?_
 refine WG.bind (hc x r h _ hk W s I F _ _ λav h1 v W1 s1 e1 R1 I1 S1=>?_)
 rw [hs]
 refine WG.bind (WG.pure ?_)
 show WG _ _ (do assignAll v [assign (.Tuple es kd tp) x.env];pure .next) Q E s1
 exact WG.leaf (jB x.ho x.fm (.tup ok) R1 (k:=λr=>k .nx r h1) e1 I1 (F.step _ _ S1) λr2 s2 e2 I2 F2 S2=>WG.pure (p _ _ _ _ _ _ e2 .nx I2 F2 (S1.up.trans S2)))
theorem y3 {p q:P4}{a b:Str}{c:EC}{e:PySem.Expr}{pa pb:Pos}{kd:Nat}{tp pos:Pos}(hw:∀env,swapsWithSole [.Tuple [.Name a pa,.Name b pb] kd tp] e pos.line env=pure false)
  (hs:∀env,Fm fi env->swappedStores [.Tuple [.Name a pa,.Name b pb] kd tp] e env=pure (some [a,b])) (ha:fi.slot p=some a) (hb:fi.slot q=some b) (hka:fi.kindOf a=some .local) (hkb:fi.kindOf b=some .local) (hne:a ≠ b) (hc:(SE w V oh kH fi) c e) :
  (SS w V oh kH fi) (bT [p,q] c) (.Assign [.Tuple [.Name a pa,.Name b pb] kd tp] e pos):=by
 intro x r h k hk W s I F Q E pp
 refine WG.eq (PySem.exec_Assign_arm ..) ?_
 refine WG.aA ?_
 rw [hw]
 refine WG.bind (WG.pure ?_)
 refine gif (by decide) ?_
 refine WG.bind (hc x r h _ hk W s I F _ _ λav h1 v W1 s1 e1 R1 I1 S1=>?_)
 rw [hs _ x.fm]
 refine WG.bind (WG.pure ?_)
 refine onO_k e1 λpt o r2_ hoo e2=>?_;subst r2_
 refine onTup_k e2 λl r1_ e3=>?_;subst r1_
 refine R1.rf λat' hat r2_=>?_;clear R1;subst r2_
 refine isTup_k (I1.at hoo hat) λxs g1 g2=>?_
 show WG _ _ (do rule "assign.swapped-stores";let items <-unpackItems (.ref at') 2 none;assignInOrder [bindName x.env b,bindName x.env a] items.reverse;pure .next) Q E s1
 have hlen:=lE e3
 obtain⟨xl⟩:=xs
 cases g2 with
 |nil=>cases hlen
 | @cons x1 v1 l vl R1 g2=>
  cases g2 with
  |nil=>cases hlen
  | @cons x2 v2 l vl R2 g2=>
   cases g2 with
   |cons _ _=>simp at hlen
   |nil=>
    have e4:k .nx ((r.set x1 p).set x2 q) h1=true:=e3
    refine WG.rule (WG.leaf (lD x.ho I1.bq (items:=#[v1,v2]) g1 λh' k1 k2=>?_))
    obtain⟨I2,S2⟩:=du I1 k1 k2 s1.toks
    have F2:=(F.step _ _ S1).step _ _ S2
    show WG _ _ (do (do holding [v1] (bindName x.env b v2);(do holding [] (bindName x.env a v1);pure ()));pure .next) Q E _
    refine WG.leaf (wpAny_bind (wpAny_holding (wpAny_bindName (eR x.fm hb (.inl hkb) I2 F2 R2 λs3 I3 F3 S3=>wpAny_bind (wpAny_holding (wpAny_bindName (eR x.fm ha (.inl hka) I3 F3 R1 λs4 I4 F4 S4=>wpAny_pure (WG.pure ?_))))))))
    refine pp _ _ _ _ _ _ e4 .nx I4 (F4.congr λz=>?_) (S1.up.trans (S2.up.trans (S3.trans S4)))
    have hpq:p ≠ q:=λz=>hne (by subst z;rw [ha] at hb;cases hb;rfl)
    by_cases z1:q=z
    ·subst z1
     rw [Tr.au,Tr.aw _ _ _ _ hpq,Tr.au]
    ·rw [Tr.aw _ _ _ _ z1]
     by_cases z2:p=z
     ·subst z2;rw [Tr.au,Tr.au]
     ·rw [Tr.aw _ _ _ _ z2,Tr.aw _ _ _ _ z2,Tr.aw _ _ _ _ z1]
end
end
section
theorem lookup_mem {α:Type}:∀{l:List (Str × α)}{p:Str × α},(l.map (·.1)).Nodup->p ∈ l->l.lookup p.1=some p.2
 |x::l,p,nd,h=>by
  rw [List.map_cons,List.nodup_cons] at nd
  obtain⟨k,v⟩:=x
  rw [List.lookup_cons]
  rcases List.mem_cons.mp h with rfl|h'
  ·simp
  ·have:(p.1==k)=false:=by
    rw [beq_eq_false_iff_ne]
    exact λe=>nd.1 (List.mem_map.mpr (yEA p h' e))
   rw [this]
   exact lookup_mem nd.2 h'
theorem lookup_none {α:Type}:∀{l:List (Str × α)}{n:Str},n ∉ l.map (·.1)->l.lookup n=none
 | [],_,_=>rfl
 |(k,v)::l,n,h=>by
  rw [List.map_cons,List.mem_cons,not_or] at h
  rw [List.lookup_cons]
  have:(n==k)=false:=by rw [beq_eq_false_iff_ne];exact h.1
  rw [this];exact lookup_none h.2
theorem fU {α:Type}{slots:List (Str × α)}:∀{names:List Str}{ws:List α},names.length=ws.length->(∀p ∈ names.zip ws,slots.lookup p.1=some p.2) ->
  names.filterMap (λn=>(slots.lookup n).map (n,·))=names.zip ws
 | [],[],_,_=>rfl
 |n::names,v::ws,hl,h=>by
  have h1:=h (n,v) (by simp)
  rw [List.filterMap_cons]
  dsimp only at h1
  rw [h1]
  rw [fU (by simpa using hl) λp hp=>h p (by simp [hp])];rfl
section
variable {M:Model}{A:Around}{E:Value->Shared->Prop}{s:Shared}
theorem kG (f:Str × Value->List (Str × Value)->Sem (ForInStep (List (Str × Value)))) (hf:∀n d (sl:List (Str × Value)),f (n,d) sl=if (sl.lookup n).isNone then pure (.yield (sl++[(n,d)])) else pure (.yield sl)) :
  ∀(l sl:List (Str × Value)),(l.map (·.1)).Nodup->∃sl',forIn l sl f=pure sl'/\∀n,sl'.lookup n=(sl.lookup n).or (l.lookup n):=by
 intro l
 induction l with
 |nil=>intro sl _;exact yEA sl rfl λn=>by cases sl.lookup n<;>rfl
 |cons x l ih=>
  intro sl nd
  obtain⟨k,d⟩:=x
  rw [List.map_cons,List.nodup_cons] at nd
  rw [List.forIn_cons,hf]
  cases q:sl.lookup k with
  |none=>
   refine aI (ih (sl++[(k,d)]) nd.2) λsl' h1 h2=>?_
   refine yEA sl' (by simp [h1]) λn=>?_
   rw [h2,List.lookup_cons]
   have hap:∀(a b:List (Str × Value)),(a++b).lookup n=(a.lookup n).or (b.lookup n):=by
    intro a b
    induction a with
    |nil=>rfl
    |cons y a iha=>
     obtain⟨ky,vy⟩:=y
     rw [List.cons_append,List.lookup_cons,List.lookup_cons]
     cases n==ky with
     |true=>rfl
     |false=>exact iha
   rw [hap]
   by_cases e:n=k
   ·subst e
    rw [q]
    simp
   ·have:(n==k)=false:=by rw [beq_eq_false_iff_ne];exact e
    simp [List.lookup_cons,this]
  |some v=>
   refine aI (ih sl nd.2) λsl' h1 h2=>?_
   refine yEA sl' (by simp [h1]) λn=>?_
   rw [h2,List.lookup_cons]
   by_cases e:n=k
   ·subst e
    rw [q];simp
   ·have:(n==k)=false:=by rw [beq_eq_false_iff_ne];exact e
    rw [this]
theorem nem {α:Type}{l:List α}(h:l=[]):¬(!l.isEmpty)=true:=by subst h;exact nofun
theorem nlt {a b:Nat}(h:a<=b):¬(decide (b<a)&&true)=true:=by rw [Bool.and_true,decide_eq_true_eq];exact Nat.not_lt.mpr h
theorem fina {Q:List (Str × Value)->Shared->Prop}{f:Str->Option (Str × Value)}{l:List Str}{z:List (Str × Value)}(q:l.filterMap f=z) (h:Q z s):Q ((l++[]).filterMap f) s:=by rw [List.append_nil,q];exact h
theorem fdP {p:Arguments}(hp:p.posonlyargs=[]) (hk:p.kwonlyargs=[]) (hv:p.vararg=none) (hw:p.kwarg=none):p=⟨[],p.args,none,[],p.kw_defaults,none,p.defaults⟩:=by
 cases p;cases hp;cases hk;cases hv;cases hw;rfl
theorem fdE {fd:FuncData}(hp:fd.params.posonlyargs=[]) (hk:fd.params.kwonlyargs=[]) (hv:fd.params.vararg=none) (hw:fd.params.kwarg=none):fd = { fd with params:=⟨[],fd.params.args,none,[],fd.params.kw_defaults,none,fd.params.defaults⟩ }:=
 congrArg (λp=>{ fd with params:=p }) (fdP hp hk hv hw)
theorem zipk:∀(a:List Str) (b:List Value),(a.zip b).map (·.1)=a.take b.length:=by
 intro a
 induction a with
 |nil=>intro b;simp
 |cons x a ih=>intro b;cases b with
  |nil=>rfl
  |cons y b=>simp [ih]
theorem bindM {names:List Str}{dvals vals:List Value}(nd:names.Nodup) (h2:names.length<=vals.length+dvals.length) (h3:dvals.length<=names.length) :
  List.filter (λn=>(List.lookup n (names.zip vals)).isNone) (List.take (names.length - (List.drop (dvals.length - names.length) dvals).length) names)=[]:=by
 rw [Nat.sub_eq_zero_of_le h3,List.drop_zero]
 have nd0:((names.zip vals).map (·.1)).Nodup:=by rw [zipk];exact (List.take_sublist _ _).nodup nd
 rw [List.filter_eq_nil_iff]
 intro n hn
 have hn':n ∈ (names.zip vals).map (·.1):=by
  rw [zipk]
  exact (List.take_sublist_take_left (by omega)).subset hn
 refine aI (List.mem_map.mp hn') λp hp1 r2_=>?_;subst r2_
 rw [lookup_mem nd0 hp1];simp
theorem wfor {β:Type}{Q:β->Shared->Prop}{g:List (Str × Value)->Sem β}{names:List Str}{dvals vals:List Value}{f:Str × Value->List (Str × Value)->Sem (ForInStep (List (Str × Value)))}(hf:∀n d (sl:List (Str × Value)),f (n,d) sl=if (sl.lookup n).isNone then pure (.yield (sl++[(n,d)])) else pure (.yield sl))
  (nd:names.Nodup) (h1:vals.length<=names.length) (h2:names.length<=vals.length+dvals.length) (h3:dvals.length<=names.length)
  (k:∀sl,names.filterMap (λn=>(sl.lookup n).map (n,·))=names.zip (vals++dvals.drop (vals.length+dvals.length - names.length))->wpAny M A (g sl) Q E s) :
  wpAny M A (forIn ((List.drop (names.length - (List.drop (dvals.length - names.length) dvals).length) names).zip (List.drop (dvals.length - names.length) dvals)) (names.zip vals) f >>= g) Q E s:=by
 rw [Nat.sub_eq_zero_of_le h3,List.drop_zero]
 have nd0:((names.zip vals).map (·.1)).Nodup:=by rw [zipk];exact (List.take_sublist _ _).nodup nd
 have ndd:(((List.drop (names.length - dvals.length) names).zip dvals).map (·.1)).Nodup:=by
  rw [zipk];exact (List.take_sublist _ _).nodup ((List.drop_sublist _ _).nodup nd)
 refine aI (kG f hf _ (names.zip vals) ndd) λsl q1 q2=>?_
 rw [q1]
 refine wpAny_bind (wpAny_pure (k sl ?_))
 refine fU (ws:=vals++dvals.drop (vals.length+dvals.length - names.length)) (by simp;omega) λp hp=>?_
 rw [q2]
 have split:∀ds:List Value,names.zip (vals++ds)=names.zip vals++(names.drop vals.length).zip ds:=λds=>by
  have e2:names=names.take vals.length++names.drop vals.length:=(List.take_append_drop _ _).symm
  have e4:(names.take vals.length++names.drop vals.length).zip (vals++ds)=(names.take vals.length).zip vals++(names.drop vals.length).zip ds:=List.zip_append (by simp;omega)
  have e5:(names.take vals.length++names.drop vals.length).zip (vals++[])=(names.take vals.length).zip vals++(names.drop vals.length).zip []:=List.zip_append (by simp;omega)
  rw [<-e2] at e4 e5
  rw [e4]
  congr 1
  simpa using e5.symm
 rw [split] at hp
 rcases List.mem_append.mp hp with hp|hp
 ·rw [lookup_mem nd0 hp];rfl
 ·have hn:p.1 ∈ names.drop vals.length:=by
   have:p.1 ∈ ((names.drop vals.length).zip (dvals.drop (vals.length+dvals.length - names.length))).map (·.1):=List.mem_map.mpr (yEA p hp rfl)
   rw [zipk] at this
   exact List.mem_of_mem_take this
  have hno:p.1 ∉ (names.zip vals).map (·.1):=by
   rw [zipk]
   intro hq
   have:(names.take vals.length++names.drop vals.length).Nodup:=by rw [List.take_append_drop];exact nd
   exact (List.nodup_append.mp this).2.2 p.1 hq p.1 hn rfl
  rw [lookup_none hno]
  show List.lookup p.1 _=_
  refine lookup_mem ndd ?_
  have e3:(names.drop vals.length).zip (dvals.drop (vals.length+dvals.length - names.length))=((names.drop (names.length - dvals.length)).zip dvals).drop (vals.length+dvals.length - names.length):=by
   rw [List.zip_eq_zipWith,List.zip_eq_zipWith,List.drop_zipWith]
   congr 1
   rw [List.drop_drop]
   congr 1;omega
  rw [e3] at hp
  exact List.mem_of_mem_drop hp
theorem y4 {fd:FuncData}{names:List Str}{dvals vals:List Value}{Q:List (Str × Value)->Shared->Prop}(hp:fd.params.posonlyargs=[]) (ha:fd.params.args.map (·.arg)=names) (hk:fd.params.kwonlyargs=[]) (hv:fd.params.vararg=none) (hw:fd.params.kwarg=none)
  (nd:names.Nodup) (hd:∀Q' E',(∀r:Option (Array Value),r.getD #[]=dvals.toArray->Q' r s)->wpAny M A (seqItems? fd.defaults) Q' E' s) (h1:vals.length<=names.length) (h2:names.length<=vals.length+dvals.length) (h3:dvals.length<=names.length)
  (h:Q (names.zip (vals++dvals.drop (vals.length+dvals.length - names.length))) s):wpAny M A (bindArgs fd ⟨vals,[]⟩) Q E s:=by
 subst ha
 rw [fdE hp hk hv hw]
 refine wpAny_bind (wpAny_pure (wpAny_bind (hd _ _ λrr hrr=>?_)))
 refine hrr.symm ▸ ?_
 refine wif (nlt h1) (wif (nem (bindM nd h2 h3)) (wfor (λ_ _ _=>rfl) nd h1 h2 h3 λsl q=>?_))
 refine wpAny_bind (wpAny_pure (wif (nem rfl) (wpAny_pure ?_)))
 exact fina q h
end
end
section
set_option genInjectivity false
set_option genSizeOf false
section
variable {w:World}{V:Va}{oh:Heap}{kH:Bool}{fi:aY}{A:Around}{E:Value->Shared->Prop}{s:Shared}
inductive ql (V:Va) (fi:aY):List PD->List Str->List (Option Value)->Prop where
 |nil:ql V fi [] [] []
 |cons {p:P4}{d:Option AV}{y:Str}{dv:Option Value}{ps:List PD}{ys:List Str}{dvs:List (Option Value)}:fi.slot p=some y->(∀av,d=some av->∃v,dv=some v/\∀μ,Rep V μ av v)->ql V fi ps ys dvs->ql V fi (.mk p d::ps) (y::ys) (dv::dvs)
structure fx (V:Va) (oh:Heap) (a:Addr) (fd:FuncData) (fi:aY) (ps:List PD) (names:List Str) (dvals:List Value) (body:List Stmt):Prop where
 obj:∃o,oh.get? a=some o/\o.data = .func fd
 co:fd.scope.isCoroutine=false
 gen:fd.scope.isGenerator=false
 kind:fd.scope.kind = .function
 body:fd.body = .stmts body
 code:oh.CodeRec fd.code fd.qualname
 pos:fd.params.posonlyargs=[]
 args:fd.params.args.map (·.arg)=names
 kwo:fd.params.kwonlyargs=[]
 va:fd.params.vararg=none
 kwa:fd.params.kwarg=none
 nd:names.Nodup
 clo:fd.closure=[]
 glob:fd.globals=mainGlobals
 bi:fd.builtins=builtinsNs
 kinds:∀x,fd.scope.names.lookup x=fi.kindOf x
 slots:∀p x,fi.slot p=some x->fi.kindOf x=some .local∨fi.kindOf x=some .cell
 dflt:(dvals=[]/\fd.defaults = .none)∨∃d o n,fd.defaults = .ref d/\oh.get? d=some o/\o.data = .seq dvals.toArray n
 dle:dvals.length<=names.length
 ok:ql V fi ps names (List.replicate (names.length - dvals.length) none++dvals.map some)
theorem da {x:Str}:∀{names:List (Str × NameKind)}{n:Nat}{acc:List (Str × Addr)},(names.lookup x=some .cell∨(acc.lookup x).isSome=true)->((cellsFrom n names acc).lookup x).isSome=true
 | [],_,_,h=>by
  rcases h with h|h
  ·exact nn h
  ·exact h
 |(k,kd)::r,n,acc,h=>by
  unfold cellsFrom
  rw [List.lookup_cons] at h
  cases q:x==k with
  |true=>
   rw [q] at h
   by_cases hk:kd = .cell
   ·subst hk
    rw [if_pos (by simp)]
    exact da (.inr (by rw [List.lookup_cons,q];rfl))
   ·rcases h with h|h
    ·cases h;exact absurd rfl hk
    ·rw [if_neg (by simpa using hk)]
     exact da (.inr h)
  |false=>
   rw [q] at h
   have h':r.lookup x=some .cell∨(acc.lookup x).isSome=true:=h
   split
   ·exact da (h'.imp id λz=>by rw [List.lookup_cons,q];exact z)
   ·exact da h'
def Bd (V:Va) (μ:Mu) (fi:aY) (r:Tr AV) (m cm:Str->Option Value):Prop:=
 ∀p x av,fi.slot p=some x->r.get p=some av->(fi.kindOf x=some .local->∃v,m x=some v/\Rep V μ av v)/\(¬fi.kindOf x=some .local->∃v,cm x=some v/\Rep V μ av v)
theorem Bd.set {μ:Mu}{r:Tr AV}{m cm:Str->Option Value}(b:Bd V μ fi r m cm){p:P4}{y:Str}{av:AV}{v:Value}(hs:fi.slot p=some y) (R:Rep V μ av v) :
  Bd V μ fi (r.set av p) (if fi.kindOf y=some .local then λz=>if z=y then some v else m z else m) (if fi.kindOf y=some .local then cm else λz=>if z=y then some v else cm z):=by
 intro q x av' e1 e2
 by_cases hx:x=y
 ·subst hx
  obtain rfl:=fi.inj hs e1
  rw [Tr.au] at e2;cases e2
  refine⟨λhk=>yEA v ?_ R,λhk=>yEA v ?_ R⟩
  ·rw [if_pos hk];exact if_pos rfl
  ·rw [if_neg hk];exact if_pos rfl
 ·have hq:p ≠ q:=λz=>hx (by subst z;rw [hs] at e1;cases e1;rfl)
  rw [Tr.aw _ _ _ _ hq] at e2
  obtain⟨b1,b2⟩:=b q x av' e1 e2
  refine⟨λhk=>?_,λhk=>?_⟩
  ·refine aI (b1 hk) λu g1 g2=>?_
   refine yEA u ?_ g2
   split
   ·exact (if_neg hx).trans g1
   ·exact g1
  ·refine aI (b2 hk) λu g1 g2=>?_
   refine yEA u ?_ g2
   split
   ·exact g1
   ·exact (if_neg hx).trans g1
theorem wz {μ:Mu}{ps:List PD}{ys:List Str}{dvs:List (Option Value)}(ok:ql V fi ps ys dvs):∀{vs:List AV}{vals:List Value}{r:Tr AV}{k:Tr AV->Bool}{m cm:Str->Option Value},aR V μ vs vals->iE ps vs r k=true->Bd V μ fi r m cm ->
  vals.length<=ys.length/\∃rest r',rest.map some=dvs.drop vals.length/\k r'=true/\Bd V μ fi r' (bindL fi.kindOf (ys.zip (vals++rest)) m) (bindC fi.kindOf (ys.zip (vals++rest)) cm):=by
 induction ok with
 |nil=>
  intro vs vals r k m cm R e b
  obtain⟨rfl,e⟩:=dE (show iS vs (k r)=true from e)
  cases R
  exact yAEEAA (Nat.le_refl _) [] r rfl e b
 | @cons p d y dv ps ys dvs h1 h2 _ ih=>
  intro vs vals r k m cm R e b
  cases R with
  |nil=>
   refine opt_k (show opt d (λv=>iE ps [] (r.set v p) k)=true from e) λav r1_ e2=>?_;subst r1_
   refine aI (h2 av rfl) λv r1_ R=>?_;subst r1_
   obtain⟨_,rest,r',g1,g2,g3⟩:=ih .nil e2 (b.set h1 (R μ))
   exact yAEEAA (Nat.zero_le _) (v::rest) r' (by simpa using g1) g2 g3
  | @cons x v vs vals hx R=>
   have e1:iE ps vs (r.set x p) k=true:=e
   refine bG λ_ kk=>?_
   obtain⟨g0,rest,r',g1,g2,g3⟩:=ih R e1 (b.set h1 hx)
   refine kk ?_
   exact yAEEAA (Nat.succ_le_succ g0) rest r' g1 g2 g3
theorem wA {n:Nat}{dvals:List Value}{k:Nat}{rest:List Value}(hn:dvals.length<=n) (hk:k<=n) (h:rest.map some=(List.replicate (n - dvals.length) none++dvals.map some).drop k):n<=k+dvals.length/\rest=dvals.drop (k+dvals.length - n):=by
 by_cases hle:n - dvals.length<=k
 ·refine⟨by lia,?_⟩
  have e:List.drop k (List.replicate (n - dvals.length) none++dvals.map some)=(dvals.drop (k - (n - dvals.length))).map some:=by
   rw [List.drop_append]
   have:List.drop k (List.replicate (n - dvals.length) (none:Option Value))=[]:=by rw [List.drop_eq_nil_of_le (by simpa using hle)]
   rw [this,List.nil_append,List.length_replicate,List.map_drop]
  rw [e] at h
  have h':=(List.map_inj_right (λx y z=>by injection z)).mp h
  rw [h'];congr 1;lia
 ·exfalso
  have hx:(List.replicate (n - dvals.length) none++dvals.map some)[k]? = some (none:Option Value):=by
   rw [List.getElem?_append_left (by simp;lia),List.getElem?_replicate,if_pos (by lia)]
  have:(rest.map some)[0]? = some (none:Option Value):=by rw [h,List.getElem?_drop];exact hx
  cases rest with
  |nil=>exact nn this
  |cons a r=>simp at this
theorem CG.BE {body:List Stmt}{env:Env}{R:Result->Shared->Prop}(h:WG (model pw w) (A.deeper env) (execs body env) (λf s'=>R (.ok (.ret (match f with|.ret v=>v|_=>.none))) s') (λe s'=>WG (model pw w) (A.deeper env) (leaving env e) (λ_ s''=>R (.error e) s'') i7 s') s):CG (model pw w) A (.func body env) R s:=by
 refine CG.cM rfl ?_
 show WG _ (A.deeper env) (do point;match <-(execs body env).onRaise (leaving env) with|.ret v=>ret v|_=>ret .none) _ _ s
 refine WG.leaf (wpAny_point (WG.bind (WG.onRaise (WG.mono h (λf s' h'=>?_) λe s' h'=>WG.mono h' (λ_ _ x=>x) λ_ _ x=>x.elim))))
 cases f<;>exact WG.pure h'
theorem CG.kJ {a:Addr}{args:Args}{o:Obj}{fd:FuncData}{body:List Stmt}{R:Result->Shared->Prop}(hroom:A.depth<recursionLimit)
  (ho:s.heap.get? a=some o) (hd':o.data = .func fd) (hco:fd.scope.isCoroutine=false) (hgen:fd.scope.isGenerator=false) (hbody:fd.body = .stmts body) (hcd:s.heap.CodeRec fd.code fd.qualname)
  (h:wpAny (model pw w) A.in1 (bindArgs fd args) (λbinds s₁=>
   wpAny (model pw w) A.in1 (newFunctionEnv fd.scope fd.globals fd.closure binds (fd.qualname ++ ".<locals>.") (some a) fd.code none fd.builtins)
    (λenv s₂=>s₂.heap.NoLimit/\CG (model pw w) A (.func body env) R s₂) (λe s'=>R (.error e) s') s₁) (λe s'=>R (.error e) s') s) :
  CG (model pw w) A (.call (.ref a) args) R s:=by
 refine CG.cM rfl ?_
 show WG _ A.in1 (callAny (.ref a) args) _ _ s
 refine WG.leaf (wpAny_load ho ?_)
 refine bG λ_ kk=>?_
 obtain⟨c,oc,vs,tq,hc,hoc,hdc,hq⟩:=hcd
 refine kk ?_
 rw [hd']
 show WG _ A.in1 (callFunction a fd args) _ _ _
 delta callFunction
 rw [hbody,hgen,hco,hc]
 rw [hc] at h
 refine WG.leaf (m:=field (.ref c) 1) (wpAny_field hoc hdc hq (WG.bind (WG.pure ?_)))
 exact WG.leaf (wpAny_mono h (λbinds s₁ h₁=>WG.leaf (wpAny_mono h₁ (λenv s₂ h₂=>WG.leaf (wpAny_enterFrame h₂.1 hroom
  (WG.pure (And.intro rfl h₂.2)))) λ_ _ h'=>h')) λ_ _ h'=>h')
theorem eE (NL:oh.NoLimit){a:Addr}{fd:FuncData}{ps:List PD}{names:List Str}{dvals:List Value}{body:List Stmt}(D:fx V oh a fd fi ps names dvals body)
  (rm:A.depth<recursionLimit){vs:List AV}{h:H}{k:Tr AV->Bool}(e1:iE ps vs .lf k=true){W:Wd}{vals:List Value}(I:Inv w V oh W h s.heap) (R:aR V W.μ vs vals){RR:Result->Shared->Prop}
  (p:∀env r hh tk,k r=true->Fm fi env->env.frame=some env.locals->s.heap.objs.size<=env.locals->(∀x c,env.cells.lookup x=some c->s.heap.objs.size<=c)->(∀b o,s.heap.get? b=some o->hh.get? b=some o)->(∃rest,hh.Ns env.locals (bindL fi.kindOf (names.zip (vals++rest)) λ_=>none)) ->
   Inv w V oh W h hh->aM V oh fi env W hh r->Step none_ W s W { s with heap:=hh,toks:=tk } ->
   WG (model pw w) (A.deeper env) (execs body env) (λf s'=>RR (.ok (.ret (match f with|.ret v=>v|_=>.none))) s') (λe s'=>WG (model pw w) (A.deeper env) (leaving env e) (λ_ s''=>RR (.error e) s'') i7 s') { s with heap:=hh,toks:=tk }) :
  CG (model pw w) A (.call (.ref a) ⟨vals,[]⟩) RR s:=by
 refine bG λ_ kk=>?_
 obtain⟨hl,rest,r,g1,e2,B⟩:=wz (m:=λ_=>none) (cm:=λ_=>none) D.ok R e1 (λp x av _ q=>by rw [Tr.bF] at q;exact nn q)
 obtain⟨h2,h3⟩:=wA D.dle hl g1
 refine aI D.obj λo go hd=>?_
 refine kk ?_
 refine CG.kJ rm (I.bq _ _ go) hd D.co D.gen D.body (D.code.keeps I.bq) ?_
 refine y4 D.pos D.args D.kwo D.va D.kwa D.nd (λQ' E' q=>?_) hl h2 D.dle ?_
 ·rcases D.dflt with ⟨rfl,hn⟩|⟨d,od,m,hn,gd,hdd⟩
  ·rw [hn];exact wpAny_pure (q none rfl)
  ·rw [hn];exact wpAny_seqItems (I.bq _ _ gd) hdd (q _ rfl)
 rw [D.clo,<-h3]
 refine wpAny_newFunctionEnv_cells D.kind (λx hx=>?_) λenv he s₁ X=>?_
 ·have hy:x.1 ∈ names:=(List.of_mem_zip hx).1
  have hk:∃q,fi.slot q=some x.1:=by
   have key:∀{ps:List PD}{ys:List Str}{dvs:List (Option Value)},ql V fi ps ys dvs->∀y ∈ ys,∃q,fi.slot q=some y:=by
    intro ps ys dvs ok
    induction ok with
    |nil=>intro y hy;cases hy
    |cons h1 _ _ ih=>
     intro y hy
     rcases List.mem_cons.mp hy with rfl|hy
     ·exact⟨_,h1⟩
     ·exact ih y hy
   exact key D.ok _ hy
  obtain⟨q,hq⟩:=hk
  rw [D.kinds]
  refine (D.slots q _ hq).imp id λz=>⟨z,da (.inl (by rw [D.kinds];exact z))⟩
 subst he
 have fm:Fm fi (newEnv fd.scope s.heap.objs.size fd.globals (cellsFrom (s.heap.objs.size+1) fd.scope.names []) (fd.qualname ++ ".<locals>.") (some a) fd.code none fd.builtins):=⟨D.kind,D.glob,D.bi,D.kinds⟩
 generalize henv:newEnv fd.scope s.heap.objs.size fd.globals (cellsFrom (s.heap.objs.size+1) fd.scope.names []) (fd.qualname ++ ".<locals>.") (some a) fd.code none fd.builtins=env at *
 have hloc:env.locals=s.heap.objs.size:=by rw [<-henv];rfl
 have hcells:env.cells=cellsFrom (s.heap.objs.size+1) fd.scope.names []:=by rw [<-henv];rfl
 refine bf X.done λhh tk r2_ keep=>?_;subst r2_
 have ns:=X.toInCall.ns
 have sz:s.heap.objs.size<=hh.objs.size:=by have:=ns.lt;rw [hloc] at this;exact Nat.le_of_lt this
 obtain⟨I1,S1⟩:=du I keep sz tk
 have kin:env.kindOf=fi.kindOf:=funext fm.kinds
 rw [kin] at X ns
 have fresh1:∀c,s.heap.objs.size<=c->¬W.own c/\oh.get? c=none:=λc hc=>⟨eD I hc,eC I hc⟩
 have cellge:∀x c,env.cells.lookup x=some c->s.heap.objs.size<=c/\c<hh.objs.size:=λx c q=>by
  have hc:=X.cell x c q
  have ha:=X.above x c (mem_of_lookup q)
  rw [hloc] at ha
  exact⟨Nat.le_of_lt ha,hc.lt⟩
 have FR:aM V oh fi env W hh r:=by
  refine⟨yEA _ ns λq x av q1 q2 q3=>(B q x av q1 q2).1 q3,λq x q1=>?_,?_,λx c q=>?_,λx y c q1 q2=>name_of_addr X.apart (mem_of_lookup q1) (mem_of_lookup q2)⟩
  ·rcases D.slots q x q1 with z|z
   ·exact .inl z
   ·obtain⟨c,hc⟩:=Option.isSome_iff_exists.mp (da (x:=x) (names:=fd.scope.names) (n:=s.heap.objs.size+1) (acc:=[]) (.inl (by rw [D.kinds];exact z)))
    rw [<-hcells] at hc
    exact .inr (yAEEAA (.inl z) c _ hc (X.cell x c hc) λav q2=>(B q x av q1 q2).2 (by rw [z];intro y;cases y))
  ·rw [hloc];exact fresh1 _ (Nat.le_refl _)
  ·obtain⟨c1,c2⟩:=cellge x c q
   exact⟨(fresh1 c c1).1,(fresh1 c c1).2,c2⟩
 exact⟨(NL.keeps I.bq).keeps keep,CG.BE (p env r hh _ e2 fm (by rw [<-henv];rfl) (Nat.le_of_eq hloc.symm) (λx c q=>(cellge x c q).1) keep ⟨_,ns⟩ I1 FR S1)⟩
theorem fn_s (NL:oh.NoLimit){a:Addr}{fd:FuncData}{ps:List PD}{names:List Str}{dvals:List Value}{body:List Stmt}(D:fx V oh a fd fi ps names dvals body){b:SC}(hb:SB w V oh kH fi b body){n:Nat}{co:CO}(ok:ti w V oh kH n co)
  (rm:xZ (n+1) A) (ho:j8 kH oh A){vs:List AV}{h:H}{k:K1}(e:tS co (.py ps b) vs h k=true){W:Wd}{vals:List Value}(I:Inv w V oh W h s.heap) (R:aR V W.μ vs vals){RR:Result->Shared->Prop}
  (p:cO w V oh k W s (λv s'=>RR (.ok (.ret v)) s')):CG (model pw w) A (.call (.ref a) ⟨vals,[]⟩) RR s:=by
 refine eE NL D (by have:=rm.1;lia) (k:=λr=>b co r h (Bl k)) e I R λenv r hh tk e2 fm _ g1 g2 _ _ I1 FR S1=>?_
 refine WG.mono (E:=i7) (hb ⟨n,co,ok,A.deeper env,?_,ho,env,fm⟩ r h _ e2 W _ I1 FR _ _ λfl r' h' f W' s' e3 R3 I3 F3 S3=>?_) (λ_ _ x=>x) λ_ _ x=>x.elim
 ·obtain⟨r1,r2⟩:=rm
  refine⟨?_,?_⟩
  ·show A.depth+1+4*n+4<_;lia
  ·show A.units+3+32*n+40<_;lia
 have S:Step none_ W s W' s':=(S1.up.trans S3).new λb' hb'=>.inr (by
  rcases hb' with rfl|⟨x,_,q⟩
  ·exact g1
  ·exact g2 x b' q)
 cases R3 with
 |nx=>exact p .none h' .none W' s' e3 rfl I3 S
 |brk=>exact nf e3
 |cont=>exact nf e3
 |ret rr=>exact p _ h' _ W' s' e3 rr I3 S
end
end
section
section
variable {w:World}{V:Va}{oh:Heap}{kH:Bool}{fi:aY}{A:Around}{E:Value->Shared->Prop}{s:Shared}
def BF (w:World) (V:Va) (oh:Heap) (kH:Bool) (g:List AV->H->K1->Bool) (a:Addr):Prop:=
 ∀(n:Nat) A,xZ (n+1) A->j8 kH oh A->∀vs h k,g vs h k=true->∀W s vals,Inv w V oh W h s.heap->aR V W.μ vs vals ->
  ∀R:Result->Shared->Prop,cO w V oh k W s (λv s'=>R (.ok (.ret v)) s')->CG (model pw w) A (.call (.ref a) ⟨vals,[]⟩) R s
def y5 (w:World) (V:Va) (oh:Heap) (kH:Bool) (a:Addr):Fn->Prop
 |.py ps b=>∃fd fi names dvals body,fx V oh a fd fi ps names dvals body/\SB w V oh kH fi b body
 |.prim g=>BF w V oh kH g a
def fe (w:World) (V:Va) (oh:Heap) (kH:Bool) (tab:Tr Fn):Prop:=∀f fn,tab.get f=some fn->∃a,V.fn f=some a/\y5 w V oh kH a fn
theorem gS (NL:oh.NoLimit){tab:Tr Fn}(T:fe w V oh kH tab):∀n,ti w V oh kH n (call tab n)
 |0=>λf vs h k e=>by exact nf e
 |n+1=>λf vs h k e=>by
  refine opt_k (show opt (tab.get f) (λfn=>tS (call tab n) fn vs h k)=true from e) λfn e1 e2=>?_
  refine aI (T f fn e1) λa ha ok=>?_
  refine yEA a ha λA rm ho W s vals I R RR p=>?_
  cases fn with
  |py ps b=>
   refine bG λ_ kk=>?_
   obtain⟨fd,fi,names,dvals,body,D,hb⟩:=ok
   refine kk ?_
   exact fn_s NL D hb (gS NL T n) rm ho e2 I R p
  |prim g=>exact ok n A rm ho vs h k e2 W s vals I R RR p
def jD (w:World) (V:Va) (oh:Heap) (kH:Bool) (f:List AV->H->K1->Bool) (c:Value):Prop:=
 ∀A n,Rm n A->j8 kH oh A->∀vs h k,f vs h k=true->∀W s vals,Inv w V oh W h s.heap->aR V W.μ vs vals->∀Q E,cO w V oh k W s Q->WG (model pw w) A (PySem.call c vals) Q E s
theorem y6 {f:List AV->H->K1->Bool}{c:Value}{l:LC}{y:Str}{np pos:Pos}{es:List PySem.Expr}{mg mb:Str->Option Value}(hf:jD w V oh kH f c) (hc:(∃id,c = .builtin id)∨∃T,c = .type T) (hg:oh.Ns mainGlobals mg) (hm:mg y=none) (hb:oh.Ns builtinsNs mb) (hv:mb y=some c)
  (hk:fi.kindOf y=some .globalImplicit) (hd:(y==("__debug__" : Str))=false) (hs:es.all notStar=true) (hl:(SL w V oh kH fi) l es):(SE w V oh kH fi) (ak f l) (.Call (.Name y np) es [] pos):=by
 intro x r h k hk' W s I F Q E p
 refine WG.eq (bc ..) ?_
 refine WG.leaf (Name_function_global x.fm.kind ((x.fm.kinds y).trans hk) (loadGlobal_builtin (mg:=mg) (mb:=mb) (by rw [x.fm.glob];exact hg.keeps I.bq) hm (by rw [x.fm.bi];exact hb.keeps I.bq) hv ?_) hd)
 have args:=aL (M:=model pw w) (A:=x.A) (E:=E) (s:=s) (f:=c) (pos:=pos) (env:=x.env) hs (Q:=λa s'=>WG (model pw w) x.A (PySem.call c ([]++a.pos) a.kw) Q E s') (hl x r h _ hk' W s I F pos _ _ λavs h2 vs W2 s2 e2 R2 I2 S2=>hf x.A x.n x.rm x.ho avs h2 k e2 W2 s2 vs I2 R2 Q E (p.after S2))
 rcases hc with ⟨id,rfl⟩|⟨T,rfl⟩
 ·exact cD args.2 args.1
 ·exact dq args.2 args.1
theorem aR.two {μ:Mu}{x y:AV}{vals:List Value}(r:aR V μ [x,y] vals):∃u v,vals=[u,v]/\Rep V μ x u/\Rep V μ y v:=by
 cases r with
 |cons h t=>refine aR.one_k t λv r1_ h2=>?_;subst r1_;exact yEEAA _ _ rfl h h2
end
end
section
theorem ir {M:Model}{Γ:Ctx}{p:Pos}{t:Sem Fin}{fs:List Frame}{s s':Shared}{e:End}(h:Runs M Γ p t fs s e s'):s.heap.objs.size<=s'.heap.objs.size:=by
 induction h with
 |done=>exact Nat.le_refl _
 |raise=>exact Nat.le_refl _
 |update _ _ ih=>exact Nat.le_trans (Nat.le_of_eq (Heap.SameBut.update ..).1.symm) ih
 |alloc _ ih=>exact Nat.le_trans (Nat.le_trans (Nat.le_succ _) (Nat.le_of_eq (Heap.size_push _ _).symm)) ih
 |call _ _ ih1 ih2=>exact Nat.le_trans ih1 ih2
 |yield=>exact Nat.le_refl _
 |resumeFresh _ _ _ _ ih1 ih2=>exact Nat.le_trans ih1 ih2
 |resumeSuspended _ _ _ _ ih1 ih2=>exact Nat.le_trans ih1 ih2
 |segRet _ _ ih1 ih2=>exact Nat.le_trans ih1 ih2
 |segGen _ _ ih1 ih2=>exact Nat.le_trans ih1 ih2
 |segSuspGen _ _ _ _ ih1 ih2=>exact Nat.le_trans ih1 ih2
 |again _ _ ih=>exact ih
 |rule _ ih=>exact ih
 | «at» _ ih=>exact ih
 |load _ _ ih=>exact ih
 |loadIfAlive _ ih=>exact ih
 |point _ ih=>exact ih
 |fresh _ ih=>exact ih
 |ask _ ih=>exact ih
 |choose _ _ ih=>exact ih
 |os _ ih=>exact ih
 |handled _ ih=>exact ih
 |genState _ _ ih=>exact ih
 |stack _ ih=>exact ih
 |thread _ ih=>exact ih
 |newGen _ ih=>exact ih
 |callSusp _ ih=>exact ih
 |resumeJustStarted _ _ _ ih=>exact ih
 |resumeThrowFresh _ _ ih=>exact ih
 |resumeRunning _ _ ih=>exact ih
 |resumeFinished _ _ ih=>exact ih
 |segSuspOut _ _ ih=>exact ih
theorem qm {M:Model}{Γ:Ctx}{p:Pos}{g:Nat}{r:Resume}{s s':Shared}{res:GenResult}(h:Wakes M Γ p g r s res s'):s.heap.objs.size<=s'.heap.objs.size:=by
 delta Wakes at h
 have z:∀{s₁ s₂:Shared},s₂=s₁->s₁.heap=s.heap->s.heap.objs.size<=s₂.heap.objs.size:=λb a=>by subst b;rw [a];exact Nat.le_refl _
 cases q:s.gens[g]? with
 |none=>rw [q] at h;exact h.elim
 |some st=>
  rw [q] at h
  cases st with
  |fresh c=>cases r with
   |send v=>
    cases v<;>first|exact z h.2 rfl|skip
    refine bj h λe₁ s₁ hr _ e=>?_;rw [e.2];have:=ir hr;exact this
   |throw x=>exact z h.2 rfl
  |suspended=>refine bj h λe₁ s₁ hr _ e=>?_;rw [e.2];have:=ir hr;exact this
  |running=>exact z h.2 rfl
  |finished=>exact z h.2 rfl
theorem wB {α:Type}(M:Model) (Γ:Ctx) (t:Sem α):∀(Q:α->Pos->Shared->Prop) (E:Value->Pos->Shared->Prop) (p:Pos) (s:Shared) (n:Nat),n<=s.heap.objs.size->Sem.wp M Γ t Q E p s ->
  Sem.wp M Γ t (λa p' s'=>n<=s'.heap.objs.size/\Q a p' s') E p s:=by
 induction t with
 |pure a=>intro Q E p s n hn h;exact⟨hn,h⟩
 |raise e=>intro Q E p s n hn h;exact h
 |unsupported=>intro Q E p s n hn h;exact h.elim
 |finish=>intro Q E p s n hn h;exact h.elim
 |rule _ k ih=>intro Q E p s n hn h;exact ih _ _ _ _ _ _ hn h
 | «at» _ k ih=>intro Q E p s n hn h;exact ih _ _ _ _ _ _ hn h
 |load a _ k ih=>intro Q E p s n hn h;refine aI h λo e h=>?_;exact yEA o e (ih _ _ _ _ _ _ hn h)
 |update a _ f k ih=>intro Q E p s n hn h;exact⟨h.1,ih _ _ _ _ _ _ (Nat.le_trans hn (Nat.le_of_eq (Heap.SameBut.update ..).1.symm)) h.2⟩
 |loadIfAlive a k ih=>intro Q E p s n hn h;exact ih _ _ _ _ _ _ hn h
 |point _ k ih=>intro Q E p s n hn h;exact ih _ _ _ _ _ _ hn h
 |register=>intro Q E p s n hn h;exact h.elim
 |alloc o k ih=>intro Q E p s n hn h;exact ih _ _ _ _ _ _ (Nat.le_trans hn (Nat.le_trans (Nat.le_succ _) (Nat.le_of_eq (Heap.size_push _ _).symm))) h
 |fresh k ih=>intro Q E p s n hn h;exact ih _ _ _ _ _ _ hn h
 |ask k ih=>intro Q E p s n hn h;exact ih _ _ _ _ _ _ hn h
 |choose src m k ih=>intro Q E p s n hn h;exact⟨h.1,ih _ _ _ _ _ _ hn h.2⟩
 |os q _ k ih=>intro Q E p s n hn h;exact ih _ _ _ _ _ _ hn h
 |call c hd _ _ k ih=>
  intro Q E p s n hn h
  refine bf h λr s₁ hr h=>?_
  exact yEEA r s₁ hr (ih _ _ _ _ _ _ (Nat.le_trans hn (ir hr)) h)
 |handled own k ih=>intro Q E p s n hn h;exact ih _ _ _ _ _ _ hn h
 |genState g k ih=>intro Q E p s n hn h;refine aI h λst e h=>?_;exact yEA st e (ih _ _ _ _ _ _ hn h)
 |newGen c k ih=>intro Q E p s n hn h;exact ih _ _ _ _ _ _ hn h
 |resume g r _ k ih=>intro Q E p s n hn h;refine bf h λres s' hw h=>?_;exact yEEA res s' hw (ih _ _ _ _ _ _ (Nat.le_trans hn (qm hw)) h)
 |yield=>intro Q E p s n hn h;exact h.elim
 |stack k ih=>intro Q E p s n hn h;exact ih _ _ _ _ _ _ hn h
 |fork=>intro Q E p s n hn h;exact h.elim
 |thread k ih=>intro Q E p s n hn h;exact ih _ _ _ _ _ _ hn h
 |await=>intro Q E p s n hn h;exact h.elim
theorem aV {α:Type}{M:Model}{A:Around}{t:Sem α}{Q:α->Shared->Prop}{E:Value->Shared->Prop}{s:Shared}(h:wpAny M A t (λa s'=>s.heap.objs.size<=s'.heap.objs.size->Q a s') E s):wpAny M A t Q E s:=
 λΓ p hΓ=>Sem.wp_mono M Γ t (λa p' s' x=>x.2 x.1) (λ_ _ _ x=>x) p s (wB M Γ t _ _ p s _ (Nat.le_refl _) (h Γ p hΓ))
end
section
section
variable {w:World}{V:Va}{oh:Heap}{kH:Bool}{fi:aY}{A:Around}{E:Value->Shared->Prop}{s:Shared}
theorem gp {α:Type}{l:List α}{k:Nat->Bool}(e:gJ l k=true):len l<=4096/\k (len l)=true:=by
 obtain⟨a,b⟩:=aN e
 exact⟨Nat.le_of_ble_eq_true a,b⟩
theorem my {v:AV}{k:List Nat->Bool}(e:onBytes v k=true):∃l,v = .o (.bytes l)/\k l=true:=by
 cases v with
 |o x=>cases x<;>first|(first|exact nf e|exact nn e|cases e)|exact yEA _ rfl e
 |_=>exact nf e
theorem onBytes_k {v:AV}{k:List Nat->Bool}(e:onBytes v k=true){P:Prop}(c_:∀l,v = .o (.bytes l)->k l=true->P):P:=aI (my e) c_
theorem gU:Slot "bytearray" "__len__" "bytearray.__len__":=
 .of (owner:="bytearray") (n:="__len__") (by rw [typeLookup_type,builtinLookup_eq_fast];kernel_rfl) (by decide +kernel) (by decide +kernel) (by decide +kernel)
  (by first|exact .inl (by decide +kernel)|exact .inr (by decide +kernel)) (by rw [isSubtype_type];kernel_rfl)
theorem kK:entryFor table "bytearray.__len__" = some Builtin.«bytearray.__len__»:=by first|exact entryFor_of_fast (by kernel_rfl)|exact entryFor_of_tree (by kernel_rfl)
theorem fJ:Manifest.owners.lookup (String.ofList ['y','a','r','r','a','e','t','y','b'].reverse)=some Manifest.sig_bytearray:=by kernel_rfl
theorem mz (a:Value):argsOk "bytearray.__len__" ⟨[a],[]⟩:=by
 unfold argsOk;rw [signature?_of (id:="bytearray.__len__") (n:=['_','_','n','e','l','_','_']) (o:=['y','a','r','r','a','e','t','y','b']) (by kernel_rfl) fJ];kernel_rfl
theorem eT {a:Addr}{o:Obj}{b:Array UInt8}{n:Nat}{Q:Array UInt8->Shared->Prop}(ho:s.heap.get? a=some o) (hd:o.data = .bytearray b n) (h:Q b s):wpAny (model pw w) A (Builtin.Bytes.payload (.ref a)) Q E s:=by
 delta Builtin.Bytes.payload Builtin.Bytes.payload?
 refine wpAny_bind (wpAny_bind (wpAny_load ho ?_))
 rw [hd]
 exact wpAny_pure (wpAny_pure h)
theorem wC {a:Addr}{b:Array UInt8}{Q:Value->Shared->Prop}(ho:s.heap.get? a=some { cls:=.type "bytearray",data:=.bytearray b }) (hz:b.size<=4096) (h:Q (.int b.size (s.toks+1)) { s with toks:=s.toks+1+1 }) :
  wpAny (model pw w) A (PySem.call (.builtin "len") [.ref a]) Q E s:=by
 refine call_len_slot (n:=(b.size:Int)) (yEA _ ho rfl) gU (λQ' hq=>?_) (by exact Int.not_lt.mpr (Int.natCast_nonneg _)) (by lia) h
 refine wpAny_call_entry gU (yEA _ ho rfl) kK ?_ (mz _)
 show wpAny _ _ (Builtin.Bytes.payload (.ref a) >>= λb=>retInt b.size) _ _ s
 refine wpAny_bind (eT ho rfl ?_)
 exact wpAny_bind (wpAny_mkInt (wpAny_pure (yEA _ rfl hq)))
theorem y7:(jD w V oh kH) cq (.builtin "len"):=by
 intro A n rm ho vs h k e W s vals I R Q E p
 refine arg1_k e λx r1_ e1=>?_;subst r1_
 refine R.one_k λv r1_ Rx=>?_;subst r1_
 refine WG.of ?_
 cases x with
 |ref pp=>
  refine H_k (show h.get pp (λo=>AO.rec (motive:=λ_=>Bool) (λ_ _=>false) (λl=>gJ l λn=>k (.nat n) h) (λ_=>false) (λ_=>false) (λl=>gJ l λn=>k (.nat n) h) (λ_=>false) (λ_ _=>false) (λ_=>false) (λ_=>false) (λ_=>false) o)=true from e1) λo hoo e2=>?_
  refine Rx.rf λa ha r2_=>?_;clear Rx;subst r2_
  have r:=I.at hoo ha
  cases o with
  |list l=>
   obtain⟨hl,e3⟩:=gp (show gJ l (λn=>k (.nat n) h)=true from e2)
   refine isList_k r λxs g1 g2=>?_
   have hsz:len l=xs.size:=by rw [g2.len];simp
   exact call_len_list g1 (by lia) (p.now e3 I ⟨_,by rw [hsz]⟩ _)
  |nC l=>
   obtain⟨hl,e3⟩:=gp (show gJ l (λn=>k (.nat n) h)=true from e2)
   have hsz:len l=(l.map V.byte).toArray.size:=by rw [len_eq];simp
   exact wC r (by lia) (p.now e3 I ⟨_,by rw [hsz]⟩ _)
  |_=>exact nf e2
 |o y=>
  refine onBytes_k (show onBytes (.o y) (λl=>gJ l λn=>k (.nat n) h)=true from e1) λl hy e2=>?_
  cases hy
  obtain⟨hl,e3⟩:=gp e2
  obtain⟨t,rfl⟩:=Rx
  have hsz:len l=(l.map V.byte).toArray.size:=by rw [len_eq];simp
  exact len_bytes (by lia) (p.now e3 I ⟨_,by rw [hsz]⟩ _)
 |_=>exact nf e1
theorem y8:(jD w V oh kH) jl (.type "int"):=by
 intro A n rm ho vs h k e W s vals I R Q E p
 refine arg1_k e λx r1_ e1=>?_;subst r1_
 refine R.one_k λv r1_ Rx=>?_;subst r1_
 refine WG.of ?_
 cases x with
 |bool b=>
  obtain rfl:v = .bool b:=Rx
  refine call_int_bool ?_
  cases b with
  |true=>exact p.now (show k (.nat 1) h=true from e1) I ⟨_,rfl⟩ _
  |false=>exact p.now (show k (.nat 0) h=true from e1) I ⟨_,rfl⟩ _
 |nat m=>
  obtain⟨t,rfl⟩:=Rx
  exact call_int_int (p.here (show k (.nat m) h=true from e1) I ⟨t,rfl⟩)
 |_=>exact nf e1
theorem ur:(jD w V oh kH) dK (.type "range"):=by
 intro A n rm ho vs h k e W s vals I R Q E p
 cases vs with
 |nil=>exact nf e
 |cons x t=>
  refine onNat_k (show aG x (λn=>List.rec (motive:=λ_=>Bool) (Mine.alloc (.ji 0 n) h k) (λy t _=>iS t (aG y λm=>Mine.alloc (.ji n m) h k)) t)=true from e) λm r1_ e1=>?_;subst r1_
  cases t with
  |nil=>
   refine R.one_k λv r1_ q2_=>?_;subst r1_;obtain⟨t,rfl⟩:=q2_
   refine WG.of (call_range_1 ?_)
   refine pS (gO (ob:={ cls:=.type "range",data:=.fields #[.int 0 s.toks,.int m t,.int 1 (s.toks+1)] }) (o:=.ji 0 m) I λW' le _=>yEEE _ _ _ (IsRange.new _ _ _ _ _ _ _)) λa b c=>?_
   exact p (.ref h.nx) _ _ _ _ (dW (show Mine.alloc (.ji 0 m) h k=true from e1)) (yEA _ c rfl) a (b.toks _)
  |cons y t=>
   obtain⟨rfl,e2⟩:=dE (show iS t (aG y λq=>Mine.alloc (.ji m q) h k)=true from e1)
   refine onNat_k e2 λq r1_ e3=>?_;subst r1_
   refine bj R.two λu v r2_ q3_ q4_=>?_;subst r2_;obtain⟨t1,rfl⟩:=q3_;obtain⟨t2,rfl⟩:=q4_
   refine WG.of (call_range_2 ?_)
   refine pS (gO (ob:={ cls:=.type "range",data:=.fields #[.int m t1,.int q t2,.int 1 s.toks] }) (o:=.ji m q) I λW' le _=>yEEE _ _ _ (IsRange.new _ _ _ _ _ _ _)) λa b c=>?_
   exact p (.ref h.nx) _ _ _ _ (dW e3) (yEA _ c rfl) a (b.toks _)
end
end
section
section
variable {w:World}{V:Va}{oh:Heap}{kH:Bool}{fi:aY}{A:Around}{E:Value->Shared->Prop}{s:Shared}
theorem j8.none (ho:j8 false oh A):A.handled=none:=by
 rcases ho with h|⟨h,_⟩
 ·exact h
 ·exact nf h
theorem jE {f:Nat->Nat->Nat}{μ:Mu}{l:List AV}{vs:List Value}(r:aR V μ l vs):∀{n:Nat}{k:Nat->Bool},nM f l n k=true->∃ns:List (Nat × Tok),vs=ns.map (λp=>Value.int (p.1:Int) p.2)/\k (ns.foldl (λa p=>f a p.1) n)=true:=by
 induction r with
 |nil=>intro n k e;exact yEA [] rfl e
 | @cons x v l vs hx _ ih=>
  intro n k e
  refine onNat_k (show aG x (λm=>nM f l (f n m) k)=true from e) λm r1_ e1=>?_;subst r1_
  obtain⟨t,rfl⟩:=hx
  refine aI (ih e1) λns h1 h2=>?_
  exact yEA ((m,t)::ns) (by rw [h1];rfl) h2
theorem i8 (n m:Nat):dC n m=min n m:=by
 delta dC
 cases q:Nat.ble n m with
 |true=>have:=Nat.le_of_ble_eq_true q;skip;lia
 |false=>
  have:¬n<=m:=λz=>by rw [Nat.ble_eq_true_of_le z] at q;cases q
  skip;lia
theorem i9 (n m:Nat):dD n m=max n m:=by
 delta dD
 cases q:Nat.ble n m with
 |true=>have:=Nat.le_of_ble_eq_true q;skip;lia
 |false=>
  have:¬n<=m:=λz=>by rw [Nat.ble_eq_true_of_le z] at q;cases q
  skip;lia
theorem foldl_min:∀(ns:List (Nat × Tok)) (n:Nat),(ns.foldl (λa p=>dC a p.1) n<=n/\∀p ∈ ns,ns.foldl (λa p=>dC a p.1) n<=p.1)/\(ns.foldl (λa p=>dC a p.1) n=n∨∃p ∈ ns,ns.foldl (λa p=>dC a p.1) n=p.1)
 | [],n=>⟨⟨Nat.le_refl _,λp hp=>by cases hp⟩,.inl rfl⟩
 |q::ns,n=>by
  obtain⟨⟨h1,h2⟩,h3⟩:=foldl_min ns (dC n q.1)
  show (ns.foldl (λa p=>dC a p.1) (dC n q.1)<=n/\∀p ∈ q::ns,ns.foldl (λa p=>dC a p.1) (dC n q.1)<=p.1)/\(ns.foldl (λa p=>dC a p.1) (dC n q.1)=n∨∃p ∈ q::ns,ns.foldl (λa p=>dC a p.1) (dC n q.1)=p.1)
  have hm:=i8 n q.1
  refine⟨⟨by omega,λp hp=>?_⟩,?_⟩
  ·rcases List.mem_cons.mp hp with rfl|hp
   ·omega
   ·exact h2 p hp
  ·rcases h3 with h3|⟨p,hp,h3⟩
   ·by_cases c:n<=q.1
    ·exact .inl (by omega)
    ·exact .inr (yEA q List.mem_cons_self (by omega))
   ·exact .inr (yEA p (List.mem_cons_of_mem _ hp) h3)
theorem foldl_max:∀(ns:List (Nat × Tok)) (n:Nat),(n<=ns.foldl (λa p=>dD a p.1) n/\∀p ∈ ns,p.1<=ns.foldl (λa p=>dD a p.1) n)/\(ns.foldl (λa p=>dD a p.1) n=n∨∃p ∈ ns,ns.foldl (λa p=>dD a p.1) n=p.1)
 | [],n=>⟨⟨Nat.le_refl _,λp hp=>by cases hp⟩,.inl rfl⟩
 |q::ns,n=>by
  obtain⟨⟨h1,h2⟩,h3⟩:=foldl_max ns (dD n q.1)
  show (n<=ns.foldl (λa p=>dD a p.1) (dD n q.1)/\∀p ∈ q::ns,p.1<=ns.foldl (λa p=>dD a p.1) (dD n q.1))/\(ns.foldl (λa p=>dD a p.1) (dD n q.1)=n∨∃p ∈ q::ns,ns.foldl (λa p=>dD a p.1) (dD n q.1)=p.1)
  have hm:=i9 n q.1
  refine⟨⟨by omega,λp hp=>?_⟩,?_⟩
  ·rcases List.mem_cons.mp hp with rfl|hp
   ·omega
   ·exact h2 p hp
  ·rcases h3 with h3|⟨p,hp,h3⟩
   ·by_cases c:q.1<=n
    ·exact .inl (by omega)
    ·exact .inr (yEA q List.mem_cons_self (by omega))
   ·exact .inr (yEA p (List.mem_cons_of_mem _ hp) h3)
theorem lF (l:List (Nat × Tok)) (j:Nat) (hj:j<l.length):numAt (l.map λp=>((p.1:Int),p.2)).toArray j=(l[j].1:Int):=by
 unfold numAt
 rw [List.getElem?_toArray,List.getElem?_map,List.getElem?_eq_getElem hj];rfl
theorem cO.grown {k:K1}{W:Wd}{h:H}{Q:Value->Shared->Prop}{av:AV}{v:Value}{h':Heap}{tk:Tok}(p:cO w V oh k W s Q) (e:k av h=true) (I:Inv w V oh W h s.heap) (R:Rep V W.μ av v) (kp:∀b o,s.heap.get? b=some o->h'.get? b=some o) (sz:s.heap.objs.size<=h'.objs.size) :
  Q v { s with heap:=h',toks:=tk }:=by
 obtain⟨I',S'⟩:=du I kp sz tk
 exact p av h v W _ e R I' S'
def MMf (f:Nat->Nat->Nat) (id:String):Prop:=(f=dC/\id = "min")∨(f=dD/\id = "max")
theorem x9 {f:Nat->Nat->Nat}{id:String}(hf:MMf f id):jD w V oh false (bMM f) (.builtin id):=by
 intro A n rm ho vs h k e W s vals I R Q E p
 have hh:=ho.none
 refine WG.of (aV ?_)
 cases vs with
 |nil=>exact nf e
 |cons x t=>
  cases t with
  |nil=>
   refine R.one_k λv r1_ Rx=>?_;subst r1_
   refine onO_k (show lU x h (λ_ o=>bx o λl=>az (Nat.ble (len l) 4096) (nN f l h k) false)=true from e) λpp o r2_ hoo e1=>?_;subst r2_
   refine onList_k e1 λl r1_ e2=>?_;subst r1_
   obtain⟨_,e3⟩:=aN e2
   refine Rx.rf λa ha r2_=>?_;clear Rx;subst r2_
   refine isList_k (I.at hoo ha) λxs g1 g2=>?_
   obtain⟨xl⟩:=xs
   cases l with
   |nil=>exact nf e3
   |cons y l=>
    cases g2 with
    | @cons _ u _ ul hy hl=>
     refine onNat_k (show aG y (λn=>nM f l n λm=>k (.nat m) h)=true from e3) λm r1_ e4=>?_;subst r1_
     obtain⟨t0,rfl⟩:=hy
     refine aI (jE hl e4) λns r1_ e5=>?_;subst r1_
     have hitems:(Array.mk (Value.int (m:Int) t0::ns.map λp=>Value.int (p.1:Int) p.2))=intItems (((m,t0)::ns).map λp=>((p.1:Int),p.2)).toArray:=by
      unfold intItems;simp
     rw [hitems] at g1
     have num:∀j,j<ns.length+1->∃q ∈ (m,t0)::ns,numAt (((m,t0)::ns).map λp=>((p.1:Int),p.2)).toArray j=(q.1:Int):=by
      intro j hj
      exact yEA (((m,t0)::ns)[j]'(by simpa using hj)) (List.getElem_mem _) (lF ((m,t0)::ns) j (by simpa using hj))
     have all:∀q ∈ (m,t0)::ns,∃j,j<=ns.length/\numAt (((m,t0)::ns).map λp=>((p.1:Int),p.2)).toArray j=(q.1:Int):=by
      intro q hq
      obtain⟨j,hj,rfl⟩:=List.getElem_of_mem hq
      exact yEA j (by simp at hj;exact Nat.le_of_lt_succ ‹_›) (lF ((m,t0)::ns) j hj)
     have hsz:(((m,t0)::ns).map λp=>((p.1:Int),p.2)).toArray.size - 1=ns.length:=by simp
     rcases hf with ⟨rfl,rfl⟩|⟨rfl,rfl⟩
     ·refine min_intList hh g1 (by simp) λv h' tk hv hk sz=>?_
      obtain⟨tv,rfl⟩:=intItems_at hv
      obtain⟨b1,b2⟩:=argBest_lt (numAt (((m,t0)::ns).map λp=>((p.1:Int),p.2)).toArray) ((((m,t0)::ns).map λp=>((p.1:Int),p.2)).toArray.size - 1)
      rw [hsz] at b1 b2
      refine bG λ_ kk=>?_
      obtain⟨⟨c1,c2⟩,c3⟩:=foldl_min ns m
      refine aI (num _ (Nat.lt_succ_of_le b1)) λq hq hnum=>?_
      refine kk ?_
      have eqv:numAt (((m,t0)::ns).map λp=>((p.1:Int),p.2)).toArray (argBest (λi j=>decide (numAt (((m,t0)::ns).map λp=>((p.1:Int),p.2)).toArray i<numAt (((m,t0)::ns).map λp=>((p.1:Int),p.2)).toArray j)) ns.length)=((ns.foldl (λa p=>dC a p.1) m:Nat):Int):=by
       have le1:ns.foldl (λa p=>dC a p.1) m<=q.1:=by
        rcases List.mem_cons.mp hq with rfl|hq
        ·exact c1
        ·exact c2 q hq
       refine bG λ_ kk=>?_
       obtain⟨q2,hq2,e2⟩:∃q2 ∈ (m,t0)::ns,ns.foldl (λa p=>dC a p.1) m=q2.1:=by
        rcases c3 with c3|⟨p,hp,c3⟩
        ·exact yEA (m,t0) List.mem_cons_self c3
        ·exact yEA p (List.mem_cons_of_mem _ hp) c3
       refine aI (all q2 hq2) λj hj hj2=>?_
       refine kk ?_
       have le2:=b2 j hj
       rw [hnum] at le2 ⊢
       rw [hj2] at le2
       lia
      rw [hsz,eqv]
      exact p.grown e5 I ⟨tv,rfl⟩ hk sz
     ·refine max_intList hh g1 (by simp) λv h' tk hv hk sz=>?_
      obtain⟨tv,rfl⟩:=intItems_at hv
      obtain⟨b1,b2⟩:=argBest_gt (numAt (((m,t0)::ns).map λp=>((p.1:Int),p.2)).toArray) ((((m,t0)::ns).map λp=>((p.1:Int),p.2)).toArray.size - 1)
      rw [hsz] at b1 b2
      refine bG λ_ kk=>?_
      obtain⟨⟨c1,c2⟩,c3⟩:=foldl_max ns m
      refine aI (num _ (Nat.lt_succ_of_le b1)) λq hq hnum=>?_
      refine kk ?_
      have eqv:numAt (((m,t0)::ns).map λp=>((p.1:Int),p.2)).toArray (argBest (λi j=>decide (numAt (((m,t0)::ns).map λp=>((p.1:Int),p.2)).toArray i > numAt (((m,t0)::ns).map λp=>((p.1:Int),p.2)).toArray j)) ns.length)=((ns.foldl (λa p=>dD a p.1) m:Nat):Int):=by
       have le1:q.1<=ns.foldl (λa p=>dD a p.1) m:=by
        rcases List.mem_cons.mp hq with rfl|hq
        ·exact c1
        ·exact c2 q hq
       refine bG λ_ kk=>?_
       obtain⟨q2,hq2,e2⟩:∃q2 ∈ (m,t0)::ns,ns.foldl (λa p=>dD a p.1) m=q2.1:=by
        rcases c3 with c3|⟨p,hp,c3⟩
        ·exact yEA (m,t0) List.mem_cons_self c3
        ·exact yEA p (List.mem_cons_of_mem _ hp) c3
       refine aI (all q2 hq2) λj hj hj2=>?_
       refine kk ?_
       have le2:=b2 j hj
       rw [hnum] at le2 ⊢
       rw [hj2] at le2
       lia
      rw [hsz,eqv]
      exact p.grown e5 I ⟨tv,rfl⟩ hk sz
  |cons y t=>
   have e0:xX (y::t) (nN f (x::y::t) h k)=true:=e
   have e1:nN f (x::y::t) h k=true/\(t=[]∨∃z,t=[z]):=by
    cases t with
    |nil=>exact⟨e0,.inl rfl⟩
    |cons z t=>
     cases t with
     |nil=>exact⟨e0,.inr ⟨z,rfl⟩⟩
     |cons _ _=>exact nf e0
   obtain⟨e2,ht⟩:=e1
   refine onNat_k (show aG x (λn=>nM f (y::t) n λm=>k (.nat m) h)=true from e2) λm r1_ e3=>?_;subst r1_
   cases R with
   | @cons _ v _ vals hx R=>
    obtain⟨t0,rfl⟩:=hx
    refine aI (jE R e3) λns r1_ e5=>?_;subst r1_
    rcases ht with rfl|⟨z,rfl⟩
    ·have hl:=R.length
     simp at hl
     obtain⟨q,rfl⟩:∃q,ns=[q]:=by
      match ns,hl with
      | [q],_=>exact⟨q,rfl⟩
     rcases hf with ⟨rfl,rfl⟩|⟨rfl,rfl⟩
     ·refine min_two_ints hh λh' tk hk sz=>p.grown (show k (.nat (dC m q.1)) h=true from e5) I ?_ hk sz
      have:=i8 m q.1
      by_cases c:(q.1:Int)<(m:Int)
      ·rw [if_pos c];exact⟨_,by congr 1;lia⟩
      ·rw [if_neg c];exact⟨_,by congr 1;lia⟩
     ·refine max_two_ints hh λh' tk hk sz=>p.grown (show k (.nat (dD m q.1)) h=true from e5) I ?_ hk sz
      have:=i9 m q.1
      by_cases c:(q.1:Int) > (m:Int)
      ·rw [if_pos c];exact⟨_,by congr 1;lia⟩
      ·rw [if_neg c];exact⟨_,by congr 1;lia⟩
    ·have hl:=R.length
     simp at hl
     obtain⟨q,q',rfl⟩:∃q q',ns=[q,q']:=by
      match ns,hl with
      | [q,q'],_=>exact yEE q q' rfl
     rcases hf with ⟨rfl,rfl⟩|⟨rfl,rfl⟩
     ·refine min_three_ints hh λh' tk hk sz=>p.grown (show k (.nat (dC (dC m q.1) q'.1)) h=true from e5) I ?_ hk sz
      have h1:=i8 m q.1
      have h2:=i8 (dC m q.1) q'.1
      split<;>split<;>exact⟨_,by congr 1;lia⟩
     ·refine max_three_ints hh λh' tk hk sz=>p.grown (show k (.nat (dD (dD m q.1) q'.1)) h=true from e5) I ?_ hk sz
      have h1:=i9 m q.1
      have h2:=i9 (dD m q.1) q'.1
      split<;>split<;>exact⟨_,by congr 1;lia⟩
theorem y9:jD w V oh false fk (.builtin "min"):=x9 (.inl ⟨rfl,rfl⟩)
theorem za:jD w V oh false lZ (.builtin "max"):=x9 (.inr ⟨rfl,rfl⟩)
end
end
section
section
variable {w:World}{V:Va}{oh:Heap}{kH:Bool}{fi:aY}{A:Around}{E:Value->Shared->Prop}{s:Shared}
theorem WG.stack {α:Type}{M:Model}{f:List (Code × Pos)->Sem α}{Q:α->Shared->Prop}(h:∀st,(∀x ∈ st,gL x.1=false)->WG M A (f st) Q E s):WG M A (PySem.stack >>= f) Q E s:=λΓ p hΓ hd hc=>by
 show Sem.wp M Γ (.stack λst=>f st) _ _ p s
 rw [Sem.wp_stack]
 exact h _ (iF.push hd hc) Γ p hΓ hd hc
theorem dF {c:Prop}{d:Decidable c}{α:Type}{a:c->α}{b:¬c->α}{x:α}(n:¬c) (h:b n=x):@dite α c d a b=x:=(dif_neg n).trans h
theorem BG {id s:String}(h:(guardIds.contains id||Builtin.Bytes.decodersThatHold.contains id)=false) (g:(guardIds.contains s||Builtin.Bytes.decodersThatHold.contains s)=true):¬id=s:=λe=>nf (h.symm.trans ((congrArg (λx=>guardIds.contains x||Builtin.Bytes.decodersThatHold.contains x) e).trans g))
theorem jF {v:Value}{Q:Bool->Shared->Prop}(h:Q false s):WG (model pw w) A (Builtin.Bytes.exported v) Q E s:=by
 unfold Builtin.Bytes.exported
 refine WG.stack λst hst=>?_
 refine WG.of_eq (congrArg pure (?_:_=false)) (WG.pure h)
 rw [List.any_eq_false]
 intro x hx
 have hd:=hst x hx
 clear hx hst h
 refine λq=>nf (Eq.trans (Eq.symm ?_) q)
 obtain⟨c,p⟩:=x
 cases c with
 |builtin id args=>
  have hd:(guardIds.contains id||Builtin.Bytes.decodersThatHold.contains id)=false:=hd
  delta Builtin.Bytes.exported.match_1
  refine dF (BG (s:="bytearray.__contains__") hd (by decide +kernel)) ?_
  refine dF (BG (s:="bytearray.__mod__") hd (by decide +kernel)) ?_
  refine dF (BG (s:="bytearray.__rmod__") hd (by decide +kernel)) ?_
  refine dF (BG (s:="_struct.pack_into.held") hd (by decide +kernel)) ?_
  refine dF (BG (s:="bytearray.find.held") hd (by decide +kernel)) ?_
  obtain⟨l,kw⟩:=args
  cases l with
  |nil=>rfl
  |cons y r=>
   show (Builtin.Bytes.sameRef y v&&Builtin.Bytes.decodersThatHold.contains id)=false
   rw [(Bool.or_eq_false_iff.mp hd).2,Bool.and_false]
 |_=>rfl
theorem ci:typeLookup (.type "bytes") "__buffer__" = pure (some (.builtin "bytes.__buffer__")):=by rw [typeLookup_type,builtinLookup_eq_fast];kernel_rfl
theorem kL:typeLookup (.type "bytes") "__release_buffer__" = pure none:=by rw [typeLookup_type,builtinLookup_eq_fast];kernel_rfl
theorem gq:typeLookup (.type "bytearray") "__buffer__" = pure (some (.builtin "bytearray.__buffer__")):=by rw [typeLookup_type,builtinLookup_eq_fast];kernel_rfl
theorem oB:typeLookup (.type "bytearray") "__release_buffer__" = pure (some (.builtin "bytearray.__release_buffer__")):=by rw [typeLookup_type,builtinLookup_eq_fast];kernel_rfl
theorem ja:isSubtype (.type "bytearray") (.type "bytearray")=pure true:=by rw [isSubtype_type];kernel_rfl
theorem r4:isSubtype (.type "bytes") (.type "bytes")=pure true:=by rw [isSubtype_type];kernel_rfl
theorem eF {b:Array UInt8}{t:Tok}{Q:Bool->Shared->Prop}(h:Q true s):wpAny (model pw w) A (Builtin.Bytes.slotIsOwn (.bytes b t) "__buffer__") Q E s:=by
 unfold Builtin.Bytes.slotIsOwn
 refine wpAny_bind (wpAny_specialOf (typeIs_bytes s b t) ci ?_)
 try dsimp only
 refine wif (by decide +kernel) ?_
 rw [show ("bytes.__buffer__".dropRight ("__buffer__".length+1)) = "bytes" from by decide +kernel]
 exact wpAny_isInstance (typeIs_bytes s b t) r4 h
theorem gV {b:Array UInt8}{t:Tok}{Q:Bool->Shared->Prop}(h:Q false s):wpAny (model pw w) A (Builtin.Bytes.ownRelease (.bytes b t)) Q E s:=by
 delta Builtin.Bytes.ownRelease Builtin.Bytes.slotIsOwn
 exact wpAny_bind (wpAny_bind (wpAny_specialOf (typeIs_bytes s b t) kL (wpAny_pure (wpAny_pure h))))
theorem kM {b:Array UInt8}{t:Tok}{Q:Array UInt8->Shared->Prop}(h:Q b s):wpAny (model pw w) A (Builtin.Bytes.payload (.bytes b t)) Q E s:=wpAny_bind (wpAny_pure (wpAny_pure h))
theorem mA {id:String}{full:Bool}{b:Array UInt8}{t:Tok}{Q:Option (Array UInt8)->Shared->Prop}(h:Q (some b) s):wpAny (model pw w) A (Builtin.Bytes.buffer? id (.bytes b t) full) Q E s:=by
 unfold Builtin.Bytes.buffer?
 refine wpAny_bind (wpAny_specialOf (typeIs_bytes s b t) ci ?_)
 try dsimp only
 refine wpAny_bind (eF ?_)
 refine wif (by decide) ?_
 refine wpAny_bind (wpAny_specialOf (typeIs_bytes s b t) ci ?_)
 try dsimp only
 refine wpAny_bind (gV ?_)
 refine wif (by decide) ?_
 exact wpAny_bind (kM (wpAny_pure h))
theorem kN {id:String}{b:Array UInt8}{t:Tok}{Q:Option (Array UInt8 × Option Value)->Shared->Prop}(h:Q (some (b,none)) s):wpAny (model pw w) A (Builtin.Bytes.takeBufferQuiet? id (.bytes b t) 0) Q E s:=by
 unfold Builtin.Bytes.takeBufferQuiet? Builtin.Bytes.takeBuffer?
 refine wpAny_bind (wpAny_attempt ?_)
 refine wpAny_bind (wpAny_specialOf (typeIs_bytes s b t) ci ?_)
 try dsimp only
 refine wpAny_bind (eF ?_)
 refine wif (by decide) ?_
 refine wpAny_bind (wpAny_specialOf (typeIs_bytes s b t) ci ?_)
 try dsimp only
 exact wpAny_bind (mA (wpAny_pure (wpAny_pure h)))
theorem dw:Slot "bytearray" "extend" "bytearray.extend":=
 .of (owner:="bytearray") (n:="extend") (by rw [typeLookup_type,builtinLookup_eq_fast];kernel_rfl) (by decide +kernel) (by decide +kernel) (by decide +kernel)
  (by first|exact .inl (by decide +kernel)|exact .inr (by decide +kernel)) (by rw [isSubtype_type];kernel_rfl)
theorem iU:typeOf (.builtin "bytearray.extend")=pure (.type "method_descriptor"):=by show builtinType _=_;rw [builtinType_eq_fast];kernel_rfl
theorem iu:entryFor table "bytearray.extend" = some Builtin.«bytearray.extend»:=by first|exact entryFor_of_fast (by kernel_rfl)|exact entryFor_of_tree (by kernel_rfl)
theorem iV (a b:Value):argsOk "bytearray.extend" ⟨[a,b],[]⟩:=by
 unfold argsOk;rw [signature?_of (id:="bytearray.extend") (n:=['d','n','e','t','x','e']) (o:=['y','a','r','r','a','e','t','y','b']) (by kernel_rfl) fJ];kernel_rfl
theorem jG:PlainAttrs "bytearray":=
 ⟨yEA ("bytearray.__getattribute__") (by rw [typeLookup_type,builtinLookup_eq_fast];kernel_rfl) (by decide +kernel),by rw [typeLookup_type,builtinLookup_eq_fast];kernel_rfl⟩
theorem kO {a:Addr}{o:Obj}{b:Array UInt8}{Q:Unit->Shared->Prop}(ho:s.heap.get? a=some o) (hd:o.data = .bytearray b 0) (h:Q () s):WG (model pw w) A (Builtin.Bytes.checkResize (.ref a)) Q E s:=by
 delta Builtin.Bytes.checkResize
 refine WG.bind ?_
 delta orM
 refine WG.bind (jF ?_)
 refine WG.leaf ?_
 delta Builtin.Bytes.exportsOf
 refine wpAny_bind (wpAny_load ho ?_)
 rw [hd]
 refine wpAny_pure (WG.pure ?_)
 exact WG.pure h
theorem qn {o:AO}{k:List Nat->Bool}(e:nL o k=true):∃l,o = .nC l/\k l=true:=by
 cases o<;>first|(first|exact nf e|exact nn e|cases e)|exact yEA _ rfl e
theorem gW {a:Addr}{b:Array UInt8}{f:Array UInt8->Array UInt8}{Q:Unit->Shared->Prop}(ho:s.heap.get? a=some { cls:=.type "bytearray",data:=.bytearray b }) (hz:(f b).size<=sizeLine)
  (h:∀h',h'.get? a=some { cls:=.type "bytearray",data:=.bytearray (f b) }->Heap.SameBut a s.heap h'->Q () { s with heap:=h' }):wpAny (model pw w) A (updateBytearray a f) Q E s:=by
 delta updateBytearray
 refine wpAny_bind (wpAny_load ho ?_)
 have h2:(s.heap.update a (Obj.mapBytearray f)).get? a=some { cls:=.type "bytearray",data:=.bytearray (f b) }:=Heap.get?_update_self (Obj.mapBytearray f) ho rfl
 refine wpAny_bind (wpAny_update ho ?_)
 refine wpAny_lookBehind h2 ?_ (h _ h2 (Heap.SameBut.update ..))
 show (if (f b).size > sizeLine then some "bytearray:memory" else none)=none
 rw [if_neg (by lia)]
noncomputable def uu (self:Value) (more:Array UInt8):Sem PySem.Fin:=do
 if !more.isEmpty then Builtin.Bytes.checkResize self
 Builtin.Bytes.write self (· ++ more)
 ret .none
theorem wD:fS w V oh kH qO "bytearray.extend":=by
 intro A n rm ho p vs h k e W s a vals I ea R Q E pp
 refine arg1_k e λx r1_ e1=>?_;subst r1_
 refine R.one_k λv r1_ Rx=>?_;subst r1_
 refine H_k e1 λo ho' e2=>?_
 refine aI (qn e2) λl r1_ e3=>?_;subst r1_
 refine onBytes_k e3 λm r1_ e4=>?_;subst r1_
 obtain⟨e5,e6⟩:=aN e4
 obtain⟨t,rfl⟩:=Rx
 have g1:s.heap.get? a=some { cls:=.type "bytearray",data:=.bytearray (l.map V.byte).toArray }:=I.at ho' ea
 have hsz:len l+len m<=4096:=Nat.le_of_ble_eq_true e5
 rw [len_eq,len_eq] at hsz
 refine WG.call (CG.cN (plainId_quiet dw.plain _) iu (dN (by decide +kernel) _) (dw.check _ _ _ _ _ _ _ _ (yEA _ g1 rfl) (iV _ _) ?_))
 unfold Builtin.«bytearray.extend»
 refine WG.bind (WG.pure ?_)
 refine WG.leaf (wpAny_specialOf (typeIs_bytes s _ t) ci ?_)
 refine git (by rfl) ?_
 refine WG.rule (WG.leaf (eT g1 rfl ?_))
 refine WG.leaf (kN ?_)
 refine git (by rfl) ?_
 show WG _ _ (uu (.ref a) (m.map V.byte).toArray) _ _ s
 unfold uu
 have fin:WG (model pw w) (A.under (.builtin "bytearray.extend" ⟨[.ref a,.bytes (m.map V.byte).toArray t],[]⟩)) (do updateBytearray a (· ++ (m.map V.byte).toArray);ret .none) (yN w A (λr s'=>match r with|.ok (.ret v)=>Q v s' | .ok _=>False|.error e=>E e s')) (λe s'=>E e s') s:=by
  refine WG.leaf (gW g1 (by simp;have:sizeLine=2 ^ 24:=rfl;lia) λh' h1 h2=>WG.pure ?_)
  have nt:¬(({ cls:=.type "bytearray",data:=.bytearray (l.map V.byte).toArray }:Obj).cls = .type "tuple" /\ ∃i n,({ cls:=.type "bytearray",data:=.bytearray (l.map V.byte).toArray }:Obj).data = .seq i n):=λ⟨_,_,_,q⟩=>by cases q
  refine pp .none _ .none W _ (dy e6) rfl (I.upd (o:=.nC (lc l m)) ea g1 nt h2 (I.nS ho' ea rfl) ?_) (ct ea g1 nt h2 (I.nS ho' ea rfl) s.toks)
  show h'.get? a=_
  rw [h1,tV,List.map_append]
  simp
 cases q:((m.map V.byte).toArray).isEmpty with
 |true=>exact fin
 |false=>exact WG.bind (kO g1 rfl fin)
end
end
section
section
variable {w:World}{V:Va}{oh:Heap}{kH:Bool}{fi:aY}{A:Around}{E:Value->Shared->Prop}{s:Shared}
theorem kQ:entryFor table "bytearray.__new__" = some Builtin.«list.__new__»:=by
 exact entryFor_alias (id':="list.__new__") (by kernel_rfl) rfl (by decide +kernel) (by kernel_rfl)
theorem fV:plainId "bytearray.__new__" = true:=by decide +kernel
theorem mB:mroOf (.type "bytearray")=pure [.type "bytearray",.type "object"]:=by rw [mroOf_type];kernel_rfl
theorem jH:typeLookup (.type "bytearray") "__new__" = pure (some (.builtin "bytearray.__new__")):=by rw [typeLookup_type,builtinLookup_eq_fast];kernel_rfl
theorem cx:Slot "bytearray" "__init__" "bytearray.__init__":=
 .of (owner:="bytearray") (n:="__init__") (by rw [typeLookup_type,builtinLookup_eq_fast];kernel_rfl) (by decide +kernel) (by decide +kernel) (by decide +kernel)
  (by first|exact .inl (by decide +kernel)|exact .inr (by decide +kernel)) (by rw [isSubtype_type];kernel_rfl)
theorem jI:entryFor table "bytearray.__init__" = some Builtin.«bytearray.__init__»:=by first|exact entryFor_of_fast (by kernel_rfl)|exact entryFor_of_tree (by kernel_rfl)
theorem gr:TypeCalled "bytearray" "bytearray.__new__" "bytearray.__init__":=
 ⟨by decide +kernel,by decide +kernel,yEE _ _ mB,madeBy_type mB jH (by decide +kernel),by decide +kernel,by rw [isSubtype_type];kernel_rfl,cx⟩
theorem mD:checkTypeCall "bytearray" ⟨[],[]⟩=pure ():=by kernel_rfl
theorem oE:checkBuiltinCall "bytearray.__new__" ⟨[.type "bytearray"],[]⟩=pure ():=by kernel_rfl
theorem kR (a:Value):argsOk "bytearray.__init__" ⟨[a],[]⟩:=by
 unfold argsOk;rw [signature?_of (id:="bytearray.__init__") (n:=['_','_','t','i','n','i','_','_']) (o:=['y','a','r','r','a','e','t','y','b']) (by kernel_rfl) fJ];kernel_rfl
set_option maxRecDepth 1000000 in
set_option maxHeartbeats 4000000 in
theorem kT:("bytearray.__new__".splitOn ".__new__").headD "" = "bytearray":=by simp +decide [String.splitOn,String.splitOnAux]
theorem mE {Q₁:Value->Shared->Prop}(h:Q₁ (.ref s.heap.objs.size) { s with heap:=s.heap.push { cls:=.type "bytearray",data:=.bytearray #[] } }) :
  codeAny (model pw w) A (.call (.builtin "bytearray.__new__") ⟨[.type "bytearray"],[]⟩) (wants Q₁ E) s:=by
 refine codeAny_of_tree ?_
 refine wpAny_bind (wpAny_of_eq oE (wpAny_pure ⟨plainId_quiet fV _,codeAny_builtin_stack kQ rfl λp st=>?_⟩))
 rw [Around.under_plainId fV _]
 have hsub:=ja
 have hown:=kT
 obtain⟨hp,g,d,tk,os⟩:=s
 dsimp only
 rw [hown]
 wp_walk
 exact h
theorem ff {a:Addr}{Q:Bool->Shared->Prop}(hT:s.TypeIs (.ref a) "bytearray") (h:Q false s):wpAny (model pw w) A (Builtin.Bytes.ownRelease (.ref a)) Q E s:=by
 delta Builtin.Bytes.ownRelease Builtin.Bytes.slotIsOwn
 refine wpAny_bind (wpAny_bind (wpAny_specialOf hT oB ?_))
 refine wif (by decide +kernel) ?_
 rw [show ("bytearray.__release_buffer__".dropRight ("__release_buffer__".length+1)) = "bytearray" from by decide +kernel]
 exact wpAny_isInstance hT ja (wpAny_pure h)
theorem jJ {a:Addr}{Q:Bool->Shared->Prop}(hT:s.TypeIs (.ref a) "bytearray") (h:Q true s):wpAny (model pw w) A (Builtin.Bytes.slotIsOwn (.ref a) "__buffer__") Q E s:=by
 unfold Builtin.Bytes.slotIsOwn
 refine wpAny_bind (wpAny_specialOf hT gq ?_)
 refine wif (by decide +kernel) ?_
 rw [show ("bytearray.__buffer__".dropRight ("__buffer__".length+1)) = "bytearray" from by decide +kernel]
 exact wpAny_isInstance hT ja h
theorem oG:Builtin.Bytes.bindOptional "bytearray.__init__" "bytearray" ["source","encoding","errors"] [] []=pure [none,none,none]:=by kernel_rfl
theorem uv {Q:Value->Shared->Prop}(h:∀h',h'.get? s.heap.objs.size=some { cls:=.type "bytearray",data:=.bytearray #[] }->(∀b o,s.heap.get? b=some o->h'.get? b=some o)->s.heap.objs.size<=h'.objs.size->Q (.ref s.heap.objs.size) { s with heap:=h' }) :
  WG (model pw w) A (PySem.call (.type "bytearray") []) Q E s:=by
 refine WG.call (CG.cM rfl ?_)
 show WG _ _ (callAny (.type "bytearray") ⟨[],[]⟩) _ _ _
 refine WG.pure (a:=Fin.again (.builtin "type.__call__" ⟨[.type "bytearray"],[]⟩)) (And.intro (Code.quiet_builtin _ (by decide +kernel)) (CG.builtin F.entry_type_call (dN (by decide +kernel) _) ?_))
 unfold Builtin.«type.__call__»
 refine gif (by rw [gr.notType];decide) ?_
 refine gif (by rw [gr.canCreate];decide) ?_
 refine WG.eqb (mD ..) ?_
 refine WG.bind (WG.pure ?_)
 rw [mB]
 refine WG.bind (WG.pure ?_)
 refine gif (by decide) ?_;rw [gr.made]
 refine WG.bind (WG.pure ?_)
 dsimp only
 refine WG.bind (WG.pure ?_)
 refine WG.bind (WG.hold (WG.of (wpAny_call (mE ?_))))
 have g0:(s.heap.push { cls:=.type "bytearray",data:=.bytearray #[] }).get? s.heap.objs.size=some { cls:=.type "bytearray",data:=.bytearray #[] }:=Heap.get?_push_size _ rfl
 have hT:Shared.TypeIs { s with heap:=s.heap.push { cls:=.type "bytearray",data:=.bytearray #[] } } (.ref s.heap.objs.size) "bytearray":=yEA _ g0 rfl
 refine WG.leaf (wpAny_isInstance hT ja ?_)
 refine gif (by decide) ?_
 unfold callSpecial? specialOf
 refine WG.bind (WG.hold (WG.bind (WG.leaf (wpAny_typeOf hT ?_))))
 rw [cx.lookup]
 refine WG.pure ?_
 dsimp only
 refine WG.hold ?_
 rw [cx.bind]
 refine WG.bind (WG.pure ?_)
 dsimp only
 refine WG.bind (WG.call (CG.cN (plainId_quiet cx.plain _) jI (dN (by decide +kernel) _) (cx.check _ _ _ _ _ _ _ _ hT (kR _) ?_)))
 unfold Builtin.«bytearray.__init__»
 show WG _ _ (Builtin.Bytes.ownRelease (.ref s.heap.objs.size) >>= _) _ _ _
 refine WG.leaf (ff hT ?_)
 refine gif (by decide) ?_
 refine WG.bind (WG.of (wpAny_of_eq oG ?_))
 dsimp only
 refine WG.bind (WG.of (wpAny_of_eq (a:=()) rfl ?_))
 refine WG.bind (WG.of (wpAny_of_eq (a:=()) rfl ?_))
 unfold orM
 refine WG.bind (WG.bind (jF ?_))
 show WG _ _ (do return decide ((<-Builtin.Bytes.exportsOf (.ref s.heap.objs.size)) > 0)) _ _ _
 refine WG.leaf ?_
 unfold Builtin.Bytes.exportsOf
 refine wpAny_bind (wpAny_load g0 ?_)
 dsimp only
 refine wpAny_pure (WG.pure ?_)
 refine gif (by decide) ?_
 refine WG.bind (m:=Builtin.Bytes.write (.ref s.heap.objs.size) λ_=>#[]) (WG.of ?_)
 show wpAny _ _ (updateBytearray s.heap.objs.size λ_=>#[]) _ _ _
 refine gW (s:={ s with heap:=s.heap.push { cls:=.type "bytearray",data:=.bytearray #[] } }) g0 (Nat.zero_le _) λh' h1 h2=>?_
 refine WG.pure ?_
 show WG _ _ (pure (some Value.none)) _ _ _
 refine WG.pure ?_
 refine gif (by decide) ?_
 refine WG.pure ?_
 exact h h' h1 (λb o e=>h2.extBut b o (Nat.ne_of_lt (Heap.lt_size e)) (Heap.get?_push_of_some _ e)) (by rw [h2.1,Heap.size_push];exact Nat.le_add_right _ _)
end
end
section
section
variable {w:World}{V:Va}{oh:Heap}{kH:Bool}{fi:aY}{A:Around}{E:Value->Shared->Prop}{s:Shared}
theorem cO.fresh {k:K1}{W:Wd}{h:H}{Q:Value->Shared->Prop}{o:AO}{a:Addr}{h':Heap}{tk:Tok}(p:cO w V oh k W s Q) (e:Mine.alloc o h k=true) (I:Inv w V oh W h s.heap) (kp:∀b o,s.heap.get? b=some o->h'.get? b=some o) (sz:s.heap.objs.size<=h'.objs.size)
  (ha:s.heap.objs.size<=a) (hlt:a<h'.objs.size) (hr:∀W',W.le W'->bV w V W' h' a h.nx o):Q (.ref a) { s with heap:=h',toks:=tk }:=by
 obtain⟨I',S'⟩:=du I kp sz tk
 have hn:¬W.own a:=eD I ha
 have h0:oh.get? a=none:=eC I ha
 obtain⟨le,I2⟩:=I'.new (a:=a) (d:=none) (o:=o) hn (λb q=>by exact nn q) h0 hlt (hr _ (by
  refine⟨λp b e=>?_,λp b e=>?_,rfl⟩
  ·show (if p=h.nx then some a else W.μ p)=some b
   rw [if_neg λq=>(by subst q;exact absurd (I.nE _ _ e) (Nat.lt_irrefl _))];exact e
  ·show (if p=h.nx then none else W.δ p)=some b
   rw [if_neg λq=>(by subst q;exact absurd (I.ez _ _ e) (Nat.lt_irrefl _))];exact e))
 refine p (.ref h.nx) _ _ _ _ (dW e) (yEA a (if_pos rfl) rfl) I2 ⟨le,λb q=>?_,S'.keep,S'.size,rfl,rfl⟩
 rcases q with ⟨p,e⟩|⟨p,e⟩
 ·have e:(if p=h.nx then some a else W.μ p)=some b:=e
  split at e
  ·cases e;exact .inr ha
  ·exact .inl (.inl ⟨p,e⟩)
 ·have e:(if p=h.nx then none else W.δ p)=some b:=e
  split at e
  ·exact nn e
  ·exact .inl (.inr ⟨p,e⟩)
theorem mF:(jD w V oh kH) eO (.type "bytearray"):=by
 intro A n rm ho vs h k e W s vals I R Q E p
 obtain⟨rfl,e1⟩:=dE (show iS vs (Mine.alloc (.nC []) h k)=true from e)
 cases R
 refine uv λh' g1 g2 g3=>?_
 exact p.fresh (tk:=s.toks) e1 I g2 g3 (Nat.le_refl _) (Heap.lt_size g1) λW' le=>by show h'.get? _=_;rw [g1];rfl
theorem mG:typeLookup (.type "bytes") "__bytes__" = pure (some (.builtin "bytes.__bytes__")):=by rw [typeLookup_type,builtinLookup_eq_fast];kernel_rfl
theorem mH:typeLookup (.type "bytearray") "__bytes__" = pure none:=by rw [typeLookup_type,builtinLookup_eq_fast];kernel_rfl
theorem mI:typeLookup (.type "bytearray") "__index__" = pure none:=by rw [typeLookup_type,builtinLookup_eq_fast];kernel_rfl
theorem qo {id:String}{full:Bool}{a:Addr}{b:Array UInt8}{Q:Option (Array UInt8)->Shared->Prop}(g:s.heap.get? a=some { cls:=.type "bytearray",data:=.bytearray b }) (h:Q (some b) s):wpAny (model pw w) A (Builtin.Bytes.buffer? id (.ref a) full) Q E s:=by
 have hT:s.TypeIs (.ref a) "bytearray":=yEA _ g rfl
 unfold Builtin.Bytes.buffer?
 refine wpAny_bind (wpAny_specialOf hT gq ?_)
 try dsimp only
 refine wpAny_bind (jJ hT ?_)
 refine wif (by decide) ?_
 refine wpAny_bind (wpAny_specialOf hT gq ?_)
 try dsimp only
 refine wpAny_bind (ff hT ?_)
 refine wif (by decide) ?_
 exact wpAny_bind (eT g rfl (wpAny_pure h))
theorem fy {v:Value}{Q₁:Value->Shared->Prop}(h:wpAny (model pw w) A.in1 (Builtin.«bytes.__new__» ⟨[.type "bytes",v],[]⟩)
   (λfin s'=>match fin with|.done f=>wants Q₁ E (.ok f) s' | .again c'=>c'.quiet=true/\codeAny (model pw w) A c' (wants Q₁ E) s') (λe s'=>wants Q₁ E (.error e) s') s) :
  codeAny (model pw w) A (.call (.builtin "bytes.__new__") ⟨[.type "bytes",v],[]⟩) (wants Q₁ E) s:=by
 refine codeAny_of_tree ?_
 refine wpAny_bind (wpAny_of_eq (PySem.F.bm_newCall _) (wpAny_pure ⟨plainId_quiet PySem.F.bm_plain _,codeAny_builtin PySem.F.bm_entry ?_⟩))
 rw [Around.under_plainId PySem.F.bm_plain _]
 exact h
theorem iv {b:Array UInt8}{t:Tok}{Q:Value->Shared->Prop}(h:Q (.bytes b t) s):wpAny (model pw w) A (PySem.call (.type "bytes") [.bytes b t]) Q E s:=by
 refine callType_codes (Q₁:=λobj s₁=>obj = .bytes b t/\s₁=s) PySem.F.bm_called (PySem.F.bm_typeCall _) PySem.F.entry_object_init (fy ?_) λobj s₁ h₁=>?_
 ·unfold Builtin.«bytes.__new__»
  refine wpAny_bind (wpAny_of_eq (a:=true) rfl ?_)
  refine bm_if_false rfl ?_
  refine wpAny_bind (wpAny_of_eq PySem.F.bm_sub ?_)
  refine bm_if_false rfl ?_
  refine wpAny_bind (wpAny_of_eq (PySem.F.bm_bind _) ?_)
  refine wpAny_bind (wpAny_of_eq (a:=()) rfl ?_)
  refine wpAny_bind (wpAny_of_eq (a:=()) rfl ?_)
  refine bm_if_false rfl ?_
  refine wpAny_bind (wpAny_specialOf (typeIs_bytes s b t) mG ?_)
  refine wpAny_bind (wpAny_rule ?_)
  refine wpAny_bind (wpAny_typeOf (typeIs_bytes s b t) ?_)
  refine bm_if_true rfl ?_
  exact wpAny_pure ⟨rfl,rfl⟩
 ·obtain⟨rfl,rfl⟩:=h₁
  exact⟨typeIs_bytes _ _ _,PySem.F.args_object_init_2 _ _,object_init_meets PySem.F.bm_called.init.lookup PySem.F.bm_called.made (by decide) pw w A.in1 _ _ ⟨typeIs_bytes _ _ _,rfl,h⟩⟩
theorem jK {a:Addr}{b:Array UInt8}{Q:Value->Shared->Prop}(g:s.heap.get? a=some { cls:=.type "bytearray",data:=.bytearray b }) (h:Q (.bytes b s.toks) { s with toks:=s.toks+1 }) (hz:b.size<=4096):wpAny (model pw w) A (PySem.call (.type "bytes") [.ref a]) Q E s:=by
 have hT:s.TypeIs (.ref a) "bytearray":=yEA _ g rfl
 refine callType_codes (Q₁:=λobj s₁=>obj = .bytes b s.toks/\s₁ = { s with toks:=s.toks+1 }) PySem.F.bm_called (PySem.F.bm_typeCall _) PySem.F.entry_object_init (fy ?_) λobj s₁ h₁=>?_
 ·delta Builtin.«bytes.__new__»
  refine wpAny_bind (wpAny_of_eq (a:=true) rfl ?_)
  refine bm_if_false rfl ?_
  refine wpAny_bind (wpAny_of_eq PySem.F.bm_sub ?_)
  refine bm_if_false rfl ?_
  refine wpAny_bind (wpAny_of_eq (PySem.F.bm_bind _) ?_)
  refine wpAny_bind (wpAny_of_eq (a:=()) rfl ?_)
  refine wpAny_bind (wpAny_of_eq (a:=()) rfl ?_)
  refine bm_if_false rfl ?_
  refine wpAny_bind (wpAny_specialOf hT mH ?_)
  refine wpAny_bind (wpAny_bind ?_)
  refine wpAny_bind (wpAny_load g ?_)
  refine wpAny_pure (wpAny_pure ?_)
  refine bm_if_false rfl ?_
  refine wpAny_bind (wpAny_specialOf hT mI ?_)
  refine bm_if_true rfl ?_
  first
   |skip
   |(refine wpAny_bind ?_;show wpAny _ _ (Builtin.Bytes.buffer? "bytes.__new__" (.ref a) true >>= _) _ _ _)
  refine wpAny_bind (qo g ?_)
  first
   |exact wpAny_bind (wpAny_rule (wpAny_bind (wpAny_mkBytes (wpAny_pure ⟨rfl,rfl⟩))))
   |(dsimp only;refine wpAny_bind (wpAny_rule ?_);refine wpAny_bind (wpAny_mkBytes ?_);exact wpAny_pure (wpAny_pure ⟨rfl,rfl⟩))
 ·obtain⟨rfl,rfl⟩:=h₁
  exact⟨typeIs_bytes _ _ _,PySem.F.args_object_init_2 _ _,object_init_meets PySem.F.bm_called.init.lookup PySem.F.bm_called.made (by decide) pw w A.in1 _ _ ⟨typeIs_bytes _ _ _,rfl,h⟩⟩
theorem qp {μ:Mu}{l:List AV}{vs:List Value}(r:aR V μ l vs):∀{k:List Nat->Bool},pW l k=true->∃m ns,k m=true/\m.length=l.length/\IntsAre vs ns/\(∀n ∈ ns,0<=n/\n<256)/\ns.map (λn=>n.toNat.toUInt8)=m.map V.byte:=by
 induction r with
 |nil=>intro k e;exact yEEAAA [] [] e rfl .nil ⟨λn hn=>(by cases hn),rfl⟩
 | @cons x v l vs hx _ ih=>
  intro k e
  have out:∀(q:Nat) (t:Tok),v = .int (q:Int) t->q<256->∀c,V.byte c=UInt8.ofNat q->pW l (λr=>k (c::r))=true->∃m ns,k m=true/\m.length=(x::l).length/\IntsAre (v::vs) ns/\(∀n ∈ ns,0<=n/\n<256)/\ns.map (λn=>n.toNat.toUInt8)=m.map V.byte:=by
   intro q t hv hq c hc e2
   refine bG λ_ kk=>?_
   obtain⟨m,ns,h1,h2,h3,h4,h5⟩:=ih e2
   refine kk ?_
   refine yEEAAA (c::m) ((q:Int)::ns) h1 (by simp [h2]) (hv ▸ .cons _ t h3) ⟨λn hn=>?_,?_⟩
   ·rcases List.mem_cons.mp hn with rfl|hn
    ·lia
    ·exact h4 n hn
   ·rw [List.map_cons,List.map_cons,h5,hc,Int.toNat_natCast]
  cases x with
  |nat q=>
   refine bG λ_ kk=>?_
   obtain⟨t,hv⟩:=hx
   obtain⟨e1,e2⟩:=aN (show az (ltN q 256) (pW l λr=>k (q::r)) false=true from e)
   refine kk ?_
   have hq:q<256:=Nat.le_of_ble_eq_true e1
   exact out q t hv hq q (by unfold Va.byte;rw [if_pos hq]) e2
  |o y=>
   cases y with
   |oc i=>
    obtain⟨t,hv⟩:=hx
    have e2:pW l (λr=>k (Nat.add 256 i::r))=true:=e
    have:=V.tT i
    refine out (65+V.oct i) t hv (by lia) (Nat.add 256 i) ?_ e2
    unfold Va.byte
    rw [if_neg (by show ¬256+i<256;lia)]
    rw [show Nat.add 256 i - 256=i from by show 256+i - 256=i;lia]
   |_=>exact nf e
  |_=>exact nf e
theorem uw:jD w V oh false eN (.type "bytes"):=by
 intro A n rm ho vs h k e W s vals I R Q E p
 refine arg1_k e λx r1_ e1=>?_;subst r1_
 refine R.one_k λv r1_ Rx=>?_;subst r1_
 cases x with
 |ref pp=>
  refine H_k (show h.get pp (λo=>AO.rec (motive:=λ_=>Bool) (λ_ _=>false) (λl=>az (Nat.ble (len l) 4096) (pW l λr=>k (.o (.bytes r)) h) false) (λ_=>false) (λ_=>false) (λl=>az (Nat.ble (len l) 4096) (k (.o (.bytes l)) h) false) (λ_=>false) (λ_ _=>false) (λ_=>false) (λ_=>false) (λ_=>false) o)=true from e1) λo hoo e2=>?_
  refine Rx.rf λa ha r2_=>?_;clear Rx;subst r2_
  have r:=I.at hoo ha
  cases o with
  |list l=>
   refine bG λ_ kk=>?_
   obtain⟨e3,e4⟩:=aN (show az (Nat.ble (len l) 4096) (pW l λr=>k (.o (.bytes r)) h) false=true from e2)
   refine isList_k r λxs g1 g2=>?_
   obtain⟨m,ns,q1,q2,q3,q4,q5⟩:=qp g2 e4
   refine kk ?_
   have hl:=br e3
   rw [g2.len] at hl
   refine WG.of (aV (call_bytes_ints (vs:=xs.toList) (by simpa using g1) q3 q4 hl ho.none λh' t tk hk sz=>?_))
   exact p.grown q1 I ⟨t,by unfold byteArr;rw [q5]⟩ hk sz
  |nC l=>
   obtain⟨e3,e4⟩:=aN (show az (Nat.ble (len l) 4096) (k (.o (.bytes l)) h) false=true from e2)
   have hl:len l<=4096:=Nat.le_of_ble_eq_true e3
   rw [len_eq] at hl
   exact WG.of (jK r (p.now e4 I ⟨_,rfl⟩ _) (by simpa using hl))
  |_=>exact nf e2
 |o y=>
  refine onBytes_k (show onBytes (.o y) (λ_=>k (.o y) h)=true from e1) λl hy e2=>?_
  cases hy
  obtain⟨t,rfl⟩:=Rx
  exact WG.of (iv (p.here e2 I ⟨t,rfl⟩))
 |_=>exact nf e1
end
end
section
section
variable {w:World}{V:Va}{oh:Heap}{kH:Bool}{fi:aY}{A:Around}{E:Value->Shared->Prop}{s:Shared}
theorem mJ:typeLookup (.type "list") "keys" = pure none:=by rw [typeLookup_type,builtinLookup_eq_fast];kernel_rfl
theorem oH:isSubtype (.type "AttributeError") (.type "AttributeError")=pure true:=by rw [isSubtype_type];kernel_rfl
theorem getAttr?_miss_list {a:Addr}{xs:Array Value}{n:Nat}{name:Str}{Q:Option Value->Shared->Prop}(hh:A.handled=none) (hx:s.heap.get? a=some { cls:=.type "list",data:=.seq xs n }) (hmiss:typeLookup (.type "list") name=pure none)
  (hname:(["__module__","__name__","__qualname__","__doc__","__annotations__"]:List Str).contains name=false) (hsz:name.length+100<=sizeLine)
  (h:∀h' tk,(∀b o,s.heap.get? b=some o->h'.get? b=some o)->Q none { s with heap:=h',toks:=tk }):wpAny (model pw w) A (getAttr? (.ref a) name) Q E s:=by
 obtain⟨hp,g,d,tk,os⟩:=s
 have hT:∀tk',(⟨hp,g,d,tk',os⟩:Shared).TypeIs (.ref a) "list":=λ_=>yEA _ hx rfl
 delta getAttr? getAttrBy? getAttrBy
 refine wpAny_bind (wpAny_mkText (wpAny_bind (wpAny_attempt (wpAny_holding ?_))))
 refine wpAny_bind (wpAny_typeOf (hT _) ?_)
 rw [PySem.F.slot_list_getattribute.lookup]
 refine wpAny_bind (wpAny_pure ?_)
 refine wif (by decide) ?_
 delta getAttrByItsOwn
 refine wpAny_bind (wpAny_pure ?_)
 refine wpAny_bind (wpAny_attempt (wpAny_holding ?_))
 show wpAny _ _ (boundAndCalled _ _ _) _ _ _
 unfold boundAndCalled
 rw [PySem.F.slot_list_getattribute.bind]
 refine wpAny_bind (wpAny_pure ?_)
 refine call_meets PySem.F.slot_list_getattribute (hT _) am_entry_list_getattribute (PySem.F.args_list_getattribute_2 _ _) (meets_getattribute_miss_list a xs n _ name _ hmiss hname hsz) ⟨hx,hh,λh' tk' e hx'=>?_⟩
 obtain⟨t',u',he⟩:=hx'.there
 delta getattributeRaised
 refine wpAny_bind (wpAny_isInstance (T:="AttributeError") (b:=true) (yEA _ he rfl) oH ?_)
 refine wit rfl ?_
 refine wpAny_bind ?_
 show wpAny _ _ (typeLookup (.type "list") "__getattr__") _ _ _
 rw [am_list_getattr_none]
 refine wpAny_pure ?_
 refine wpAny_throw ?_
 refine wpAny_bind (wpAny_isInstance (T:="AttributeError") (b:=true) (yEA _ he rfl) oH ?_)
 refine wit rfl ?_
 exact wpAny_pure (h _ _ hx'.keeps)
theorem fg:entryFor table "dict.update.loop" = some Builtin.«dict.update.loop»:=by first|exact entryFor_of_fast (by kernel_rfl)|exact entryFor_of_tree (by kernel_rfl)
theorem cB:plainId "dict.update.loop" = true:=by decide +kernel
theorem qq (hh:A.handled=none){W:Wd}{h:H}{hp:Heap}(I:Inv w V oh W h hp){la it d:Addr}{items:Array Value}(hid:it ≠ d) (hli:la ≠ it) (hld:la ≠ d) (hi:hp.get? it=none) (hd:hp.get? d=none) (hla:hp.IsList la items){R:Result->Shared->Prop}{k:List IE->Bool}{l:List AV}{vs:List Value}(r:aR V W.μ l vs) :
  ∀(i:Nat) (s:Shared) (dl:List IE) (kvs:List (Int × Value)),l0 l dl h k=true->items.toList.drop i=vs->kvs.length+l.length<=4096->(∀b o,hp.get? b=some o->s.heap.get? b=some o)->s.heap.IsListIter it la i->s.heap.DictOf (intKind pw w) d kvs->cU V W.μ dl kvs ->
  (∀h' tk dl' kvs',k dl'=true->cU V W.μ dl' kvs'->h'.DictOf (intKind pw w) d kvs'->(∀b o,hp.get? b=some o->h'.get? b=some o)->R (.ok (.ret .none)) { s with heap:=h',toks:=tk }) ->
  codeAny (model pw w) A (.builtin "dict.update.loop" ⟨[.ref d,.ref it,rawInt i,.none],[]⟩) R s:=by
 have keepL:∀s:Shared,(∀b o,hp.get? b=some o->s.heap.get? b=some o)->s.heap.IsList la items:=λs q=>by refine aI hla λo g1 g2=>?_;clear hla;exact yEA o (q _ _ g1) g2
 have ne:∀b o,hp.get? b=some o->b ≠ it/\b ≠ d:=λb o e=>⟨λq=>(by subst q;rw [hi] at e;exact nn e),λq=>(by subst q;rw [hd] at e;exact nn e)⟩
 induction r with
 |nil=>
  intro i s dl kvs e hdrop hsz hk hit hm hr fin
  refine codeAny_builtin fg ?_
  rw [Around.under_plainId cB _]
  show wpAny _ A.in1 (pyNext (.ref it) >>= _) _ _ s
  refine wpAny_bind (wpAny_pyNext_list_end hh hit (keepL s hk) (by have:=congrArg List.head? hdrop;rw [List.head?_drop] at this;simpa using this) λh' he=>?_)
  dsimp only
  refine wpAny_bind (m:=Builtin.Dict.addKeywords d []) (wpAny_pure ?_)
  refine wpAny_pure ?_
  have hm':h'.DictOf (intKind pw w) d kvs:=by refine dH hm λo es ep g1 g2=>?_;clear hm;exact yEEEA o es ep (he _ _ hid.symm g1) g2
  exact fin h' s.toks dl kvs e hr hm' λb o q=>he b o (ne b o q).1 (hk b o q)
 | @cons x v l vs hx _ ih=>
  intro i s dl kvs e hdrop hsz hk hit hm hr fin
  have hiv:items[i]? = some v:=by have:=congrArg List.head? hdrop;rw [List.head?_drop] at this;simpa using this
  have hdrop':items.toList.drop (i+1)=vs:=by rw [<-List.drop_drop,hdrop];rfl
  refine onO_k (show lU x h (λ_ o=>dx o λxs=>List.rec (motive:=λ_=>Bool) false (λa t _=>dS t λv=>aG a λq=>l0 l (kj q v dl) h k) xs)=true from e) λp o r2_ hoo e2=>?_;subst r2_
  refine onTup_k e2 λxs r1_ e3=>?_;subst r1_
  refine aI hx λb hb r2_=>?_;clear hx;subst r2_
  refine I.tpl hoo hb λys m g1 g2=>?_
  cases xs with
  |nil=>exact nf e3
  |cons a t=>
   refine arg1_k (show dS t (λv=>aG a λq=>l0 l (kj q v dl) h k)=true from e3) λy r1_ e4=>?_;subst r1_
   refine onNat_k e4 λq r1_ e5=>?_;subst r1_
   obtain⟨yl⟩:=ys
   refine bj (aR.two g2) λku yv hyl q3_ Ry=>?_;obtain⟨t1,rfl⟩:=q3_
   obtain rfl:yl=[.int (q:Int) t1,yv]:=hyl
   refine codeAny_builtin fg ?_
   rw [Around.under_plainId cB _]
   show wpAny _ A.in1 (pyNext (.ref it) >>= _) _ _ s
   refine wpAny_bind (wpAny_pyNext_list_item hit (keepL s hk) hiv λh1 hit1 hs1=>?_)
   have k1:∀b o,hp.get? b=some o->h1.get? b=some o:=λb o q=>hs1.extBut b o (ne b o q).1 (hk b o q)
   have m1:h1.DictOf (intKind pw w) d kvs:=by refine dH hm λo es ep c1 c2=>?_;clear hm;exact yEEEA o es ep (hs1.extBut _ _ hid.symm c1) c2
   have gb:=k1 _ _ g1
   refine wpAny_bind (wpAny_holding (wpAny_bind (wpAny_tryCatch ?_)))
   unfold Builtin.Dict.pairItems
   refine wpAny_bind (wpAny_typeOf (s:={ s with heap:=h1 }) (T:="tuple") (yEA _ gb rfl) ?_)
   refine wit (by decide) ?_
   refine wpAny_bind (wpAny_seqItems gb rfl (wpAny_pure ?_))
   dsimp only
   have hkl:kvs.length<=sizeLine:=by
    have h1:kvs.length<=4096:=by simp at hsz;lia
    have hl:sizeLine=2 ^ 24:=rfl
    lia
   refine wpAny_holding (wpAny_dictSet_pairs (s:={ s with heap:=h1 }) (knd:=intKind pw w) (intKind_is (n:=q)) m1 (λh2 m2 hs2=>?_) hkl)
   have hstored:(stored kvs (q:Int) yv).length<=kvs.length+1:=by
    unfold stored
    split<;>simp
   refine wpAny_pure ⟨plainId_quiet cB _,ih (i+1) _ (kj q y dl) (stored kvs (q:Int) yv) e5 hdrop' (by simp at hsz;lia) (λb o e=>hs2.extBut b o (ne b o e).2 (k1 b o e)) ?_ m2 (jz Ry hr (cU.nodup m1)) λh' tk dl' kvs' c1 c2 c3 c4=>?_⟩
   ·exact hit1.extBut hs2.extBut hid
   ·exact fin h' tk dl' kvs' c1 c2 c3 c4
end
end
section
section
variable {w:World}{V:Va}{oh:Heap}{kH:Bool}{fi:aY}{A:Around}{E:Value->Shared->Prop}{s:Shared}
theorem wF:jD w V oh false qP (.type "dict"):=by
 intro A n rm ho vs h k e W s vals I R Q E p
 have hh:=ho.none
 refine arg1_k e λx r1_ e1=>?_;subst r1_
 refine R.one_k λv r1_ Rx=>?_;subst r1_
 refine onO_k e1 λpp o r2_ hoo e2=>?_;subst r2_
 refine onList_k e2 λl r1_ e3=>?_;subst r1_
 obtain⟨e4,e5⟩:=aN e3
 refine Rx.rf λla ha r2_=>?_;clear Rx;subst r2_
 refine I.lst hoo ha λys m g1 g2=>?_
 have hlen:l.length<=4096:=by have:=Nat.le_of_ble_eq_true e4;rwa [len_eq] at this
 refine WG.of (aV ?_)
 refine callType_codes (Q₁:=λobj s₁=>obj = .ref s.heap.objs.size/\s₁ = { s with heap:=s.heap.push { cls:=.type "dict",data:=.dict #[] } }) PySem.F.kt_called_dict (PySem.F.kt_typeCall_dict_1 _) PySem.F.entry_dict_init (kt_code_dict_new _ ⟨rfl,rfl⟩) ?_
 rintro obj s₁ ⟨rfl,rfl⟩
 have hnew:(s.heap.push { cls:=.type "dict",data:=.dict #[] }).DictOf (intKind pw w) s.heap.objs.size []:=Heap.DictOf.new s.heap
 have gl:(s.heap.push { cls:=.type "dict",data:=.dict #[] }).get? la=some { cls:=.type "list",data:=.seq ys m }:=Heap.get?_push_of_some _ g1
 refine⟨hnew.typeIs,PySem.F.args_dict_init_2 _ _,?_⟩
 unfold Builtin.«dict.__init__»
 refine wpAny_bind ?_
 unfold Builtin.Dict.selfAndRest
 refine wpAny_bind (wpAny_notOrdered_dict hnew.typeIs ?_)
 show wpAny _ _ (pure (s.heap.objs.size,[Value.ref la])) _ _ _
 refine wpAny_pure ?_
 show wpAny _ _ (Builtin.Dict.updateFrom "dict.__init__" s.heap.objs.size (.ref la) [] .none) _ _ _
 unfold Builtin.Dict.updateFrom
 refine wpAny_bind (wpAny_typeOf (T:="list") (yEA _ gl rfl) ?_)
 refine wit (by decide) ?_
 refine wpAny_bind (getAttr?_miss_list (s:={ s with heap:=s.heap.push { cls:=.type "dict",data:=.dict #[] } }) hh gl mJ (by decide +kernel) (by have hl:sizeLine=2 ^ 24:=rfl;rw [hl];decide) λh1 tk1 k1=>?_)
 refine bm_if_true rfl ?_
 refine wpAny_bind (wpAny_rule ?_)
 have gl1:=k1 _ _ gl
 refine wpAny_bind (wpAny_pyIter_list (s:={ s with heap:=h1,toks:=tk1 }) (yEAAE _ gl1 rfl _ rfl) ?_)
 have kS:∀b o,s.heap.get? b=some o->h1.get? b=some o:=λb o q=>k1 b o (Heap.get?_push_of_some _ q)
 have hd1:h1.DictOf (intKind pw w) s.heap.objs.size []:=by refine dH hnew λo es ep c1 c2=>?_;clear hnew;exact yEEEA o es ep (k1 _ _ c1) c2
 have hlt:s.heap.objs.size<h1.objs.size:=by refine dH hd1 λo es ep c1 _=>?_;clear hd1;exact Heap.lt_size c1
 have hno:∀b,s.heap.objs.size<=b->s.heap.get? b=none:=λb hb=>by
  cases q:s.heap.get? b with
  |none=>rfl
  |some o=>exact absurd (Heap.lt_size q) (Nat.not_lt.mpr hb)
 refine wpAny_pure ⟨plainId_quiet cB _,qq (A:=A.in1) hh I (la:=la) (it:=h1.objs.size) (d:=s.heap.objs.size) (items:=ys) (Nat.ne_of_gt hlt) (λq=>?_) (λq=>?_) (hno _ (Nat.le_of_lt hlt)) (hno _ (Nat.le_refl _)) (yEAAE _ g1 rfl _ rfl) g2 0 _ [] [] e5 rfl (by simpa using hlen) (λb o q=>Heap.get?_push_of_some _ (kS b o q)) (yEAA _ (Heap.get?_push_size _ rfl) rfl rfl) ?_ .nil λh' tk dl kvs c1 c2 c3 c4=>⟨rfl,λsz=>?_⟩⟩
 ·rw [q,hno _ (Nat.le_of_lt hlt)] at g1;exact nn g1
 ·rw [q,hno _ (Nat.le_refl _)] at g1;exact nn g1
 ·refine dH hd1 λo es ep c1 c2=>?_;clear hd1;exact yEEEA o es ep (Heap.get?_push_of_some _ c1) c2
 ·refine dH (id c3) λo es ep d1 d2=>?_
  exact p.fresh (o:=.bk dl) c1 I c4 sz (Nat.le_refl _) (Heap.lt_size d1) λW' le=>yEA kvs c3 (c2.mono le.1)
theorem zb:jD w V oh false v8 (.builtin "any"):=by
 intro A n rm ho vs h k e W s vals I R Q E p
 have hh:=ho.none
 refine arg1_k e λx r1_ e1=>?_;subst r1_
 refine R.one_k λv r1_ Rx=>?_;subst r1_
 refine onO_k e1 λpp o r2_ hoo e2=>?_;subst r2_
 refine onList_k e2 λl r1_ e3=>?_;subst r1_
 obtain⟨rfl,e4⟩:=dE e3
 refine Rx.rf λla ha r2_=>?_;clear Rx;subst r2_
 refine isList_k (I.at hoo ha) λxs g1 g2=>?_
 have hx:xs = #[]:=by
  obtain⟨xl⟩:=xs
  cases g2;rfl
 subst hx
 refine WG.of (aV (call_any_walk ?_))
 refine wpAny_pyIter_list g1 ?_
 refine yEEEEEE _ _ _ 0 _ _ (yEAAAA (λ_=>false) rfl (Walks.list (A:=A.in1) hh _ la (Nat.ne_of_lt (by refine aI g1 λo q _=>?_;clear g1;exact Heap.lt_size q)) #[]) ⟨⟨_,Heap.get?_push_size _ rfl,rfl,rfl⟩,g1.push _⟩ ?_ λh' tk hk sz=>?_)
 ·intro i v s' Q' E' hv
  trivial
 ·refine p.grown e4 I rfl (λb o q=>hk b o ?_ (Heap.get?_push_of_some _ q)) sz
  intro hm
  have h1:=Heap.lt_size q
  have h2:b=s.heap.objs.size:=by grind
  rw [h2] at h1
  exact Nat.lt_irrefl _ h1
end
end
section
section
variable {w:World}{V:Va}{oh:Heap}{kH:Bool}{fi:aY}{A:Around}{E:Value->Shared->Prop}{s:Shared}
theorem lG {μ:Mu}{l:List IE}{kvs:List (Int × Value)}(r:cU V μ l kvs):∀{vs:List Value},vs.length=kvs.length->(∀(j:Nat) (v:Value),vs[j]? = some v->∃(k:Int) (x:Value),kvs[j]? = some (k,x)/\(intKind pw w).is k v=true)->aR V μ (lW IE.key l) vs:=by
 induction r with
 |nil=>
  intro vs hl _
  cases vs with
  |nil=>exact .nil
  |cons _ _=>cases hl
 | @cons k v l x xs h1 h2 ih=>
  intro vs hl hv
  cases vs with
  |nil=>cases hl
  |cons u vs=>
   refine bf (hv 0 u rfl) λk' x' e1 e2=>?_
   have e1:some ((k:Int),x)=some (k',x'):=e1
   cases e1
   obtain⟨t,rfl⟩:=Value.isInt_shape e2
   exact .cons ⟨t,rfl⟩ (ih (by simpa using hl) λj v e=>hv (j+1) v e)
theorem wG (GS:(oh.get? sysModules).isSome=true):jD w V oh false lj (.type "list"):=by
 intro A n rm ho vs h k e W s vals I R Q E p
 have hh:=ho.none
 refine arg1_k e λx r1_ e1=>?_;subst r1_
 refine R.one_k λv r1_ Rx=>?_;subst r1_
 refine onO_k e1 λpp o r2_ hoo e2=>?_;subst r2_
 refine Rx.rf λla ha r2_=>?_;clear Rx;subst r2_
 have r:=I.at hoo ha
 refine WG.of (aV ?_)
 cases o with
 |list l=>
  refine bG λ_ kk=>?_
  obtain⟨e3,e4⟩:=aN (show az (Nat.ble (len l) 4096) (Mine.alloc (.list l) h k) false=true from e2)
  refine bf r λys m g1 g2=>?_;clear r
  refine kk ?_
  have hl:=br e3
  rw [g2.len] at hl
  refine call_list_seq la (.inl rfl) g1 rfl rfl (λh' c' k1 k2 sz=>?_) (by simpa using hl)
  exact p.fresh (tk:=s.toks) e4 I k1 sz (Nat.le_refl _) (Heap.lt_size k2) λW' le=>yEEA _ _ k2 (g2.mono le.1)
 |bk l=>
  refine bG λ_ kk=>?_
  obtain⟨e3,e4⟩:=aN (show az (Nat.ble (len l) 4096) (Mine.alloc (.list (lW IE.key l)) h k) false=true from e2)
  refine aI r λkvs hm g2=>?_;clear r
  refine kk ?_
  have hl:=br e3
  rw [g2.len] at hl
  obtain⟨ep,hat⟩:=hm.dictAt
  refine kdl_call (kdl_dict (eQ GS I ha)) hh hat hl λh' tk acc c' k1 k2 k3 sz=>?_
  exact p.fresh e4 I k1 sz (Nat.le_refl _) (Heap.lt_size k2) λW' le=>yEEA _ _ k2 ((lG g2 (by rw [Array.length_toList];exact k3.1) λj v q=>k3.2 j v (by rw [<-Array.getElem?_toList];exact q)).mono le.1)
 |_=>exact nf e2
theorem zipm {vs:List Value}(h:vs.length<2):(vs.toArray.zip vs.toArray).map (·.2)=vs.toArray:=by
 cases vs with
 |nil=>simp
 |cons x r=>cases r with
  |nil=>simp
  |cons=>exact absurd h (by simp)
theorem qr {a:Addr}{vs:List Value}{n:Nat}{P:PySem.Fin->Shared->Prop}(ho:s.heap.get? a=some (seqObj "list" vs.toArray n)) (h1:vs.length<2)
  (h:P (.done (.ret .none)) { s with heap:=sortedHeap s.heap a vs vs.toArray }):wpAny (model pw w) A (Builtin.«list.sort» ⟨[.ref a],[]⟩) P E s:=by
 refine wpe (list_sort_plain ..) ?_
 have ha:a<s.heap.objs.size:=Heap.lt_size ho
 refine wpAny_bind (listItems_at ho rfl ?_)
 refine wpAny_bind (listUpdate_at ho rfl ?_)
 obtain⟨e1,ho1⟩:∃e1,(s.heap.update a (Obj.mapSeq λ_=>#[])).get? a=some (seqObj "list" #[] e1):=⟨_,get?_update_seq ho (λ_=>#[])⟩
 refine wpAny_bind (seqEpoch_at ho1 rfl ?_)
 refine wpAny_bind (wpAny_newTuple ?_)
 refine wpAny_bind (wpAny_newList ?_)
 refine wpAny_holding ?_
 have ho6:(((s.heap.update a (Obj.mapSeq λ_=>#[])).push (seqObj "tuple" vs.toArray 0)).push (seqObj "list" #[] 0)).get? a=some (seqObj "list" #[] e1):=by
  rw [Heap.get?_push_ne _ _ _ (by rw [size_push',Heap.size_update];exact Nat.ne_of_lt (Nat.lt_succ_of_lt ha)),Heap.get?_push_ne _ _ _ (by rw [Heap.size_update];exact Nat.ne_of_lt ha)]
  exact ho1
 show wpAny (model pw w) A _ P E { s with heap:=((s.heap.update a (Obj.mapSeq λ_=>#[])).push (seqObj "tuple" vs.toArray 0)).push (seqObj "list" #[] 0) }
 dsimp only
 have hsz:vs.toArray.size=vs.length:=by simp
 have h2:vs.toArray.size<2:=by rw [hsz];exact h1
 refine wit h2 ?_;rw [if_pos h2]
 refine wpAny_bind (wpAny_pure ?_)
 rw [StateT.run_pure]
 refine wpAny_bind (wpAny_pure ?_)
 dsimp only
 refine wpAny_bind (seqEpoch_at ho6 rfl ?_)
 have hout:(arrOf (SortSt.mk' general' (vs.toArray.zip vs.toArray) #[] 7 none)).map (·.2)=vs.toArray:=by
  exact zipm h1
 refine wpAny_bind (listUpdate_at ho6 rfl ?_ (hsz2:=by rw [hout,hsz];have:sizeLine=2 ^ 24:=rfl;lia))
 simp only [bne_self_eq_false,Bool.false_eq_true,if_false]
 refine wpAny_pure ?_
 show P (.done (.ret .none)) { s with heap:=sortedHeap s.heap a vs ((arrOf (SortSt.mk' general' (vs.toArray.zip vs.toArray) #[] 7 none)).map (·.2)) }
 rw [hout]
 exact h
theorem gX {v:Value}{Q:Value->Shared->Prop}(hcol:∀(A':Around) (E':Value->Shared->Prop) (Q':List Value->Shared->Prop),A'.handled=A.handled->(∀h' tk vs,vs.length<2->(∀b o,s.heap.get? b=some o->h'.get? b=some o) ->
   (∀D h'' tk',(∀b o,s.heap.get? b=some o->h''.get? b=some o)->s.heap.objs.size<=D->(∃c,h''.get? D=some (seqObj "list" vs.toArray c))->s.heap.objs.size<=h''.objs.size->Q (.ref D) { s with heap:=h'',toks:=tk' })->s.heap.objs.size<=h'.objs.size->Q' vs { s with heap:=h',toks:=tk })->wpAny (model pw w) A' (collect v) Q' E' s) :
  wpAny (model pw w) A (PySem.call (.builtin "sorted") [v]) Q E s:=by
 refine Calls.call_function_entry kind_sorted plain_sorted entry_sorted (args_sorted1 _) ?_
 unfold Builtin.«sorted»
 refine wpAny_bind (wpAny_pure ?_)
 refine wpAny_bind (hcol _ _ _ rfl λh1 tk vs hl k1 fin sz=>?_)
 refine wpAny_bind (wpAny_newList ?_ (by have:sizeLine=2 ^ 24:=rfl;lia))
 have hoL:(h1.push (seqObj "list" vs.toArray 0)).get? h1.objs.size=some (seqObj "list" vs.toArray 0):=Heap.get?_push_size _ rfl
 show wpAny _ _ _ _ _ { s with heap:=h1.push (seqObj "list" vs.toArray 0),toks:=tk }
 refine wpAny_bind (wpAny_holding (wpAny_call_entry slot_list_sort (yEA _ hoL rfl) entry_list_sort (qr (s:={ s with heap:=h1.push (seqObj "list" vs.toArray 0),toks:=tk }) hoL hl (yEA _ rfl ?_)) (args_list_sort _)))
 refine wpAny_pure (yEA _ rfl ?_)
 refine fin h1.objs.size _ tk (λb o q=>?_) sz ?_ ?_
 ·have hb:b ≠ h1.objs.size:=Nat.ne_of_lt (Heap.lt_size (k1 b o q))
  unfold sortedHeap
  exact (Heap.get?_update_other _ _ (Ne.symm hb)).trans (Heap.get?_push_of_some _ (Heap.get?_push_of_some _ ((Heap.get?_update_other _ _ (Ne.symm hb)).trans (Heap.get?_push_of_some _ (k1 b o q)))))
 ·unfold sortedHeap
  refine⟨_,get?_update_seq (xs:=#[]) (n:=(if (#[]:Array Value).size==vs.toArray.size then 0 else 0+1)) (Heap.get?_push_of_some _ (Heap.get?_push_of_some _ (get?_update_seq hoL λ_=>#[]))) λ_=>vs.toArray⟩
 ·unfold sortedHeap
  rw [Heap.size_update,size_push',size_push',Heap.size_update,size_push']
  lia
theorem oI {α:Type}{l:List α}{k:Bool}(e:one l k=true):l.length<2/\k=true:=by
 match l,e with
 | [],e=>exact⟨by simp,e⟩
 | [_],e=>exact⟨by simp,e⟩
 |_::_::_,e=>exact nf e
theorem mK {d:Addr}{kvs:List (Int × Value)}{Q:List Value->Shared->Prop}(hh:A.handled=none) (lo:(d==sysModules)=false) (hm:s.heap.DictOf (intKind pw w) d kvs) (hl:kvs.length<=sizeLine)
  (h:∀h' tk vs,vs.length=kvs.length->(∀(j:Nat) (v:Value),vs[j]? = some v->∃(k:Int) (x:Value),kvs[j]? = some (k,x)/\(intKind pw w).is k v=true)->(∀b o,s.heap.get? b=some o->h'.get? b=some o)->Q vs { s with heap:=h',toks:=tk }):wpAny (model pw w) A (collect (.ref d)) Q E s:=by
 obtain⟨ep,hat⟩:=hm.dictAt
 delta collect
 refine wpAny_bind (wpAny_runValue (codeAny_builtin entry_proto_collect' ?_))
 rw [Around.under_plainId PySem.F.plain_proto_collect _]
 refine wpAny_bind (wpAny_newList (wpAny_pure ⟨Code.quiet_builtin _ (by decide +kernel),codeAny_builtin entry_list_iadd' ?_⟩))
 rw [Around.under_plainId PySem.F.plain_list_iadd _]
 have hd:d<s.heap.objs.size:=hat.lt_size
 have hat':(s.heap.push (seqObj "list" #[] 0)).DictAt (intKind pw w) d kvs ep:=hat.push _
 refine kdl_extend (R:=λr s'=>match r with|.ok (.ret v)=>wpAny (model pw w) A (match v with|.ref a=>do (match (<-load a).data with|.seq xs _=>pure xs.toList|_=>unsupported "internal:collect")|_=>unsupported "internal:collect") Q E s' | .ok _=>False|.error e=>E e s') (A:=A) (s:={ s with heap:=s.heap.push (seqObj "list" #[] 0) }) (kdl_dict (kvs:=kvs) (ep:=ep) lo) hh hat' s.heap.objs.size (Nat.ne_of_gt hd) (Nat.ne_of_gt hd) (.ref s.heap.objs.size) 0 (Heap.get?_push_size _ rfl) (λh' tk acc c' k1 k2 k3=>?_) hl
 refine wpAny_bind (wpAny_load k2 ?_)
 refine wpAny_pure (h h' tk acc.toList (by rw [Array.length_toList];exact k3.1) (λj v q=>k3.2 j v (by rw [<-Array.getElem?_toList];exact q)) λb o q=>k1 b o (Nat.ne_of_lt (Heap.lt_size q)) (Heap.get?_push_of_some _ q))
theorem r7 (GS:(oh.get? sysModules).isSome=true):jD w V oh false gK (.builtin "sorted"):=by
 intro A n rm ho vs h k e W s vals I R Q E p
 have hh:=ho.none
 refine arg1_k e λx r1_ e1=>?_;subst r1_
 refine R.one_k λv r1_ Rx=>?_;subst r1_
 refine onO_k e1 λpp o r2_ hoo e2=>?_;subst r2_
 refine Rx.rf λla ha r2_=>?_;clear Rx;subst r2_
 have r:=I.at hoo ha
 refine WG.of ?_
 have hz:sizeLine=2 ^ 24:=rfl
 cases o with
 |list l=>
  refine bG λ_ kk=>?_
  obtain⟨e3,e4⟩:=oI (show one l (Mine.alloc (.list l) h k)=true from e2)
  refine bf r λys m g1 g2=>?_;clear r
  refine kk ?_
  have hl:ys.toList.length<2:=by rw [<-g2.length];exact e3
  refine gX λA' E' Q' hA q=>aV (collect_list (vs:=ys.toList) (yEAAE _ g1 rfl m rfl) (λsz=>?_) (by lia))
  have keep:∀b o,s.heap.get? b=some o->((s.heap.push (seqObj "list" #[] 0)).update s.heap.objs.size (Obj.mapSeq (· ++ ys.toList.toArray))).get? b=some o:=λb o e=>
   (Heap.get?_update_other _ _ (Nat.ne_of_gt (Heap.lt_size e))).trans (Heap.get?_push_of_some _ e)
  refine q _ s.toks ys.toList hl keep (λD h'' tk' c1 c2 c3 c4=>?_) sz
  obtain⟨c,c3⟩:=c3
  exact p.fresh e4 I c1 c4 c2 (Heap.lt_size c3) λW' le=>yEEA _ _ c3 (by simpa using g2.mono le.1)
 |bk l=>
  obtain⟨e3,e4⟩:=oI (show one l (Mine.alloc (.list (lW IE.key l)) h k)=true from e2)
  refine aI r λkvs hm g2=>?_;clear r
  have hk:l.length=kvs.length:=by rw [<-len_eq];exact g2.len
  refine gX λA' E' Q' hA q=>aV (mK (hA.trans hh) (eQ GS I ha) hm (by lia) λh' tk vs c1 c2 c3 sz=>q h' tk vs (by lia) c3 (λD h'' tk' d1 d2 d3 d4=>?_) sz)
  obtain⟨c,d3⟩:=d3
  exact p.fresh e4 I d1 d4 d2 (Heap.lt_size d3) λW' le=>yEEA _ _ d3 (by simpa using (lG g2 c1 c2).mono le.1)
 |_=>exact nf e2
end
end
section
section
variable {w:World}{V:Va}{oh:Heap}{kH:Bool}{fi:aY}{A:Around}{E:Value->Shared->Prop}{s:Shared}{env:Env}
theorem cI {value slice:PySem.Expr}{pos:Pos}{Q:Value->Shared->Prop}(h:WG (model pw w) A (eval value env) (λo s₁=>WG (model pw w) A (eval slice env) (λi s₂=>WG (model pw w) A (subscriptTail value slice o i) Q E s₂) E s₁) E s) :
  WG (model pw w) A (eval (.Subscript value slice pos) env) Q E s:=by
 refine WG.eq (eval_Subscript ..) ?_
 exact WG.bind (WG.mono h (λo s₁ h₁=>WG.bind (WG.hold (WG.mono h₁ (λi s₂ h₂=>WG.aA h₂) λ_ _ x=>x))) λ_ _ x=>x)
theorem fh {value slice:PySem.Expr}{o i:Value}{T id:String}{Q:Value->Shared->Prop}(hs:∃l,subscripted slice false o i=operate l (getItem o i)) (hT:s.TypeIs o T)
  (hl:typeLookup (.type T) "__getitem__" = Pure.pure (some (.builtin id))) (h:wpAny (model pw w) A (getItem o i) Q E s):wpAny (model pw w) A (subscriptTail value slice o i) Q E s:=by
 unfold subscriptTail
 refine wpAny_bind ?_
 refine wpe (getitemInPython_of_ne hT.not_modules ..) ?_
 refine wpAny_bind (wpAny_specialOf hT hl ?_)
 have fin:wpAny (model pw w) A (subscripted slice false o i) (λr s₃=>wpAny (model pw w) A (letTemporaryGo value o r >>= λ_=>Pure.pure r) Q E s₃) E s:=by
  obtain⟨l,e⟩:=hs
  rw [e]
  exact wpAny_operating (wpAny_mono h (λr s₃ h₃=>wpAny_bind (wpAny_letTemporaryGo (wpAny_pure h₃))) λ_ _ x=>x)
 first
  |exact wpAny_pure (wpAny_bind fin)
  |exact wpAny_bind (wpAny_pure (wpAny_bind fin))
  |exact wpAny_bind fin
theorem r8 {μ:Mu}(n:Nat) (t:Tok):Rep V μ (qQ n) (.int ((V.byte n).toNat:Int) t):=by
 have e:qQ n=Bool.rec (motive:=λ_=>AV) (.o (.oc (Nat.sub n 256))) (.nat n) (ltN n 256):=rfl
 rw [e]
 cases h:ltN n 256 with
 |true=>
  have hn:n<256:=Nat.le_of_ble_eq_true (show Nat.ble (n+1) 256=true from h)
  refine⟨t,?_⟩
  have:(V.byte n).toNat=n:=by
   unfold Va.byte;rw [if_pos hn];simp [UInt8.toNat_ofNat'];omega
  rw [this]
 |false=>
  have hn:¬n<256:=λq=>by
   have:ltN n 256=true:=Nat.ble_eq_true_of_le q
   rw [h] at this;exact nf this
  refine⟨t,?_⟩
  have h1:=V.tT (n - 256)
  have:(V.byte n).toNat=65+V.oct (n - 256):=by
   unfold Va.byte;rw [if_neg hn];simp [UInt8.toNat_ofNat'];omega
  rw [this];rfl
theorem ux {α:Type}(l:List α) (n:Nat):Mine.head (Mine.drop n l)=l[n]?:=by
 rw [drop_eq]
 have:∀m:List α,Mine.head m=m.head?:=λm=>by cases m<;>rfl
 rw [this,List.head?_drop]
theorem qs {b:Array UInt8}{t u:Tok}{n:Nat}{c:UInt8}{Q:Value->Shared->Prop}(hn:n<=4096) (hc:b[n]? = some c) (h:Q (.int c.toNat s.toks) { s with toks:=s.toks+1 }) :
  wpAny (model pw w) A (getItem (.bytes b t) (.int (n:Int) u)) Q E s:=by
 have hlt:n<b.size:=by
  rcases Nat.lt_or_ge n b.size with h|h
  ·exact h
  ·rw [Array.getElem?_eq_none h] at hc;exact nn hc
 refine getItem_gives (typeIs_bytes s _ t) (by decide) FB.slot_bytes_getitem FB.entry_bytes_getitem (FB.args_bytes_getitem_2 _ _) (gives_bytes_getitem _ _ t u c ?_ ?_) h
 ·simp only [Builtin.Bytes.fitsIndex,Bool.and_eq_true,decide_eq_true_eq];lia
 ·have:seqIndex? (n:Int) b.size=some n:=by
   have h2:¬(n:Int)<0:=by exact Int.not_lt.mpr (Int.natCast_nonneg _)
   have h3:(n:Int)<b.size:=by lia
   simp [seqIndex?,h2,h3]
  rw [this];exact hc
theorem rl {value slice:PySem.Expr}(hs:∀o i,∃l,subscripted slice false o i=operate l (getItem o i)){W:Wd}{h:H}{k:K1}{la:Addr}{l:List DE}{b:AV}{v:Value}{n:Nat}(rm:Rm n A) (I:Inv w V oh W h s.heap)
  (r:∃S xs,s.heap.DictOfH (aK w S) la xs/\cK V W.μ l xs) (e:(rP h b λq=>lV q l false λv=>k v h)=true) (Rb:Rep V W.μ b v){Q:Value->Shared->Prop}(p:cO w V oh k W s Q) :
  wpAny (model pw w) A (subscriptTail value slice (.ref la) v) Q E s:=by
 obtain⟨ad,q,c,rfl,hq,hc,hdp,e4⟩:=cY I e Rb
 refine bf r λS xs hm r=>?_
 obtain⟨e5,S',hm',hk⟩:=cZ hm r hq hc hdp e4
 have hr:(aK w S').room A.in1:=by show A.units+1+9<cLine;have:=rm.2;lia
 rcases dX hq r e5 with ⟨x1,x2⟩|⟨v,a',x,x1,x3,x2⟩
 ·exact nf x2
 ·exact fh (hs _ _) hm'.typeIs slot_dict_getitem.lookup (wpAny_getItem_heap hr hk hm' x1 (p.now x2 I x3 _))
theorem uy {value slice:PySem.Expr}(hs:∀o i,∃l,subscripted slice false o i=operate l (getItem o i)){W:Wd}{h:H}{k:K1}{la:Addr}{l:List IE}{b:AV}{v:Value}(I:Inv w V oh W h s.heap)
  (r:∃kvs,s.heap.DictOf (intKind pw w) la kvs/\cU V W.μ l kvs) (e:(aG b λn=>kh n l false λv=>k v h)=true) (Rb:Rep V W.μ b v){Q:Value->Shared->Prop}(p:cO w V oh k W s Q) :
  wpAny (model pw w) A (subscriptTail value slice (.ref la) v) Q E s:=by
 refine onNat_k e λn r1_ e1=>?_;subst r1_
 obtain⟨t,rfl⟩:=Rb
 refine aI r λkvs hm r=>?_
 rcases gk r e1 with ⟨x1,x2⟩|⟨v,x,x1,x3,x2⟩
 ·exact nf x2
 ·exact fh (hs _ _) hm.typeIs slot_dict_getitem.lookup (wpAny_getItem_of intKind_is hm.mapOf x1 (p.now x2 I x3 _))
theorem ix_s {value slice:PySem.Expr}(hs:∀o i,∃l,subscripted slice false o i=operate l (getItem o i)):qV w V oh kH ixC (subscriptTail value slice):=by
 intro A n rm ho a b h k e W s u v I Ra Rb Q E p
 cases a with
 |ref q=>
  have e0:(h.get q λo=>AO.rec (motive:=λ_=>Bool) (λ_ _=>false) (λl=>aG b λn=>az (Nat.ble n 4096) (opt (head (drop n l)) λv=>k v h) false) (λl=>aG b λn=>az (Nat.ble n 4096) (opt (head (drop n l)) λv=>k v h) false)
   (λl=>rP h b λq=>lV q l false λv=>k v h) (λ_=>false) (λ_=>false) (λ_ _=>false) (λl=>aG b λn=>kh n l false λv=>k v h) (λl=>rP h b λq=>lV q l false λv=>k v h) (λl=>aG b λn=>kh n l false λv=>k v h) o)=true:=e
  refine H_k e0 λo ho' e1=>?_
  refine Ra.rf λla ea r2_=>?_;clear Ra;subst r2_
  have r:=I.at ho' ea
  cases o with
  |list l=>
   refine onNat_k (show (aG b λn=>az (Nat.ble n 4096) (opt (head (drop n l)) λv=>k v h) false)=true from e1) λm r1_ e2=>?_;subst r1_
   obtain⟨e3,e4⟩:=aN e2
   have hm:=Nat.le_of_ble_eq_true e3
   refine opt_k e4 λav e5 e6=>?_
   obtain⟨t,rfl⟩:=Rb
   refine isList_k r λxs g1 g2=>?_
   rcases g2.at m with ⟨z,_⟩|⟨x,y,z1,z2,z3⟩
   ·rw [e5] at z;cases z
   ·rw [e5] at z1;cases z1
    exact fh (hs _ _) g1.typeIs slot_list_getitem.lookup (wpAny_getItem_list g1 (by exact Int.natCast_nonneg _) (by lia) (by rw [<-Array.getElem?_toList];exact z2) (p.here e6 I z3))
  |tup l=>
   refine onNat_k (show (aG b λn=>az (Nat.ble n 4096) (opt (head (drop n l)) λv=>k v h) false)=true from e1) λm r1_ e2=>?_;subst r1_
   obtain⟨e3,e4⟩:=aN e2
   have hm:=Nat.le_of_ble_eq_true e3
   refine opt_k e4 λav e5 e6=>?_
   obtain⟨t,rfl⟩:=Rb
   refine bf r λxs c g1 g2=>?_;clear r
   rcases g2.at m with ⟨z,_⟩|⟨x,y,z1,z2,z3⟩
   ·rw [e5] at z;cases z
   ·rw [e5] at z1;cases z1
    have z4:xs[m]? = some y:=by rw [<-Array.getElem?_toList];exact z2
    have hlt:m<xs.size:=by
     rcases Nat.lt_or_ge m xs.size with h|h
     ·exact h
     ·rw [Array.getElem?_eq_none h] at z4;exact nn z4
    exact fh (hs _ _) (yEA _ g1 rfl) slot_tuple_getitem.lookup (PySem.P.getItem_tuple g1 (by exact Int.natCast_nonneg _) (by lia) (by simp [seqIndex?];lia) z4 (p.here e6 I z3))
  |dict l=>exact rl hs rm I r e1 Rb p
  |ld l=>exact rl hs rm I r e1 Rb p
  |bk l=>exact uy hs I r e1 Rb p
  |li l=>exact uy hs I r e1 Rb p
  |_=>exact nf e1
 |o x=>
  refine onBytes_k (show (onBytes (.o x) λl=>aG b λn=>az (Nat.ble n 4096) (opt (head (drop n l)) λv=>k (qQ v) h) false)=true from e) λl hx e1=>?_
  cases hx
  refine onNat_k e1 λm r1_ e2=>?_;subst r1_
  obtain⟨e3,e4⟩:=aN e2
  have hm:=Nat.le_of_ble_eq_true e3
  refine opt_k e4 λn' e5 e6=>?_
  obtain⟨t,rfl⟩:=Rb
  obtain⟨t',rfl⟩:=Ra
  refine fh (hs _ _) (typeIs_bytes _ _ _) FB.slot_bytes_getitem.lookup (qs hm (c:=V.byte n') ?_ (p.now e6 I (r8 _ _) _))
  rw [ux] at e5
  simp [e5]
 |_=>exact nf e
theorem sIx {a b:EC}{ea eb:PySem.Expr}{pos:Pos}(hs:∀o i,∃l,subscripted eb false o i=operate l (getItem o i)) (ha:SE w V oh kH fi a ea) (hb:SE w V oh kH fi b eb):SE w V oh kH fi (bU a b) (.Subscript ea eb pos):=
 λx r h k e W s I F Q E p=>cI (ha x r h _ e W s I F _ _ λav h1 v W1 s1 e1 R1 I1 S1=>hb x r h1 _ e1 W1 s1 I1 (F.step _ _ S1) _ _ λbv h2 u W2 s2 e2 R2 I2 S2=>
  WG.of (ix_s hs x.A x.n x.rm x.ho av bv h2 k e2 W2 s2 v u I2 (R1.mono S2.le.1) R2 Q E (p.after (S1.trans S2))))
end
end
section
set_option genInjectivity false
set_option genSizeOf false
section
variable {w:World}{V:Va}{oh:Heap}{kH:Bool}{fi:aY}{A:Around}{E:Value->Shared->Prop}{s:Shared}{env:Env}
noncomputable def pk {α:Type}(lo hi:Option Int) (l:List α):List α:=(l.drop (kms_lo lo l.length)).take (kms_hi hi l.length - kms_lo lo l.length)
structure Ends (lo hi:Option Int) (n m:Nat):Prop where
 lo:lo=none/\n=0∨lo=some (n:Int)
 hi:hi=none/\m=4097∨hi=some (m:Int)
theorem Ends.klo {lo hi:Option Int}{n m:Nat}(x:Ends lo hi n m) (k:Nat):kms_lo lo k=min n k:=by
 rcases x.lo with ⟨rfl,rfl⟩|rfl
 ·rfl
 ·rfl
theorem Ends.khi {lo hi:Option Int}{n m:Nat}(x:Ends lo hi n m){k:Nat}(hk:k<=4096):kms_hi hi k=min m k:=by
 rcases x.hi with ⟨rfl,rfl⟩|rfl
 ·simp [kms_hi];lia
 ·rfl
theorem Ends.pk {α:Type}{lo hi:Option Int}{n m:Nat}(x:Ends lo hi n m){l:List α}(hl:l.length<=4096):pk lo hi l=(l.take m).drop n:=by
 unfold Mine.pk
 rw [x.klo,x.khi hl,kmk_drop_min,List.drop_take]
 rcases Nat.le_total n l.length with h|h
 ·rw [Nat.min_eq_left h]
  rcases Nat.le_total m l.length with h' | h'
  ·rw [Nat.min_eq_left h']
  ·rw [Nat.min_eq_right h',List.take_of_length_le (by simp),List.take_of_length_le (by simp;lia)]
 ·rw [List.drop_of_length_le h];simp
theorem rq {α β:Type}(f:α->β) (l:List α) (n m:Nat):((l.map f).take m).drop n=((l.take m).drop n).map f:=by rw [List.map_drop,List.map_take]
theorem uz {α:Type}(l:List α) (n m:Nat):Mine.drop n (Mine.take m l)=(l.take m).drop n:=by rw [drop_eq,qS]
theorem lH (b:Array UInt8) (lo hi:Option Int):Builtin.Bytes.sliced b (sliceBounds lo hi none b.size).1 (sliceBounds lo hi none b.size).2.1 (sliceBounds lo hi none b.size).2.2=(pk lo hi b.toList).toArray:=by
 rw [kms_bounds]
 delta Builtin.Bytes.sliced Mine.pk
 simp only [sliceRange_one,pick_run,Array.length_toList]
theorem dc:Slot "bytearray" "__getitem__" "bytearray.__getitem__":=
 .of (owner:="bytearray") (n:="__getitem__") (by rw [typeLookup_type,builtinLookup_eq_fast];kernel_rfl) (by decide +kernel) (by decide +kernel) (by decide +kernel)
  (by first|exact .inl (by decide +kernel)|exact .inr (by decide +kernel)) (by rw [isSubtype_type];kernel_rfl)
theorem gY:entryFor table "bytearray.__getitem__" = some Builtin.«bytearray.__getitem__»:=by first|exact entryFor_of_fast (by kernel_rfl)|exact entryFor_of_tree (by kernel_rfl)
theorem iw (a b:Value):argsOk "bytearray.__getitem__" ⟨[a,b],[]⟩:=by
 unfold argsOk;rw [signature?_of (id:="bytearray.__getitem__") (n:=['_','_','m','e','t','i','t','e','g','_','_']) (o:=['y','a','r','r','a','e','t','y','b']) (by kernel_rfl) fJ];kernel_rfl
theorem zc {a:Addr}{l u:Value}{lo hi:Option Int}(hl:IsPart l lo) (hu:IsPart u hi) (hs:s.heap.IsSliceOf a l u .none){Q:Value × Value × Value->Shared->Prop}(h:Q (rawPart lo,rawPart hi,rawPart none) s) :
  wpAny (model pw w) A (Builtin.Bytes.sliceParts (.ref a)) Q E s:=by
 refine cS hs λo ho hc hd=>?_;clear hs
 unfold Builtin.Bytes.sliceParts
 refine wpAny_bind (wpAny_field (x:=.none) ho hd rfl ?_)
 kby_none
 refine wpAny_ite (KBy.ite_no (show ¬((Value.none==rawInt 0)=true) from Bool.false_ne_true) ?_)
 refine wpAny_bind (wpAny_field (x:=l) ho hd rfl ?_)
 cases hl<;>cases hu<;>(first
  |(kby_none;(refine wpAny_bind (wpAny_field (x:=.none) ho hd rfl ?_));kby_none)
  |(kby_none;(refine wpAny_bind (wpAny_field (x:=.int _ _) ho hd rfl ?_));kby_int)
  |(kby_int;(refine wpAny_bind (wpAny_field (x:=.none) ho hd rfl ?_));kby_none)
  |(kby_int;(refine wpAny_bind (wpAny_field (x:=.int _ _) ho hd rfl ?_));kby_int))<;>exact wpAny_pure h
theorem wH {a sl:Addr}{b:Array UInt8}{l u:Value}{lo hi:Option Int}(hb:s.heap.get? a=some { cls:=.type "bytearray",data:=.bytearray b }) (hl:IsPart l lo) (hu:IsPart u hi) (hs:s.heap.IsSliceOf sl l u .none) (hz:b.size<=4096){Q:Value->Shared->Prop}
  (h:Q (.ref s.heap.objs.size) { s with heap:=s.heap.push { cls:=.type "bytearray",data:=.bytearray (pk lo hi b.toList).toArray } }):wpAny (model pw w) A (getItem (.ref a) (.ref sl)) Q E s:=by
 refine cS (id hs) λo ho hc hd=>?_
 have hT:s.TypeIs (.ref sl) "slice":=yEA o ho hc
 have hTa:s.TypeIs (.ref a) "bytearray":=yEA _ hb rfl
 unfold getItem
 try with_reducible refine wpAny_holding ?_
 first|refine wpAny_bind (wpAny_pure ?_)|skip
 refine wpAny_bind (wpAny_sequenceKey hTa (by decide) ?_)
 refine wpAny_bind (wpAny_callSpecial?_slot (name:=Str.ofString "__getitem__") hTa dc
  (wpAny_call_entry dc hTa gY ?_ (iw _ _)))
 show wpAny _ _ (Builtin.Bytes.subscript? (.ref sl) >>= _) _ _ s
 refine wpAny_bind ?_
 unfold Builtin.Bytes.subscript?
 refine wpAny_bind (wpAny_specialOf hT slice_no_index ?_)
 refine wpAny_pure ?_
 refine wpAny_bind (wpAny_typeOf hT ?_)
 refine wif (by decide) ?_
 refine wpAny_bind (zc hl hu hs ?_)
 refine wpAny_bind (eT hb rfl ?_)
 refine wpAny_bind (wpAny_of_eq (sliceIndices_raw lo hi none b.size (λe=>nomatch e)) ?_)
 have hsz:(pk lo hi b.toList).length<=4096:=by
  unfold pk;rw [List.length_take,List.length_drop,Array.length_toList];lia
 refine wpAny_bind (m:=Builtin.Bytes.newBytearray _) ?_
 unfold Builtin.Bytes.newBytearray
 show wpAny _ _ (newObj (.type "bytearray") (.bytearray (Builtin.Bytes.sliced b (sliceBounds lo hi none b.size).1 (sliceBounds lo hi none b.size).2.1 (sliceBounds lo hi none b.size).2.2))) _ _ s
 rw [lH]
 refine wpAny_newObj_type (wpAny_pure (yEA _ rfl (wpAny_pure h))) ?_
 show (pk lo hi b.toList).toArray.size<=sizeLine
 rw [List.size_toArray];exact br (Nat.ble_eq_true_of_le hsz)
theorem uA {v:Value}{o:Option Int}(p:IsPart v o){Q:Option Int->Shared->Prop}(h:Q o s):wpAny (model pw w) A (Builtin.Slice.slicePartIndex v) Q E s:=by
 cases p
 ·exact slicePart_none h
 ·exact slicePart_int h
theorem Ends.zd {lo hi:Option Int}{n m:Nat}(x:Ends lo hi n m){k:Nat}(hk:k<=4096):Builtin.Slice.sliceAdjust lo hi 1 (k:Int)=(((min n k:Nat):Int),((min m k:Nat):Int)):=by
 unfold Builtin.Slice.sliceAdjust
 have h1:¬((1:Int)<0):=by decide
 rcases x.lo with ⟨rfl,rfl⟩|rfl<;>rcases x.hi with ⟨rfl,rfl⟩|rfl
 ·simp only [h1,if_false];congr 1<;>lia
 ·simp only [h1,if_false,show ¬((m:Int)<0) by exact Int.not_lt.mpr (Int.natCast_nonneg _)];congr 1<;>lia
 ·simp only [h1,if_false,show ¬((n:Int)<0) by exact Int.not_lt.mpr (Int.natCast_nonneg _)];congr 1<;>lia
 ·simp only [h1,if_false,show ¬((n:Int)<0) by exact Int.not_lt.mpr (Int.natCast_nonneg _),show ¬((m:Int)<0) by exact Int.not_lt.mpr (Int.natCast_nonneg _)];congr 1<;>lia
theorem qt (a b:Nat):Builtin.Slice.slicePlaces (a:Int) (b:Int) 1=b - a:=by
 unfold Builtin.Slice.slicePlaces
 have h1:(1:Int) > 0:=by decide
 simp only [h1,if_true,Int.ediv_one]
 split<;>lia
theorem uB (xs:Array Value) (a c:Nat):((List.range c).filterMap λ(k:Nat)=>xs[((a:Int)+(k:Int)*1).toNat]?).toArray=((xs.toList.drop a).take c).toArray:=by
 have e:(λ(k:Nat)=>xs[((a:Int)+(k:Int)*1).toNat]?)=λk=>xs[a+k]?:=by
  funext k
  have:((a:Int)+(k:Int)*1).toNat=a+k:=by lia
  rw [this]
 rw [e]
 have:=pick_run xs a c
 rw [List.filterMap_map] at this
 have e2:((λx=>xs[x]?) ∘ λx=>a+x)=λk=>xs[a+k]?:=rfl
 rw [e2] at this
 rw [this]
theorem wI {t sl:Addr}{items:Array Value}{l u:Value}{lo hi:Option Int}{n m:Nat}(x:Ends lo hi n m) (ht:IsTup s.heap t items) (hl:IsPart l lo) (hu:IsPart u hi) (hs:s.heap.IsSliceOf sl l u .none) (hz:items.size<=4096) (hm:m<items.size)
  {Q:Value->Shared->Prop}(h:Q (.ref s.heap.objs.size) { s with heap:=s.heap.push { cls:=.type "tuple",data:=.seq ((items.toList.take m).drop n).toArray } }):wpAny (model pw w) A (getItem (.ref t) (.ref sl)) Q E s:=by
 have hdrop:sizeOk (.seq ((items.toList.take m).drop n).toArray):=by
  show ((items.toList.take m).drop n).toArray.size<=sizeLine
  rw [List.size_toArray,List.length_drop,List.length_take,Array.length_toList]
  have:=br (Nat.ble_eq_true_of_le hz)
  lia
 refine cS (id hs) λos hos hcs hds=>?_
 have hTs:s.TypeIs (.ref sl) "slice":=yEA os hos hcs
 unfold getItem
 try with_reducible refine wpAny_holding ?_
 first|refine wpAny_bind (wpAny_pure ?_)|skip
 refine wpAny_bind (wpAny_sequenceKey ht.typeIs (by decide) ?_)
 refine wpAny_bind (wpAny_callSpecial?_slot (name:=Str.ofString "__getitem__") ht.typeIs slot_tuple_getitem
  (wpAny_call_entry slot_tuple_getitem ht.typeIs entry_tuple_getitem ?_ (args_tuple_getitem _ _)))
 show wpAny _ _ (Builtin.Tuple.tupleItemsOf (.ref t) >>= _) _ _ s
 refine wpAny_bind (tupleItemsOf_ ht ?_)
 refine wpAny_bind (wpAny_typeOf hTs ?_)
 refine wit (by decide) ?_
 refine wpAny_bind (m:=Builtin.Slice.sliceApplied _ _) ?_
 unfold Builtin.Slice.sliceApplied Builtin.Slice.sliceFields
 refine wpAny_bind (wpAny_bind (wpAny_field hos hds (x:=l) rfl (wpAny_bind (wpAny_field hos hds (x:=u) rfl (wpAny_bind (wpAny_field hos hds (x:=.none) rfl (wpAny_pure ?_)))))))
 refine wpAny_bind (slicePart_none ?_)
 refine wif (by decide) ?_
 refine wpAny_bind (uA hl (wpAny_bind (uA hu (wpAny_bind (wpAny_pure ?_)))))
 show wpAny _ _ (match Builtin.Slice.sliceAdjust lo hi 1 ((items.size:Nat):Int) with|(lo,hi)=>Pure.pure (lo,(1:Int),Builtin.Slice.slicePlaces lo hi 1)) _ _ s
 rw [x.zd hz]
 show wpAny _ _ (Pure.pure (((min n items.size:Nat):Int),(1:Int),Builtin.Slice.slicePlaces ((min n items.size:Nat):Int) ((min m items.size:Nat):Int) 1)) _ _ s
 rw [qt]
 refine wpAny_pure ?_
 have hno:¬((((min n items.size:Nat):Int)==0&&(1:Int)==1&&(min m items.size - min n items.size)==items.size)=true):=by
  have:((min m items.size - min n items.size)==items.size)=false:=by rw [beq_eq_false_iff_ne];lia
  rw [this];simp
 refine wif hno ?_;rw [uB]
 have e:(items.toList.drop (min n items.size)).take (min m items.size - min n items.size)=(items.toList.take m).drop n:=by
  have:=x.pk (l:=items.toList) (by rw [Array.length_toList];exact hz)
  unfold Mine.pk at this
  rw [x.klo,x.khi (by rw [Array.length_toList];exact hz),Array.length_toList] at this
  exact this
 rw [e]
 first
  |exact wpAny_bind (m:=Builtin.Tuple.tupleExact _) (wpAny_newObj_type (wpAny_pure (yEA _ rfl (wpAny_pure h))) hdrop)
  |exact wpAny_bind (m:=Builtin.Tuple.tupleExact _) (wpAny_newObj_type (wpAny_bind (wpAny_pure (wpAny_pure ⟨_,rfl,wpAny_pure h⟩))) hdrop)
  |exact wpAny_bind (wpAny_bind (m:=Builtin.Tuple.tupleExact _) (wpAny_newObj_type (wpAny_pure (wpAny_pure ⟨_,rfl,wpAny_pure h⟩)) hdrop))
  |exact wpAny_bind (wpAny_bind (m:=Builtin.Tuple.tupleExact _) (wpAny_newObj_type (wpAny_pure ⟨_,rfl,wpAny_pure h⟩) hdrop))
theorem r9 {b:Array UInt8}{t:Tok}{sl:Addr}{l u:Value}{lo hi:Option Int}(hl:IsPart l lo) (hu:IsPart u hi) (hs:s.heap.IsSliceOf sl l u .none) (hz:b.size<=4096){Q:Value->Shared->Prop}
  (h:∀t' k,Q (.bytes (pk lo hi b.toList).toArray t') { s with toks:=k }):wpAny (model pw w) A (getItem (.bytes b t) (.ref sl)) Q E s:=by
 have e:KBy.picked b lo hi=(pk lo hi b.toList).toArray:=lH b lo hi
 refine getItem_meets (typeIs_bytes _ _ _) (by decide) FB.slot_bytes_getitem FB.entry_bytes_getitem (FB.args_bytes_getitem_2 _ _) (KBc.meets_slice2 b t _ hl hu)
  ⟨hs,Nat.le_trans (KBc.size_picked_le b lo hi) (br (Nat.ble_eq_true_of_le hz)),λt' k=>?_⟩
 rw [e];exact h t' k
theorem uC {value slice:PySem.Expr}(hs:∀o i,∃l,subscripted slice false o i=operate l (getItem o i)){lo hi:Option Int}{n m:Nat}(x:Ends lo hi n m){l u:Value}(hl:IsPart l lo) (hu:IsPart u hi){W:Wd}{h:H}{k:K1}{a:AV}{v:Value}(I:Inv w V oh W h s.heap)
  (R:Rep V W.μ a v) (e:v9 a n m h k=true){sl:Addr}(hsl:s.heap.IsSliceOf sl l u .none){Q:Value->Shared->Prop}(p:cO w V oh k W s Q):wpAny (model pw w) A (subscriptTail value slice v (.ref sl)) Q E s:=by
 cases a with
 |ref q=>
  have e0:(h.get q λo=>AO.rec (motive:=λ_=>Bool) (λ_ _=>false) (λl=>az (Nat.ble (len l) 4096) (Mine.alloc (.list (drop n (take m l))) h k) false) (λl=>az (Nat.ble (len l) 4096) (az (ltN m (len l)) (Mine.alloc (.tup (drop n (take m l))) h k) false) false) (λ_=>false) (λl=>az (Nat.ble (len l) 4096) (Mine.alloc (.nC (drop n (take m l))) h k) false) (λ_=>false) (λ_ _=>false) (λ_=>false) (λ_=>false) (λ_=>false) o)=true:=e
  refine H_k e0 λo ho' e1=>?_
  refine R.rf λla ea r2_=>?_;clear R;subst r2_
  have r:=I.at ho' ea
  cases o with
  |list xs=>
   refine bG λ_ kk=>?_
   obtain⟨e3,e4⟩:=aN (show az (Nat.ble (len xs) 4096) (Mine.alloc (.list (drop n (take m xs))) h k) false=true from e1)
   refine isList_k r λys g1 g2=>?_
   refine kk ?_
   have hz:=Nat.le_of_ble_eq_true e3
   rw [g2.len] at hz
   refine fh (hs _ _) g1.typeIs slot_list_getitem.lookup (wpAny_getItem_list_slice g1 hsl hl hu .none (by simp) ?_ (br (Nat.ble_eq_true_of_le (by simpa using hz))))
   rw [kms_pick_eq]
   refine p.alloc e4 I λW' le _=>yEEA _ _ (Heap.get?_push_size _ rfl) ?_
   have:kms_pick ys.toList lo hi=(ys.toList.take m).drop n:=x.pk (by simpa using hz)
   show aR V W'.μ _ (kms_pick ys.toList lo hi).toArray.toList
   rw [List.toList_toArray,this]
   exact ((g2.take m).drop n).mono le.1
  |tup xs=>
   obtain⟨e3,e4⟩:=aN (show az (Nat.ble (len xs) 4096) (az (ltN m (len xs)) (Mine.alloc (.tup (drop n (take m xs))) h k) false) false=true from e1)
   obtain⟨e5,e6⟩:=aN e4
   refine isTup_k r λys g1 g2=>?_
   have hz:=Nat.le_of_ble_eq_true e3
   have hm:m<len xs:=Nat.le_of_ble_eq_true e5
   rw [g2.len] at hz hm
   refine fh (hs _ _) g1.typeIs slot_tuple_getitem.lookup (wI x g1 hl hu hsl (by simpa using hz) (by simpa using hm) ?_)
   exact p.alloc e6 I λW' le _=>yEEA _ _ (Heap.get?_push_size _ rfl) (((g2.take m).drop n).mono le.1)
  |nC xs=>
   obtain⟨e3,e4⟩:=aN (show az (Nat.ble (len xs) 4096) (Mine.alloc (.nC (drop n (take m xs))) h k) false=true from e1)
   have hz:=Nat.le_of_ble_eq_true e3
   rw [len_eq] at hz
   refine fh (hs _ _) (yEA _ r rfl) dc.lookup (wH r hl hu hsl (by simpa using hz) ?_)
   refine p.alloc e4 I λW' le _=>?_
   have:pk lo hi (xs.map V.byte)=(((xs.take m).drop n).map V.byte):=by rw [x.pk (by simpa using hz),rq]
   show Heap.get? _ _=some { cls:=.type "bytearray",data:=.bytearray ((Mine.drop n (Mine.take m xs)).map V.byte).toArray }
   rw [uz,<-this]
   exact Heap.get?_push_size _ rfl
  |_=>exact nf e1
 |o y=>
  refine onBytes_k (show (onBytes (.o y) λl=>az (Nat.ble (len l) 4096) (k (.o (.bytes (drop n (take m l)))) h) false)=true from e) λxs hx e1=>?_
  cases hx
  obtain⟨e3,e4⟩:=aN e1
  obtain⟨t',rfl⟩:=R
  have hz:=Nat.le_of_ble_eq_true e3
  rw [len_eq] at hz
  refine fh (hs _ _) (typeIs_bytes _ _ _) FB.slot_bytes_getitem.lookup (r9 hl hu hsl (by simpa using hz) λt' j=>p.now e4 I ⟨t',?_⟩ j)
  have:pk lo hi (xs.map V.byte)=(((xs.take m).drop n).map V.byte):=by rw [x.pk (by simpa using hz),rq]
  show Value.bytes (pk lo hi (xs.map V.byte)).toArray t'=_
  rw [uz,this]
 |_=>exact nf e
end
end
section
section
variable {w:World}{V:Va}{oh:Heap}{kH:Bool}{fi:aY}{A:Around}{E:Value->Shared->Prop}{s:Shared}{env:Env}
theorem mL {lower upper:Option PySem.Expr}{p:Pos}{Q:Value->Shared->Prop}
  (h:WG (model pw w) A (valueOrNone (evalOpt lower env)) (λl s₁=>WG (model pw w) A (valueOrNone (evalOpt upper env)) (λu s₂=>
   Q (.ref s₂.heap.objs.size) { s₂ with heap:=s₂.heap.push { cls:=.type "slice",data:=.fields #[l,u,.none] } }) E s₁) E s) :
  WG (model pw w) A (eval (.Slice lower upper none p) env) Q E s:=by
 refine WG.eq (arm_eval_Slice ..) ?_
 refine WG.bind (WG.mono h (λl s₁ h₁=>WG.bind (WG.hold (WG.mono h₁ (λu s₂ h₂=>WG.bind (WG.hold (WG.pure (a:=Value.none) ?_))) λ_ _ x=>x))) λ_ _ x=>x)
 exact WG.of (wpAny_newObj_type h₂)
theorem eU {W:Wd}{h:H}(I:Inv w V oh W h s.heap) (o:Obj):Inv w V oh W h (s.heap.push o)/\Step none_ W s W { s with heap:=s.heap.push o }:=
 ⟨I.push _,by
  have:=(du (s:=s) (h':=s.heap.push o) I (λb o e=>Heap.get?_push_of_some _ e) (by rw [Heap.size_push];exact Nat.le_add_right _ _) s.toks).2
  exact this⟩
theorem sCut {a lo hi:EC}{ea el eu:PySem.Expr}{pos p':Pos}(hs:∀o i,∃l,subscripted (.Slice (some el) (some eu) none p') false o i=operate l (getItem o i)) (ha:SE w V oh kH fi a ea) (hl:SE w V oh kH fi lo el) (hu:SE w V oh kH fi hi eu) :
  SE w V oh kH fi (l6 a lo hi) (.Subscript ea (.Slice (some el) (some eu) none p') pos):=by
 intro x r h k e W s I F Q E p
 refine cI (ha x r h _ e W s I F _ _ λav h1 v W1 s1 e1 R1 I1 S1=>?_)
 refine mL (hl x r h1 _ e1 W1 s1 I1 (F.step _ _ S1) _ _ λlv h2 l W2 s2 e2 R2 I2 S2=>?_)
 refine hu x r h2 _ e2 W2 s2 I2 (F.step _ _ (S1.trans S2)) _ _ λuv h3 u W3 s3 e3 R3 I3 S3=>?_
 refine onNat_k e3 λn r1_ e4=>?_;subst r1_
 refine onNat_k e4 λm r1_ e5=>?_;subst r1_
 obtain⟨t,rfl⟩:=R2
 obtain⟨t',rfl⟩:=R3
 obtain⟨I4,S4⟩:=eU I3 { cls:=.type "slice",data:=.fields #[.int (n:Int) t,.int (m:Int) t',.none] }
 exact WG.of (uC hs (lo:=some (n:Int)) (hi:=some (m:Int)) ⟨.inr rfl,.inr rfl⟩ (.int _ _) (.int _ _) I4 (((R1.mono S2.le.1).mono S3.le.1).mono S4.le.1) e5 (Heap.IsSliceOf.new _ _ _ _) (p.after (((S1.trans S2).trans S3).trans S4)))
theorem BH {a lo:EC}{ea el:PySem.Expr}{pos p':Pos}(hs:∀o i,∃l,subscripted (.Slice (some el) none none p') false o i=operate l (getItem o i)) (ha:SE w V oh kH fi a ea) (hl:SE w V oh kH fi lo el) :
  SE w V oh kH fi (fa a lo) (.Subscript ea (.Slice (some el) none none p') pos):=by
 intro x r h k e W s I F Q E p
 refine cI (ha x r h _ e W s I F _ _ λav h1 v W1 s1 e1 R1 I1 S1=>?_)
 refine mL (hl x r h1 _ e1 W1 s1 I1 (F.step _ _ S1) _ _ λlv h2 l W2 s2 e2 R2 I2 S2=>WG.pure (a:=Value.none) ?_)
 refine onNat_k e2 λn r1_ e4=>?_;subst r1_
 obtain⟨t,rfl⟩:=R2
 obtain⟨I4,S4⟩:=eU I2 { cls:=.type "slice",data:=.fields #[.int (n:Int) t,.none,.none] }
 exact WG.of (uC hs (lo:=some (n:Int)) (hi:=none) (m:=4097) ⟨.inr rfl,.inl ⟨rfl,rfl⟩⟩ (.int _ _) .none I4 ((R1.mono S2.le.1).mono S4.le.1) e4 (Heap.IsSliceOf.new _ _ _ _) (p.after ((S1.trans S2).trans S4)))
theorem BI {a hi:EC}{ea eu:PySem.Expr}{pos p':Pos}(hs:∀o i,∃l,subscripted (.Slice none (some eu) none p') false o i=operate l (getItem o i)) (ha:SE w V oh kH fi a ea) (hu:SE w V oh kH fi hi eu) :
  SE w V oh kH fi (ew a hi) (.Subscript ea (.Slice none (some eu) none p') pos):=by
 intro x r h k e W s I F Q E p
 refine cI (ha x r h _ e W s I F _ _ λav h1 v W1 s1 e1 R1 I1 S1=>?_)
 refine mL (WG.pure (a:=Value.none) (hu x r h1 _ e1 W1 s1 I1 (F.step _ _ S1) _ _ λuv h3 u W3 s3 e3 R3 I3 S3=>?_))
 refine onNat_k e3 λm r1_ e5=>?_;subst r1_
 obtain⟨t',rfl⟩:=R3
 obtain⟨I4,S4⟩:=eU I3 { cls:=.type "slice",data:=.fields #[.none,.int (m:Int) t',.none] }
 exact WG.of (uC hs (lo:=none) (n:=0) (hi:=some (m:Int)) ⟨.inl ⟨rfl,rfl⟩,.inr rfl⟩ .none (.int _ _) I4 ((R1.mono S3.le.1).mono S4.le.1) e5 (Heap.IsSliceOf.new _ _ _ _) (p.after ((S1.trans S3).trans S4)))
theorem mM {el eu:Option PySem.Expr}{p':Pos}:∀o i,∃l,subscripted (.Slice el eu none p') false o i=operate l (getItem o i):=λ_ _=>⟨_,rfl⟩
end
end
section
set_option genInjectivity false
set_option genSizeOf false
abbrev SP:=Sem Value × Sem Value
theorem rt (f:(Option (Sem Value) × Sem Value)->(Option Addr × List SP)->Sem (ForInStep (Option Addr × List SP)))
  (hf:∀(p:SP) (run:List SP),run.length+1<17->f (some p.1,p.2) (none,run)=pure (.yield (none,run++[p]))) (tail:List (Option (Sem Value) × Sem Value)) :
  ∀(items run:List SP),run.length+items.length<17->forIn ((items.map λp=>(some p.1,p.2))++tail) ((none:Option Addr),run) f=forIn tail (none,run++items) f
 | [],run,_=>by simp
 |p::rest,run,h=>by
  rw [List.map_cons,List.cons_append,List.forIn_cons,hf p run (by simp at h;lia),pure_bind]
  have:=rt f hf tail rest (run++[p]) (by simp at h ⊢;lia)
  simpa using this
theorem ze (xs:List SP) (p q:SP) (hl:xs.length=16):dictDisplay ((xs++[p,q]).map λp=>(some p.1,p.2)) =
  (do
    let x <-subDict (xs++[p])
    let y <-holding [.ref x] (subDict [q])
    (holding [.ref x,.ref y] (mergeMapping x (.ref y) false)).onRaise λz=>do let _ <-holding [.ref x,z] (runValue (.builtin "proto.let_go" {}))
    pure (.ref x)):=by
 unfold dictDisplay
 dsimp only
 rw [List.map_append,rt _ (λp run h=>by
  have hne:((run++[(p.1,p.2)]).length==17)=false:=by simp;lia
  simp only [hne,Bool.false_eq_true,if_false]) _ xs [] (by simp [hl])]
 have h17:(xs++[(p.1,p.2)]).length=17:=by simp [hl]
 simp [hl]
section
variable {w:World}{V:Va}{oh:Heap}{kH:Bool}{fi:aY}{A:Around}{E:Value->Shared->Prop}{s:Shared}{env:Env}
structure pK (w:World) (V:Va) (oh:Heap) (W:Wd) (hp:Heap) (d:Addr) (l:List DE):Prop where
 own:¬W.own d
 low:oh.get? d=none
 rel:∃S xs,hp.DictOfH (aK w S) d xs/\cK V W.μ l xs
theorem pK.lt {W:Wd}{hp:Heap}{d:Addr}{l:List DE}(B:pK w V oh W hp d l):d<hp.objs.size:=by refine bf B.rel λS xs q2_ _=>?_;obtain⟨o,es,ep,h,_⟩:=q2_;exact Heap.lt_size h
theorem pK.step {mt:Addr->Prop}{W W':Wd}{s s':Shared}{d:Addr}{l:List DE}(B:pK w V oh W s.heap d l) (S:Step mt W s W' s') (hm:¬mt d):pK w V oh W' s'.heap d l:=by
 have hlt:=B.lt
 refine bG λ_ kk=>?_
 refine bf B.rel λSh xs q2_ h2=>?_;obtain⟨o,es,ep,g1,g2,g3,g4,g5,g6⟩:=q2_
 refine kk ?_
 exact⟨λq=>(S.fresh d q).elim B.own λz=>absurd hlt (Nat.not_lt.mpr z),B.low,Sh,xs,yEEEAAAAA o es ep (S.keep _ _ g1 (.inl ⟨B.own,hm⟩)) g2 g3 g4 (λx hx=>⟨CK.eP S.keep.tup (g5 x hx).1,(g5 x hx).2⟩) g6,h2.mono S.le.1⟩
theorem jL (hp:Heap) (S:CK):(hp.push { cls:=.type "dict",data:=.dict #[] }).DictOfH (aK w S) hp.objs.size []:=
 yEEEAAAAA _ (#[]) 0 (Heap.get?_push_size _ rfl) ⟨rfl,rfl,rfl⟩ rfl rfl (λx hx=>nomatch hx) List.nodup_nil
theorem lI {W:Wd}{h:H}{d:Addr}{h':Heap}(I:Inv w V oh W h s.heap) (hn:¬W.own d) (h0:oh.get? d=none){o:Obj}(ho:s.heap.get? d=some o) (hc:o.cls = .type "dict") (hs:Heap.SameBut d s.heap h') (tk:Tok) :
  Inv w V oh W h h'/\Step (λb=>b=d) W s W { s with heap:=h',toks:=tk }:=
 eS I hn h0 (λx e=>by rw [ho] at e;cases e;exact bB hc) ⟨λb o hb e=>(hs.2 b hb).trans e,Nat.le_of_eq hs.1.symm⟩ tk
theorem gu {q:Ky}{l:List DE}{t:Bool}(e:iA q l t=true):∀t',iA q l t'=t':=by
 intro t'
 cases l with
 |nil=>rfl
 |cons x r=>
  cases x with
  |mk q' k' v'=>
   have e1:(Bool.rec (motive:=λ_=>Bool) false t (Ky.tJ q' q))=true:=e
   show (Bool.rec (motive:=λ_=>Bool) false t' (Ky.tJ q' q))=t'
   cases hs:Ky.tJ q' q with
   |true=>rfl
   |false=>rw [hs] at e1;exact nf e1
theorem jM {q:Ky}{x v:AV}:∀{l:List DE}{k:List DE->Bool},cL q x v l k=true->∃m,k m=true/\∀k',cL q x v l k'=k' m
 | [],k,e=>yEA _ e λ_=>rfl
 |.mk q' y u::r,k,e=>by
  have e1:(T3.rec (motive:=λ_=>Bool) (k (.mk q' y v::r)) (cL q x v r λm=>k (.mk q' y u::m)) false (Ky.cmp q' q))=true:=e
  have e2:∀k':List DE->Bool,cL q x v (.mk q' y u::r) k'=(T3.rec (motive:=λ_=>Bool) (k' (.mk q' y v::r)) (cL q x v r λm=>k' (.mk q' y u::m)) false (Ky.cmp q' q)):=λ_=>rfl
  cases hc:Ky.cmp q' q with
  |y=>rw [hc] at e1;exact yEA _ e1 λk'=>by rw [e2,hc]
  |n=>
   rw [hc] at e1
   refine aI (jM (l:=r) e1) λm h1 h2=>?_
   exact yEA _ h1 λk'=>by rw [e2,hc];exact h2 _
  |u=>rw [hc] at e1;exact nf e1
def ef (q:Ky) (x v:AV) (l m:List DE):Prop:=∀k,tL q x v l k=k m
theorem lJ {q:Ky}{x v:AV}{l:List DE}{k:List DE->Bool}(e:tL q x v l k=true):∃m,k m=true/\ef q x v l m:=by
 have h1:=gu (show iA q l (cL q x v l k)=true from e)
 have e2:cL q x v l k=true:=(h1 _).symm.trans e
 refine aI (jM e2) λm h2 h3=>?_
 exact yEA m h2 λk'=>(h1 _).trans (h3 k')
theorem ef.sound {q:Ky}{x v:AV}{l m:List DE}(h:ef q x v l m){μ:Mu}{hp:Heap}{a b:Addr}{S:CK}{xs:List (CK × Addr × Value)}{y:Value}(hm:hp.DictOfH (aK w S) a xs) (r:cK V μ l xs){c:CK}(hq:V.ck q=some c) (hc:c.is hp b) (hd:c.fb<=8)
  (Rk:Rep V μ x (.ref b)) (Rv:Rep V μ v y):∃S',hp.DictOfH (aK w S') a xs/\(aK w S').is hp c b/\cK V μ m (storedH xs c b y):=by
 have e0:=h λm'=>@decide (m'=m) (Classical.propDecidable _)
 have e1:iA q l (cL q x v l λm'=>@decide (m'=m) (Classical.propDecidable _))=true:=by
  refine Eq.trans e0 ?_
  simp
 refine bG λ_ kk=>?_
 obtain⟨e2,S',h1,h2⟩:=cZ hm r hq hc hd e1
 obtain⟨m',e3,h3⟩:=iI hq Rk Rv r (cK.nodup hm) e2
 refine kk ?_
 have:m'=m:=by simpa using e3
 exact yEAA S' h1 h2 (this▸h3)
theorem yc {W:Wd}{h:H}{d:Addr}{l m:List DE}{q:Ky}{x v:AV}{c:CK}{b:Addr}{y:Value}(hu:A.units+10<cLine) (I:Inv w V oh W h s.heap) (B:pK w V oh W s.heap d l) (hset:ef q x v l m) (hq:V.ck q=some c) (hc:c.is s.heap b) (hd:c.fb<=8)
  (Rk:Rep V W.μ x (.ref b)) (Rv:Rep V W.μ v y) (hl:l.length<=4096){Q:Unit->Shared->Prop}(k:∀h' tk,Inv w V oh W h h'->pK w V oh W h' d m->Step (λb=>b=d) W s W { s with heap:=h',toks:=tk }->Q () { s with heap:=h',toks:=tk }) :
  wpAny (model pw w) A (dictSet d (.ref b) y) Q E s:=by
 refine bf B.rel λS xs hm r=>?_
 refine cS (hset.sound hm r hq hc hd Rk Rv) λS' hm' hk r'=>?_
 have hr:(aK w S').room A:=by show A.units+9<cLine;exact Nat.le_of_lt ‹_›
 have hsz:xs.length<=sizeLine:=by have:=r.len;rw [len_eq] at this;rw [<-this];exact br (Nat.ble_eq_true_of_le hl)
 refine wpAny_dictSet_heap (hsz:=hsz) hr hk hm' λh' m' hs=>?_
 refine cC (id hm) λo es ep g1 g2 _=>?_
 obtain⟨I',S1⟩:=lI I B.own B.low g1 g2.1 hs (s.toks+(aK w S').draws c)
 exact k _ _ I' ⟨B.own,B.low,S',_,m',r'⟩ S1
inductive wJ (V:Va) (μ:Mu) (hp:Heap):List (Value × Value)->List DE->List DE->Prop where
 |nil {l:List DE}:wJ V μ hp [] l l
 |cons {q:Ky}{c:CK}{b:Addr}{x v:AV}{y:Value}{vs:List (Value × Value)}{l m n:List DE}:V.ck q=some c->c.is hp b->c.fb<=8->Rep V μ x (.ref b)->Rep V μ v y->ef q x v l m->wJ V μ hp vs m n->wJ V μ hp ((.ref b,y)::vs) l n
theorem wJ.mono {μ μ':Mu}{hp hp':Heap}(le:μ.le μ') (tk:dV hp hp'){vs:List (Value × Value)}{l n:List DE}(i:wJ V μ hp vs l n):wJ V μ' hp' vs l n:=by
 induction i with
 |nil=>exact .nil
 |cons a b c d e f g ih=>exact .cons a (CK.eP tk b) c (d.mono le) (e.mono le) f ih
theorem sd {q:Ky}{x v:AV}{l:List DE}:∀{m:List DE},(∀k,cL q x v l k=k m)->m.length<=l.length+1:=by
 intro m h
 have e0:=h λm'=>@decide (m'=m) (Classical.propDecidable _)
 have:∀(l:List DE) (k:List DE->Bool),cL q x v l k=true->∃m',k m'=true/\m'.length<=l.length+1:=by
  intro l
  induction l with
  |nil=>intro k e;exact yEA _ e (Nat.le_refl _)
  |cons a r ih=>
   intro k e
   cases a with
   |mk q' y u=>
    have e1:(T3.rec (motive:=λ_=>Bool) (k (.mk q' y v::r)) (cL q x v r λm=>k (.mk q' y u::m)) false (Ky.cmp q' q))=true:=e
    cases hc:Ky.cmp q' q with
    |y=>rw [hc] at e1;exact yEA _ e1 (by simp)
    |n=>rw [hc] at e1;refine aI (ih _ e1) λm' a b=>?_;exact yEA _ a (by simp;omega)
    |u=>rw [hc] at e1;exact nf e1
 refine aI (this l _ (e0.trans (by simp))) λm' a b=>?_
 have:m'=m:=by simpa using a
 exact this▸b
theorem ef.len {q:Ky}{x v:AV}{l m:List DE}(h:ef q x v l m):m.length<=l.length+1:=by
 have h1:=gu (q:=q) (l:=l) (t:=cL q x v l λ_=>true) (h λ_=>true)
 exact sd (q:=q) (x:=x) (v:=v) λk=>(h1 _).symm.trans (h k)
theorem jN {h:H}{d:Addr}(hu:A.units+10<cLine):∀(vs:List (Value × Value)){l n:List DE}{W:Wd}{s:Shared},wJ V W.μ s.heap vs l n->Inv w V oh W h s.heap->pK w V oh W s.heap d l->l.length+vs.length<=4096->∀{Q:PUnit->Shared->Prop},
  (∀h' tk,Inv w V oh W h h'->pK w V oh W h' d n->Step (λb=>b=d) W s W { s with heap:=h',toks:=tk }->Q PUnit.unit { s with heap:=h',toks:=tk })->wpAny (model pw w) A (storeAll d vs) Q E s:=by
 intro vs
 induction vs with
 |nil=>
  intro l n W s i I B hl Q k
  cases i
  unfold storeAll
  refine wpe (List.forIn_nil ..) ?_
  exact wpAny_pure (k s.heap s.toks I B ((Step.refl W s).toks _))
 |cons p vs ih=>
  intro l n W s i I B hl Q k
  cases i with
  | @cons q c b x v y vs l m n a1 a2 a3 a4 a5 a6 a7=>
   rw [List.length_cons] at hl
   unfold storeAll
   refine wpe (List.forIn_cons ..) ?_
   refine wpAny_bind (wpAny_bind (yc hu I B a6 a1 a2 a3 a4 a5 (by lia) λh' tk I1 B1 S1=>wpAny_pure ?_))
   have hlen:=a6.len
   refine ih (s:={ s with heap:=h',toks:=tk }) (a7.mono S1.le.1 S1.keep.tup) I1 B1 (by lia) λh2 tk2 I2 B2 S2=>?_
   exact k h2 tk2 I2 B2 (S1.trans S2)
inductive pL (w:World) (V:Va) (oh:Heap) (kH:Bool) (fi:aY):DC->List (Option PySem.Expr)->List PySem.Expr->Prop where
 |nil:pL w V oh kH fi iR [] []
 |cons {ke ve:EC}{c:DC}{k v:PySem.Expr}{ks:List (Option PySem.Expr)}{vs:List PySem.Expr}:SE w V oh kH fi ke k->SE w V oh kH fi ve v->pL w V oh kH fi c ks vs->pL w V oh kH fi (bu ke ve c) (some k::ks) (v::vs)
theorem pL.all {c:DC}{ks:List (Option PySem.Expr)}{vs:List PySem.Expr}(o:pL w V oh kH fi c ks vs):ks.all (·.isSome)=true/\ks.length=vs.length:=by
 induction o with
 |nil=>exact⟨rfl,rfl⟩
 |cons _ _ _ ih=>exact⟨by simp [ih.1],by simp [ih.2]⟩
theorem oJ {k v:Sem Value}{rest:List SP}{Q:List (Value × Value)->Shared->Prop}
  (h:WG (model pw w) A k (λkv s₁=>WG (model pw w) A v (λvv s₂=>WG (model pw w) A (evalPairs rest) (λvs s₃=>Q ((kv,vv)::vs) s₃) E s₂) E s₁) E s):WG (model pw w) A (evalPairs ((k,v)::rest)) Q E s:=by
 rw [evalPairs]
 exact WG.bind (WG.mono h (λkv s₁ h₁=>WG.bind (WG.hold (WG.mono h₁ (λvv s₂ h₂=>WG.bind (WG.hold (WG.mono h₂ (λvs s₃ h₃=>WG.pure h₃) λ_ _ e=>e))) λ_ _ e=>e))) λ_ _ e=>e)
theorem ru {c:DC}{ks:List (Option PySem.Expr)}{vs:List PySem.Expr}(o:pL w V oh kH fi c ks vs):∀(x:Cx w V oh kH fi) r h l k,c x.co r h l k=true->∀W s,Inv w V oh W h s.heap->aM V oh fi x.env W s.heap r->∀pos (Q:List (Value × Value)->Shared->Prop) E,
  (∀ws h' l' W' s',k l' h'=true->Inv w V oh W' h' s'.heap->Step none_ W s W' s'->ws.length=ks.length->wJ V W'.μ s'.heap ws l l'->Q ws s')->WG (model pw w) x.A (evalPairs (pairTrees ks vs x.env pos)) Q E s:=by
 induction o with
 |nil=>intro x r h l k e W s I F pos Q E p;exact WG.pure (p [] h l W s e I (Step.refl W s) rfl .nil)
 | @cons ke ve c ka va ks vs hk hv o ih=>
  intro x r h l k e W s I F pos Q E p
  show WG _ _ (evalPairs ((eval ka x.env,do let y <-eval va x.env;standAt pos;Pure.pure y)::pairTrees ks vs x.env pos)) _ _ _
  refine oJ (hk x r h _ e W s I F _ _ λkv h1 k1 W1 s1 e1 R1 I1 S1=>?_)
  refine WG.bind (hv x r h1 _ e1 W1 s1 I1 (F.step _ _ S1) _ _ λvv h2 v1 W2 s2 e2 R2 I2 S2=>WG.aA (WG.pure ?_))
  obtain⟨b,q,ck,rfl,hq,hc,hdp,e3⟩:=cY I2 e2 (R1.mono S2.le.1)
  refine aI (lJ e3) λm e4 hset=>?_
  refine ih x r h2 m k e4 W2 s2 I2 (F.step _ _ (S1.trans S2)) pos _ _ λws h3 l3 W3 s3 e5 I3 S3 hl i=>?_
  exact p _ h3 l3 W3 s3 e5 I3 ((S1.trans S2).trans S3) (by simp [hl]) (.cons hq (CK.eP S3.keep.tup hc) hdp ((R1.mono S2.le.1).mono S3.le.1) (R2.mono S3.le.1) hset i)
end
end
section
section
variable {w:World}{V:Va}{oh:Heap}{kH:Bool}{fi:aY}{A:Around}{E:Value->Shared->Prop}{s:Shared}{env:Env}
theorem mN {K:Type} [DecidableEq K] {knd:HeapKind pw w K}{d a:Addr}{xs:List (K × Addr × Value)}{k:K}{v:Value}{Q:Unit->Shared->Prop}(hu:knd.room A) (hkey:knd.is s.heap k a) (hm:s.heap.DictOfH knd d xs)
  (hQ:∀h',h'.DictOfH knd d (storedH xs k a v)->Heap.SameBut d s.heap h'->Q () { s with heap:=h' })
  (hsz:xs.length<=sizeLine) :
  wpAny (model pw w) A (dictPut d (knd.hash k) (.ref a) v) Q E s:=by
 refine bK hm λo es ep ho hc hd he his hn=>?_;clear hm
 unfold dictPut
 refine wpAny_bind (wpAny_dictFind_heap hu hkey ho hd he his hn ?_ ?_)
 ·intro hno
  have hnot:k ∉ xs.map (·.1):=not_mem_keys_of_get hno
  refine wpAny_updateDictKeys (hz:=by have e:=size_of_entries he;lia) ho hd (hQ _ (yEEEAAAAA _ _ (ep+1) (Heap.get?_update_self _ ho (Obj.isFreed_of_dict (Obj.data_mapDictKeys hd _))) (hc.mapDictKeys _) (Obj.data_mapDictKeys hd _) ?_ ?_ ?_) (Heap.SameBut.update ..))
  ·rw [storedH_new (atKey_none_of_get hno)]
   simp [he,entryOfKey]
  ·rw [storedH_new (atKey_none_of_get hno)]
   intro x hx
   rcases List.mem_append.mp hx with hx|hx
   ·exact knd.keeps (his x hx) ho hd (Heap.SameBut.update ..)
   ·simp only [List.mem_singleton] at hx
    subst hx
    exact knd.keeps hkey ho hd (Heap.SameBut.update ..)
  ·rw [storedH_new (atKey_none_of_get hno)]
   rw [List.map_append,List.nodup_append]
   refine⟨hn,by simp,?_⟩
   intro x hx y hy
   simp only [List.map_cons,List.map_nil,List.mem_singleton] at hy
   subst hy
   exact λe=>hnot (e▸hx)
 ·intro j p hj
  refine wpAny_updateDict ho hd (hQ _ (yEEEAAAAA _ _ ep (Heap.get?_update_self _ ho (Obj.isFreed_of_dict (Obj.data_mapDict hd _))) (hc.mapDict _) (Obj.data_mapDict hd _) ?_ ?_ ?_) (Heap.SameBut.update ..))
  ·rw [storedH_old (atKey_of_get hn hj)]
   have:=modify_map_putAt (entryOfKey knd) (λe:DictEntry=>{ e with val:=v }) k v (λ_ _=>rfl) hn hj
   rw [<-he] at this
   obtain⟨l⟩:=es
   simpa using this
  ·rw [storedH_old (atKey_of_get hn hj)]
   intro x hx
   refine aI (List.mem_map.mp hx) λy hy r2_=>?_;subst r2_
   unfold putAt
   split<;>exact knd.keeps (his y hy) ho hd (Heap.SameBut.update ..)
  ·rw [storedH_old (atKey_of_get hn hj)]
   rw [keys_map_putAt];exact hn
theorem wK {W:Wd}{h:H}{d sub:Addr}{l m:List DE}{q:Ky}{x v:AV}{c:CK}{b:Addr}{y:Value}{S2:CK}(hu:A.units+10<cLine) (I:Inv w V oh W h s.heap) (B:pK w V oh W s.heap d l) (hset:ef q x v l m) (hq:V.ck q=some c) (hc:c.is s.heap b) (hd:c.fb<=8)
  (Rk:Rep V W.μ x (.ref b)) (Rv:Rep V W.μ v y) (hl:l.length<=4096) (hne:l ≠ []) (hsub:s.heap.DictOfH (aK w S2) sub [(c,b,y)]) (hds:d ≠ sub) (hsys:(sub==sysModules)=false)
  {Q:Unit->Shared->Prop}(k:∀h' tk,Inv w V oh W h h'->pK w V oh W h' d m->Step (λb=>b=d) W s W { s with heap:=h',toks:=tk }->Q () { s with heap:=h',toks:=tk }) :
  wpAny (model pw w) A (mergeMapping d (.ref sub) false) Q E s:=by
 refine bf B.rel λS xs hm r=>?_
 refine cS (hset.sound hm r hq hc hd Rk Rv) λS' hm' hk r'=>?_
 have hr:(aK w S').room A:=by show A.units+9<cLine;exact Nat.le_of_lt ‹_›
 have hlen:=r.len
 rw [len_eq] at hlen
 have hsz:xs.length<=sizeLine:=by rw [<-hlen];exact br (Nat.ble_eq_true_of_le hl)
 refine bK (id hm') λo es ep g1 g2 g3 g4 g5 g6=>?_
 refine bK (id hsub) λo2 es2 ep2 k1 k2 k3 k4 k5 k6=>?_
 have hT:s.TypeIs (.ref sub) "dict":=yEA o2 k1 k2.1
 obtain rfl:es2 = #[entryOfKey (aK w S2) (c,b,y)]:=by
  have:=congrArg List.toArray k4
  simpa using this
 unfold mergeMapping
 refine wpAny_bind (wpAny_isInstance hT F.sub_dict_dict ?_)
 refine wit rfl ?_
 refine wpAny_bind (wpAny_specialOf hT F.slot_dict_iter.lookup (wpAny_bind (wpAny_pure ?_)))
 rw [show ((some (Value.builtin "dict.__iter__")==some (Value.builtin "dict.__iter__"))=true) from by simp]
 refine wif (by rw [hsys];exact Bool.false_ne_true) ?_
 refine wpAny_bind (wpAny_dictEntries g1 g3 ?_)
 have hemp:¬(es.isEmpty=true):=by
  intro z
  have h0:es = #[]:=Array.isEmpty_iff.mp z
  rw [h0] at g4
  have:xs.length=0:=by have:=congrArg List.length g4;simpa using this.symm
  rw [this] at hlen
  exact hne (List.length_eq_zero_iff.mp hlen)
 refine wif hemp ?_
 refine wpAny_bind (wpAny_dictEntries k1 k3 ?_)
 refine wpAny_bind (wpAny_dictEpoch k1 k3 ?_)
 show wpAny _ _ (forIn (List.range 1) _ _ >>= _) _ _ _
 rw [show List.range 1=[0] from rfl,List.forIn_cons]
 refine wpAny_bind (wpAny_bind (wpAny_bind (wpAny_dictEntries k1 k3 ?_)))
 show wpAny _ _ ((holding [Value.ref b,y] (dictPut d ((aK w S').hash c) (Value.ref b) y)) >>= _) _ _ s
 refine wpAny_bind (wpAny_holding (mN hr hk hm' (λh' q1 q2=>?_) hsz))
 have k1':h'.get? sub=some o2:=(q2.2 sub (Ne.symm hds)).trans k1
 refine wpAny_bind (wpAny_dictEpoch k1' k3 ?_)
 refine wif (by simp) ?_
 refine wpAny_pure ?_
 dsimp only
 refine wpe (List.forIn_nil ..) ?_
 refine wpAny_pure ?_
 try refine wpAny_pure ?_
 obtain⟨I',S1⟩:=lI I B.own B.low g1 g2.1 q2 s.toks
 exact k h' s.toks I' ⟨B.own,B.low,S',_,q1,r'⟩ S1
end
end
section
section
variable {w:World}{V:Va}{oh:Heap}{kH:Bool}{fi:aY}{A:Around}{E:Value->Shared->Prop}{s:Shared}{env:Env}
theorem ef.ne {q:Ky}{x v:AV}{l m:List DE}(h:ef q x v l m):m ≠ []:=by
 have h1:=gu (q:=q) (l:=l) (t:=cL q x v l λ_=>true) (h λ_=>true)
 have e0:cL q x v l (λm'=>@decide (m'=m) (Classical.propDecidable _))=true:=(h1 _).symm.trans ((h _).trans (by simp))
 have:∀(l:List DE) (k:List DE->Bool),cL q x v l k=true->∃m',k m'=true/\m' ≠ []:=by
  intro l
  induction l with
  |nil=>intro k e;exact yEA _ e (by simp)
  |cons a r ih=>
   intro k e
   cases a with
   |mk q' y u=>
    have e1:(T3.rec (motive:=λ_=>Bool) (k (.mk q' y v::r)) (cL q x v r λm=>k (.mk q' y u::m)) false (Ky.cmp q' q))=true:=e
    cases hc:Ky.cmp q' q with
    |y=>rw [hc] at e1;exact yEA _ e1 (by simp)
    |n=>rw [hc] at e1;refine aI (ih _ e1) λm' a b=>?_;exact yEA _ a (by simp)
    |u=>rw [hc] at e1;exact nf e1
 refine aI (this l _ e0) λm' a b=>?_
 have:m'=m:=by simpa using a
 exact this▸b
theorem rv {k:K1}{W0 W:Wd}{s0 s:Shared}{h:H}{d:Addr}{l:List DE}{Q:Value->Shared->Prop}(p:cO w V oh k W0 s0 Q) (S:Step none_ W0 s0 W s) (I:Inv w V oh W h s.heap) (B:pK w V oh W s.heap d l) (hd:s0.heap.objs.size<=d) (e:Mine.alloc (.dict l) h k=true):Q (.ref d) s:=by
 have hle:W.le (W.ext h.nx d none):=by
  refine⟨λp b e=>?_,λp b e=>?_,rfl⟩
  ·show (if p=h.nx then some d else W.μ p)=some b
   rw [if_neg λq=>(by subst q;exact absurd (I.nE _ _ e) (Nat.lt_irrefl _))];exact e
  ·show (if p=h.nx then none else W.δ p)=some b
   rw [if_neg λq=>(by subst q;exact absurd (I.ez _ _ e) (Nat.lt_irrefl _))];exact e
 have hlt:=B.lt
 refine bf B.rel λSh xs g1 g2=>?_
 obtain⟨le,I2⟩:=I.new (a:=d) (d:=none) (o:=.dict l) B.own (λb q=>by exact nn q) B.low hlt (yEEA Sh xs g1 (g2.mono hle.1))
 refine p (.ref h.nx) _ _ _ _ (dW e) (yEA d (if_pos rfl) rfl) I2 ⟨Wd.le_trans S.le le,λb q=>?_,S.keep,S.size,S.gens,S.os⟩
 rcases q with ⟨p,e⟩|⟨p,e⟩
 ·have e:(if p=h.nx then some d else W.μ p)=some b:=e
  split at e
  ·cases e;exact .inr hd
  ·exact S.fresh _ (.inl ⟨p,e⟩)
 ·have e:(if p=h.nx then none else W.δ p)=some b:=e
  split at e
  ·exact nn e
  ·exact S.fresh _ (.inr ⟨p,e⟩)
noncomputable def ry (d:Addr):SP->PUnit->Sem (ForInStep PUnit):=λx _=>do
 let kv <-x.1
 let vv <-holding [kv] x.2
 holding [kv,vv] (dictSet d kv vv)
 Pure.pure (ForInStep.yield PUnit.unit)
theorem Rm.put {n:Nat}(rm:Rm n A):A.units+10<cLine:=by have:=rm.2;lia
theorem zf {d:Addr}{c:DC}{ks:List (Option PySem.Expr)}{vs:List PySem.Expr}(o:pL w V oh kH fi c ks vs):∀n (x:Cx w V oh kH fi) r h l k,c x.co r h l k=true->∀W s,Inv w V oh W h s.heap->aM V oh fi x.env W s.heap r->pK w V oh W s.heap d l->l.length+n<=4096->d ≠ x.env.locals->(∀y a,x.env.cells.lookup y=some a->a ≠ d) ->
  ∀pos (Q:PUnit->Shared->Prop) E,(∀c' h' l' W' s',pL w V oh kH fi c' (ks.drop n) (vs.drop n)->c' x.co r h' l' k=true->Inv w V oh W' h' s'.heap->aM V oh fi x.env W' s'.heap r->pK w V oh W' s'.heap d l'->Step (λb=>b=d) W s W' s'->l'.length<=l.length+n->(l ≠ []∨(0<n/\ks ≠ [])->l' ≠ [])->Q PUnit.unit s') ->
   WG (model pw w) x.A (forIn ((pairTrees ks vs x.env pos).take n) PUnit.unit (ry d)) Q E s:=by
 induction o with
 |nil=>
  intro n x r h l k e W s I F B hl hn1 hn2 pos Q E p
  have:(pairTrees [] [] x.env pos).take n=[]:=by show ([]:List SP).take n=[];simp
  rw [this,List.forIn_nil]
  exact WG.pure (p iR h l W s (by rw [List.drop_nil,List.drop_nil];exact .nil) e I F B (Step.refl W s) (by exact Nat.le_add_right _ _) (λz=>z.elim id λz=>absurd rfl z.2))
 | @cons ke ve c ka va ks vs hk hv o ih=>
  intro n x r h l k e W s I F B hl hn1 hn2 pos Q E p
  cases n with
  |zero=>
   rw [List.take_zero,List.forIn_nil]
   exact WG.pure (p (bu ke ve c) h l W s (.cons hk hv o) e I F B (Step.refl W s) (Nat.le_refl _) (λz=>z.elim id λz=>absurd z.1 (Nat.lt_irrefl _)))
  |succ n=>
   show WG _ _ (forIn (((eval ka x.env,do let y <-eval va x.env;standAt pos;Pure.pure y)::pairTrees ks vs x.env pos).take (n+1)) PUnit.unit (ry d)) _ _ _
   rw [List.take_succ_cons,List.forIn_cons]
   refine WG.bind (WG.bind (hk x r h _ e W s I F _ _ λkv h1 k1 W1 s1 e1 R1 I1 S1=>?_))
   have B1:=B.step S1 id
   refine WG.bind (WG.hold (WG.bind (hv x r h1 _ e1 W1 s1 I1 (F.step _ _ S1) _ _ λvv h2 v1 W2 s2 e2 R2 I2 S2=>WG.aA (WG.pure ?_))))
   have B2:=B1.step S2 id
   obtain⟨b,q,ck,rfl,hq,hc,hdp,e3⟩:=cY I2 e2 (R1.mono S2.le.1)
   refine aI (lJ e3) λm e4 hset=>?_
   have hlen:=hset.len
   refine WG.bind (WG.hold (WG.of (yc x.rm.put I2 B2 hset hq hc hdp (R1.mono S2.le.1) R2 (by lia) λh' tk I3 B3 S3=>WG.pure ?_)))
   have F3:aM V oh fi x.env W2 h' r:=((F.step _ _ S1).step _ _ S2).fw S3 (λz=>hn1 z.symm) hn2
   refine ih n x r h2 m k e4 W2 { s2 with heap:=h',toks:=tk } I3 F3 B3 (by lia) hn1 hn2 pos _ _ λc' h4 l4 W4 s4 o4 e5 I4 F4 B4 S4 hl4 hne4=>?_
   have Sa:Step (λb=>b=d) W s W2 s2:=(S1.trans S2).weaken λb z=>z.elim
   exact p c' h4 l4 W4 s4 o4 e5 I4 F4 B4 ((Sa.trans S3).trans S4) (by lia) λ_=>hne4 (.inl hset.ne)
end
end
section
section
variable {w:World}{V:Va}{oh:Heap}{kH:Bool}{fi:aY}{A:Around}{E:Value->Shared->Prop}{s:Shared}{env:Env}
theorem zg {W:Wd}{h:H}(I:Inv w V oh W h s.heap):Inv w V oh W h (s.heap.push { cls:=.type "dict",data:=.dict #[] })/\Step none_ W s W { s with heap:=s.heap.push { cls:=.type "dict",data:=.dict #[] } } /\
  pK w V oh W (s.heap.push { cls:=.type "dict",data:=.dict #[] }) s.heap.objs.size []:=by
 obtain⟨a,b⟩:=eU I { cls:=.type "dict",data:=.dict #[] }
 exact⟨a,b,eD I (Nat.le_refl _),eC I (Nat.le_refl _),.nil,[],jL _ _,.nil⟩
theorem aM.qu {r:Tr AV}{W:Wd}(F:aM V oh fi env W s.heap r){d:Addr}(hd:s.heap.objs.size<=d):d ≠ env.locals/\∀y a,env.cells.lookup y=some a->a ≠ d:=by
 refine bG λ_ kk=>?_
 refine aI F.loc λm q1_ hm=>?_;obtain⟨o,es,ep,n1,n2⟩:=q1_
 refine kk ?_
 exact⟨λz=>absurd (Heap.lt_size n1) (Nat.not_lt.mpr (z▸hd)),λy a e z=>absurd (F.ej y a e).2.2 (Nat.not_lt.mpr (z▸hd))⟩
theorem sub_short {pairs:List SP}{Q:Addr->Shared->Prop}(hlen:pairs.length<=15)
  (h:WG (model pw w) A (evalPairs pairs) (λvs s₁=>wpAny (model pw w) A (storeAll s.heap.objs.size vs) (λ_ s₂=>Q s.heap.objs.size s₂) E s₁) E { s with heap:=s.heap.push { cls:=.type "dict",data:=.dict #[] } }) :
  WG (model pw w) A (subDict pairs) Q E s:=by
 unfold subDict
 refine WG.leaf (wpAny_alloc ?_)
 refine WG.bind (WG.hold ?_)
 refine git hlen ?_
 refine WG.bind (WG.mono h (λvs s₁ h₁=>?_) λ_ _ e=>e)
 refine WG.hold ?_
 exact WG.leaf (wpAny_mono h₁ (λ_ s₂ h₂=>WG.pure (WG.pure h₂)) λ_ _ e=>e)
theorem uD {pairs:List SP}{Q:Addr->Shared->Prop}(hlen:¬pairs.length<=15)
  (h:WG (model pw w) A (forIn pairs PUnit.unit (ry s.heap.objs.size)) (λ_ s₂=>Q s.heap.objs.size s₂) E { s with heap:=s.heap.push { cls:=.type "dict",data:=.dict #[] } }) :
  WG (model pw w) A (subDict pairs) Q E s:=by
 unfold subDict
 refine WG.leaf (wpAny_alloc ?_)
 refine WG.bind (WG.hold ?_)
 refine gif hlen ?_
 refine WG.rule ?_
 exact WG.bind (WG.mono (show WG _ _ (forIn pairs PUnit.unit (ry s.heap.objs.size)) _ _ _ from h) (λ_ s₂ h₂=>WG.pure (WG.pure h₂)) λ_ _ e=>e)
theorem BJ {pos:Pos}:SE w V oh kH fi gG (.Dict [] [] pos):=by
 intro x r h k e W s I F Q E p
 have e:Mine.alloc (.bk []) h k=true:=e
 exact WG.of (wpAny_Dict_empty (p.alloc e I λW' le _=>yEA [] ⟨_,#[],0,Heap.get?_push_size _ rfl,⟨rfl,rfl,rfl⟩,rfl,by intro e he;simp at he,.nil,List.nodup_nil⟩ .nil))
theorem BK {pos:Pos}:SE w V oh kH fi (ku iR) (.Dict [] [] pos):=by
 intro x r h k e W s I F Q E p
 have e:Mine.alloc (.dict []) h k=true:=e
 exact WG.of (wpAny_Dict_empty (p.alloc e I λW' le _=>yEEA .nil [] (jL _ _) .nil))
theorem sDic {c:DC}{ks:List (Option PySem.Expr)}{vs:List PySem.Expr}{pos:Pos}(o:pL w V oh kH fi c ks vs) (h0:ks ≠ []) (hl:ks.length<=15):SE w V oh kH fi (ku c) (.Dict ks vs pos):=by
 intro x r h k e W s I F Q E p
 have e:c x.co r h [] (λd h=>Mine.alloc (.dict d) h k)=true:=e
 obtain⟨ha,hlen⟩:=o.all
 have hn:=pairTrees_length ks vs x.env pos ha hlen
 have hp0:pairTrees ks vs x.env pos ≠ []:=by
  intro he;rw [he] at hn;exact h0 (List.length_eq_zero_iff.mp hn.symm)
 refine WG.eq (arm_eval_Dict ..) ?_;rw [zip_pairTrees ks vs x.env pos ha hlen,dictDisplay_pairs _ hp0 (by rw [hn];lia)]
 refine WG.aA (WG.bind (sub_short (by rw [hn];exact hl) ?_))
 refine pS (zg I) λI1 S1 B1=>?_
 refine ru o x r h [] _ e W _ I1 (F.step _ _ S1) pos _ _ λws h2 l2 W2 s2 e2 I2 S2 hw i=>?_
 have B2:=B1.step S2 id
 refine jN x.rm.put ws i I2 B2 (by rw [hw];show 0+ks.length<=4096;lia) λh' tk I3 B3 S3=>?_
 have S4:Step none_ W s W2 { s2 with heap:=h',toks:=tk }:=Step.new (((S1.trans S2).weaken λb z=>z.elim).trans S3) λb z=>.inr (Nat.le_of_eq z.symm)
 exact WG.pure (rv p S4 I3 B3 (Nat.le_refl _) e2)
theorem BL (GS:(oh.get? sysModules).isSome=true){c:DC}{ks:List (Option PySem.Expr)}{vs:List PySem.Expr}{pos:Pos}(o:pL w V oh kH fi c ks vs) (hl:ks.length=18):SE w V oh kH fi (ku c) (.Dict ks vs pos):=by
 intro x r h k e W s I F Q E p
 have e:c x.co r h [] (λd h=>Mine.alloc (.dict d) h k)=true:=e
 obtain⟨ha,hlen⟩:=o.all
 have hn:=pairTrees_length ks vs x.env pos ha hlen
 rw [hl] at hn
 obtain⟨xs,u,v,hx,hpt⟩:∃xs u v,xs.length=16/\pairTrees ks vs x.env pos=xs++[u,v]:=by
  have h1:=List.take_append_drop 16 (pairTrees ks vs x.env pos)
  have h2:((pairTrees ks vs x.env pos).drop 16).length=2:=by simp [hn]
  match hq:(pairTrees ks vs x.env pos).drop 16,h2 with
  | [u,v],_=>exact yEEEA ((pairTrees ks vs x.env pos).take 16) u v (by rw [List.length_take,hn];rfl) (by rw [<-hq];exact h1.symm)
 have ht:(pairTrees ks vs x.env pos).take 17=xs++[u]:=by rw [hpt,show xs++[u,v]=(xs++[u])++[v] by simp];exact List.take_left' (by simp [hx])
 refine WG.eq (arm_eval_Dict ..) ?_;rw [zip_pairTrees ks vs x.env pos ha hlen,hpt,ze xs u v hx]
 refine WG.aA (WG.bind (uD (by simp [hx]) ?_))
 rw [<-ht]
 refine bG λ_ kk=>?_
 refine pS (zg I) λI1 S1 B1=>?_
 obtain⟨n1,n2⟩:=F.qu (d:=s.heap.objs.size) (Nat.le_refl _)
 refine kk ?_
 refine zf o 17 x r h [] _ e W _ I1 (F.step _ _ S1) B1 (by simp) n1 n2 pos _ _ λc' h2 l2 W2 s2 o2 e2 I2 F2 B2 S2 hl2 hne=>?_
 have hne':l2 ≠ []:=hne (.inr ⟨by decide,λz=>by rw [z] at hl;simp at hl⟩)
 have hl2':l2.length<=17:=by simpa using hl2
 obtain⟨ke,hke⟩:∃ke,ks.drop 17=[ke]:=by
  have:(ks.drop 17).length=1:=by simp [hl]
  match hq:ks.drop 17,this with
  | [ke],_=>exact⟨ke,rfl⟩
 obtain⟨ve,hve⟩:∃ve,vs.drop 17=[ve]:=by
  have:(vs.drop 17).length=1:=by simp [<-hlen,hl]
  match hq:vs.drop 17,this with
  | [ve],_=>exact⟨ve,rfl⟩
 have hpd:[v]=pairTrees (ks.drop 17) (vs.drop 17) x.env pos:=by
  have hd:∀n (ks:List (Option PySem.Expr)) (vs:List PySem.Expr),ks.all (·.isSome)=true->ks.length=vs.length->(pairTrees ks vs x.env pos).drop n=pairTrees (ks.drop n) (vs.drop n) x.env pos:=by
   intro n
   induction n with
   |zero=>intro ks vs _ _;rfl
   |succ n ih=>
    intro ks vs a b
    cases ks with
    |nil=>cases vs with
     |nil=>rfl
     |cons y ys=>cases b
    |cons k ks=>
     cases vs with
     |nil=>cases b
     |cons y ys=>
      cases k with
      |none=>simp at a
      |some k=>exact ih ks ys (by simpa using a) (by simpa using b)
  rw [<-hd 17 ks vs ha hlen,hpt,show xs++[u,v]=(xs++[u])++[v] by simp]
  exact (List.drop_left' (by simp [hx])).symm
 refine WG.bind (WG.hold (sub_short (by simp) ?_))
 rw [hpd]
 refine pS (zg I2) λI3 S3 B3=>?_
 have hsub:s.heap.objs.size ≠ s2.heap.objs.size:=Nat.ne_of_lt B2.lt
 refine ru o2 x r h2 l2 _ e2 W2 _ I3 (F2.step _ _ S3) pos _ _ λws h4 l4 W4 s4 e4 I4 S4 hw i=>?_
 have B4:=B3.step S4 id
 have Bd:=(B2.step S3 id).step S4 id
 rw [hke] at hw
 cases i with
 |nil=>simp at hw
 | @cons q ck b xk xv y vs' l m n a1 a2 a3 a4 a5 a6 a7=>
  cases a7 with
  |cons=>simp at hw
  |nil=>
   have i0:wJ V W4.μ s4.heap [(.ref b,y)] [] [.mk q xk xv]:=.cons a1 a2 a3 a4 a5 (λk=>rfl) .nil
   refine jN x.rm.put _ i0 I4 B4 (by simp) λh' tk I5 B5 S5=>?_
   have Bd5:pK w V oh W4 h' s.heap.objs.size l2:=Bd.step S5 hsub
   have hc5:ck.is h' b:=CK.eP S5.keep.tup a2
   refine bf B5.rel λS2' xs2 m5 r5=>?_
   cases r5 with
   | @cons q' k' v' l' c' b' x' xs' g1 g2 g3 g4=>
    cases g4
    have his:=m5
    refine bG λ_ kk=>?_
    refine bK his λo' es' ep' j1 j2 j3 j4 j5 j6=>?_;clear his
    obtain⟨w1,w2,w3⟩:c'.is h' b'/\c'.sh=S2'/\c'.fb<=8:=j5 _ (List.mem_singleton.mpr rfl)
    refine kk ?_
    have hsys:(s2.heap.objs.size==sysModules)=false:=by
     have:oh.get? s2.heap.objs.size=none:=B3.low
     rw [beq_eq_false_iff_ne]
     intro z
     rw [z] at this
     rw [this] at GS;exact nf GS
    refine WG.bind (WG.calm (WG.hold (WG.of (wK x.rm.put I5 Bd5 a6 g1 w1 w3 g2 g3 (by lia) hne' m5 hsub hsys λh6 tk6 I6 B6 S6=>?_))))
    have Sa:Step (λb=>b=s.heap.objs.size∨b=s2.heap.objs.size) W s W4 { s4 with heap:=h6,toks:=tk6 }:=
     ((((((S1.trans (Step.refl W _)).weaken λb z=>z.elim).trans (S2.weaken λb z=>.inl z)).trans (S3.weaken λb z=>z.elim)).trans (S4.weaken λb z=>z.elim)).trans (S5.weaken λb z=>.inr z)).trans (S6.weaken λb z=>.inl z)
    have S7:Step none_ W s W4 { s4 with heap:=h6,toks:=tk6 }:=Sa.new λb z=>.inr (z.elim (λz=>Nat.le_of_eq z.symm) λz=>by rw [z];exact Nat.le_of_lt B2.lt)
    exact WG.pure (rv p S7 I6 B6 (Nat.le_refl _) e4)
end
end
section
section
variable {w:World}{V:Va}{oh:Heap}{kH:Bool}{fi:aY}{A:Around}{E:Value->Shared->Prop}{s:Shared}{env:Env}
noncomputable def mO (ifs:List PySem.Expr) (env:Env):Sem Bool:=forIn ifs true λc r=>if r=true then do let ok <-isTrue c env (eval c env);Pure.pure (ForInStep.yield ok) else Pure.pure (ForInStep.yield r)
theorem oL (elt target iter:PySem.Expr) (ifs:List PySem.Expr) (scope:Scope) (pos:Pos) (it acc:Value) (env:Env) :
  compTurn (.ListComp elt [⟨target,iter,ifs,0⟩] scope pos) 0 it acc env=(standAt iter.pos >>= λ_=>pyNext it >>= λr=>match r with
   |none=>Pure.pure (.done .next)
   |some v=>letOwnedTupleGo target it v >>= λ_=>assign target env v >>= λ_=>mO ifs env >>= λok=>
    if ok=true then (eval elt env >>= λx=>PySem.call (.builtin "list.append") [acc,x] >>= λ_=>Pure.pure ()) >>= λ_=>
     again (.compLoop (.ListComp elt [⟨target,iter,ifs,0⟩] scope pos) 0 it acc env)
    else again (.compLoop (.ListComp elt [⟨target,iter,ifs,0⟩] scope pos) 0 it acc env)):=by rfl
theorem CG.compLoop {R:Result->Shared->Prop}{elt target iter:PySem.Expr}{ifs:List PySem.Expr}{scope:Scope}{pos:Pos}{it acc:Value}{env:Env}(I:Nat->Shared->Prop)
  (turn:∀n s,I n s->WG (model pw w) A (pyNext it) (λr s₁=>match r with
   |none=>R (.ok .next) s₁
   |some v=>WG (model pw w) A (letOwnedTupleGo target it v) (λ_ s₂=>WG (model pw w) A (assign target env v) (λ_ s₃=>WG (model pw w) A (mO ifs env) (λok s₄=>
     if ok=true then WG (model pw w) A (eval elt env) (λy s₅=>WG (model pw w) A (PySem.call (.builtin "list.append") [acc,y]) (λ_ s₆=>∃m,m<n/\I m s₆) i7 s₅) i7 s₄
     else ∃m,m<n/\I m s₄) i7 s₃) i7 s₂) i7 s₁) i7 s)
  (n:Nat) (h:I n s):CG (model pw w) A (.compLoop (.ListComp elt [⟨target,iter,ifs,0⟩] scope pos) 0 it acc env) R s:=by
 refine CG.loop rfl rfl I (λn s hI=>?_) n h
 rw [Around.under_of_weight rfl]
 refine WG.calm ?_
 refine WG.eq (oL ..) ?_
 refine WG.aA (WG.bind (WG.mono (turn n s hI) (λr s₁ h₁=>?_) λ_ _ x=>x))
 cases r with
 |none=>exact WG.pure h₁
 |some v=>
  refine WG.bind (WG.mono h₁ (λ_ s₂ h₂=>WG.bind (WG.mono h₂ (λ_ s₃ h₃=>WG.bind (WG.mono h₃ (λok s₄ h₄=>?_) λ_ _ x=>x)) λ_ _ x=>x)) λ_ _ x=>x)
  cases ok with
  |true=>
   rw [if_pos rfl] at h₄ ⊢
   exact WG.bind (WG.bind (WG.mono h₄ (λy s₅ h₅=>WG.bind (WG.mono h₅ (λ_ s₆ h₆=>WG.pure (WG.pure (.inl ⟨rfl,h₆⟩))) λ_ _ x=>x)) λ_ _ x=>x))
  |false=>
   rw [if_neg (by decide)] at h₄ ⊢
   exact WG.pure (.inl ⟨rfl,h₄⟩)
theorem zh {W:Wd}{it:Addr}{i:Nat}{c:Cu}(x:dU W s.heap it i c){Q:Value->Shared->Prop}(h:Q (.ref it) s):wpAny (model pw w) A (pyIter (.ref it)) Q E s:=by
 cases c with
 |lst v=>refine bj x λp a e1 e2 x=>?_;exact wpAny_pyIter_listiter x h
 |tup v=>refine bj x λp a e1 e2 x=>?_;exact wpAny_pyIter_tupleiter x h
 |ji lo hi=>refine aI x λl x _=>?_;exact wpAny_pyIter_rangeiter x h
 |nD v=>obtain⟨p,a,o,es,ep,e1,e2,e3,e4,e5,e6,x⟩:=x;exact wpAny_pyIter_keyiter x h
theorem CG.compStart {R:Result->Shared->Prop}{elt target iter:PySem.Expr}{ifs:List PySem.Expr}{scope:Scope}{pos:Pos}{it:Addr}{acc:Value}{env:Env}{W:Wd}{i:Nat}{c:Cu}(x:dU W s.heap it i c)
  (h:CG (model pw w) A (.compLoop (.ListComp elt [⟨target,iter,ifs,0⟩] scope pos) 0 (.ref it) acc env) R s):CG (model pw w) A (.compStart (.ListComp elt [⟨target,iter,ifs,0⟩] scope pos) 0 (.ref it) acc env) R s:=by
 refine CG.cM rfl ?_
 rw [Around.under_of_weight rfl]
 refine WG.calm ?_
 delta PySem.compStart
 refine WG.leaf (wpAny_askSetting ?_)
 split
 ·first
   |exact WG.bind (WG.pure (WG.pure (And.intro rfl h)))
   |exact WG.pure (And.intro rfl h)
 ·refine WG.rule ?_
  exact WG.aA (WG.leaf (zh x (WG.pure (And.intro rfl h))))
theorem WG.attempt {α:Type}{M:Model}{m:Sem α}{Q:Except Value α->Shared->Prop}(h:WG M A m (λa=>Q (.ok a)) (λe=>Q (.error e)) s):WG M A m.attempt Q E s:=λΓ p hΓ hd hc=>by rw [Sem.wp_attempt];exact h Γ p hΓ hd hc
theorem WG.wL {α:Type}{M:Model}{c:Prop} [Decidable c] {pos:Pos}{k:PUnit->Sem α}{Q:α->Shared->Prop}(h:WG M A (k ()) Q E s):WG M A (if c then (standAt pos >>= k) else k ()) Q E s:=by
 split
 ·exact WG.aA h
 ·exact h
def uE (w:World) (A:Around) (E:Value->Shared->Prop) (use:Option (Value->Sem Unit)) (Q:Value->Shared->Prop) (acc:Value) (C:Addr) (r:Result) (s':Shared):Prop:=
 match r,use with
 |.ok _,none=>∃m,s'.heap.Ns C m/\∀h',Heap.SameBut C s'.heap h'->Q acc { s' with heap:=h' }
 |.ok _,some u=>WG (model pw w) A (u acc) (λ_ s''=>∃m,s''.heap.Ns C m/\∀h',Heap.SameBut C s''.heap h'->Q .none { s'' with heap:=h' }) E s'
 |.error _,_=>False
theorem iW {e:PySem.Expr}{scope:Scope}{pos:Pos}{newAcc first:Sem Value}{g:Comprehension}{gs:List Comprehension}{cl:List (Str × Addr)}{use:Option (Value->Sem Unit)}
  {Q:Value->Shared->Prop}
  (hcl:clausesOf e=g::gs) (hs:∀x,foldedSetIterable g.iter env x=Pure.pure x) (hclos:closureFor scope env=Pure.pure cl)
  (hkind:scope.kind = .function) (hnames:∀x ∈ scope.names,x.2 = .local->scope.names.lookup x.1=some .local)
  (h:WG (model pw w) A first (λx s₁=>wpAny (model pw w) A (pyIter x) (λit s₂=>wpAny (model pw w) A newAcc (λacc s₃=>
   wpAny (model pw w) A (newFunctionEnv scope env.globals cl [] env.qual none .none (some env)) (λcenv s₄=>
    CG (model pw w) A (.compStart e 0 it acc { cenv with scope:=relabel scope env }) (uE w A E use Q acc cenv.locals) s₄) E s₃) E s₂) E s₁) E s) :
  WG (model pw w) A (comprehension e scope env pos newAcc false first use) Q E s:=by
 unfold comprehension
 rw [hclos,hcl]
 refine WG.bind (WG.mono h (λx s₁ h₁=>WG.aA (WG.bind (WG.of_eq (hs x) (WG.pure (WG.bind (WG.hold (WG.of (wpAny_mono h₁ (λit s₂ h₂=>
  WG.wL (WG.leaf (wpAny_mono h₂ (λacc s₃ h₃=>WG.bind (WG.pure (WG.leaf (wpAny_mono h₃ (λcenv s₄ h₄=>?_) λ_ _ h'=>h')))) λ_ _ h'=>h')))
   λ_ _ h'=>h'))))))) ) λ_ _ h'=>h')
 dsimp only
 have hv:∀x ∈ (scope.names.filter λx=>(x.2 == .local||x.2 == .cell)&&x.1 != (".0" : Str)).reverse,x.2 = .local ->
   Env.kindOf { cenv with scope:=relabel scope env } x.1=some .local:=λx hx hl=>lookup_relabel_local (hnames x (List.mem_filter.mp (List.mem_reverse.mp hx)).1 hl)
 have hv':∀x ∈ (scope.names.filter λx=>(x.2 == .local||x.2 == .cell)&&x.1 != (".0" : Str)).reverse.drop 1++(scope.names.filter λx=>(x.2 == .local||x.2 == .cell)&&x.1 != (".0" : Str)).reverse.take 1,
   x.2 = .local->Env.kindOf { cenv with scope:=relabel scope env } x.1=some .local:=λx hx hl=>by
  rcases List.mem_append.mp hx with h1|h1
  ·exact hv x (List.mem_of_mem_drop h1) hl
  ·exact hv x (List.mem_of_mem_take h1) hl
 refine WG.hold (WG.bind (WG.attempt (WG.hold (WG.run (h:=none) (CG.mono h₄ λr s' hr=>?_) λx=>nn x))))
 cases r with
 |ok f=>
  cases use with
  |none=>
   refine aI hr λm hn hr=>?_
   exact WG.bind (WG.hold (WG.of (wpAny_comp_letGo (cenv:={ cenv with scope:=relabel scope env }) hkind _ s' m hv hn λh' m' _ hs'=>WG.pure (hr h' hs'))))
  |some u=>
   refine WG.rule (WG.bind (WG.hold (WG.mono hr (λ_ s'' hr'=>?_) λ_ _ h'=>h')))
   refine aI hr' λm hn hr'=>?_
   exact WG.leaf (wpAny_comp_letGo (cenv:={ cenv with scope:=relabel scope env }) hkind _ s'' m hv' hn λh' m' _ hs'=>WG.pure (hr' h' hs'))
 |error x=>cases use<;>exact hr.elim
end
end
section
set_option genInjectivity false
set_option genSizeOf false
section
variable {w:World}{V:Va}{oh:Heap}{kH:Bool}{fi fc:aY}{A:Around}{E:Value->Shared->Prop}{s:Shared}{env:Env}
theorem se:∀(names:List (Str × NameKind)) (acc:List (Str × Addr)),(∀n,(n,NameKind.free) ∈ names->∃c,env.cells.lookup n=some c)->(∀x c,acc.lookup x=some c->env.cells.lookup x=some c) ->
  ∃cl,(forIn names acc λ(p:Str × NameKind) cs=>(if p.2 == .free then do let a <-cellOf env p.1;Pure.pure (ForInStep.yield ((p.1,a)::cs)) else Pure.pure (ForInStep.yield cs):Sem (ForInStep (List (Str × Addr)))))=Pure.pure cl /\
   (∀x c,cl.lookup x=some c->env.cells.lookup x=some c)/\(∀x,(x,NameKind.free) ∈ names∨(acc.lookup x).isSome=true->cl.lookup x=env.cells.lookup x):=by
 intro names
 induction names with
 |nil=>
  intro acc _ h
  refine yEAA acc rfl h λx hx=>?_
  rcases hx with hx|hx
  ·cases hx
  ·obtain⟨c,hc⟩:=Option.isSome_iff_exists.mp hx
   rw [hc,h x c hc]
 |cons p names ih=>
  intro acc hf h
  obtain⟨n,k⟩:=p
  rw [List.forIn_cons]
  by_cases hk:k = .free
  ·subst hk
   obtain⟨c,hc⟩:=hf n List.mem_cons_self
   have e1:cellOf env n=Pure.pure c:=by unfold cellOf;rw [hc]
   refine cS (ih ((n,c)::acc) (λn' hn=>hf n' (List.mem_cons_of_mem _ hn)) (λx d hx=>by
    rw [List.lookup_cons] at hx
    cases hq:x==n with
    |true=>rw [hq] at hx;cases hx;rw [eq_of_beq hq];exact hc
    |false=>rw [hq] at hx;exact h x d hx)) λcl g1 g2 g3=>?_
   refine yEAA cl ?_ g2 λx hx=>g3 x ?_
   ·simp only [beq_self_eq_true,if_true,e1,pure_bind];exact g1
   ·rcases hx with hx|hx
    ·rcases List.mem_cons.mp hx with hx|hx
     ·cases hx;right;simp [List.lookup_cons]
     ·exact .inl hx
    ·right
     rw [List.lookup_cons]
     cases hq:x==n with
     |true=>rfl
     |false=>exact hx
  ·have hb:(k==NameKind.free)=false:=by simpa using hk
   refine cS (ih acc (λn' hn=>hf n' (List.mem_cons_of_mem _ hn)) h) λcl g1 g2 g3=>?_
   refine yEAA cl ?_ g2 λx hx=>g3 x (hx.imp (λhx=>?_) id)
   ·simp only [hb,Bool.false_eq_true,if_false,pure_bind];exact g1
   ·rcases List.mem_cons.mp hx with hx|hx
    ·cases hx;exact absurd rfl hk
    ·exact hx
theorem mP {scope:Scope}(hf:∀n,(n,NameKind.free) ∈ scope.names->∃c,env.cells.lookup n=some c) :
  ∃cl,closureFor scope env=Pure.pure cl/\(∀x c,cl.lookup x=some c->env.cells.lookup x=some c)/\(∀x,(x,NameKind.free) ∈ scope.names->cl.lookup x=env.cells.lookup x):=by
 refine cS (se (env:=env) scope.names [] hf (λx c h=>by exact nn h)) λcl g1 g2 g3=>?_
 refine yEAA cl ?_ g2 λx hx=>g3 x (.inl hx)
 unfold closureFor
 dsimp only
 rw [show (forIn scope.names ([]:List (Str × Addr)) λx (cs:List (Str × Addr))=>(match x with|(name,kind)=>if (kind==NameKind.free)=true then do let a <-cellOf env name;Pure.pure (ForInStep.yield ((name,a)::cs)) else Pure.pure (ForInStep.yield cs):Sem (ForInStep (List (Str × Addr)))))=Pure.pure cl from g1]
 rfl
noncomputable def dj (fi:aY) (names:List (Str × NameKind)) (x:Str):Option NameKind:=(names.map λp=>(p.1,if (p.2==NameKind.free&&fi.kindOf p.1==some .cell)=true then NameKind.cell else p.2)).lookup x
theorem iM (fi:aY) (names:List (Str × NameKind)) (x:Str):dj fi names x=(names.lookup x).map λk=>if (k==NameKind.free&&fi.kindOf x==some .cell)=true then NameKind.cell else k:=by
 delta dj
 induction names with
 |nil=>rfl
 |cons p r ih=>
  obtain⟨n,k⟩:=p
  rw [List.map_cons,List.lookup_cons,List.lookup_cons]
  cases hx:x==n with
  |true=>rw [eq_of_beq hx];rfl
  |false=>exact ih
theorem jO {names:List (Str × NameKind)}{x:Str}(h:names.lookup x=some .local):dj fi names x=some .local:=by
 rw [iM,h];rfl
theorem fW {names:List (Str × NameKind)}{x:Str}(h:names.lookup x=some .free):dj fi names x=some .cell∨dj fi names x=some .free:=by
 rw [iM,h]
 show some (if _ then _ else _)=_∨some (if _ then _ else _)=_
 split
 ·exact .inl rfl
 ·exact .inr rfl
inductive lK (fi fc:aY) (names:List (Str × NameKind)):hZ->Prop where
 |nil:lK fi fc names .nil
 |cons {p q:P4}{x:Str}{r:hZ}:fi.slot p=some x->fc.slot q=some x->names.lookup x=some .free->lK fi fc names r->lK fi fc names (.cons p q r)
structure fz (fi fc:aY) (scope:Scope) (bE:hZ):Prop where
 kind:scope.kind = .function
 zi:∀y ∈ scope.names,y.2 ≠ .cell
 locals:∀x ∈ scope.names,x.2 = .local->scope.names.lookup x.1=some .local
 free:∀n,(n,NameKind.free) ∈ scope.names->∃p,fi.slot p=some n/\(fi.kindOf n=some .cell∨fi.kindOf n=some .free)
 kinds:∀x,fc.kindOf x=dj fi scope.names x
 slots:∀q x,fc.slot q=some x->scope.names.lookup x=some .local∨scope.names.lookup x=some .free
 own:∀x,fc.own x=false
 bE:lK fi fc scope.names bE
theorem bM {α β:Type} [BEq α] [LawfulBEq α] {l:List (α × β)}{x:α}{y:β}(h:l.lookup x=some y):(x,y) ∈ l:=by
 induction l with
 |nil=>exact nn h
 |cons p r ih=>
  obtain⟨a,b⟩:=p
  rw [List.lookup_cons] at h
  cases hq:x==a with
  |true=>rw [hq] at h;cases h;rw [eq_of_beq hq];exact List.mem_cons_self
  |false=>rw [hq] at h;exact List.mem_cons_of_mem _ (ih h)
theorem fz.fm {scope:Scope}{bE:hZ}(o:fz fi fc scope bE) (fm:Fm fi env) (cl:List (Str × Addr)) (C:Addr):Fm fc (compEnvC scope cl C env):=by
 refine⟨o.kind,fm.glob,fm.bi,λx=>?_⟩
 rw [o.kinds]
 show (scope.names.map λ(n,k)=>if (k==NameKind.free&&env.scope.kind == .function&&env.kindOf n==some .cell) then (n,NameKind.cell) else (n,k)).lookup x=_
 unfold dj
 congr 1
 apply List.map_congr_left
 intro p _
 obtain⟨n,k⟩:=p
 dsimp only
 rw [fm.kind,fm.kinds n]
 by_cases hc:(k==NameKind.free&&fi.kindOf n==some NameKind.cell)=true
 ·rw [if_pos hc,if_pos (by simpa using hc)]
 ·rw [if_neg hc,if_neg (by simpa using hc)]
theorem qw {names:List (Str × NameKind)}{bE:hZ}(o:lK fi fc names bE):∀{r x:Tr AV}{k:Tr AV->Bool},yK bE r x k=true->(∀q y av,fc.slot q=some y->x.get q=some av->names.lookup y=some .free/\∃p,fi.slot p=some y/\r.get p=some av) ->
  ∃r',k r'=true/\∀q y av,fc.slot q=some y->r'.get q=some av->names.lookup y=some .free/\∃p,fi.slot p=some y/\r.get p=some av:=by
 induction o with
 |nil=>intro r x k e h;exact yEA x e h
 | @cons p q y c h1 h2 h3 _ ih=>
  intro r x k e h
  refine opt_k (show opt (r.get p) (λv=>yK c r (x.set v q) k)=true from e) λv e1 e2=>?_
  refine ih e2 λq' y' av a b=>?_
  by_cases hq:q=q'
  ·subst hq
   rw [Tr.au] at b;cases b
   rw [h2] at a;cases a
   exact yAEA h3 p h1 e1
  ·rw [Tr.aw _ _ _ _ hq] at b
   exact h q' y' av a b
theorem fz.frame {scope:Scope}{bE:hZ}(o:fz fi fc scope bE){W:Wd}{hp:Heap}{r r':Tr AV}{cl:List (Str × Addr)}{C:Addr}(F:aM V oh fi env W hp r) (hcl:∀x c,cl.lookup x=some c->env.cells.lookup x=some c) (hfr:∀x,(x,NameKind.free) ∈ scope.names->cl.lookup x=env.cells.lookup x)
  (hC:hp.Ns C (λ_=>none)) (hun:¬W.own C/\oh.get? C=none) (hr:∀q y av,fc.slot q=some y->r'.get q=some av->scope.names.lookup y=some .free/\∃p,fi.slot p=some y/\r.get p=some av):aM V oh fc (compEnvC scope cl C env) W hp r':=by
 refine⟨yEA _ hC λp x av a b c=>?_,λp x a=>?_,hun,λx c e=>F.ej x c (hcl x c e),λx y c e1 e2=>F.inj x y c (hcl _ _ e1) (hcl _ _ e2)⟩
 ·obtain⟨h1,_⟩:=hr p x av a b
  rw [o.kinds] at c
  rcases fW (fi:=fi) h1 with h|h<;>(rw [c] at h;cases h)
 ·rcases o.slots p x a with h|h
  ·left;rw [o.kinds];exact jO h
  ·right
   refine⟨by rw [o.kinds];exact fW h,?_⟩
   have hm:=bM h
   refine aI (o.free x hm) λq hq hk=>?_
   rcases F.me q x hq with hl|⟨_,c,oc,l1,l2,l3⟩
   ·rw [hl] at hk;rcases hk with hk|hk<;>cases hk
   ·refine yEEAA c oc ?_ l2 λav ha=>?_
    ·show cl.lookup x=some c
     rw [hfr x hm];exact l1
    ·obtain⟨_,p',hp',hv⟩:=hr p x av a ha
     rw [fi.inj hp' hq] at hv
     exact l3 av hv
end
end
section
set_option genInjectivity false
set_option genSizeOf false
section
variable {w:World}{V:Va}{oh:Heap}{kH:Bool}{fi fc:aY}{A:Around}{E:Value->Shared->Prop}{s:Shared}{env:Env}
theorem jb {W:Wd}{n:P4}{a b:Addr}(q:(W.ext n a none).own b):W.own b∨b=a:=by
 rcases q with ⟨p,e⟩|⟨p,e⟩
 ·have e:(if p=n then some a else W.μ p)=some b:=e
  split at e
  ·cases e;exact .inr rfl
  ·exact .inl (.inl ⟨p,e⟩)
 ·have e:(if p=n then none else W.δ p)=some b:=e
  split at e
  ·exact nn e
  ·exact .inl (.inr ⟨p,e⟩)
theorem aM.ext {W:Wd}{n:P4}{d:Addr}{hp:Heap}{r:Tr AV}(le:W.le (W.ext n d none)) (F:aM V oh fi env W hp r) (h1:d ≠ env.locals) (h2:∀y a,env.cells.lookup y=some a->a ≠ d):aM V oh fi env (W.ext n d none) hp r:=by
 refine aI F.loc λm hn hm=>?_
 refine⟨yEA m hn λp x av a b c=>let ⟨v,d,e⟩:=hm p x av a b c;⟨v,d,e.mono le.1⟩,λp x a=>?_,⟨λq=>(jb q).elim F.un.1 λz=>h1 z.symm,F.un.2⟩,λx c e=>⟨λq=>(jb q).elim (F.ej x c e).1 λz=>h2 x c e z,(F.ej x c e).2⟩,F.inj⟩
 exact (F.me p x a).imp id λ⟨k,c,o,l,g,q⟩=>yAEEAA k c o l g λav ha=>let ⟨v,d,e⟩:=q av ha;⟨v,d,e.mono le.1⟩
theorem wM {k:K1}{W0 W:Wd}{s0 s:Shared}{h:H}{d:Addr}{o:AO}(S:Step none_ W0 s0 W s) (I:Inv w V oh W h s.heap) (hn:¬W.own d) (h0:oh.get? d=none) (hlt:d<s.heap.objs.size) (hd:s0.heap.objs.size<=d) (e:Mine.alloc o h k=true)
  (hr:∀W',W.le W'->bV w V W' s.heap d h.nx o):∃h',k (.ref h.nx) h'=true/\W.le (W.ext h.nx d none)/\Rep V (W.ext h.nx d none).μ (.ref h.nx) (.ref d)/\Inv w V oh (W.ext h.nx d none) h' s.heap/\Step none_ W0 s0 (W.ext h.nx d none) s:=by
 have hle:W.le (W.ext h.nx d none):=by
  refine⟨λp b e=>?_,λp b e=>?_,rfl⟩
  ·show (if p=h.nx then some d else W.μ p)=some b
   rw [if_neg λq=>(by subst q;exact absurd (I.nE _ _ e) (Nat.lt_irrefl _))];exact e
  ·show (if p=h.nx then none else W.δ p)=some b
   rw [if_neg λq=>(by subst q;exact absurd (I.ez _ _ e) (Nat.lt_irrefl _))];exact e
 obtain⟨le,I2⟩:=I.new (a:=d) (d:=none) (o:=o) hn (λb q=>by exact nn q) h0 hlt (hr _ hle)
 exact yEAAAA _ (dW e) hle ⟨d,if_pos rfl,rfl⟩ I2 ⟨Wd.le_trans S.le le,λb q=>(jb q).elim (S.fresh b) λz=>.inr (z▸hd),S.keep,S.size,S.gens,S.os⟩
inductive eG (w:World) (V:Va) (oh:Heap) (kH:Bool) (fc:aY):TC->List PySem.Expr->Prop where
 |none:eG w V oh kH fc bw []
 |one {t:TC}{c:PySem.Expr}:ST w V oh kH fc t c->eG w V oh kH fc t [c]
theorem BM {t:TC}{ifs:List PySem.Expr}(o:eG w V oh kH fc t ifs) (x:Cx w V oh kH fc){r:Tr AV}{h:H}{k:Bool->H->Bool}(e:t x.co r h k=true){W:Wd}{s:Shared}(I:Inv w V oh W h s.heap) (F:aM V oh fc x.env W s.heap r){Q:Bool->Shared->Prop}{E:Value->Shared->Prop}
  (p:jw w V oh k W s Q):WG (model pw w) x.A (mO ifs x.env) Q E s:=by
 unfold mO
 cases o with
 |none=>
  refine WG.eq (List.forIn_nil ..) ?_
  exact WG.pure (p true h W s e I (Step.refl W s))
 |one hc=>
  refine WG.eq (List.forIn_cons ..) ?_
  refine WG.bind ?_
  refine git rfl ?_
  refine WG.bind (hc x r h k e W s I F _ _ λb h' W' s' e' I' S'=>WG.pure ?_)
  dsimp only
  refine WG.eq (List.forIn_nil ..) ?_
  exact WG.pure (p b h' W' s' e' I' S')
theorem uF (GS:(oh.get? sysModules).isSome=true){tg:Tg}{bE:hZ}{c ce:EC}{cond:TC}{target iter elt:PySem.Expr}{ifs:List PySem.Expr}{scope:Scope}{pos p0:Pos}(hs:∀env x,foldedSetIterable iter env x=Pure.pure x) (o:fz fi fc scope bE) (okT:fv fc tg target)
  (okI:eG w V oh kH fc cond ifs) (hc:SE w V oh kH fi c iter) (he:SE w V oh kH fc ce elt) (x:Cx w V oh kH fi) (r:Tr AV) (h:H) (k:K1) (hk:cn tg bE c cond ce x.co r h k=true) (W:Wd) (s:Shared) (I:Inv w V oh W h s.heap) (F:aM V oh fi x.env W s.heap r)
  (use:Option (Value->Sem Unit)) (Q:Value->Shared->Prop) (E:Value->Shared->Prop)
  (post:∀av h' v W' s' C,k av h'=true->Rep V W'.μ av v->Inv w V oh W' h' s'.heap->aM V oh fi x.env W' s'.heap r->Step none_ W s W' s'->¬W'.own C->oh.get? C=none->s.heap.objs.size<=C->(∃m,s'.heap.Ns C m)->C ≠ x.env.locals->(∀y a,x.env.cells.lookup y=some a->a ≠ C) ->
   uE w x.A E use Q v C (.ok .next) s') :
  WG (model pw w) x.A (comprehension (.ListComp elt [⟨target,iter,ifs,0⟩] scope pos) scope x.env p0 (newList []) false (eval iter x.env) use) Q E s:=by
 refine bG λ_ kk=>?_
 obtain⟨cl,hclos,hcl1,hcl2⟩:=mP (env:=x.env) (scope:=scope) λn hn=>by
  refine aI (o.free n hn) λp hp hkk=>?_
  rcases F.me p n hp with hl|⟨_,c,_,l,_⟩
  ·rw [hl] at hkk;rcases hkk with hkk|hkk<;>cases hkk
  ·exact⟨c,l⟩
 refine kk ?_
 refine iW rfl (hs _) hclos o.kind o.locals ?_
 refine hc x r h _ hk W s I F _ _ λav h1 v W1 s1 e1 R1 I1 S1=>?_
 refine um GS I1 e1 R1 λcu h2 Wl ob e2 L I2 T2=>?_
 refine aI (qw o.bE e2 (λq y av a b=>by rw [Tr.bF] at b;exact nn b)) λr1 e3 hr1=>?_
 have F1:=F.step _ _ S1
 refine wpAny_newObj_type (wpAny_newFunctionEnv o.zi (by intro y hy;cases hy) (λh₁ hns hsb=>?_) o.kind)
 dsimp only at hns hsb ⊢
 generalize hit:s1.heap.objs.size=it at *
 have hDs:(s1.heap.push ob).objs.size=it+1:=by rw [Heap.size_push,hit]
 rw [hDs]
 generalize hH2:(s1.heap.push ob).push { cls:=.type "list",dict:=none,data:=.seq ([]:List Value).toArray }=H2 at hns hsb ⊢
 have hCs:H2.objs.size=it+2:=by rw [<-hH2,Heap.size_push,hDs]
 rw [hCs] at hns hsb ⊢
 have n10:it+1 ≠ it:=Nat.succ_ne_self it
 have n02:it ≠ it+2:=Nat.ne_of_lt (Nat.lt_add_of_pos_right (by decide))
 have n12:it+1 ≠ it+2:=Nat.ne_of_lt (Nat.lt_succ_self _)
 have n01:it ≠ it+1:=Nat.ne_of_lt (Nat.lt_succ_self _)
 have n21:it+2 ≠ it+1:=Nat.succ_ne_self _
 have gH2:∀b o,(s1.heap.push ob).get? b=some o->H2.get? b=some o:=λb o e=>hH2▸Heap.get?_push_of_some _ e
 have sz1:h₁.objs.size=it+3:=by rw [hsb.1,Heap.size_push,hCs]
 have g1:∀b o,H2.get? b=some o->h₁.get? b=some o:=λb o e=>(hsb.2 b (Nat.ne_of_lt (hCs▸Heap.lt_size e))).trans (Heap.get?_push_of_some _ e)
 have gA:∀b o,(s1.heap.push ob).get? b=some o->h₁.get? b=some o:=λb o e=>g1 b o (gH2 b o e)
 have gB:∀b o,s1.heap.get? b=some o->h₁.get? b=some o:=λb o e=>gA b o (Heap.get?_push_of_some _ e)
 have hD0:h₁.get? (it+1)=some { cls:=.type "list",dict:=none,data:=.seq ([]:List Value).toArray }:=g1 _ _ (by rw [<-hH2,<-hDs];exact Heap.get?_push_size _ rfl)
 obtain⟨I3,Sg⟩:=du (s:={ s1 with heap:=s1.heap.push ob }) (h':=h₁) I2 gA (by show (s1.heap.push ob).objs.size<=_;lia) (s1.toks+([]:List (Str × Value)).length)
 obtain⟨_,Sl⟩:=du (h':=h₁) I1 gB (by rw [hit];lia) (s1.toks+([]:List (Str × Value)).length)
 have T3:dU Wl h₁ it 0 cu:=T2.keep (Wd.le_refl _) (λo e=>gA _ _ e) λb o l e=>gA _ _ e
 have nown:∀b,it<=b->¬Wl.own b:=λb hb q=>eD I1 (hit▸hb) ((L.own b).mp q)
 have nlow:∀b,it<=b->oh.get? b=none:=λb hb=>eC I1 (hit▸hb)
 have hloc:∀b,it<=b->b ≠ x.env.locals:=λb hb=>(F1.qu (hit▸hb)).1
 have hcel:∀b,it<=b->∀y a,x.env.cells.lookup y=some a->a ≠ b:=λb hb=>(F1.qu (hit▸hb)).2
 have FA:aM V oh fi x.env Wl h₁ r:=(F1.step _ _ Sl).x7 L.μ L.δ
 have FC:aM V oh fc (compEnvC scope cl (it+2) x.env) Wl h₁ r1:=o.frame FA hcl1 hcl2 (by simpa using hns) ⟨nown _ (by exact Nat.le_add_right _ _),nlow _ (by exact Nat.le_add_right _ _)⟩ hr1
 let xc:Cx w V oh kH fc:=⟨x.n,x.co,x.ok,x.A,x.rm,x.ho,compEnvC scope cl (it+2) x.env,o.fm x.fm cl (it+2)⟩
 generalize htk:s1.toks+([]:List (Str × Value)).length=tk at *
 show CG (model pw w) x.A (.compStart (.ListComp elt [⟨target,iter,ifs,0⟩] scope pos) 0 (.ref it) (.ref (it+1)) xc.env) (uE w x.A E use Q (.ref (it+1)) (it+2)) { s1 with heap:=h₁,toks:=tk }
 have mutC:∀b,kC fc xc.env b->b=it+2:=λb hb=>by
  rcases hb with hb|⟨y,hy,_⟩
  ·exact hb
  ·rw [o.own] at hy;exact nf hy
 refine gzI (λn s'=>∃i acc r' h' W' ys m,compLoop tg cond ce x.co cu n i acc r' h' (λacc h=>bA cu h λh=>Mine.alloc (.list acc) h k)=true/\Inv w V oh W' h' s'.heap/\aM V oh fc xc.env W' s'.heap r'/\aM V oh fi x.env W' s'.heap r /\
  dU W' s'.heap it i cu/\s'.heap.get? (it+1)=some { cls:=.type "list",dict:=none,data:=.seq ys m }/\aR V W'.μ acc ys.toList/\Step (λb=>b=it∨b=it+1∨b=it+2) Wl { s1 with heap:=h₁,toks:=tk } W' s') λIv hv=>?_
 refine CG.compStart (W:=Wl) (i:=0) (c:=cu) T3 (CG.compLoop Iv (λn s' hI=>?_) 64 ((hv _ _).mpr (yEEEEEE 0 [] r1 h2 Wl _ (yEAAAA _ e3 I3 FC FA (yAAA T3 hD0 .nil (Step.refl _ _))))))
 refine bG λ_ kk=>?_
 obtain⟨i,acc,r',h',W',ys,m,e4,I4,FC4,FA4,T4,hD4,RL4,S4⟩:=(hv _ _).mp hI
 refine kk ?_
 have sz4:it+3<=s'.heap.objs.size:=by have:=S4.size;rw [<-sz1];exact this
 have nown4:∀b,it<=b->b<it+3->¬W'.own b:=λb hb hb2 q=>(S4.fresh b q).elim (nown b hb) λz=>by have z:h₁.objs.size<=b:=z;lia
 have ncell:∀b,it<=b->∀y a,xc.env.cells.lookup y=some a->a ≠ b:=λb hb y a l=>hcel b hb y a (hcl1 y a l)
 cases n with
 |zero=>exact nf e4
 |succ n=>
  have e5:nO cu i h' (bA cu h' λh=>Mine.alloc (.list acc) h k) (λxv=>jn tg xv r' h' λr=>cond x.co r h' λb h=>Bool.rec (compLoop tg cond ce x.co cu n (Nat.succ i) acc r h (λacc h=>bA cu h λh=>Mine.alloc (.list acc) h k))
   (ce x.co r h λy h=>az (Nat.ble (len acc) 4096) (compLoop tg cond ce x.co cu n (Nat.succ i) (lc acc [y]) r h (λacc h=>bA cu h λh=>Mine.alloc (.list acc) h k)) false) b)=true:=e4
  refine WG.of (uo x.ho I4 T4 (nlow it (Nat.le_refl _)) (nown4 it (Nat.le_refl _) (by lia)) e5 (λke h4 g4=>?_) λav4 v4 h4 tk4 e6 R4 T5 g4=>?_)
  ·obtain⟨I5,S5⟩:=eS I4 (nown4 it (Nat.le_refl _) (by lia)) (nlow it (Nat.le_refl _)) T4.mx g4 s'.toks
   have S45:=S4.trans (S5.weaken λb hb=>.inl hb)
   refine bG λ_ kk=>?_
   refine cS (ow L S45 I5 ke) λh6 k6 I6 S6=>?_
   refine kk ?_
   have St:Step none_ W s ⟨W'.μ,W'.δ,W1.lk⟩ { s' with heap:=h4 }:=(S1.up.trans (Sl.up.trans S6)).new λb hb=>.inr (by
    have hs0:s.heap.objs.size<=it:=hit▸S1.size
    have hb:b=it∨b=it+1∨b=it+2:=hb
    rcases hb with hb|hb|hb
    ·rw [hb];exact hs0
    ·rw [hb];exact Nat.le_succ_of_le hs0
    ·rw [hb];exact Nat.le_succ_of_le (Nat.le_succ_of_le hs0))
   have hn6:∀b,it<=b->b<it+3->¬Wd.own ⟨W'.μ,W'.δ,W1.lk⟩ b:=λb hb hb2 q=>nown4 b hb hb2 q
   have hs0:s.heap.objs.size<=it:=hit▸S1.size
   have hD6:h4.get? (it+1)=some { cls:=.type "list",dict:=none,data:=.seq ys m }:=g4.1 _ _ n10 hD4
   refine bG λ_ kk=>?_
   obtain⟨h7,k7,le7,R7,I7,S7⟩:=wM (d:=it+1) St I6 (hn6 _ (by exact Nat.le_add_right _ _) (by lia)) (nlow _ (by exact Nat.le_add_right _ _)) (Heap.lt_size hD6) (by exact Nat.le_succ_of_le ‹_›) k6 (λW'' le=>yEEA ys m hD6 (RL4.mono le.1))
   refine kk ?_
   have FA6:aM V oh fi x.env W' h4 r:=FA4.fw S5 (λz=>hloc it (Nat.le_refl _) z.symm) λy a l z=>hcel it (Nat.le_refl _) y a l z
   have FC6:aM V oh fc xc.env W' h4 r':=FC4.fw S5 (λz=>by have z:it+2=it:=z;lia) λy a l z=>ncell it (Nat.le_refl _) y a l z
   refine aI FC6.loc λmC hC _=>?_
   exact post _ h7 _ _ { s' with heap:=h4 } (it+2) k7 R7 I7 ((FA6.qk (L:=W1.lk)).ext le7 (hloc _ (by exact Nat.le_add_right _ _)) (hcel _ (by exact Nat.le_add_right _ _))) S7
    (λq=>(jb q).elim (hn6 _ (by exact Nat.le_add_right _ _) (by exact Nat.le_refl _)) λz=>n21 z) (nlow _ (by exact Nat.le_add_right _ _)) (by lia) ⟨mC,hC⟩ (hloc _ (by exact Nat.le_add_right _ _)) (hcel _ (by exact Nat.le_add_right _ _))
  ·have g4':kF it s'.heap h4:=⟨g4.extBut,Nat.le_of_eq g4.1.symm⟩
   obtain⟨I5,S5⟩:=eS I4 (nown4 it (Nat.le_refl _) (by lia)) (nlow it (Nat.le_refl _)) T4.mx g4' tk4
   have FA5:aM V oh fi x.env W' h4 r:=FA4.fw S5 (λz=>hloc it (Nat.le_refl _) z.symm) λy a l z=>hcel it (Nat.le_refl _) y a l z
   have FC5:aM V oh fc xc.env W' h4 r':=FC4.fw S5 (λz=>by have z:it+2=it:=z;lia) λy a l z=>ncell it (Nat.le_refl _) y a l z
   have hD5:h4.get? (it+1)=some { cls:=.type "list",dict:=none,data:=.seq ys m }:=g4'.1 _ _ n10 hD4
   refine WG.of (jC (s:={ s' with heap:=h4,toks:=tk4 }) T5 target v4 (WG.of (jB x.ho xc.fm okT R4 e6 I5 FC5 λr5 s5 e7 I6 FC6 S6=>?_)))
   have S6':Step (λb=>b=it+2) W' { s' with heap:=h4,toks:=tk4 } W' s5:=S6.weaken mutC
   have T6:dU W' s5.heap it (i+1) cu:=T5.step (s:={ s' with heap:=h4,toks:=tk4 }) S6' (nown4 it (Nat.le_refl _) (by lia)) n02
   have FA6:aM V oh fi x.env W' s5.heap r:=FA5.fw (s:={ s' with heap:=h4,toks:=tk4 }) S6' (λz=>hloc _ (by exact Nat.le_add_right _ _) z.symm) λy a l z=>hcel (it+2) (by exact Nat.le_add_right _ _) y a l z
   have hD6:s5.heap.get? (it+1)=some { cls:=.type "list",dict:=none,data:=.seq ys m }:=S6'.keep _ _ hD5 (.inl ⟨nown4 _ (by exact Nat.le_add_right _ _) (by lia),n12⟩)
   have S46:Step (λb=>b=it∨b=it+1∨b=it+2) Wl { s1 with heap:=h₁,toks:=tk } W' s5:=S4.trans ((S5.weaken λb hb=>.inl hb).trans (S6'.weaken λb hb=>.inr (.inr hb)))
   refine BM okI xc e7 I6 FC6 λb h7 W7 s7 e8 I7 S7=>?_
   have T7:=T6.step S7 (nown4 it (Nat.le_refl _) (by lia)) id
   have FA7:=FA6.step _ _ S7
   have FC7:=FC6.step _ _ S7
   have hD7:s7.heap.get? (it+1)=some { cls:=.type "list",dict:=none,data:=.seq ys m }:=S7.keep _ _ hD6 (.inl ⟨nown4 _ (by exact Nat.le_add_right _ _) (by lia),id⟩)
   have S47:=S46.trans (S7.weaken λb z=>z.elim)
   have nown7:∀b,it<=b->b<it+3->¬W7.own b:=λb hb hb2 q=>(S47.fresh b q).elim (nown b hb) λz=>by have z:h₁.objs.size<=b:=z;lia
   cases b with
   |false=>
    refine pif Bool.false_ne_true ?_
    exact yEA n (Nat.lt_succ_self _) ((hv _ _).mpr (yEEEEEE (i+1) acc r5 h7 W7 ys (yEAAAA m e8 I7 FC7 FA7 (yAAA T7 hD7 (RL4.mono S7.le.1) S47))))
   |true=>
    refine pit rfl ?_
    refine he xc r5 h7 _ e8 W7 s7 I7 FC7 _ _ λyv h8 y W8 s8 e9 R8 I8 S8=>?_
    obtain⟨e10,e11⟩:=aN e9
    have T8:=T7.step S8 (nown7 it (Nat.le_refl _) (by lia)) id
    have FA8:=FA7.step _ _ S8
    have FC8:=FC7.step _ _ S8
    have hD8:s8.heap.get? (it+1)=some { cls:=.type "list",dict:=none,data:=.seq ys m }:=S8.keep _ _ hD7 (.inl ⟨nown7 _ (by exact Nat.le_add_right _ _) (by lia),id⟩)
    have S48:=S47.trans (S8.weaken λb z=>z.elim)
    have nown8:∀b,it<=b->b<it+3->¬W8.own b:=λb hb hb2 q=>(S48.fresh b q).elim (nown b hb) λz=>by have z:h₁.objs.size<=b:=z;lia
    have RL8:aR V W8.μ acc ys.toList:=(RL4.mono S7.le.1).mono S8.le.1
    have hsz:ys.size<=sizeLine:=by have:=br e10;rw [RL8.len] at this;simpa using this
    refine WG.of (append_at hD8 (λh9 hs9 hD9=>?_) hsz)
    obtain⟨I9,S9⟩:=eS I8 (nown8 (it+1) (by exact Nat.le_add_right _ _) (by lia)) (nlow _ (by exact Nat.le_add_right _ _)) (λo e=>by rw [hD8] at e;cases e;exact λz=>by have:=z.1;injection this with this;exact absurd this (by decide)) (⟨hs9.extBut,Nat.le_of_eq hs9.1.symm⟩:kF (it+1) s8.heap h9) s8.toks
    refine yEA n (Nat.lt_succ_self _) ((hv _ _).mpr (yEEEEEE (i+1) _ r5 h8 W8 _ (yEAAAA (m+1) e11 I9 (FC8.fw S9 (λz=>by have z:it+2=it+1:=z;lia) (λy a l z=>ncell (it+1) (by exact Nat.le_add_right _ _) y a l z)) (FA8.fw S9 (λz=>hloc _ (by exact Nat.le_add_right _ _) z.symm) (λy a l z=>hcel (it+1) (by exact Nat.le_add_right _ _) y a l z)) (yAAA (T8.step S9 (nown8 it (Nat.le_refl _) (by lia)) n01) hD9 ?_ (S48.trans (S9.weaken λb hb=>.inr (.inl hb)))))))
    rw [Array.toList_push]
    exact RL8.lc (.cons R8 .nil)
end
end
section
section
variable {w:World}{V:Va}{oh:Heap}{kH:Bool}{fi fc:aY}{A:Around}{E:Value->Shared->Prop}{s:Shared}{env:Env}
theorem oM {W:Wd}{h:H}{C:Addr}{h':Heap}(I:Inv w V oh W h s.heap) (hn:¬W.own C) (h0:oh.get? C=none){m:Str->Option Value}(hm:s.heap.Ns C m) (hs:Heap.SameBut C s.heap h') :
  Inv w V oh W h h'/\Step (λb=>b=C) W s W { s with heap:=h' }:=by
 refine cC hm λo es ep n1 n2 _=>?_;clear hm
 exact eS I hn h0 (λo' e=>by rw [n1] at e;cases e;rintro⟨_,i,n,z⟩;rw [n2] at z;cases z) ⟨hs.extBut,Nat.le_of_eq hs.1.symm⟩ s.toks
theorem BN (GS:(oh.get? sysModules).isSome=true){tg:Tg}{bE:hZ}{c ce:EC}{cond:TC}{target iter elt:PySem.Expr}{ifs:List PySem.Expr}{scope:Scope}{pos:Pos}(hs:∀env x,foldedSetIterable iter env x=Pure.pure x) (o:fz fi fc scope bE) (okT:fv fc tg target)
  (okI:eG w V oh kH fc cond ifs) (hc:SE w V oh kH fi c iter) (he:SE w V oh kH fc ce elt):SE w V oh kH fi (cn tg bE c cond ce) (.ListComp elt [⟨target,iter,ifs,0⟩] scope pos):=by
 intro x r h k e W s I F Q E p
 refine WG.eq (eval_ListComp ..) ?_
 refine uF GS hs o okT okI hc he x r h k e W s I F none Q E λav h' v W' s' C k' R' I' F' S' u1 u2 u3 u4 u5 u6=>?_
 obtain⟨m,hm⟩:=u4
 refine yEA m hm λh'' sb=>?_
 obtain⟨I2,S2⟩:=oM I' u1 u2 hm sb
 exact p av h' v W' { s' with heap:=h'' } k' R' I2 ((S'.up.trans S2).new λb hb=>.inr (by have hb:b=C:=hb;rw [hb];exact u3))
theorem zj (GS:(oh.get? sysModules).isSome=true){p:P4}{y:Str}{np spos:Pos}(hy:fi.slot p=some y) (hk:rj fi y=true){tg:Tg}{bE:hZ}{c ce:EC}{cond:TC}{target iter elt:PySem.Expr}{ifs:List PySem.Expr}{scope:Scope}{pos:Pos}
  (hw:∀env,Fm fi env->swapsWith (.ListComp elt [⟨target,iter,ifs,0⟩] scope pos) (some (.Name y np)) spos.line env=Pure.pure true) (hs:∀env x,foldedSetIterable iter env x=Pure.pure x) (o:fz fi fc scope bE) (okT:fv fc tg target)
  (okI:eG w V oh kH fc cond ifs) (hc:SE w V oh kH fi c iter) (he:SE w V oh kH fc ce elt):SS w V oh kH fi (ao p (cn tg bE c cond ce)) (.Assign [.Name y np] (.ListComp elt [⟨target,iter,ifs,0⟩] scope pos) spos):=by
 intro x r h k hk' W s I F Q E pp
 refine WG.eq (exec_Assign_Name_used _ _ _ _ (hw _ x.fm) ..) ?_
 refine WG.aA (WG.bind ?_)
 refine WG.bind (WG.mono (uF GS hs o okT okI hc he x r h _ hk' W s I F (some (assign (.Name y np) x.env)) (λ_ s'=>Q .next s') E λav h' v W' s' C k' R' I' F' S' u1 u2 u3 u4 u5 u6=>?_) (λ_ s' q=>WG.pure (WG.pure q)) λ_ _ z=>z)
 obtain⟨m,hm⟩:=u4
 refine WG.of (wpAny_assign_Name (eR x.fm hy (rj.ok hk) I' F' R' λs2 I2 F2 S2=>?_))
 have hm2:s2.heap.Ns C m:=by
  refine dH hm λo' es ep n1 n2=>?_;clear hm
  refine yEEEA o' es ep (S2.keep _ _ n1 (.inl ⟨u1,?_⟩)) n2
  rintro (z|⟨y',_,z⟩)
  ·exact u5 z
  ·exact u6 y' C z rfl
 refine yEA m hm2 λh'' sb=>?_
 have hn2:¬W'.own C:=u1
 obtain⟨I3,S3⟩:=oM I2 hn2 u2 hm2 sb
 refine pp .nx _ h' .next W' { s2 with heap:=h'' } k' .nx I3 (F2.fw S3 (λz=>u5 z.symm) u6) ?_
 have St:Step (λb=>kC fi x.env b∨b=C) W s W' { s2 with heap:=h'' }:=(S'.up.trans (S2.weaken λb z=>.inl z)).trans (S3.weaken λb z=>.inr z)
 exact St.new λb hb=>hb.imp id λz=>by have z:b=C:=z;rw [z];exact u3
end
end
section
noncomputable def qx {α:Type}:Option α->List α
 |some x=>[x]
 |none=>[]
def Tr.vals {α:Type}(t:Tr α):List α:=
 Tr.rec (motive:=λ_=>List α) [] (λv _ _ _ _ a b c d=>qx v++(a++(b++(c++d)))) t
theorem Tr.aQ {α:Type}:∀{p:P4}{t:Tr α}{x:α},t.get p=some x->x ∈ t.vals:=by
 intro p
 induction p with
 |e=>
  intro t x h
  cases t with
  |lf=>exact nn h
  |nd v a b c d=>
   have h:v=some x:=h
   subst h
   show x ∈ [x]++_
   simp
 |a p ih=>
  intro t x h
  cases t with
  |lf=>exact nn h
  |nd v a b c d=>have:=ih (t:=a) h;show x ∈ _++(a.vals++(b.vals++(c.vals++d.vals)));simp [this]
 |b p ih=>
  intro t x h
  cases t with
  |lf=>exact nn h
  |nd v a b c d=>have:=ih (t:=b) h;show x ∈ _++(a.vals++(b.vals++(c.vals++d.vals)));simp [this]
 |c p ih=>
  intro t x h
  cases t with
  |lf=>exact nn h
  |nd v a b c d=>have:=ih (t:=c) h;show x ∈ _++(a.vals++(b.vals++(c.vals++d.vals)));simp [this]
 |d p ih=>
  intro t x h
  cases t with
  |lf=>exact nn h
  |nd v a b c d=>have:=ih (t:=d) h;show x ∈ _++(a.vals++(b.vals++(c.vals++d.vals)));simp [this]
theorem Tr.wN {α:Type}:∀{t:Tr α}{x:α},x ∈ t.vals->∃p,t.get p=some x:=by
 intro t
 induction t with
 |lf=>intro x h;cases h
 |nd v a b c d ha hb hc hd=>
  intro x h
  have h:x ∈ qx v++(a.vals++(b.vals++(c.vals++d.vals))):=h
  rcases List.mem_append.mp h with h|h
  ·cases v with
   |none=>cases h
   |some y=>obtain rfl:=List.mem_singleton.mp h;exact⟨.e,rfl⟩
  rcases List.mem_append.mp h with h|h
  ·obtain⟨p,hp⟩:=ha h;exact⟨.a p,hp⟩
  rcases List.mem_append.mp h with h|h
  ·obtain⟨p,hp⟩:=hb h;exact⟨.b p,hp⟩
  rcases List.mem_append.mp h with h|h
  ·obtain⟨p,hp⟩:=hc h;exact⟨.c p,hp⟩
  ·obtain⟨p,hp⟩:=hd h;exact⟨.d p,hp⟩
theorem Tr.jP {α:Type}:∀{p q:P4}{t:Tr α}{x:α},t.vals.Nodup->t.get p=some x->t.get q=some x->p=q:=by
 have key:∀(v:Option α) (A B C D:List α),(qx v++(A++(B++(C++D)))).Nodup ->
   (∀x,v=some x->x ∉ A/\x ∉ B/\x ∉ C/\x ∉ D)/\A.Nodup/\B.Nodup/\C.Nodup/\D.Nodup/\(∀x ∈ A,x ∉ B/\x ∉ C/\x ∉ D)/\(∀x ∈ B,x ∉ C/\x ∉ D)/\(∀x ∈ C,x ∉ D):=by
  intro v A B C D h
  refine pS (List.nodup_append.mp h) λh0 h1 h2=>?_
  refine pS (List.nodup_append.mp h1) λa0 a1 a2=>?_
  refine pS (List.nodup_append.mp a1) λb0 b1 b2=>?_
  refine pS (List.nodup_append.mp b1) λc0 c1 c2=>?_
  refine yAAAAAAA (λx e=>?_) a0 b0 c0 c1 (λx hx=>⟨λz=>a2 x hx x (by simp [z]) rfl,λz=>a2 x hx x (by simp [z]) rfl,λz=>a2 x hx x (by simp [z]) rfl⟩) (λx hx=>⟨λz=>b2 x hx x (by simp [z]) rfl,λz=>b2 x hx x (by simp [z]) rfl⟩) λx hx z=>c2 x hx x z rfl
  subst e
  exact yAAA (λz=>h2 x (by simp [qx]) x (by simp [z]) rfl) (λz=>h2 x (by simp [qx]) x (by simp [z]) rfl) (λz=>h2 x (by simp [qx]) x (by simp [z]) rfl) λz=>h2 x (by simp [qx]) x (by simp [z]) rfl
 intro p
 induction p with
 |e=>
  intro q t x nd hp hq
  cases t with
  |lf=>exact nn hp
  |nd v a b c d=>
   obtain⟨k0,_⟩:=key v a.vals b.vals c.vals d.vals nd
   have hp:v=some x:=hp
   obtain⟨ka,kb,kc,kd⟩:=k0 x hp
   cases q with
   |e=>rfl
   |a q=>exact absurd (Tr.aQ (t:=a) hq) ka
   |b q=>exact absurd (Tr.aQ (t:=b) hq) kb
   |c q=>exact absurd (Tr.aQ (t:=c) hq) kc
   |d q=>exact absurd (Tr.aQ (t:=d) hq) kd
 |a p ih=>
  intro q t x nd hp hq
  cases t with
  |lf=>exact nn hp
  |nd v a b c d=>
   refine bG λ_ kk=>?_
   obtain⟨k0,ka,kb,kc,kd,xa,xb,xc⟩:=key v a.vals b.vals c.vals d.vals nd
   refine kk ?_
   have m:=Tr.aQ (t:=a) hp
   cases q with
   |e=>exact absurd m (k0 x hq).1
   |a q=>exact congrArg P4.a (ih (t:=a) ka hp hq)
   |b q=>exact absurd (Tr.aQ (t:=b) hq) (xa x m).1
   |c q=>exact absurd (Tr.aQ (t:=c) hq) (xa x m).2.1
   |d q=>exact absurd (Tr.aQ (t:=d) hq) (xa x m).2.2
 |b p ih=>
  intro q t x nd hp hq
  cases t with
  |lf=>exact nn hp
  |nd v a b c d=>
   refine bG λ_ kk=>?_
   obtain⟨k0,ka,kb,kc,kd,xa,xb,xc⟩:=key v a.vals b.vals c.vals d.vals nd
   refine kk ?_
   have m:=Tr.aQ (t:=b) hp
   cases q with
   |e=>exact absurd m (k0 x hq).2.1
   |a q=>exact absurd m (xa x (Tr.aQ (t:=a) hq)).1
   |b q=>exact congrArg P4.b (ih (t:=b) kb hp hq)
   |c q=>exact absurd (Tr.aQ (t:=c) hq) (xb x m).1
   |d q=>exact absurd (Tr.aQ (t:=d) hq) (xb x m).2
 |c p ih=>
  intro q t x nd hp hq
  cases t with
  |lf=>exact nn hp
  |nd v a b c d=>
   refine bG λ_ kk=>?_
   obtain⟨k0,ka,kb,kc,kd,xa,xb,xc⟩:=key v a.vals b.vals c.vals d.vals nd
   refine kk ?_
   have m:=Tr.aQ (t:=c) hp
   cases q with
   |e=>exact absurd m (k0 x hq).2.2.1
   |a q=>exact absurd m (xa x (Tr.aQ (t:=a) hq)).2.1
   |b q=>exact absurd m (xb x (Tr.aQ (t:=b) hq)).1
   |c q=>exact congrArg P4.c (ih (t:=c) kc hp hq)
   |d q=>exact absurd (Tr.aQ (t:=d) hq) (xc x m)
 |d p ih=>
  intro q t x nd hp hq
  cases t with
  |lf=>exact nn hp
  |nd v a b c d=>
   refine bG λ_ kk=>?_
   obtain⟨k0,ka,kb,kc,kd,xa,xb,xc⟩:=key v a.vals b.vals c.vals d.vals nd
   refine kk ?_
   have m:=Tr.aQ (t:=d) hp
   cases q with
   |e=>exact absurd m (k0 x hq).2.2.2
   |a q=>exact absurd m (xa x (Tr.aQ (t:=a) hq)).2.2
   |b q=>exact absurd m (xb x (Tr.aQ (t:=b) hq)).2
   |c q=>exact absurd m (xc x (Tr.aQ (t:=c) hq))
   |d q=>exact congrArg P4.d (ih (t:=d) kd hp hq)
noncomputable def aW:List Str->Bool
 | []=>true
 |x::r=>!r.contains x&&aW r
theorem dk:∀{l:List Str},aW l=true->l.Nodup
 | [],_=>List.nodup_nil
 |x::r,h=>by
  unfold aW at h
  rw [Bool.and_eq_true] at h
  refine List.nodup_cons.mpr ⟨λm=>?_,dk h.2⟩
  have h1:=h.1
  rw [List.contains_iff_mem.mpr m] at h1
  exact nf h1
def BO (t:Tr Str) (kind:Str->Option NameKind) (own:Str->Bool) (h:aW t.vals=true):aY:=⟨kind,λp=>t.get p,own,λa b=>Tr.jP (dk h) a b⟩
def bR (t:Tr Str) (sc:Scope) (h:aW t.vals=true):aY:=BO t (λx=>sc.names.lookup x) (λx=>sc.names.lookup x==some .cell) h
def mQ (fi:aY) (t:Tr Str) (sc:Scope) (h:aW t.vals=true):aY:=BO t (dj fi sc.names) (λ_=>false) h
def uG:Tg->PySem.Expr->Tr Str->Tr Str
 |.one p,.Name y _,t=>t.set y p
 |.tup ps,.Tuple es _ _,t=>(ps.zip es).foldl (λt pe=>match pe.2 with|.Name y _=>t.set y pe.1|_=>t) t
 |_,_,t=>t
def jQ (fi:aY) (c:hZ) (t:Tr Str):Tr Str:=hZ.rec (motive:=λ_=>Tr Str->Tr Str) (λt=>t) (λp q _ ih t=>ih (match fi.slot p with|some x=>t.set x q|none=>t)) c t
def wO (fi:aY) (t:Tr Str) (names:List (Str × NameKind)):hZ->Bool
 |.nil=>true
 |.cons p q r=>(match fi.slot p with|some x=>t.get q==some x&&names.lookup x==some .free|none=>false)&&wO fi t names r
def iN (T:Tr Str) (fi:aY) (t:Tr Str) (sc:Scope) (bE:hZ):Bool:=
 sc.kind == .function&&sc.names.all (λx=>x.2 != .cell&&(x.2 != .local||sc.names.lookup x.1==some .local)&&(x.2 != .free||(T.vals.contains x.1&&(fi.kindOf x.1==some .cell||fi.kindOf x.1==some .free)))) &&
 t.vals.all (λx=>sc.names.lookup x==some .local||sc.names.lookup x==some .free)&&wO fi t sc.names bE
theorem rz {fi:aY}{t:Tr Str}{sc:Scope}{h:aW t.vals=true}:∀{bE:hZ},wO fi t sc.names bE=true->lK fi (mQ fi t sc h) sc.names bE
 |.nil,_=>.nil
 |.cons p q r,e=>by
  unfold wO at e
  rw [Bool.and_eq_true] at e
  obtain⟨e1,e2⟩:=e
  split at e1
  ·rename_i x hx
   rw [Bool.and_eq_true,beq_iff_eq,beq_iff_eq] at e1
   exact .cons hx e1.1 e1.2 (rz e2)
  ·exact nf e1
theorem oO {T:Tr Str}{fi:aY}{t:Tr Str}{sc:Scope}{bE:hZ}(hT:fi.slot=λp=>T.get p) (h:aW t.vals=true) (e:iN T fi t sc bE=true):fz fi (mQ fi t sc h) sc bE:=by
 unfold iN at e
 simp only [Bool.and_eq_true] at e
 refine bG λ_ kk=>?_
 obtain⟨⟨⟨e1,e2⟩,e3⟩,e4⟩:=e
 refine kk ?_
 rw [List.all_eq_true] at e2 e3
 have e2':∀x ∈ sc.names,x.2 ≠ .cell/\(x.2 ≠ .local∨sc.names.lookup x.1=some .local)/\(x.2 ≠ .free∨(T.vals.contains x.1=true/\(fi.kindOf x.1=some .cell∨fi.kindOf x.1=some .free))):=λx hx=>by
  have:=e2 x hx
  simp only [Bool.and_eq_true,Bool.or_eq_true,bne_iff_ne,beq_iff_eq] at this
  exact⟨this.1.1,this.1.2,this.2⟩
 refine⟨beq_iff_eq.mp e1,λy hy=>(e2' y hy).1,λx hx hl=>(e2' x hx).2.1.resolve_left λz=>z hl,λn hn=>?_,λx=>rfl,λq x hq=>?_,λx=>rfl,rz e4⟩
 ·obtain⟨k1,k2⟩:=(e2' _ hn).2.2.resolve_left λz=>z rfl
  obtain⟨p,hp⟩:=Tr.wN (List.contains_iff_mem.mp k1)
  exact yEA p (by rw [hT];exact hp) k2
 ·have:=e3 x (Tr.aQ (show t.get q=some x from hq))
  simpa [Bool.or_eq_true] using this
end
section
set_option genInjectivity false
set_option genSizeOf false
noncomputable def bodyOf:Stmt->List Stmt
 |.FunctionDef _ _ b ..=>b
 |.ClassDef _ _ _ b ..=>b
 |_=>[]
noncomputable def aX:Stmt->Scope
 |.FunctionDef _ _ _ _ _ _ s ..=>s
 |_=>default
def aT (i:Nat):Stmt:=pw.main.body.getD i (.Pass default)
def ax (i j:Nat):Stmt:=(bodyOf (aT i)).getD j (.Pass default)
noncomputable abbrev L1 {α:Type}(x:α):Tr α:=.nd (some x) .lf .lf .lf .lf
noncomputable abbrev pn (s:Str) (p:P4):Str × P4:=(s,p)
noncomputable abbrev pc (s:Str) (p:Nat):Str × Nat:=(s,p)
noncomputable abbrev pa (s:Str) (p:AV):Str × AV:=(s,p)
noncomputable def bY:Tr Str:=(.nd (some "ring") (.nd (some "state") (.nd (some "size") (.nd (some "flight") (L1 "peer") (L1 "urgent") (L1 "slots") (L1 "late")) (.nd (some "clock") (L1 "local") (L1 "remote") (L1 "urgent_at") (L1 "connect")) (.nd (some "acks") (L1 "look_at") (L1 "is_ended") (L1 "available") (L1 "next_time")) (.nd (some "greatest") (L1 "following") (L1 "delay") (L1 "has_gap") (L1 "timed_at"))) (.nd (some "has") (.nd (some "has_fin") (L1 "least") (L1 "told_ack") (L1 "flags") (L1 "options")) (.nd (some "most") (L1 "send_room") (L1 "receive_room") (L1 "bounded") (L1 "acked")) (.nd (some "held") (L1 "is_left") (L1 "is_dropped") (L1 "take") (L1 "part")) (.nd (some "syn_pending") (L1 "go_on") (L1 "ever_sent") (L1 "extend") (L1 "deadline"))) (.nd (some "limits") (.nd (some "entries") (L1 "new_number") (L1 "leave") (L1 "receive") (L1 "data_sent")) (.nd (some "pop") (L1 "free_edge") (L1 "due_time") (L1 "usable") (L1 "first_timeout")) (.nd (some "unsent") (L1 "least_timeout") (L1 "most_timeout") (L1 "ack_delay") (L1 "time_wait")) (.nd (some "fin_asked") (L1 "is_nagle") (L1 "told_window") (L1 "most_waiting") (L1 "listen"))) (.nd (some "receiver") (.nd (some "gathered") (L1 "accept") (L1 "send") (L1 "halved") (L1 "timeout")) (.nd (some "iss") (L1 "reach") (L1 "should_tell") (L1 "refuse_failed") (L1 "is_done")) (.nd (some "reached") (L1 "close") (L1 "behind") (L1 "is_fin_due") (L1 "needs_probe")) (.nd (some "error") (L1 "piece_of") (L1 "sent") (L1 "time_of") (L1 "new_iss")))) (.nd (some "next") (.nd (some "listeners") (.nd (some "put") (L1 "free") (L1 "close_listener") (L1 "refused") (L1 "is_taken")) (.nd (some "due") (L1 "may_go") (L1 "on_time") (L1 "message") (L1 "read")) (.nd (some "tries") (L1 "ask_fin") (L1 "pieces") (L1 "timed_out") (L1 "back_to")) (.nd (some "timed_end") (L1 "first_piece") (L1 "probe") (L1 "arrive") (L1 "is_due"))) (.nd (some "append") (.nd (some "given") (L1 "address") (L1 "port") (L1 "sample") (L1 "drop")) (.nd (some "told_edge") (L1 "keys_until") (L1 "window_now") (L1 "missing") (L1 "let_in")) (.nd (some "connections") (L1 "gather") (L1 "start") (L1 "back_off") (L1 "duplicate")) (.nd (some "table") (L1 "on_octets") (L1 "find") (L1 "next_free") (L1 "recovered"))) (.nd (some "una") (.nd (some "cancel") (L1 "slow_start") (L1 "avoid") (L1 "waited") (L1 "plain_timeout")) (.nd (some "status") (L1 "room_left") (L1 "is_newer") (L1 "is_idle_with_more") (L1 "on_sent")) (.nd (some "waiting") (L1 "joined") (L1 "note_fin") (L1 "ahead_of_fin") (L1 "cut_behind")) (.nd (some "threshold") (L1 "is_empty") (L1 "has_holes") (L1 "end") (L1 "input_new"))) (.nd (some "wheel") (.nd (some "duplicates") (L1 "is_fin_acked") (L1 "list_of") (L1 "merged") (L1 "read_place")) (.nd (some "is_recovering") (L1 "is_port_used") (L1 "take_open") (L1 "input") (L1 "abort")) (L1 "mean8") (L1 "fin_sent"))) (.nd (some "sender") (.nd (some "window") (L1 "congestion") (L1 "fin_at") (L1 "make") (L1 "opening")) (.nd (some "links") (L1 "listener") (L1 "offset") (L1 "first") (L1 "spread4")) (.nd (some "seq") (L1 "source_port") (L1 "target_port") (L1 "ports") (L1 "estimate")) (.nd (some "parts") (L1 "unanswered") (L1 "probes") (L1 "taken") (L1 "most_tries"))) (.nd (some "mss") (.nd (some "queue") (L1 "measured") (L1 "room") (L1 "payload") (L1 "get")) (.nd (some "ack") (L1 "assembly") (L1 "forget") (L1 "take_window") (L1 "at_once")) (.nd (some "ready") (L1 "own_port") (L1 "grow") (L1 "length") (L1 "link")) (.nd (some "tcb") (L1 "remove") (L1 "last") (L1 "is_cautious") (L1 "told_seq"))))
noncomputable def kU:List Str:=["later","now","none","ack of syn","syn received","established","syn ack","syn sent","syn","listen","connect","closed","time wait over","time wait","fin and ack of fin","fin wait 1","ack of fin","last ack","closing","fin wait 2","fin","close wait","close","timeout","abort","reset","timed out","refused","resend","the connection was "]
noncomputable def BP:List (Nat × List P4):=[(0,[(.b (.a (.b (.c .e))))]),(7,[(.c (.b (.c .e))),(.a (.a (.d (.a .e)))),(.d (.d (.b .e))),(.c (.d (.c .e)))]),(8,[(.a (.a (.d (.b .e)))),(.b (.a (.b .e))),(.a (.a (.d (.c .e)))),(.b (.c (.c .e)))]),(9,[(.b (.d (.a .e))),(.a (.d (.a .e))),(.d (.d (.c .e))),(.b (.d (.b .e))),(.a (.b (.b .e))),(.d .e),(.a (.a .e)),(.b (.c (.d .e)))]),(10,[(.c (.c (.d .e))),(.c (.d (.d .e))),(.a (.a (.d (.d .e)))),(.b (.a (.d .e))),(.b (.a (.c .e)))]),(11,[(.c (.b (.c .e))),(.a (.b (.a (.a .e)))),(.b (.d (.c .e))),(.d (.a (.a .e))),(.a (.b (.b .e))),(.c (.b (.d .e)))]),(12,[(.a (.b (.c .e))),(.d (.a (.b .e)))]),(13,[(.a (.b (.b .e))),.e,(.a (.a .e)),(.a (.b (.a (.b .e)))),(.d (.d (.d .e)))]),(14,[(.a (.c (.d .e))),(.b (.d (.d .e))),(.a (.a (.d .e))),(.a (.d (.b .e))),(.d .e),(.b .e),(.a (.a (.a (.a .e)))),(.d (.a .e)),.e,(.a (.b (.d .e))),(.b (.c .e))]),(15,[(.d (.b .e)),(.a (.b (.a (.c .e)))),(.a (.b (.a (.d .e)))),(.d (.a (.c .e))),(.c (.c .e)),(.c (.c (.a .e))),(.c (.c (.b .e))),(.a (.a (.a (.b .e)))),(.c (.a .e))]),(16,[(.a (.c (.a .e))),(.b (.b (.a .e))),(.a (.a (.a (.d .e)))),(.a (.d (.c .e))),(.a (.a .e)),(.a (.a (.a (.c .e))))]),(17,[(.a (.c (.c (.c .e)))),(.a (.c (.b (.d .e)))),(.a (.c (.c (.a .e)))),(.a (.c (.c (.b .e)))),(.c (.d (.d .e))),(.d .e),(.a (.b (.b (.b .e)))),.e,(.a (.b (.b (.a .e)))),(.a (.c (.c (.d .e))))]),(18,[(.a (.a (.c .e))),(.a (.a (.b .e))),(.c (.a (.a .e))),(.a (.d (.d .e))),(.a (.c (.d (.a .e)))),(.a (.c .e)),(.a (.a (.b (.a .e)))),(.c (.d (.b .e))),(.a (.d .e)),(.a (.a (.b (.b .e)))),(.c .e),(.a .e),(.c (.d (.a .e))),(.b (.d .e))]),(19,[(.c (.d .e)),.e]),(20,[(.d (.b (.a .e))),(.c (.a (.b .e))),(.a (.b (.a .e))),(.d .e),(.b .e),(.d (.c .e)),.e,(.d (.a (.b .e))),(.b (.b (.b .e))),(.a (.a (.b (.c .e))))]),(21,[(.b (.b (.c .e))),(.b (.a .e))]),(22,[(.b (.b (.a (.a .e)))),(.a (.c (.d (.c .e)))),(.c (.a (.d .e))),(.b (.b (.a (.b .e)))),(.d (.c .e))]),(23,[(.a (.b (.c (.b .e)))),(.a (.b (.c (.a .e)))),(.c (.b (.a .e))),(.d (.c (.a .e))),(.d (.d .e))]),(24,[(.b (.b (.a .e))),(.a (.d (.b .e))),(.a (.c .e)),(.c (.b .e)),(.b (.a .e)),(.c (.c (.c .e))),(.b (.b (.d .e)))])]
noncomputable def yd:List (Nat × List (P4 × P4)):=[(7,[((.b (.a (.a (.d .e)))),(.b .e)),((.a (.b (.c (.c .e)))),(.c .e)),((.b (.b (.d (.c .e)))),(.d .e)),((.a (.d (.c (.b .e)))),(.a (.a .e))),((.b (.a (.a (.a .e)))),(.a (.b .e)))]),(8,[((.b (.b (.d (.a .e)))),(.a (.d .e))),((.d (.b (.d .e))),(.b (.a .e))),((.b (.a (.d (.d .e)))),(.b (.b .e))),((.b (.c (.b (.d .e)))),(.b (.c .e))),((.a (.c (.b (.b .e)))),(.b (.d .e)))]),(9,[((.c (.a .e)),(.c (.b .e))),((.d (.c (.b .e))),(.c (.c .e))),((.a (.d (.a (.c .e)))),(.c (.d .e))),((.a (.b (.b (.d .e)))),(.d (.a .e))),((.b (.c (.a (.a .e)))),(.d (.b .e))),((.b (.b (.c (.d .e)))),(.d (.c .e))),((.b (.a (.c (.c .e)))),(.d (.d .e)))]),(10,[((.a (.b (.b (.d .e)))),(.a (.c (.b .e)))),((.a (.d (.d (.b .e)))),(.a (.b (.d .e)))),((.d (.b (.b .e))),(.a (.c (.a .e)))),((.b (.b (.c (.c .e)))),(.a (.c (.c .e)))),((.b (.c (.a (.c .e)))),(.a (.c (.d .e)))),((.a (.b (.d (.d .e)))),(.a (.d (.a .e))))]),(11,[((.b (.b (.a (.c .e)))),(.a (.d (.c .e)))),((.b (.c (.a (.d .e)))),(.a (.d (.d .e)))),((.a (.d (.a (.d .e)))),(.b (.a (.a .e)))),((.a (.b (.b (.c .e)))),(.b (.a (.b .e))))]),(12,[((.a (.a .e)),(.b (.a (.d .e)))),((.b (.c (.b (.a .e)))),(.b (.b (.a .e)))),((.b (.a (.a .e))),(.b (.b (.b .e)))),((.a (.b (.c (.d .e)))),(.b (.b (.c .e)))),((.b (.b (.a (.d .e)))),(.b (.b (.d .e))))]),(13,[((.a (.b (.c (.c .e)))),(.b (.c (.c .e)))),((.b (.c (.b (.b .e)))),(.b (.c (.b .e))))]),(14,[((.a (.b (.b (.d .e)))),(.d (.a (.b .e)))),((.b (.a (.a .e))),(.b (.d (.c .e)))),((.d (.b (.c .e))),(.b (.d (.b .e)))),((.b (.a (.c (.a .e)))),(.b (.d (.d .e)))),((.a (.a (.a .e))),(.c (.a (.a .e)))),((.a (.c (.b (.c .e)))),(.c (.a (.b .e)))),((.a (.c (.a (.d .e)))),(.c (.a (.c .e)))),((.a (.c (.c .e))),(.c (.a (.d .e)))),((.a (.d (.c (.c .e)))),(.c (.b (.a .e)))),((.b (.d (.a (.a .e)))),(.c (.b (.b .e)))),((.a (.b (.d (.a .e)))),(.c (.b (.c .e)))),((.b (.b (.c (.b .e)))),(.c (.b (.d .e)))),((.b (.a (.b (.a .e)))),(.c (.c (.a .e)))),((.b (.a (.c (.b .e)))),(.c (.c (.b .e)))),((.a (.d (.d (.a .e)))),(.c (.c (.c .e)))),((.a (.b (.d (.b .e)))),(.c (.c (.d .e)))),((.b (.a (.d (.a .e)))),(.c (.d (.a .e)))),((.a (.d (.b (.a .e)))),(.c (.d (.b .e)))),((.b (.a (.c (.d .e)))),(.c (.d (.c .e)))),((.b (.c (.b (.c .e)))),(.c (.d (.d .e)))),((.a (.d (.c (.d .e)))),(.d (.a (.a .e))))]),(15,[((.a (.b .e)),(.d (.b (.c .e)))),((.d (.c (.c .e))),(.d (.b (.d .e))))]),(16,[((.b (.a (.a .e))),(.a (.a (.a (.d .e))))),((.b (.d (.a (.b .e)))),(.a (.a (.b (.a .e))))),((.b (.c (.a .e))),(.a (.a (.b (.b .e))))),((.a (.d (.d (.c .e)))),(.a (.a (.b (.c .e))))),((.a (.a (.c (.d .e)))),(.a (.a (.b (.d .e))))),((.b (.a (.b .e))),(.a (.a (.c (.a .e))))),((.b (.b (.b (.a .e)))),(.a (.a (.c (.b .e)))))]),(18,[((.b (.b (.b (.b .e)))),(.a (.a (.d (.b .e))))),((.c (.a (.c .e))),(.a (.a (.d (.c .e)))))]),(19,[((.a (.b (.c (.c .e)))),(.a (.b (.b (.d .e))))),((.d (.b (.b .e))),(.a (.b (.b (.c .e))))),((.b (.a (.a .e))),(.a (.b (.a (.c .e))))),((.b (.c (.d (.a .e)))),(.a (.b (.a (.a .e))))),((.c (.b (.b .e))),(.a (.b (.a (.b .e))))),((.b (.b (.b (.c .e)))),(.a (.b (.a (.d .e))))),((.b (.d (.a (.c .e)))),(.a (.b (.b (.a .e))))),((.b (.c (.c (.a .e)))),(.a (.b (.b (.b .e))))),((.b (.c (.c (.d .e)))),(.a (.b (.c (.a .e)))))]),(20,[((.c (.a .e)),(.a (.b (.d (.b .e))))),((.a (.c (.b (.a .e)))),(.a (.b (.c (.c .e))))),((.a (.d (.b (.b .e)))),(.a (.b (.c (.d .e))))),((.a (.c (.d (.b .e)))),(.a (.b (.d (.a .e))))),((.b (.a (.d (.c .e)))),(.a (.b (.d (.c .e))))),((.b (.b (.b (.d .e)))),(.a (.b (.d (.d .e))))),((.b (.c (.c (.b .e)))),(.a (.c (.a (.a .e))))),((.b (.c (.c (.c .e)))),(.a (.c (.a (.b .e))))),((.b (.b (.c (.a .e)))),(.a (.c (.a (.c .e))))),((.b (.c (.d (.b .e)))),(.a (.c (.a (.d .e))))),((.a (.a (.c (.c .e)))),(.a (.c (.b (.a .e))))),((.b (.a (.b (.d .e)))),(.a (.c (.b (.b .e)))))]),(21,[((.a (.c (.d (.d .e)))),(.b (.b (.a (.a .e))))),((.a (.a (.b (.d .e)))),(.b (.b (.a (.b .e))))),((.d (.d (.a .e))),(.b (.b (.a (.c .e))))),((.b (.b (.d (.b .e)))),(.b (.b (.a (.d .e))))),((.b (.d (.b (.a .e)))),(.b (.b (.b (.a .e)))))]),(22,[((.b (.c (.c .e))),(.b (.b (.b (.c .e))))),((.b (.d (.b (.b .e)))),(.b (.b (.b (.d .e)))))]),(23,[((.a (.d (.b (.d .e)))),(.b (.b (.c (.b .e)))))]),(24,[((.a (.a (.c (.d .e)))),(.b (.d (.a (.b .e))))),((.a (.c (.d (.d .e)))),(.b (.b (.d (.d .e))))),((.a (.a (.b (.d .e)))),(.b (.c (.a (.a .e))))),((.a (.c (.a (.a .e)))),(.b (.b (.d (.a .e))))),((.a (.d (.d (.d .e)))),(.b (.b (.d (.b .e))))),((.d (.c (.d .e))),(.b (.b (.d (.c .e))))),((.d (.c (.a .e))),(.b (.c (.a (.b .e))))),((.a (.d (.a (.a .e)))),(.b (.c (.a (.c .e))))),((.a (.d (.a (.b .e)))),(.b (.c (.a (.d .e))))),((.a (.c (.a (.c .e)))),(.b (.c (.b (.a .e))))),((.a (.d (.b (.c .e)))),(.b (.c (.b (.b .e))))),((.b (.c (.b .e))),(.b (.c (.b (.c .e))))),((.a (.a (.c (.b .e)))),(.b (.c (.b (.d .e))))),((.a (.d (.c (.a .e)))),(.b (.c (.c (.a .e))))),((.b (.d (.b (.d .e)))),(.b (.c (.c (.b .e))))),((.a (.c (.a (.b .e)))),(.b (.c (.c (.c .e))))),((.a (.a (.c (.a .e)))),(.b (.c (.c (.d .e))))),((.b (.c (.d (.c .e)))),(.b (.c (.d (.a .e))))),((.b (.d (.b (.c .e)))),(.b (.c (.d (.b .e))))),((.b (.a (.a (.c .e)))),(.b (.c (.d (.c .e))))),((.b (.c (.d (.d .e)))),(.b (.c (.d (.d .e))))),((.b (.a (.b (.b .e)))),(.b (.d (.a (.a .e)))))])]
noncomputable def ye:List (Nat × List (P4 × P4)):=[(14,[((.c (.a .e)),(.b (.d (.a .e))))])]
noncomputable def lL:List (Nat × P4):=[(7,(.a .e)),(8,(.a (.c .e))),(9,(.c (.a .e))),(10,(.a (.b (.c .e)))),(11,(.a (.d (.b .e)))),(12,(.b (.a (.c .e)))),(13,(.b (.c (.a .e)))),(14,(.b (.c (.d .e)))),(15,(.d (.b (.b .e)))),(16,(.a (.a (.a (.c .e))))),(17,(.a (.a (.c (.c .e))))),(18,(.a (.a (.d (.a .e))))),(19,(.a (.a (.d (.d .e))))),(20,(.a (.b (.c (.b .e))))),(21,(.b (.a (.d (.d .e))))),(22,(.b (.b (.b (.b .e))))),(23,(.b (.b (.c (.a .e))))),(24,(.b (.b (.c (.d .e)))))]
noncomputable def A7:List (Str × P4):=[pn "plus" (.a (.a (.a .e))),pn "distance" (.a (.a (.b .e))),pn "is_before" (.a (.a (.c .e))),pn "is_at_most" (.a (.a (.d .e))),pn "is_within" (.a (.b (.a .e))),pn "latest" (.a (.b (.b .e))),pn "put16" (.d (.a (.c .e))),pn "need" (.d (.a (.d .e))),pn "get16" (.d (.b (.a .e))),pn "check_number" (.d (.c (.a .e))),pn "mss_option" (.d (.c (.b .e))),pn "mss_of" (.d (.c (.c .e))),pn "opening_steps" (.d (.c (.d .e))),pn "closing_steps" (.d (.d (.a .e))),pn "follow" (.d (.d (.b .e))),pn "may_send" (.d (.d (.c .e))),pn "may_receive" (.d (.d (.d .e))),pn "is_synchronized" (.a (.a (.a (.a .e)))),pn "is_sending" (.a (.a (.a (.b .e)))),pn "clock_of" (.a (.a (.c (.d .e)))),pn "change_state" (.a (.c (.b (.c .e)))),pn "closed" (.a (.c (.b (.d .e)))),pn "enter_time_wait" (.a (.c (.c (.a .e)))),pn "check_error" (.a (.c (.c (.b .e)))),pn "open_active" (.a (.c (.c (.c .e)))),pn "open_passive" (.a (.c (.c (.d .e)))),pn "send" (.a (.c (.d (.a .e)))),pn "send_tcp_user" (.a (.c (.d (.a .e)))),pn "receive" (.a (.c (.d (.b .e)))),pn "receive_tcp_user" (.a (.c (.d (.b .e)))),pn "close" (.a (.c (.d (.c .e)))),pn "close_tcp_user" (.a (.c (.d (.c .e)))),pn "abort" (.a (.c (.d (.d .e)))),pn "abort_tcp_user" (.a (.c (.d (.d .e)))),pn "ack_segment" (.a (.d (.a (.a .e)))),pn "syn_segment" (.a (.d (.a (.b .e)))),pn "flags_of" (.a (.d (.a (.c .e)))),pn "take_asked_fin" (.a (.d (.a (.d .e)))),pn "data_segments" (.a (.d (.b (.a .e)))),pn "output" (.a (.d (.b (.b .e)))),pn "set_resend" (.a (.d (.b (.c .e)))),pn "keep_timers" (.a (.d (.b (.d .e)))),pn "on_time" (.a (.d (.c (.a .e)))),pn "on_time_tcp_user" (.a (.d (.c (.a .e)))),pn "sent_again" (.a (.d (.c (.b .e)))),pn "segment_again" (.a (.d (.c (.c .e)))),pn "is_acceptable" (.a (.d (.c (.d .e)))),pn "is_new_ack" (.a (.d (.d (.a .e)))),pn "arrive" (.a (.d (.d (.b .e)))),pn "reset_for" (.a (.d (.d (.c .e)))),pn "take_syn" (.a (.d (.d (.d .e)))),pn "in_listen" (.b (.a (.a (.a .e)))),pn "in_syn_sent" (.b (.a (.a (.b .e)))),pn "without_syn" (.b (.a (.a (.c .e)))),pn "in_others" (.b (.a (.a (.d .e)))),pn "is_let_in" (.b (.a (.b (.a .e)))),pn "turned_down" (.b (.a (.b (.b .e)))),pn "is_old_acknowledgement" (.b (.a (.b (.c .e)))),pn "is_too_far" (.b (.a (.b (.d .e)))),pn "take_ack" (.b (.a (.c (.a .e)))),pn "take_acknowledgement" (.b (.a (.c (.b .e)))),pn "take_duplicate" (.b (.a (.c (.c .e)))),pn "end_of_sending" (.b (.a (.c (.d .e)))),pn "take_octets" (.b (.a (.d (.a .e)))),pn "end_of_receiving" (.b (.a (.d (.b .e)))),pn "replies" (.b (.a (.d (.c .e)))),pn "rows_out" (.b (.b (.c (.c .e)))),pn "_law_pool" (.b (.d (.a (.c .e)))),pn "_law_take" (.b (.d (.a (.d .e)))),pn "_law_one" (.b (.d (.b (.a .e)))),pn "_law_settled" (.b (.d (.b (.b .e)))),pn "_law_octets" (.b (.d (.b (.c .e)))),pn "_law_read" (.b (.d (.b (.d .e)))),pn "_law_refused_right" (.b (.d (.c (.a .e)))),pn "law" (.b (.d (.c (.b .e))))]
def wQ:List (Str × Nat):=[pc "Ports" 7,pc "AckPolicy" 8,pc "Congestion" 9,pc "RetransmitClock" 10,pc "RttEstimate" 11,pc "SendQueue" 12,pc "PeerWindow" 13,pc "Sender" 14,pc "Segment" 15,pc "Wheel" 16,pc "Limits" 17,pc "Tcb" 18,pc "Assembly" 19,pc "Receiver" 20,pc "TcpTable" 21,pc "Listener" 22,pc "Link" 23,pc "TcpSockets" 24]
def jR:List (Str × AV):=[pa "MOST_PORT" (.nat 65535),pa "EVERY" (.nat 2),pa "DUPLICATES" (.nat 3),pa "MOST_SHIFT_retransmit" (.nat 7),pa "FIN" (.nat 1),pa "SYN" (.nat 2),pa "RST" (.nat 4),pa "PSH" (.nat 8),pa "ACK" (.nat 16),pa "URG" (.nat 32),pa "OPTIONS_END" (.nat 0),pa "OPTION_NOTHING" (.nat 1),pa "OPTION_MSS" (.nat 2),pa "MSS_SIZE" (.nat 4),pa "CLOSED" (.o (.str 11)),pa "LISTEN" (.o (.str 9)),pa "SYN_SENT" (.o (.str 7)),pa "SYN_RECEIVED" (.o (.str 4)),pa "ESTABLISHED" (.o (.str 5)),pa "FIN_WAIT_1" (.o (.str 15)),pa "FIN_WAIT_2" (.o (.str 19)),pa "CLOSE_WAIT" (.o (.str 21)),pa "CLOSING" (.o (.str 18)),pa "LAST_ACK" (.o (.str 17)),pa "TIME_WAIT" (.o (.str 13)),pa "RESEND" (.nat 1),pa "PERSIST" (.nat 2),pa "DELAYED" (.nat 3),pa "WAIT" (.nat 4),pa "MOST_WINDOW" (.nat 65535),pa "WHOLE_RING" (.nat 4294967296),pa "PLAIN_MSS" (.nat 536),pa "ISS_STEP" (.nat 64)]
noncomputable def zk:List (Str × Value):=[("len",.builtin "len"),("min",.builtin "min"),("max",.builtin "max"),("int",.type "int"),("bytes",.type "bytes"),("range",.type "range"),("list",.type "list"),("sorted",.builtin "sorted"),("any",.builtin "any"),("dict",.type "dict"),("bytearray",.type "bytearray")]
inductive uH where
 |top (y:Str)
 |ay (c:Nat) (m:Str)
 |prp (c:Nat) (m:Str)
 deriving DecidableEq
noncomputable abbrev pf (p:P4) (a:uH):P4 × uH:=(p,a)
noncomputable def wR:List (P4 × uH):=[pf .e (.ay 0 "__init__"),pf (.a .e) (.ay 7 "__init__"),pf (.b .e) (.ay 7 "is_taken"),pf (.c .e) (.ay 7 "take"),pf (.d .e) (.ay 7 "next_free"),pf (.a (.a .e)) (.ay 7 "behind"),pf (.a (.b .e)) (.ay 7 "free"),pf (.a (.c .e)) (.ay 8 "__init__"),pf (.a (.d .e)) (.ay 8 "on_octets"),pf (.b (.a .e)) (.ay 8 "at_once"),pf (.b (.b .e)) (.ay 8 "is_due"),pf (.b (.c .e)) (.ay 8 "on_sent"),pf (.b (.d .e)) (.ay 8 "due_time"),pf (.c (.a .e)) (.ay 9 "__init__"),pf (.c (.b .e)) (.ay 9 "window"),pf (.c (.c .e)) (.ay 9 "grow"),pf (.c (.d .e)) (.ay 9 "halved"),pf (.d (.a .e)) (.ay 9 "acked"),pf (.d (.b .e)) (.ay 9 "slow_start"),pf (.d (.c .e)) (.ay 9 "duplicate"),pf (.d (.d .e)) (.ay 9 "timed_out"),pf (.a (.a (.a .e))) (.top "plus"),pf (.a (.a (.b .e))) (.top "distance"),pf (.a (.a (.c .e))) (.top "is_before"),pf (.a (.a (.d .e))) (.top "is_at_most"),pf (.a (.b (.a .e))) (.top "is_within"),pf (.a (.b (.b .e))) (.top "latest"),pf (.a (.b (.c .e))) (.ay 10 "__init__"),pf (.a (.b (.d .e))) (.ay 10 "sent"),pf (.a (.c (.a .e))) (.ay 10 "forget"),pf (.a (.c (.b .e))) (.ay 10 "acked"),pf (.a (.c (.c .e))) (.ay 10 "back_off"),pf (.a (.c (.d .e))) (.ay 10 "waited"),pf (.a (.d (.a .e))) (.ay 10 "deadline"),pf (.a (.d (.b .e))) (.ay 11 "__init__"),pf (.a (.d (.c .e))) (.ay 11 "sample"),pf (.a (.d (.d .e))) (.ay 11 "plain_timeout"),pf (.b (.a (.a .e))) (.ay 11 "timeout"),pf (.b (.a (.b .e))) (.ay 11 "bounded"),pf (.b (.a (.c .e))) (.ay 12 "__init__"),pf (.b (.a (.d .e))) (.ay 12 "size"),pf (.b (.b (.a .e))) (.ay 12 "room_left"),pf (.b (.b (.b .e))) (.ay 12 "put"),pf (.b (.b (.c .e))) (.ay 12 "part"),pf (.b (.b (.d .e))) (.ay 12 "drop"),pf (.b (.c (.a .e))) (.ay 13 "__init__"),pf (.b (.c (.b .e))) (.ay 13 "is_newer"),pf (.b (.c (.c .e))) (.ay 13 "take"),pf (.b (.c (.d .e))) (.ay 14 "__init__"),pf (.b (.d (.a .e))) (.prp 14 "window"),pf (.b (.d (.b .e))) (.ay 14 "take_window"),pf (.b (.d (.c .e))) (.ay 14 "put"),pf (.b (.d (.d .e))) (.ay 14 "ask_fin"),pf (.c (.a (.a .e))) (.ay 14 "flight"),pf (.c (.a (.b .e))) (.ay 14 "usable"),pf (.c (.a (.c .e))) (.ay 14 "data_sent"),pf (.c (.a (.d .e))) (.ay 14 "unsent"),pf (.c (.b (.a .e))) (.ay 14 "is_fin_due"),pf (.c (.b (.b .e))) (.ay 14 "is_fin_acked"),pf (.c (.b (.c .e))) (.ay 14 "go_on"),pf (.c (.b (.d .e))) (.ay 14 "start"),pf (.c (.c (.a .e))) (.ay 14 "may_go"),pf (.c (.c (.b .e))) (.ay 14 "pieces"),pf (.c (.c (.c .e))) (.ay 14 "piece_of"),pf (.c (.c (.d .e))) (.ay 14 "ever_sent"),pf (.c (.d (.a .e))) (.ay 14 "first_piece"),pf (.c (.d (.b .e))) (.ay 14 "reach"),pf (.c (.d (.c .e))) (.ay 14 "back_to"),pf (.c (.d (.d .e))) (.ay 14 "is_idle_with_more"),pf (.d (.a (.a .e))) (.ay 14 "needs_probe"),pf (.d (.a (.b .e))) (.ay 14 "acked"),pf (.d (.a (.c .e))) (.top "put16"),pf (.d (.a (.d .e))) (.top "need"),pf (.d (.b (.a .e))) (.top "get16"),pf (.d (.b (.b .e))) (.ay 15 "__init__"),pf (.d (.b (.c .e))) (.ay 15 "has"),pf (.d (.b (.d .e))) (.ay 15 "length"),pf (.d (.c (.a .e))) (.top "check_number"),pf (.d (.c (.b .e))) (.top "mss_option"),pf (.d (.c (.c .e))) (.top "mss_of"),pf (.d (.c (.d .e))) (.top "opening_steps"),pf (.d (.d (.a .e))) (.top "closing_steps"),pf (.d (.d (.b .e))) (.top "follow"),pf (.d (.d (.c .e))) (.top "may_send"),pf (.d (.d (.d .e))) (.top "may_receive"),pf (.a (.a (.a (.a .e)))) (.top "is_synchronized"),pf (.a (.a (.a (.b .e)))) (.top "is_sending"),pf (.a (.a (.a (.c .e)))) (.ay 16 "__init__"),pf (.a (.a (.a (.d .e)))) (.ay 16 "put"),pf (.a (.a (.b (.a .e)))) (.ay 16 "list_of"),pf (.a (.a (.b (.b .e)))) (.ay 16 "cancel"),pf (.a (.a (.b (.c .e)))) (.ay 16 "time_of"),pf (.a (.a (.b (.d .e)))) (.ay 16 "next_time"),pf (.a (.a (.c (.a .e)))) (.ay 16 "due"),pf (.a (.a (.c (.b .e)))) (.ay 16 "keys_until"),pf (.a (.a (.c (.c .e)))) (.ay 17 "__init__"),pf (.a (.a (.c (.d .e)))) (.top "clock_of"),pf (.a (.a (.d (.a .e)))) (.ay 18 "__init__"),pf (.a (.a (.d (.b .e)))) (.ay 18 "window_now"),pf (.a (.a (.d (.c .e)))) (.ay 18 "make"),pf (.a (.a (.d (.d .e)))) (.ay 19 "__init__"),pf (.a (.b (.a (.a .e)))) (.ay 19 "is_empty"),pf (.a (.b (.a (.b .e)))) (.ay 19 "offset"),pf (.a (.b (.a (.c .e)))) (.ay 19 "put"),pf (.a (.b (.a (.d .e)))) (.ay 19 "missing"),pf (.a (.b (.b (.a .e)))) (.ay 19 "merged"),pf (.a (.b (.b (.b .e)))) (.ay 19 "joined"),pf (.a (.b (.b (.c .e)))) (.ay 19 "forget"),pf (.a (.b (.b (.d .e)))) (.ay 19 "take"),pf (.a (.b (.c (.a .e)))) (.ay 19 "cut_behind"),pf (.a (.b (.c (.b .e)))) (.ay 20 "__init__"),pf (.a (.b (.c (.c .e)))) (.ay 20 "free_edge"),pf (.a (.b (.c (.d .e)))) (.ay 20 "should_tell"),pf (.a (.b (.d (.a .e)))) (.ay 20 "told_window"),pf (.a (.b (.d (.b .e)))) (.ay 20 "window"),pf (.a (.b (.d (.c .e)))) (.ay 20 "arrive"),pf (.a (.b (.d (.d .e)))) (.ay 20 "let_in"),pf (.a (.c (.a (.a .e)))) (.ay 20 "note_fin"),pf (.a (.c (.a (.b .e)))) (.ay 20 "ahead_of_fin"),pf (.a (.c (.a (.c .e)))) (.ay 20 "gather"),pf (.a (.c (.a (.d .e)))) (.ay 20 "has_holes"),pf (.a (.c (.b (.a .e)))) (.ay 20 "available"),pf (.a (.c (.b (.b .e)))) (.ay 20 "read"),pf (.a (.c (.b (.c .e)))) (.top "change_state"),pf (.a (.c (.b (.d .e)))) (.top "closed"),pf (.a (.c (.c (.a .e)))) (.top "enter_time_wait"),pf (.a (.c (.c (.b .e)))) (.top "check_error"),pf (.a (.c (.c (.c .e)))) (.top "open_active"),pf (.a (.c (.c (.d .e)))) (.top "open_passive"),pf (.a (.c (.d (.a .e)))) (.top "send"),pf (.a (.c (.d (.b .e)))) (.top "receive"),pf (.a (.c (.d (.c .e)))) (.top "close"),pf (.a (.c (.d (.d .e)))) (.top "abort"),pf (.a (.d (.a (.a .e)))) (.top "ack_segment"),pf (.a (.d (.a (.b .e)))) (.top "syn_segment"),pf (.a (.d (.a (.c .e)))) (.top "flags_of"),pf (.a (.d (.a (.d .e)))) (.top "take_asked_fin"),pf (.a (.d (.b (.a .e)))) (.top "data_segments"),pf (.a (.d (.b (.b .e)))) (.top "output"),pf (.a (.d (.b (.c .e)))) (.top "set_resend"),pf (.a (.d (.b (.d .e)))) (.top "keep_timers"),pf (.a (.d (.c (.a .e)))) (.top "on_time"),pf (.a (.d (.c (.b .e)))) (.top "sent_again"),pf (.a (.d (.c (.c .e)))) (.top "segment_again"),pf (.a (.d (.c (.d .e)))) (.top "is_acceptable"),pf (.a (.d (.d (.a .e)))) (.top "is_new_ack"),pf (.a (.d (.d (.b .e)))) (.top "arrive"),pf (.a (.d (.d (.c .e)))) (.top "reset_for"),pf (.a (.d (.d (.d .e)))) (.top "take_syn"),pf (.b (.a (.a (.a .e)))) (.top "in_listen"),pf (.b (.a (.a (.b .e)))) (.top "in_syn_sent"),pf (.b (.a (.a (.c .e)))) (.top "without_syn"),pf (.b (.a (.a (.d .e)))) (.top "in_others"),pf (.b (.a (.b (.a .e)))) (.top "is_let_in"),pf (.b (.a (.b (.b .e)))) (.top "turned_down"),pf (.b (.a (.b (.c .e)))) (.top "is_old_acknowledgement"),pf (.b (.a (.b (.d .e)))) (.top "is_too_far"),pf (.b (.a (.c (.a .e)))) (.top "take_ack"),pf (.b (.a (.c (.b .e)))) (.top "take_acknowledgement"),pf (.b (.a (.c (.c .e)))) (.top "take_duplicate"),pf (.b (.a (.c (.d .e)))) (.top "end_of_sending"),pf (.b (.a (.d (.a .e)))) (.top "take_octets"),pf (.b (.a (.d (.b .e)))) (.top "end_of_receiving"),pf (.b (.a (.d (.c .e)))) (.top "replies"),pf (.b (.a (.d (.d .e)))) (.ay 21 "__init__"),pf (.b (.b (.a (.a .e)))) (.ay 21 "listen"),pf (.b (.b (.a (.b .e)))) (.ay 21 "connect"),pf (.b (.b (.a (.c .e)))) (.ay 21 "remove"),pf (.b (.b (.a (.d .e)))) (.ay 21 "find"),pf (.b (.b (.b (.a .e)))) (.ay 21 "is_port_used"),pf (.b (.b (.b (.b .e)))) (.ay 22 "__init__"),pf (.b (.b (.b (.c .e)))) (.ay 22 "waiting"),pf (.b (.b (.b (.d .e)))) (.ay 22 "take_open"),pf (.b (.b (.c (.a .e)))) (.ay 23 "__init__"),pf (.b (.b (.c (.b .e)))) (.ay 23 "is_done"),pf (.b (.b (.c (.c .e)))) (.top "rows_out"),pf (.b (.b (.c (.d .e)))) (.ay 24 "__init__"),pf (.b (.b (.d (.a .e)))) (.ay 24 "new_number"),pf (.b (.b (.d (.b .e)))) (.ay 24 "new_iss"),pf (.b (.b (.d (.c .e)))) (.ay 24 "link"),pf (.b (.b (.d (.d .e)))) (.ay 24 "listen"),pf (.b (.c (.a (.a .e)))) (.ay 24 "connect"),pf (.b (.c (.a (.b .e)))) (.ay 24 "own_port"),pf (.b (.c (.a (.c .e)))) (.ay 24 "accept"),pf (.b (.c (.a (.d .e)))) (.ay 24 "send"),pf (.b (.c (.b (.a .e)))) (.ay 24 "receive"),pf (.b (.c (.b (.b .e)))) (.ay 24 "refuse_failed"),pf (.b (.c (.b (.c .e)))) (.ay 24 "status"),pf (.b (.c (.b (.d .e)))) (.ay 24 "is_ended"),pf (.b (.c (.c (.a .e)))) (.ay 24 "close"),pf (.b (.c (.c (.b .e)))) (.ay 24 "abort"),pf (.b (.c (.c (.c .e)))) (.ay 24 "leave"),pf (.b (.c (.c (.d .e)))) (.ay 24 "look_at"),pf (.b (.c (.d (.a .e)))) (.ay 24 "end"),pf (.b (.c (.d (.b .e)))) (.ay 24 "input"),pf (.b (.c (.d (.c .e)))) (.ay 24 "refused"),pf (.b (.c (.d (.d .e)))) (.ay 24 "input_new"),pf (.b (.d (.a (.a .e)))) (.ay 24 "on_time"),pf (.b (.d (.a (.b .e)))) (.ay 24 "next_time"),pf (.b (.d (.a (.c .e)))) (.top "_law_pool"),pf (.b (.d (.a (.d .e)))) (.top "_law_take"),pf (.b (.d (.b (.a .e)))) (.top "_law_one"),pf (.b (.d (.b (.b .e)))) (.top "_law_settled"),pf (.b (.d (.b (.c .e)))) (.top "_law_octets"),pf (.b (.d (.b (.d .e)))) (.top "_law_read"),pf (.b (.d (.c (.a .e)))) (.top "_law_refused_right"),pf (.b (.d (.c (.b .e)))) (.top "law")]
noncomputable def kV:List (Nat × Str):=[(7,"Ports"),(8,"AckPolicy"),(9,"Congestion"),(10,"RetransmitClock"),(11,"RttEstimate"),(12,"SendQueue"),(13,"PeerWindow"),(14,"Sender"),(15,"Segment"),(16,"Wheel"),(17,"Limits"),(18,"Tcb"),(19,"Assembly"),(20,"Receiver"),(21,"TcpTable"),(22,"Listener"),(23,"Link"),(24,"TcpSockets")]
def zl:List (Nat × Str):=(0,"StackError")::kV
end
section
set_option genInjectivity false
set_option genSizeOf false
def oQ (c:Nat) (q:P4):Bool:=match BP.lookup c with
 |some l=>l.contains q
 |none=>false
def rA (c:Nat) (q:P4):Option P4:=(yd.lookup c).bind (·.lookup q)
def oS (c:Nat) (q:P4):Option P4:=(ye.lookup c).bind (·.lookup q)
structure Gl (w:World) (V:Va) (oh:Heap) (mg mb:Str->Option Value):Prop where
 CA:cP V oh
 FA:iH V oh
 GS:(oh.get? sysModules).isSome=true
 hg:oh.Ns mainGlobals mg
 hb:oh.Ns builtinsNs mb
 attr:∀p x,bY.get p=some x->V.attr p=some x
 str:∀i x,kU[i]? = some x->V.str i=some x
 fld:∀c q,oQ c q=true->V.fld c q=true
 l7:∀c q f,rA c q=some f->V.l7 c q=some f
 nP:∀c q f,oS c q=some f->V.nP c q=some f
 init:∀c f,lL.lookup c=some f->V.init c=some f
 fn:∀y p,A7.lookup y=some p->∃a,V.fn p=some a/\mg y=some (.ref a)
 cls:∀y c,wQ.lookup y=some c->∃C,V.cls c=some C/\mg y=some (.ref C)
 const:∀y av,jR.lookup y=some av->∃v,mg y=some v/\∀μ,Rep V μ av v
 bi:∀y c,zk.lookup y=some c->mg y=none/\mb y=some c
noncomputable def jc (fi:aY) (y:Str):Bool:=fi.kindOf y==some .globalImplicit&&y != ("__debug__" : Str)
noncomputable def sg (fi:aY) (p:P4) (y:Str):Bool:=fi.slot p==some y&&y != ("__debug__" : Str)&&y != ("__classdict__" : Str)
def ix (fi:aY) (p:P4) (y:Str):Bool:=fi.slot p==some y&&rj fi y&&y != ("__classdict__" : Str)
theorem cQ {fi:aY}{y:Str}(h:jc fi y=true):fi.kindOf y=some .globalImplicit/\(y==("__debug__" : Str))=false:=by
 unfold jc at h
 rw [Bool.and_eq_true] at h
 exact⟨beq_iff_eq.mp h.1,by simpa using h.2⟩
theorem fA {fi:aY}{p:P4}{y:Str}(h:sg fi p y=true):fi.slot p=some y/\(y==("__debug__" : Str))=false/\(y==("__classdict__" : Str))=false:=by
 unfold sg at h
 rw [Bool.and_eq_true,Bool.and_eq_true] at h
 exact⟨beq_iff_eq.mp h.1.1,by simpa using h.1.2,by simpa using h.2⟩
theorem cR {fi:aY}{p:P4}{y:Str}(h:ix fi p y=true):fi.slot p=some y/\rj fi y=true/\(y==("__classdict__" : Str))=false:=by
 unfold ix at h
 rw [Bool.and_eq_true,Bool.and_eq_true] at h
 exact⟨beq_iff_eq.mp h.1.1,h.1.2,by simpa using h.2⟩
section
variable {w:World}{V:Va}{oh:Heap}{kH:Bool}{fi fc:aY}{mg mb:Str->Option Value}
theorem zN {kd:Nat}{pos:Pos}:SE w V oh kH fi (eK .none) (.Constant .none kd pos):=sK rfl
theorem zB {b:Bool}{kd:Nat}{pos:Pos}:SE w V oh kH fi (eK (.bool b)) (.Constant (.bool b) kd pos):=sK rfl
theorem zI {n:Nat}{i:Int}{kd:Nat}{pos:Pos}(h:i=(n:Int)):SE w V oh kH fi (eK (.nat n)) (.Constant (.int i) kd pos):=sK (yEA n h rfl)
theorem zS (G:Gl w V oh mg mb){i:Nat}{x:Str}{kd:Nat}{pos:Pos}(h:kU[i]? = some x):SE w V oh kH fi (eK (.o (.str i))) (.Constant (.str x) kd pos):=sK (yEA i (G.str _ _ h) rfl)
theorem zY {kd:Nat}{pos:Pos}:SE w V oh kH fi (eK (.o (.bytes []))) (.Constant (.bytes []) kd pos):=sK (yEA [] rfl rfl)
theorem zL {p:P4}{y:Str}{pos:Pos}(h:sg fi p y=true):SE w V oh kH fi (eL p) (.Name y pos):=sL (fA h).1 (fA h).2.1 (fA h).2.2
theorem zGc (G:Gl w V oh mg mb){av:AV}{y:Str}{pos:Pos}(h:jR.lookup y=some av) (k:jc fi y=true):SE w V oh kH fi (eK av) (.Name y pos):=by
 refine aI (G.const y av h) λv h1 h2=>?_
 exact sG G.hg h1 h2 (cQ k).1 (cQ k).2
theorem zGf (G:Gl w V oh mg mb){p:P4}{y:Str}{pos:Pos}(h:A7.lookup y=some p) (k:jc fi y=true):SE w V oh kH fi (eK (.o (.fn p))) (.Name y pos):=by
 refine aI (G.fn y p h) λa h1 h2=>?_
 exact sG G.hg h2 (λμ=>yEA a h1 rfl) (cQ k).1 (cQ k).2
theorem zm (G:Gl w V oh mg mb){f:P4}{l:LC}{y:Str}{np pos:Pos}{es:List PySem.Expr}(h:A7.lookup y=some f) (k:jc fi y=true) (hs:es.all notStar=true) (hl:SL w V oh kH fi l es):SE w V oh kH fi (ah f l) (.Call (.Name y np) es [] pos):=
 yT G.FA hs (zGf G h k) hl
theorem zo (G:Gl w V oh mg mb){c:Nat}{i:P4}{l:LC}{y:Str}{np pos:Pos}{es:List PySem.Expr}(h:wQ.lookup y=some c) (hi:lL.lookup c=some i) (k:jc fi y=true) (hs:es.all notStar=true) (hl:SL w V oh kH fi l es):SE w V oh kH fi (aZ c i l) (.Call (.Name y np) es [] pos):=by
 refine aI (G.cls y c h) λC h1 h2=>?_
 exact yU G.CA G.hg h2 (cQ k).1 (cQ k).2 h1 (G.init _ _ hi) hs hl
theorem zp (G:Gl w V oh mg mb){c:EC}{l:LC}{y:Str}{np pos:Pos}{es:List PySem.Expr}(hs:es.all notStar=true) (hc:SE w V oh kH fi c (.Name y np)) (hl:SL w V oh kH fi l es):SE w V oh kH fi (gf c l) (.Call (.Name y np) es [] pos):=ua G.FA hs hc hl
theorem zq (G:Gl w V oh mg mb){f:List AV->H->K1->Bool}{c:Value}{l:LC}{y:Str}{np pos:Pos}{es:List PySem.Expr}(hf:jD w V oh kH f c) (hc:(∃id,c = .builtin id)∨∃T,c = .type T) (h:zk.lookup y=some c) (k:jc fi y=true) (hs:es.all notStar=true) (hl:SL w V oh kH fi l es) :
  SE w V oh kH fi (ak f l) (.Call (.Name y np) es [] pos):=y6 hf hc G.hg (G.bi y c h).1 G.hb (G.bi y c h).2 (cQ k).1 (cQ k).2 hs hl
theorem zAt (G:Gl w V oh mg mb){c:EC}{q:P4}{x:Str}{e:PySem.Expr}{pos:Pos}(hx:bY.get q=some x) (hs:bP e=true) (hc:SE w V oh kH fi c e):SE w V oh kH fi (cV c q) (.Attribute e x pos):=sAt G.CA (G.attr _ _ hx) hs hc
theorem zAtL (G:Gl w V oh mg mb){l q:P4}{y x:Str}{np pos:Pos}(hx:bY.get q=some x) (h:sg fi l y=true):SE w V oh kH fi (aa l q) (.Attribute (.Name y np) x pos):=sAtL G.CA (G.attr _ _ hx) (fA h).1 (fA h).2.1 (fA h).2.2
theorem zAtP (G:Gl w V oh mg mb){c:EC}{q:P4}{x:Str}{cl:Nat}{f:P4}{e:PySem.Expr}{pos:Pos}(hx:bY.get q=some x) (hp:oS cl q=some f) (hs:bP e=true) (hc:SE w V oh kH fi c e):SE w V oh kH fi (iQ c q cl f) (.Attribute e x pos):=sAtP G.CA (G.attr _ _ hx) (G.nP _ _ _ hp) hs hc
def BQ (q:P4):CF->Bool
 |.nil=>true
 |.cons c f r=>rA c q==some f&&BQ q r
theorem mR (G:Gl w V oh mg mb){q:P4}:∀{cf:CF},BQ q cf=true->qf V q cf
 |.nil,_=>trivial
 |.cons c f r,h=>by
  unfold BQ at h
  rw [Bool.and_eq_true] at h
  exact⟨G.l7 _ _ _ (beq_iff_eq.mp h.1),mR G h.2⟩
def mS (e:PySem.Expr) (es:List PySem.Expr) (apos pos:Pos):Bool:=bP e&&apos.endLine==pos.line&&es.all notStar&&decide (es.length<29)
theorem de {e:PySem.Expr}{es:List PySem.Expr}{apos pos:Pos}(h:mS e es apos pos=true):bP e=true/\(apos.endLine==pos.line)=true/\es.all notStar=true/\es.length<29:=by
 unfold mS at h
 simp only [Bool.and_eq_true,decide_eq_true_eq] at h
 exact yAAA h.1.1.1 h.1.1.2 h.1.2 h.2
theorem BR (G:Gl w V oh mg mb){c:EC}{q:P4}{x:Str}{cf:CF}{l:LC}{e:PySem.Expr}{apos pos:Pos}{es:List PySem.Expr}(hx:bY.get q=some x) (ok:BQ q cf=true) (hm:mS e es apos pos=true) (hc:SE w V oh kH fi c e) (hl:SL w V oh kH fi l es) :
  SE w V oh kH fi (ag c q cf l) (.Call (.Attribute e x apos) es [] pos):=Bx G.CA G.FA (G.attr _ _ hx) (mR G ok) (de hm).1 (de hm).2.1 (de hm).2.2.1 (de hm).2.2.2 hc hl
theorem fB {kd:AO->Bool}{m:P4->List AV->H->K1->Bool}{T id:String}{c:EC}{x y:Str}{l:LC}{e:PySem.Expr}{apos pos:Pos}{es:List PySem.Expr}(hk:KdS w V kd T) (hm:fS w V oh kH m id) (pa:PlainAttrs T) (slot:Slot T x id)
  (hty:typeOf (.builtin id)=pure (.type "method_descriptor")) (hy:y=x) (ho:mS e es apos pos=true) (hc:SE w V oh kH fi c e) (hl:SL w V oh kH fi l es):SE w V oh kH fi (aS c kd m l) (.Call (.Attribute e y apos) es [] pos):=by
 subst hy
 exact yX hk hm pa slot hty (de ho).1 (de ho).2.1 (de ho).2.2.1 (de ho).2.2.2 hc hl
theorem zSet {p:P4}{y:Str}{c:EC}{e:PySem.Expr}{np pos:Pos}(h:ix fi p y=true) (hw:∀env,swapsWith e (some (.Name y np)) pos.line env=pure false) (hc:SE w V oh kH fi c e):SS w V oh kH fi (ao p c) (.Assign [.Name y np] e pos):=BB (cR h).1 (cR h).2.1 hw hc
theorem zr (G:Gl w V oh mg mb){o c:EC}{q:P4}{cl:Nat}{y:Str}{eo e:PySem.Expr}{ap pos:Pos}(hx:bY.get q=some y) (hf:oQ cl q=true) (hw:∀env,swapsWith e (some (.Attribute eo y ap)) pos.line env=pure false) (ho:SE w V oh kH fi o eo) (hc:SE w V oh kH fi c e) :
  SS w V oh kH fi (ae o q cl c) (.Assign [.Attribute eo y ap] e pos):=wu G.CA (G.attr _ _ hx) (G.fld _ _ hf) hw ho hc
theorem BS {p:P4}{y:Str}{c:EC}{e:PySem.Expr}{np pos:Pos}(h:ix fi p y=true) (hc:SE w V oh kH fi c e):SS w V oh kH fi (iC p (et Nat.add) c) (.AugAssign (.Name y np) .Add e pos):=y1 x8 (cR h).1 (cR h).2.1 (cR h).2.2 hc
theorem BU (G:Gl w V oh mg mb){o c:EC}{q:P4}{cl:Nat}{y:Str}{eo e:PySem.Expr}{ap pos:Pos}(hx:bY.get q=some y) (hf:oQ cl q=true) (ho:SE w V oh kH fi o eo) (hc:SE w V oh kH fi c e) :
  SS w V oh kH fi (jo o q cl (et Nat.add) c) (.AugAssign (.Attribute eo y ap) .Add e pos):=y2 G.CA x8 (G.attr _ _ hx) (G.fld _ _ hf) ho hc
theorem zTg {p:P4}{y:Str}{pos:Pos}(h:ix fi p y=true):fv fi (.one p) (.Name y pos):=.one (cR h).1 (cR h).2.1
theorem zNm {p:P4}{y:Str}{pos:Pos}{ps:List P4}{es:List PySem.Expr}(h:ix fi p y=true) (r:bO fi ps es):bO fi (p::ps) (.Name y pos::es):=.cons (cR h).1 (cR h).2.1 r
theorem wU {slice:PySem.Expr}{o i:Value}:∃l,subscripted slice false o i=operate l (getItem o i):=by
 cases slice with
 |Slice l u s p=>cases s<;>exact⟨_,rfl⟩
 |_=>exact⟨_,rfl⟩
theorem zIx {a b:EC}{ea eb:PySem.Expr}{pos:Pos}(ha:SE w V oh kH fi a ea) (hb:SE w V oh kH fi b eb):SE w V oh kH fi (bU a b) (.Subscript ea eb pos):=sIx (λ_ _=>wU) ha hb
theorem zCut {a lo hi:EC}{ea el eu:PySem.Expr}{pos p':Pos}(ha:SE w V oh kH fi a ea) (hl:SE w V oh kH fi lo el) (hu:SE w V oh kH fi hi eu):SE w V oh kH fi (l6 a lo hi) (.Subscript ea (.Slice (some el) (some eu) none p') pos):=sCut mM ha hl hu
theorem BV {a lo:EC}{ea el:PySem.Expr}{pos p':Pos}(ha:SE w V oh kH fi a ea) (hl:SE w V oh kH fi lo el):SE w V oh kH fi (fa a lo) (.Subscript ea (.Slice (some el) none none p') pos):=BH mM ha hl
theorem BW {a hi:EC}{ea eu:PySem.Expr}{pos p':Pos}(ha:SE w V oh kH fi a ea) (hu:SE w V oh kH fi hi eu):SE w V oh kH fi (ew a hi) (.Subscript ea (.Slice none (some eu) none p') pos):=BI mM ha hu
theorem BX (G:Gl w V oh mg mb){T:Tr Str}{sf:Scope}{hT:aW T.vals=true}{tg:Tg}{bE:hZ}{c ce:EC}{cond:TC}{target iter elt:PySem.Expr}{ifs:List PySem.Expr}{scope:Scope}{pos:Pos}(hs:∀env x,foldedSetIterable iter env x=pure x) (hi:aW (jQ (bR T sf hT) bE (uG tg target .lf)).vals=true)
  (o:iN T (bR T sf hT) (jQ (bR T sf hT) bE (uG tg target .lf)) scope bE=true) (okT:fv (mQ (bR T sf hT) (jQ (bR T sf hT) bE (uG tg target .lf)) scope hi) tg target) (okI:eG w V oh kH (mQ (bR T sf hT) (jQ (bR T sf hT) bE (uG tg target .lf)) scope hi) cond ifs)
  (hc:SE w V oh kH (bR T sf hT) c iter) (he:SE w V oh kH (mQ (bR T sf hT) (jQ (bR T sf hT) bE (uG tg target .lf)) scope hi) ce elt):SE w V oh kH (bR T sf hT) (cn tg bE c cond ce) (.ListComp elt [⟨target,iter,ifs,0⟩] scope pos):=
 BN G.GS hs (oO rfl hi o) okT okI hc he
noncomputable def BY (fi:aY) (y:Str) (np pos:Pos) (scope:Scope):Bool:=fi.kindOf y==some .local&&np.line==pos.line && !(scope.names.any λ(n,k)=>n==y&&(k == .local||k == .cell))
theorem zt {y:Str}{np pos:Pos}{elt:PySem.Expr}{gens:List Comprehension}{scope:Scope}{l:Nat}(h:BY fi y np pos scope=true):∀env,Fm fi env->swapsWith (.ListComp elt gens scope pos) (some (.Name y np)) l env=pure true:=by
 intro env fm
 unfold BY at h
 simp only [Bool.and_eq_true,beq_iff_eq] at h
 unfold swapsWith
 dsimp only
 have hb:env.blockKind = .function:=by unfold Env.blockKind;rw [fm.kind];rfl
 have e1:(PySem.Expr.pos (.ListComp elt gens scope pos))=pos:=rfl
 rw [hb,fm.kinds,h.1.1,e1,h.2,h.1.2]
 simp
theorem zu (G:Gl w V oh mg mb){p:P4}{y:Str}{np spos:Pos}{T:Tr Str}{sf:Scope}{hT:aW T.vals=true}{tg:Tg}{bE:hZ}{c ce:EC}{cond:TC}{target iter elt:PySem.Expr}{ifs:List PySem.Expr}{scope:Scope}{pos:Pos}(h:ix (bR T sf hT) p y=true) (hw:BY (bR T sf hT) y np pos scope=true) (hs:∀env x,foldedSetIterable iter env x=pure x)
  (hi:aW (jQ (bR T sf hT) bE (uG tg target .lf)).vals=true)
  (o:iN T (bR T sf hT) (jQ (bR T sf hT) bE (uG tg target .lf)) scope bE=true) (okT:fv (mQ (bR T sf hT) (jQ (bR T sf hT) bE (uG tg target .lf)) scope hi) tg target) (okI:eG w V oh kH (mQ (bR T sf hT) (jQ (bR T sf hT) bE (uG tg target .lf)) scope hi) cond ifs)
  (hc:SE w V oh kH (bR T sf hT) c iter) (he:SE w V oh kH (mQ (bR T sf hT) (jQ (bR T sf hT) bE (uG tg target .lf)) scope hi) ce elt):SS w V oh kH (bR T sf hT) (ao p (cn tg bE c cond ce)) (.Assign [.Name y np] (.ListComp elt [⟨target,iter,ifs,0⟩] scope pos) spos):=
 zj G.GS (cR h).1 (cR h).2.1 (zt hw) hs (oO rfl hi o) okT okI hc he
def swS (fi:aY) (p q:P4) (a b:Str) (pa pb:Pos) (u v:PySem.Expr):Bool:=fi.slot p==some a&&fi.slot q==some b&&fi.kindOf a==some .local&&fi.kindOf b==some .local&&pb.line==pa.line&&a != b&&notStar u&&notStar v && !(foldedForSure 8 u&&foldedForSure 8 v) && !(constantsAlone 8 u&&constantsAlone 8 v)
theorem fm2 {α β:Type}{f:α->Option β}{x y:α}{a b:β}(hx:f x=some a) (hy:f y=some b):[x,y].filterMap f=[a,b]:=by
 rw [List.filterMap_cons_some hx,List.filterMap_cons_some hy];rfl
theorem any2 {α:Type}{f:α->Bool}{u v:α}(a:f u=false) (b:f v=false):¬ [u,v].any f=true:=by
 show ¬(f u||(f v||false))=true
 rw [a,b];exact Bool.false_ne_true
theorem all2 {α:Type}{f:α->Bool}{u v:α}(a:f u=false∨f v=false):¬ [u,v].all f=true:=by
 show ¬(f u&&(f v&&true))=true
 rcases a with a|a<;>rw [a]<;>first|exact Bool.false_ne_true|rw [Bool.false_and,Bool.and_false];exact Bool.false_ne_true
theorem swp_ok {u v:PySem.Expr}{a b:Str}{pa pb:Pos}{env:Env}{kd kd':Nat}{tp vp:Pos}(hb:env.blockKind = .function) (k3:env.kindOf a=some .local) (k4:env.kindOf b=some .local) (h5:pb.line=pa.line) (h6:a ≠ b) (h7:notStar u=true) (h8:notStar v=true)
  (hf:foldedForSure 8 u=false∨foldedForSure 8 v=false) (hc:constantsAlone 8 u=false∨constantsAlone 8 v=false):swappedStores [.Tuple [.Name a pa,.Name b pb] kd tp] (.Tuple [u,v] kd' vp) env=pure (some [a,b]):=by
 refine (if_neg ?_).trans ((if_neg (any2 ?_ ?_)).trans ?_)
 ·rw [hb];exact Bool.false_ne_true
 ·cases u<;>first|rfl|exact nf h7
 ·cases v<;>first|rfl|exact nf h8
 have n1:(if (env.kindOf a==some .local&&pa.line==pa.line)=true then some a else none)=some a:=by rw [k3,beq_self_eq_true pa.line];rfl
 have n2:(if (env.kindOf b==some .local&&pb.line==pa.line)=true then some b else none)=some b:=by rw [k4,h5,beq_self_eq_true pa.line];rfl
 dsimp only
 rw [show List.filterMap _ [PySem.Expr.Name a pa,.Name b pb]=[a,b] from fm2 n1 n2]
 refine (if_neg ?_).trans ((if_neg (all2 hf)).trans (if_neg (all2 hc)))
 have:(b==a)=false:=beq_eq_false_iff_ne.mpr λz=>h6 z.symm
 simp [List.eraseDups_cons,this]
theorem zv {p q:P4}{a b:Str}{c:EC}{u v:PySem.Expr}{pa pb:Pos}{kd kd':Nat}{tp vp pos:Pos}(hw:∀env,swapsWithSole [.Tuple [.Name a pa,.Name b pb] kd tp] (.Tuple [u,v] kd' vp) pos.line env=pure false) (h:swS fi p q a b pa pb u v=true) (hc:SE w V oh kH fi c (.Tuple [u,v] kd' vp)) :
  SS w V oh kH fi (bT [p,q] c) (.Assign [.Tuple [.Name a pa,.Name b pb] kd tp] (.Tuple [u,v] kd' vp) pos):=by
 unfold swS at h
 simp only [Bool.and_eq_true,beq_iff_eq,bne_iff_ne,Bool.not_eq_true',Bool.and_eq_false_iff] at h
 refine bG λ_ kk=>?_
 obtain⟨⟨⟨⟨⟨⟨⟨⟨⟨h1,h2⟩,h3⟩,h4⟩,h5⟩,h6⟩,h7⟩,h8⟩,h9⟩,h10⟩:=h
 refine kk ?_
 exact y3 hw (λenv fm=>swp_ok (by unfold Env.blockKind;rw [fm.kind];rfl) ((fm.kinds a).trans h3) ((fm.kinds b).trans h4) h5 h6 h7 h8 h9 h10) h1 h2 h3 h4 h6 hc
end
end
section
section
variable (G:Addr->Option Obj)
noncomputable def mT:Option Value->Option Addr
 |some (.ref a)=>some a
 |_=>none
noncomputable def gv (y:Str):Option Value:=((G mainGlobals).bind (lookIn y)).join
noncomputable def biV (y:Str):Option Value:=((G builtinsNs).bind (lookIn y)).join
noncomputable def nsA (C:Addr):Option Addr:=match G C with
 |some ⟨_,_,.cls cd,_⟩=>some cd.ns
 |_=>none
def yf (C:Addr) (m:Str):Option Value:=((nsA G C).bind λn=>(G n).bind (lookIn m)).join
def kW (l:List (Nat × Str)) (c:Nat):Option Addr:=(l.lookup c).bind λy=>mT (gv G y)
def BZ (c:Nat) (m:Str):Option Addr:=(kW G zl c).bind λC=>mT (yf G C m)
def fnOf:uH->Option Addr
 |.top y=>mT (gv G y)
 |.ay c m=>(kW G zl c).bind λC=>mT (yf G C m)
 |.prp c m=>(BZ G c m).bind λp=>match G p with
  |some ⟨_,_,.fields vs,_⟩=>mT vs.toList.head?
  |_=>none
def pM (p:P4):Option Addr:=(wR.lookup p).bind (fnOf G)
noncomputable def ent (a:Option Addr):Frag:=match a with
 |some a=>(match G a with|some o=>[(a,o)]|none=>[])
 |none=>[]
def B0:Frag:=(kV.flatMap λc=>ent G (kW G kV c.1)++ent G ((kW G kV c.1).bind (nsA G)))++(wR.flatMap λf=>ent G (fnOf G f.2)++(match f.2 with|.prp c m=>ent G (BZ G c m)|_=>[]))
theorem jS {a:Option Addr}{b:Addr}{o:Obj}(h:(b,o) ∈ ent G a):G b=some o:=by
 unfold ent at h
 split at h
 ·split at h
  ·rename_i ho
   obtain⟨rfl,rfl⟩:=Prod.mk.inj (List.mem_singleton.mp h)
   exact ho
  ·cases h
 ·cases h
theorem zw {b:Addr}{o:Obj}(h:(B0 G).lookup b=some o):G b=some o:=by
 have h:=bM h
 unfold B0 at h
 rcases List.mem_append.mp h with h|h
 ·refine aI (List.mem_flatMap.mp h) λc _ h=>?_
  rcases List.mem_append.mp h with h|h<;>exact jS G h
 ·refine aI (List.mem_flatMap.mp h) λf _ h=>?_
  rcases List.mem_append.mp h with h|h
  ·exact jS G h
  ·split at h
   ·exact jS G h
   ·cases h
noncomputable def kX (x:Option (Option Value)) (v:Value):Bool:=match x with
 |some (some u)=>u==v
 |_=>false
noncomputable def uI (x:Option (Option Value)):Bool:=match x with
 |some none=>true
 |_=>false
def zx (K:Frag) (c:Nat):Bool:=match kW G kV c with
 |none=>false
 |some C=>makesIn K C&&kX (findIn K (.ref C) "__getattribute__") (.builtin "object.__getattribute__")&&uI (findIn K (.ref C) "__getattr__")&&kX (findIn K (.ref C) "__setattr__") (.builtin "object.__setattr__")&&hasDictIn K C&&plainOver K C &&
   ((BP.lookup c).getD []).all (λq=>match bY.get q with|some x=>uI (findIn K (.ref C) x)|none=>true) &&
   ((yd.lookup c).getD []).all (λe=>match bY.get e.1,pM G e.2 with|some x,some a=>kX (findIn K (.ref C) x) (.ref a)&&typeIn K (.ref a)==some (.type "function")|none,_=>true|_,none=>false) &&
   (match lL.lookup c with|none=>true|some f=>(match pM G f with|some a=>kX (findIn K (.ref C) "__init__") (.ref a)&&typeIn K (.ref a)==some (.type "function")|none=>false)) &&
   ((ye.lookup c).getD []).all (λe=>match bY.get e.1,pM G e.2 with
    |some x,some a=>(match mT ((findIn K (.ref C) x).join) with
      |some p=>kX (specialIn K (.ref p) "__get__") (.builtin "property.__get__")&&takesIn K (.ref p)==some true&&(match recIn K p "property" with|some (.ref a'::_)=>a'==a|_=>false)
      |none=>false)
    |none,_=>true
    |_,none=>false)
end
end
section
set_option genInjectivity false
set_option genSizeOf false
structure Pf (P:Prop) where
 b:Bool
 h:b=true->P
namespace K
section
variable {P Q:Prop}
noncomputable def no:Pf P:=⟨false,nf⟩
noncomputable def dn (h:P):Pf P:=⟨true,λ_=>h⟩
def ck (b:Bool) (k:b=true->Pf P):Pf P:=Bool.rec (motive:=λb=>(b=true->Pf P)->Pf P) (λ_=>no) (λk=>k rfl) b k
def bd (p:Pf Q) (k:Q->Pf P):Pf P:=ck p.b λh=>k (p.h h)
def or (p q:Pf P):Pf P:=Bool.rec (motive:=λb=>(b=true->P)->Pf P) (λ_=>q) (λh=>dn (h rfl)) p.b p.h
end
def dG {α:Type} [BEq α] [LawfulBEq α] (a b:α){P:α->Prop}(k:Pf (P b)):Pf (P a):=ck (a==b) λq=>⟨k.b,λh=>Eq.subst (beq_iff_eq.mp q).symm (k.h h)⟩
def aU {α:Type}(l:List α){P:List α->Prop}(k:∀a r,Pf (P (a::r))):Pf (P l):=List.casesOn (motive:=λl=>Pf (P l)) l no k
def bS {α:Type}(l:List α){P:List α->Prop}(k:Pf (P [])):Pf (P l):=List.casesOn (motive:=λl=>Pf (P l)) l k λ_ _=>no
def gZ {α:Type}(l:Option α){P:Option α->Prop}(k:∀a,Pf (P (some a))):Pf (P l):=Option.casesOn (motive:=λl=>Pf (P l)) l no k
def lM {α:Type}(l:Option α){P:Option α->Prop}(k:Pf (P none)):Pf (P l):=Option.casesOn (motive:=λl=>Pf (P l)) l k λ_=>no
end K
section
variable (G:Addr->Option Obj)
noncomputable def cy:Stmt->Arguments
 |.FunctionDef _ a ..=>a
 |_=>default
def fdOf (a:uH):Option FuncData:=(fnOf G a).bind λb=>match G b with
 |some ⟨_,_,.func fd,_⟩=>some fd
 |_=>none
def B7 (a:uH):Option (Arguments × FuncBody × Scope):=(fdOf G a).map λfd=>(fd.params,fd.body,fd.scope)
noncomputable def codeB (fd:FuncData):Bool:=match fd.code with
 |.ref c=>(match G c with
  |some ⟨_,_,.fields vs,_⟩=>(match vs.toList with
   |_ :: .str q _::_=>q==fd.qualname
   |_=>false)
  |_=>false)
 |_=>false
noncomputable def dvA (fd:FuncData):Option (List Value):=match fd.defaults with
 |.none=>some []
 |.ref d=>(match G d with
  |some ⟨_,_,.seq xs _,_⟩=>some xs.toList
  |_=>none)
 |_=>none
def A8 (av:AV) (v:Value):Prop:=∀{V:Va},(∀i x,kU[i]? = some x->V.str i=some x)->∀μ,Rep V μ av v
def zy (av:AV) (v:Value):Pf (A8 av v):=by
 cases av with
 |none=>exact K.dG v .none (P:=λv=>A8 .none v) (K.dn λhs μ=>rfl)
 |bool b=>exact K.dG v (.bool b) (P:=λv=>A8 (.bool b) v) (K.dn λhs μ=>rfl)
 |nat n=>cases v with
  |int i t=>exact K.dG i (n:Int) (P:=λi=>A8 (.nat n) (.int i t)) (K.dn λhs μ=>⟨_,rfl⟩)
  |_=>exact K.no
 |o x=>cases x with
  |str i=>cases v with
   |str x t=>exact K.ck (kU[i]? == some x) λh=>K.dn λhs μ=>yEEA _ _ (hs _ _ (beq_iff_eq.mp h)) rfl
   |_=>exact K.no
  |bytes l=>cases v with
   |bytes b t=>
    obtain⟨b⟩:=b
    exact K.bS l (P:=λl=>A8 (.o (.bytes l)) (.bytes ⟨b⟩ t)) (K.bS b (P:=λb=>A8 (.o (.bytes [])) (.bytes ⟨b⟩ t)) (K.dn λhs μ=>⟨t,rfl⟩))
   |_=>exact K.no
  |_=>exact K.no
 |_=>exact K.no
def zz (T:Tr Str) (ps:List PD) (ys:List Str) (dvs:List (Option Value)):Prop:=∀{V:Va}{fi:aY},(∀i x,kU[i]? = some x->V.str i=some x)->fi.slot=(λp=>T.get p)->ql V fi ps ys dvs
def psB (T:Tr Str) (ps:List PD):∀ys dvs,Pf (zz T ps ys dvs):=
 List.rec (motive:=λps=>∀ys dvs,Pf (zz T ps ys dvs)) (λys dvs=>K.bS ys (P:=λys=>zz T [] ys dvs) (K.bS dvs (P:=λdvs=>zz T [] [] dvs) (K.dn λhs hT=>.nil))) (λpd ps ih ys dvs=>by
  obtain⟨p,d⟩:=pd
  refine K.aU ys (P:=λys=>zz T (.mk p d::ps) ys dvs) λy ys=>K.aU dvs (P:=λdvs=>zz T (.mk p d::ps) (y::ys) dvs) λdv dvs=>K.ck (T.get p==some y) λh1=>K.bd (ih ys dvs) λh2=>?_
  cases d with
  |none=>exact K.dn λhs hT=>.cons (by rw [hT];exact beq_iff_eq.mp h1) (λav e=>by exact nn e) (h2 hs hT)
  |some av=>exact K.gZ dv (P:=λdv=>zz T (.mk p (some av)::ps) (y::ys) (dv::dvs)) λv=>K.bd (zy av v) λh3=>K.dn λhs hT=>.cons (by rw [hT];exact beq_iff_eq.mp h1) (λav' e=>yEA v rfl (by obtain rfl:=Option.some.inj e;exact h3 hs)) (h2 hs hT)) ps
def B8 (T:Tr Str) (ps:List PD) (names:List Str) (a:uH):Bool:=match fdOf G a with
 |none=>false
 |some fd=>fd.closure.isEmpty&&fd.globals==mainGlobals&&fd.builtins==builtinsNs&&codeB G fd&&(match dvA G fd with
  |none=>false
  |some dv=>decide (dv.length<=names.length)&&(psB T ps names (List.replicate (names.length - dv.length) none++dv.map some)).b)
def stC (st:Stmt) (T:Tr Str) (names:List Str):Bool:=
 !(aX st).isCoroutine && !(aX st).isGenerator&&(aX st).kind == .function&&(cy st).posonlyargs.isEmpty&&(cy st).args.map (·.arg)==names&&(cy st).kwonlyargs.isEmpty&&(cy st).vararg.isNone&&(cy st).kwarg.isNone&&aW names &&
 T.vals.all (λx=>(aX st).names.lookup x==some .local||(aX st).names.lookup x==some .cell)
end
theorem oV {V:Va}{G:Addr->Option Obj}{oh:Heap}(hG:∀a o,G a=some o->oh.get? a=some o) (hs:∀i x,kU[i]? = some x->V.str i=some x){at_:uH}{st:Stmt}{T:Tr Str}{ps:List PD}{names:List Str}(hT:aW T.vals=true)
  (hv:B7 G at_=some (cy st,.stmts (bodyOf st),aX st)) (hc:B8 G T ps names at_=true) (ht:stC st T names=true):∃a fd dvals,fnOf G at_=some a/\fx V oh a fd (bR T (aX st) hT) ps names dvals (bodyOf st):=by
 unfold B7 at hv
 refine bG λ_ kk=>?_
 refine mapS hv λfd hfd hv=>?_
 obtain⟨v1,v2,v3⟩:fd.params=cy st/\fd.body = .stmts (bodyOf st)/\fd.scope=aX st:=by
  injection hv with a b;injection b with b c;exact⟨a,b,c⟩
 refine kk ?_
 unfold B8 at hc
 rw [hfd] at hc
 simp only [Bool.and_eq_true] at hc
 refine bG λ_ kk=>?_
 obtain⟨⟨⟨⟨c1,c2⟩,c3⟩,c4⟩,c5⟩:=hc
 refine kk ?_
 unfold fdOf at hfd
 refine bindS hfd λa ha hb=>?_
 have hobj:∃o,G a=some o/\o.data = .func fd:=by
  split at hb
  ·rename_i ho;cases hb;exact yEA _ ho rfl
  ·exact nn hb
 refine aI hobj λo ho hod=>?_;clear hobj
 unfold stC at ht
 simp only [Bool.and_eq_true,Bool.not_eq_true',beq_iff_eq] at ht
 refine bG λ_ kk=>?_
 obtain⟨⟨⟨⟨⟨⟨⟨⟨⟨t1,t2⟩,t3⟩,t4⟩,t5⟩,t6⟩,t7⟩,t8⟩,t9⟩,t10⟩:=ht
 refine kk ?_
 split at c5
 ·exact nf c5
 ·rename_i dv hdv
  rw [Bool.and_eq_true,decide_eq_true_eq] at c5
  refine yEEEA a fd dv ha ⟨⟨o,hG _ _ ho,hod⟩,by rw [v3];exact t1,by rw [v3];exact t2,by rw [v3];exact t3,v2,?_,by rw [v1];exact List.isEmpty_iff.mp t4,by rw [v1];exact t5,by rw [v1];exact List.isEmpty_iff.mp t6,by rw [v1];exact Option.isNone_iff_eq_none.mp t7,by rw [v1];exact Option.isNone_iff_eq_none.mp t8,dk t9,List.isEmpty_iff.mp c1,beq_iff_eq.mp c2,beq_iff_eq.mp c3,λx=>by rw [v3];rfl,λp x hx=>?_,?_,c5.1,(psB T ps names _).h c5.2 hs rfl⟩
  ·unfold codeB at c4
   split at c4
   ·rename_i c hcode
    split at c4
    ·rename_i vs _ hg
     split at c4
     ·rename_i x q t r hvs
      rw [beq_iff_eq] at c4
      refine yEEE c _ vs (yEAAA t hcode (hG _ _ hg) rfl ?_)
      rw [<-Array.getElem?_toList,hvs,<-c4];rfl
     ·exact nf c4
    ·exact nf c4
   ·exact nf c4
  ·rw [List.all_eq_true] at t10
   have:=t10 x (Tr.aQ (show T.get p=some x from hx))
   rw [Bool.or_eq_true,beq_iff_eq,beq_iff_eq] at this
   exact this
  ·unfold dvA at hdv
   split at hdv
   ·rename_i hn;cases hdv;exact .inl ⟨rfl,hn⟩
   ·rename_i d hn
    split at hdv
    ·rename_i xs n _ hg
     cases hdv
     exact .inr (yEEEAA d _ n hn (hG _ _ hg) (by rfl))
    ·exact nn hdv
   ·exact nn hdv
end
section
set_option genInjectivity false
set_option genSizeOf false
theorem uJ:kU.all (λs=>decide (s.length<=1000))=true:=by kernel_rfl
theorem qy:aW kU=true:=by kernel_rfl
theorem oW:aW bY.vals=true:=by kernel_rfl
theorem si:decide (bY.vals.length<=1000)=true:=by kernel_rfl
def jT (G:Addr->Option Obj) (x oct un:Nat->Nat) (fF:Nat->Value) (draws:List FT->Int->Int->Prop) (ho:∀i,oct i<26):Va where
 x:=x
 oct:=oct
 un:=un
 fF:=fF
 str:=λi=>kU[i]?
 attr:=λp=>bY.get p
 fn:=pM G
 cls:=kW G kV
 fld:=oQ
 l7:=rA
 nP:=oS
 init:=λc=>lL.lookup c
 draws:=draws
 tT:=ho
 pY:=λ{i s} h=>by
  have:=List.all_eq_true.mp uJ s (List.mem_of_getElem? h)
  exact of_decide_eq_true this
 pZ:=λ{i j s} a b=>by
  obtain⟨hi,_⟩:=List.getElem?_eq_some_iff.mp a
  exact (List.getElem?_inj hi (dk qy)).mp (a.trans b.symm)
 names:=bY.vals
 nQ:=of_decide_eq_true si
 tU:=λh=>Tr.aQ h
 qR:=λa b=>Tr.jP (dk oW) a b
noncomputable def zA (G:Addr->Option Obj):Bool:=match G cStatics with
 |some ⟨_,_,.dict es _,_⟩=>es.toList.all (λe=>match e.key with|.str ..=>true|_=>false)&&(nsFind es "sys.recursionlimit").isNone
 |_=>false
def wV (G:Addr->Option Obj):Bool:=
 A7.all (λe=>match gv G e.1,pM G e.2 with|some (.ref a),some b=>a==b|_,_=>false) &&
 wQ.all (λe=>match gv G e.1,kW G kV e.2 with|some (.ref a),some b=>a==b|_,_=>false) &&
 jR.all (λe=>match gv G e.1 with|some v=>(zy e.2 v).b|none=>false) &&
 zk.all (λe=>(gv G e.1).isNone&&(match biV G e.1 with|some v=>v==e.2|none=>false)) &&
 (G sysModules).isSome&&zA G&&wR.all (λe=>(fdOf G e.2).isSome)
def uK (G:Addr->Option Obj) (K:Frag):Bool:=kV.all λe=>zx G K e.1
section
variable {G:Addr->Option Obj}{oh:Heap}{x oct un:Nat->Nat}{fF:Nat->Value}{draws:List FT->Int->Int->Prop}{ho:∀i,oct i<26}
theorem dZ {y:Option (Option Value)}{v:Value}(h:kX y v=true):y=some (some v):=by
 unfold kX at h
 split at h
 ·rw [beq_iff_eq] at h;rw [h]
 ·exact nf h
theorem mU {y:Option (Option Value)}(h:uI y=true):y=some none:=by
 unfold uI at h
 split at h
 ·rfl
 ·exact nf h
theorem wW {K:Frag}{c:Nat}{C:Addr}(h:zx G K c=true) (hC:kW G kV c=some C):Bw (jT G x oct un fF draws ho) K c C:=by
 unfold zx at h
 rw [hC] at h
 simp only [Bool.and_eq_true] at h
 refine bG λ_ kk=>?_
 obtain⟨⟨⟨⟨⟨⟨⟨⟨⟨h1,h2⟩,h3⟩,h4⟩,h5⟩,h6⟩,h7⟩,h8⟩,h9⟩,h10⟩:=h
 refine kk ?_
 rw [List.all_eq_true] at h7 h8 h10
 refine⟨h1,dZ h2,mU h3,dZ h4,h5,h6,λq y hq hf=>?_,λq y f hq hf=>?_,λf hf=>?_,λq y f hq hf=>?_⟩
 ·have hq:bY.get q=some y:=hq
  have hf:oQ c q=true:=hf
  unfold oQ at hf
  split at hf
  ·rename_i l hl
   have:=h7 q (by rw [hl];exact List.contains_iff_mem.mp hf)
   rw [hq] at this
   exact mU this
  ·exact nf hf
 ·have hq:bY.get q=some y:=hq
  have hf:rA c q=some f:=hf
  refine bindS hf λl hl hlf=>?_
  have:=h8 (q,f) (by rw [hl];exact bM hlf)
  dsimp only at this
  rw [hq] at this
  cases ha:pM G f with
  |none=>rw [ha] at this;exact nf this
  |some a=>
   rw [ha] at this
   simp only [Bool.and_eq_true,beq_iff_eq] at this
   exact yEAA a ha (dZ this.1) this.2
 ·have hf:lL.lookup c=some f:=hf
  rw [hf] at h9
  dsimp only at h9
  cases ha:pM G f with
  |none=>rw [ha] at h9;exact nf h9
  |some a=>
   rw [ha] at h9
   simp only [Bool.and_eq_true,beq_iff_eq] at h9
   exact yEAA a ha (dZ h9.1) h9.2
 ·have hq:bY.get q=some y:=hq
  have hf:oS c q=some f:=hf
  refine bindS hf λl hl hlf=>?_
  have:=h10 (q,f) (by rw [hl];exact bM hlf)
  dsimp only at this
  rw [hq] at this
  cases ha:pM G f with
  |none=>rw [ha] at this;exact nf this
  |some a=>
   rw [ha] at this
   dsimp only at this
   cases hp:mT ((findIn K (.ref C) y).join) with
   |none=>rw [hp] at this;exact nf this
   |some p=>
    rw [hp] at this
    simp only [Bool.and_eq_true,beq_iff_eq] at this
    obtain⟨⟨k1,k2⟩,k3⟩:=this
    have hfi:findIn K (.ref C) y=some (some (.ref p)):=by
     revert hp
     cases findIn K (.ref C) y with
     |none=>intro z;exact nn z
     |some o=>
      cases o with
      |none=>intro z;exact nn z
      |some v=>
       cases v<;>intro z<;>first|((first|exact nf z|exact nn z|cases z);rfl)|exact nn z
    split at k3
    ·rename_i a' rest hr
     rw [beq_iff_eq] at k3
     subst k3
     exact yEEEAAAA p a' rest ha hfi (dZ k1) k2 hr
    ·exact nf k3
theorem eV (hG:∀a o,G a=some o->oh.get? a=some o){mg:Str->Option Value}(hg:oh.Ns mainGlobals mg){y:Str}(h:(G mainGlobals).isSome=true):gv G y=mg y:=by
 obtain⟨o,hoo⟩:=Option.isSome_iff_exists.mp h
 unfold gv
 rw [hoo,Option.bind_some,io hg (hG _ _ hoo)];rfl
theorem zC (hG:∀a o,G a=some o->oh.get? a=some o){mb:Str->Option Value}(hb:oh.Ns builtinsNs mb){y:Str}(h:(G builtinsNs).isSome=true):biV G y=mb y:=by
 obtain⟨o,hoo⟩:=Option.isSome_iff_exists.mp h
 unfold biV
 rw [hoo,Option.bind_some,io hb (hG _ _ hoo)];rfl
theorem zD (hG:∀a o,G a=some o->oh.get? a=some o) (h:zA G=true):oh.NoLimit:=by
 unfold zA at h
 split at h
 ·rename_i c d es ep sl hg
  rw [Bool.and_eq_true,List.all_eq_true] at h
  refine yEA (λy=>nsFind es y) ⟨_,es,ep,hG _ _ hg,rfl,λe he=>?_,λ_=>rfl⟩ (Option.isNone_iff_eq_none.mp h.2)
  have:=h.1 e (Array.mem_toList_iff.mpr he)
  split at this
  ·rename_i n t hk;exact yEE n t hk
  ·exact nf this
 ·exact nf h
theorem B9 {w:World}(hG:∀a o,G a=some o->oh.get? a=some o){mg mb:Str->Option Value}(hg:oh.Ns mainGlobals mg) (hb:oh.Ns builtinsNs mb) (hm:(G mainGlobals).isSome=true) (hbm:(G builtinsNs).isSome=true) (h:wV G=true) (hc:uK G (B0 G)=true) :
  Gl w (jT G x oct un fF draws ho) oh mg mb:=by
 unfold wV at h
 simp only [Bool.and_eq_true] at h
 refine bG λ_ kk=>?_
 obtain⟨⟨⟨⟨⟨⟨k1,k2⟩,k3⟩,k4⟩,k5⟩,k6⟩,k7⟩:=h
 refine kk ?_
 unfold uK at hc
 rw [List.all_eq_true] at k1 k2 k3 k4 k7 hc
 refine⟨λc C hC=>?_,λf a hf=>?_,?_,hg,hb,λp y e=>e,λi y e=>e,λc q e=>e,λc q f e=>e,λc q f e=>e,λc f e=>e,λy p e=>?_,λy c e=>?_,λy av e=>?_,λy c e=>?_⟩
 ·have hC:kW G kV c=some C:=hC
  refine bindS hC λy hl _=>?_
  exact yEA (B0 G) (λa o e=>hG _ _ (zw G e)) (wW (hc _ (bM hl)) hC)
 ·have hf:pM G f=some a:=hf
  refine bindS hf λfa hl hfa=>?_
  have:=k7 _ (bM hl)
  obtain⟨fd,hfd⟩:=Option.isSome_iff_exists.mp this
  unfold fdOf at hfd
  dsimp only at hfd
  rw [hfa,Option.bind_some] at hfd
  split at hfd
  ·rename_i fd' _ hgo;exact yEEA _ _ (hG _ _ hgo) rfl
  ·exact nn hfd
 ·obtain⟨o,hoo⟩:=Option.isSome_iff_exists.mp k5
  rw [hG _ _ hoo];rfl
 ·have:=k1 _ (bM e)
  dsimp only at this
  split at this
  ·rename_i a b h1 h2
   rw [beq_iff_eq] at this
   subst this
   exact yEA a h2 (by rw [<-eV hG hg hm];exact h1)
  ·exact nf this
 ·have:=k2 _ (bM e)
  dsimp only at this
  split at this
  ·rename_i a b h1 h2
   rw [beq_iff_eq] at this
   subst this
   exact yEA a h2 (by rw [<-eV hG hg hm];exact h1)
  ·exact nf this
 ·have:=k3 _ (bM e)
  dsimp only at this
  split at this
  ·rename_i v h1
   exact yEA v (by rw [<-eV hG hg hm];exact h1) ((zy _ _).h this (λi y e=>e))
  ·exact nf this
 ·have:=k4 _ (bM e)
  rw [Bool.and_eq_true] at this
  refine⟨by rw [<-eV hG hg hm];exact Option.isNone_iff_eq_none.mp this.1,?_⟩
  rw [<-zC hG hb hbm]
  have h2:=this.2
  dsimp only at h2
  split at h2
  ·rename_i v hv;rw [beq_iff_eq] at h2;rw [hv,h2]
  ·exact nf h2
structure aC where
 at_:uH
 T:Tr Str
 ps:List PD
 names:List Str
 st:Stmt
theorem wX {w:World}{kH:Bool}(hG:∀a o,G a=some o->oh.get? a=some o){e:aC}{b:SC}{p:P4}(hT:aW e.T.vals=true) (hv:B7 G e.at_=some (cy e.st,.stmts (bodyOf e.st),aX e.st)) (hc:B8 G e.T e.ps e.names e.at_=true) (ht:stC e.st e.T e.names=true)
  (hp:wR.lookup p=some e.at_) (hb:SB w (jT G x oct un fF draws ho) oh kH (bR e.T (aX e.st) hT) b (bodyOf e.st)) :
  ∃a,(jT G x oct un fF draws ho).fn p=some a/\y5 w (jT G x oct un fF draws ho) oh kH a (.py e.ps b):=by
 refine dH (oV (V:=jT G x oct un fF draws ho) hG (λi y e=>e) hT hv hc ht) λa fd dv h1 h2=>?_
 refine yEA a ?_ (yEEEEEA fd _ _ _ _ h2 hb)
 show pM G p=some a
 unfold pM
 rw [hp];exact h1
def Tr.map {α β:Type}(f:α->β) (t:Tr α):Tr β:=Tr.rec (motive:=λ_=>Tr β) .lf (λv _ _ _ _ a b c d=>.nd (Option.rec (motive:=λ_=>Option β) none (λx=>some (f x)) v) a b c d) t
theorem Tr.get_map {α β:Type}(f:α->β):∀(p:P4) (t:Tr α){y:β},(t.map f).get p=some y->∃x,t.get p=some x/\y=f x
 |_,.lf,_,h=>by rw [show (Tr.lf:Tr α).map f = .lf from rfl,Tr.bF] at h;exact nn h
 |.e,.nd v _ _ _ _,y,h=>by
  have h:(Option.rec (motive:=λ_=>Option β) none (λx=>some (f x)) v)=some y:=h
  cases v with
  |none=>exact nn h
  |some x=>exact yEA x rfl ((Option.some.inj h).symm)
 |.a p,.nd _ t _ _ _,_,h=>Tr.get_map f p t h
 |.b p,.nd _ _ t _ _,_,h=>Tr.get_map f p t h
 |.c p,.nd _ _ _ t _,_,h=>Tr.get_map f p t h
 |.d p,.nd _ _ _ _ t,_,h=>Tr.get_map f p t h
def Tr.iX {α:Type}(f:P4->α->Bool) (t:Tr α):(P4->P4)->Bool:=
 Tr.rec (motive:=λ_=>(P4->P4)->Bool) (λ_=>true) (λv _ _ _ _ a b c d pre=>Option.rec (motive:=λ_=>Bool) true (λx=>f (pre .e) x) v&&(a (λq=>pre (.a q))&&(b (λq=>pre (.b q))&&(c (λq=>pre (.c q))&&d (λq=>pre (.d q)))))) t
theorem Tr.bZ {α:Type}{f:P4->α->Bool}:∀(p:P4) (t:Tr α){pre:P4->P4}{x:α},t.iX f pre=true->t.get p=some x->f (pre p) x=true
 |_,.lf,_,_,_,h=>by rw [Tr.bF] at h;exact nn h
 |p,.nd v a b c d,pre,x,e,h=>by
  have e:(Option.rec (motive:=λ_=>Bool) true (λx=>f (pre .e) x) v&&(a.iX f (λq=>pre (.a q))&&(b.iX f (λq=>pre (.b q))&&(c.iX f (λq=>pre (.c q))&&d.iX f (λq=>pre (.d q))))))=true:=e
  simp only [Bool.and_eq_true] at e
  obtain⟨e0,ea,eb,ec,ed⟩:=e
  cases p with
  |e=>obtain rfl:v=some x:=h;exact e0
  |a p=>exact Tr.bZ p a ea h
  |b p=>exact Tr.bZ p b eb h
  |c p=>exact Tr.bZ p c ec h
  |d p=>exact Tr.bZ p d ed h
end
end
section
set_option genInjectivity false
set_option genSizeOf false
section
variable {w:World}{V:Va}{oh:Heap}{kH:Bool}{fi:aY}{A:Around}{E:Value->Shared->Prop}{s:Shared}{mg mb:Str->Option Value}
theorem jU {l:Addr}{items:Array Value}{c:Nat}{k:Int}{t:Tok}{v:Value}{Q:Unit->Shared->Prop}(ho:s.heap.get? l=some { cls:=.type "list",data:=.seq items c }) (h0:0<=k) (hfit:k<2 ^ 63) (hn:k<items.size)
  (h:Q () { s with heap:=s.heap.update l (Obj.mapSeq (·.setIfInBounds k.toNat v)) }):wpAny (model pw w) A (setItem (.ref l) (.int k t) v) Q E s:=by
 have hT:s.TypeIs (.ref l) "list":=yEA _ ho rfl
 delta setItem
 try with_reducible refine wpAny_holding ?_
 first|refine wpAny_bind (wpAny_pure ?_)|skip
 refine wpAny_bind (wpAny_sequenceKey hT (by decide) ?_)
 refine wpAny_bind (wpAny_callSpecial?_slot (name:=Str.ofString "__setitem__") hT slot_list_setitem
  (wpAny_call_entry slot_list_setitem hT entry_list_setitem ?_ (args_list_setitem _ _ _)))
 show wpAny _ _ (Builtin.List.listSubscript? (.int k t) >>= _) _ _ s
 refine wpAny_bind (wpAny_listSubscript_int (fitsIndex_of h0 hfit) ?_)
 clear hfit
 obtain⟨j,rfl⟩:=Int.eq_ofNat_of_zero_le h0
 have hj:j<items.size:=by lia
 have hx':items[j]? = some items[j]:=Array.getElem?_eq_getElem hj
 refine wpAny_bind (wpAny_bind (wpAny_seqItemAt ho rfl (wpAny_pure ?_)))
 rw [hx']
 refine wpAny_bind (wpAny_setSeqItemAt ho rfl ?_)
 first
  |exact wpAny_bind (wpAny_pure (wpAny_pure (yEA .none rfl (wpAny_pure h))))
  |exact wpAny_pure ⟨.none,rfl,wpAny_pure h⟩
theorem jd (x:Cx w V oh kH fi){p:P4}{y:Str}{pos:Pos}(hk:sg fi p y=true){W:Wd}{r:Tr AV}{av:AV}(F:aM V oh fi x.env W s.heap r) (hr:r.get p=some av){Q:Value->Shared->Prop}(q:∀v,Rep V W.μ av v->Q v s):WG (model pw w) x.A (eval (.Name y pos) x.env) Q E s:=by
 refine pS (fA hk) λhs hd hc=>?_
 refine js ?_ hd
 rcases F.me p y hs with hk|⟨hk,c,o,hl,hc',ha⟩
 ·refine aI F.loc λm hn hm=>?_
  refine aI (hm p y av hs hr hk) λv hv hr'=>?_
  exact wpAny_loadName_local x.fm.kind ((x.fm.kinds y).trans hk) hn hv (q v hr')
 ·refine aI (ha av hr) λv r1_ hr'=>?_;subst r1_
  rcases hk with hk|hk
  ·exact wpAny_loadName_cell x.fm.kind ((x.fm.kinds y).trans hk) hl hc' (q v hr')
  ·exact wpAny_loadName_free x.fm.kind ((x.fm.kinds y).trans hk) hl hc' (q v hr') hc
structure Tk (w:World) (V:Va) (oh:Heap) (fi:aY) (env:Env) (W:Wd) (h:H) (r:Tr AV) (P:P4) (a:Addr) (n:Nat) (b m:Int) (s:Shared):Prop where
 I:Inv w V oh W h s.heap
 F:aM V oh fi env W s.heap r
 hs:r.get .e=some (.ref P)
 ht:r.get (.a .e)=some (.nat n)
 ha:W.μ P=some a
 lst:∃t u c,s.heap.get? a=some { cls:=.type "list",data:=.seq #[.int b t,.int m u] c }
theorem Tk.toks {env:Env}{W:Wd}{h:H}{r:Tr AV}{P:P4}{a:Addr}{n:Nat}{b m:Int}(T:Tk w V oh fi env W h r P a n b m s) (k:Tok):Tk w V oh fi env W h r P a n b m { s with toks:=k }:=⟨T.I,T.F,T.hs,T.ht,T.ha,T.lst⟩
structure vQ (oh:Heap) (T:Shared->Prop):Prop where
 toks:∀s k,T s->T { s with toks:=k }
 bq:∀s,T s->∀b o,oh.get? b=some o->s.heap.get? b=some o
def Iv (x:Cx w V oh kH fi) (T:Shared->Prop) (e:PySem.Expr) (i:Int):Prop:=
 ∀s,T s->∀Q E,(∀t k,Q (.int i t) { s with toks:=k })->WG (model pw w) x.A (eval e x.env) Q E s
section
variable {x:Cx w V oh kH fi}{T:Shared->Prop}
theorem cE {i:Int}{kd:Nat}{pos:Pos}:Iv x T (.Constant (.int i) kd pos) i:=λs T Q E q=>WG.of (wpAny_Constant_int (q _ _))
theorem qz (hT:vQ oh T){op:Operator}{ea eb:PySem.Expr}{pos:Pos}{i j k:Int}(ha:Iv x T ea i) (hb:Iv x T eb j) (ho:∀(s:Shared) (Q:Value->Shared->Prop) E t u,(∀t k',Q (.int k t) { s with toks:=k' })->wpAny (model pw w) x.A (binaryOp op (.int i t) (.int j u)) Q E s) :
  Iv x T (.BinOp ea op eb pos) k:=λs z Q E q=>
 qU (ha s z _ _ λt k1=>hb _ (hT.toks _ k1 z) _ _ λu k2=>WG.of (ho _ _ _ t u λt' k3=>q t' k3))
theorem sj (hT:vQ oh T){ea eb:PySem.Expr}{pos:Pos}{i j:Int}(ha:Iv x T ea i) (hb:Iv x T eb j) (hj:0<j):Iv x T (.BinOp ea .Mod eb pos) (i % j):=
 qz hT ha hb λs Q E t u q=>PyProof.Rows.mod_int' (by lia) (by rw [Int.fmod_eq_emod_of_nonneg _ (by lia)];exact q _ _)
theorem Ca (hT:vQ oh T){ea eb:PySem.Expr}{pos:Pos}{i j:Int}(ha:Iv x T ea i) (hb:Iv x T eb j) (hj:0<j) (hs:j<=1000000):Iv x T (.BinOp ea .FloorDiv eb pos) (i / j):=
 qz hT ha hb λs Q E t u q=>PyProof.Rows.floordiv_int (by omega) (by rw [Int.fdiv_eq_ediv_of_nonneg _ (by omega)];exact q _ _) (.inl (PyProof.noPylong_small (by omega)))
theorem sk (hT:vQ oh T){ea eb:PySem.Expr}{pos:Pos}{i j:Int}(ha:Iv x T ea i) (hb:Iv x T eb j) (hi:i.natAbs<2 ^ 64):Iv x T (.BinOp ea .Mult eb pos) (i*j):=
 qz hT ha hb λs Q E t u q=>PyProof.Rows.mul_int (q _ _) (IntMulOk.of_left (mh hi))
theorem wY (hT:vQ oh T){ea eb:PySem.Expr}{pos:Pos}{i j:Int}(ha:Iv x T ea i) (hb:Iv x T eb j):Iv x T (.BinOp ea .Add eb pos) (i+j):=
 qz hT ha hb λs Q E t u q=>PyProof.Rows.add_int (q _ _)
theorem je (G:Gl w V oh mg mb) (hT:vQ oh T){y:Str}{np:Pos}{c:Value}(hy:zk.lookup y=some c) (k:jc fi y=true){s:Shared}(z:T s){Q:Value->Shared->Prop}{E:Value->Shared->Prop}(h:Q c s):wpAny (model pw w) x.A (eval (.Name y np) x.env) Q E s:=by
 obtain⟨hm,hv⟩:=G.bi y _ hy
 exact Name_function_global x.fm.kind ((x.fm.kinds y).trans (cQ k).1) (loadGlobal_builtin (mg:=mg) (mb:=mb) (by rw [x.fm.glob];exact G.hg.keeps (hT.bq _ z)) hm (by rw [x.fm.bi];exact G.hb.keeps (hT.bq _ z)) hv h) (cQ k).2
theorem oX (G:Gl w V oh mg mb) (hT:vQ oh T){y:Str}{np pos:Pos}{e:PySem.Expr}{i:Int}(hy:zk.lookup y=some (.type "int")) (k:jc fi y=true) (hn:notStar e=true) (he:Iv x T e i):Iv x T (.Call (.Name y np) [e] [] pos) i:=λs z Q E q=>by
 refine WG.eq (bc ..) ?_
 refine WG.leaf (je G hT hy k z ?_)
 have args:=aL (M:=model pw w) (A:=x.A) (E:=E) (s:=s) (f:=.type "int") (pos:=pos) (env:=x.env) (es:=[e]) (by simp [hn]) (Q:=λa s'=>WG (model pw w) x.A (PySem.call (.type "int") ([]++a.pos) a.kw) Q E s') (by
  rw [bX hn]
  exact bg (he s z _ _ λt k1=>WG.pure (WG.of (call_int_int (q t k1)))))
 exact dq args.2 args.1
end
section
variable {x:Cx w V oh kH fi}{W:Wd}{h:H}{r:Tr AV}{P:P4}{a:Addr}{n:Nat}{b m:Int}
theorem Tk.ok:vQ oh (Tk w V oh fi x.env W h r P a n b m):=⟨λs k T=>T.toks k,λs T=>T.I.bq⟩
theorem zE {y:Str}{pos:Pos}(hk:sg fi (.a .e) y=true):Iv x (Tk w V oh fi x.env W h r P a n b m) (.Name y pos) n:=λs T Q E q=>jd x hk T.F T.ht λv R=>by obtain⟨t,rfl⟩:=R;exact q t s.toks
theorem sm {y:Str}{np sp:Pos}{kd:Nat}{cp:Pos}{j:Nat}{i:Int}(hk:sg fi .e y=true) (hj:(j=0/\i=b)∨(j=1/\i=m)):Iv x (Tk w V oh fi x.env W h r P a n b m) (.Subscript (.Name y np) (.Constant (.int (j:Int)) kd cp) sp) i:=λs T Q E q=>by
 refine cI (jd x hk T.F T.hs λv R=>?_)
 refine R.rf λa' ha' r2_=>?_;clear R;subst r2_
 rw [T.ha] at ha';cases ha'
 refine WG.of (wpAny_Constant_int ?_)
 obtain⟨t,u,c,hl⟩:=T.lst
 have hL:Heap.IsList s.heap a #[.int b t,.int m u]:=yEAAE _ hl rfl c rfl
 rcases hj with ⟨rfl,rfl⟩|⟨rfl,rfl⟩
 ·exact WG.of (fh wU hL.typeIs slot_list_getitem.lookup (wpAny_getItem_list hL (by decide) (by decide) rfl (q t _)))
 ·exact WG.of (fh wU hL.typeIs slot_list_getitem.lookup (wpAny_getItem_list hL (by decide) (by decide) rfl (q u _)))
end
end
end
section
noncomputable def rB (m:Int):Int:=(m*39373+7) % 2147483647
def jf (V:Va):Prop:=∀top v r b m,V.draws (.mk top v::r) b m->0<top/\top<=1000000/\m.natAbs<2 ^ 62 /\
 (0<b->(∀μ t,Rep V μ v (.int (b % (top:Int)) t))/\V.draws r (b / (top:Int)) m) /\
 (¬0<b->(∀μ t,Rep V μ v (.int ((rB m*rB m % 2147483629 / 32) % (top:Int)) t))/\V.draws r b (rB m))
def uL:SC:=λco r h k=>opt (r.get .e) λx=>opt (r.get (.a .e)) λy=>wa [x,y] h λv h=>k (.ret v) .lf h
section
variable {w:World}{V:Va}{oh:Heap}{kH:Bool}{fi:aY}{A:Around}{E:Value->Shared->Prop}{s:Shared}{mg mb:Str->Option Value}
theorem aM.bare {env:Env}{W:Wd}{hp:Heap}{r:Tr AV}(F:aM V oh fi env W hp r):aM V oh fi env W hp .lf:=by
 refine aI F.loc λm hn _=>?_
 exact⟨yEA m hn λp x av a b c=>by rw [Tr.bF] at b;exact nn b,λp x a=>(F.me p x a).imp id λ⟨k,c,o,l,g,q⟩=>yAEEAA k c o l g λav ha=>by rw [Tr.bF] at ha;exact nn ha,F.un,F.ej,F.inj⟩
theorem eH {vs:Array Value}{n:Nat}:¬(({ cls:=.type "list",data:=.seq vs n }:Obj).cls = .type "tuple" /\ ∃i m,({ cls:=.type "list",data:=.seq vs n }:Obj).data = .seq i m):=λz=>by
 have:=z.1
 injection this with this
 exact absurd this (by decide)
theorem rC (x:Cx w V oh kH fi){W:Wd}{h:H}{r:Tr AV}{P:P4}{a:Addr}{n:Nat}{b m:Int}{y:Str}{np cp sp ap:Pos}{kd:Nat}{e:PySem.Expr}{i:Int}{j:Int}{rest:List FT}{b' m':Int}(T:Tk w V oh fi x.env W h r P a n b m s) (hk:sg fi .e y=true)
  (hv:Iv x (Tk w V oh fi x.env W h r P a n b m) e i) (hj:(j=0/\b'=i/\m'=m)∨(j=1/\b'=b/\m'=i)) (hsw:swapsWith e (some (.Subscript (.Name y np) (.Constant (.int j) kd cp) sp)) ap.line x.env=pure false) (hlk:¬W.lk a) (hd:V.draws rest b' m'){Q:Flow->Shared->Prop}
  (q:∀s',Tk w V oh fi x.env W (.mk (h.t.set (.src rest) P) h.nx) r P a n b' m' s'->Step none_ W s W s'->Q .next s'):WG (model pw w) x.A (exec (.Assign [.Subscript (.Name y np) (.Constant (.int j) kd cp) sp] e ap) x.env) Q E s:=by
 refine WG.eq (exec_Assign_Subscript _ _ _ _ _ hsw ..) ?_
 refine WG.aA (WG.bind (hv s T _ _ λt k1=>?_))
 have T1:=T.toks k1
 refine WG.eqb (assign_Subscript ..) ?_
 refine WG.bind (WG.bind (WG.hold (jd x hk T1.F T1.hs λv R=>?_)))
 refine R.rf λa' ha' r2_=>?_;clear R;subst r2_
 rw [T.ha] at ha';cases ha'
 refine WG.bind (WG.hold (WG.of (wpAny_Constant_int ?_)))
 refine WG.aA (WG.bind (WG.hold (WG.of ?_)))
 obtain⟨tb,tm,c,hl⟩:=T.lst
 have done:∀(l:List Value) s4,Q .next s4->WG (model pw w) x.A (release l []) (λ_ s'=>WG (model pw w) x.A (Pure.pure Flow.next) Q E s') E s4:=λl s4 q=>WG.of (wpAny_release' (WG.pure q))
 rcases hj with ⟨rfl,rfl,rfl⟩|⟨rfl,rfl,rfl⟩
 ·refine jU (s:={ s with toks:=_ }) hl (by decide) (by decide) (by show (0:Int)<((2:Nat):Int);decide) ?_
  obtain⟨n',hn'⟩:=dO hl (λxs=>xs.setIfInBounds (0:Int).toNat (.int b' t))
  have sb:Heap.SameBut a s.heap (s.heap.update a (Obj.mapSeq λxs=>xs.setIfInBounds (0:Int).toNat (.int b' t))):=Heap.SameBut.update ..
  refine done _ _ (q _ ⟨T.I.upd (o:=.src rest) T.ha hl eH sb hlk (yEEEEEA b' m' t tm n' hn' hd),?_,T.hs,T.ht,T.ha,yEEE t tm n' hn'⟩ (ct T.ha hl eH sb hlk _))
  exact T.F.step _ _ (ct T.ha hl eH sb hlk _)
 ·refine jU (s:={ s with toks:=_ }) hl (by decide) (by decide) (by show (1:Int)<((2:Nat):Int);decide) ?_
  obtain⟨n',hn'⟩:=dO hl (λxs=>xs.setIfInBounds (1:Int).toNat (.int m' t))
  have sb:Heap.SameBut a s.heap (s.heap.update a (Obj.mapSeq λxs=>xs.setIfInBounds (1:Int).toNat (.int m' t))):=Heap.SameBut.update ..
  refine done _ _ (q _ ⟨T.I.upd (o:=.src rest) T.ha hl eH sb hlk (yEEEEEA b' m' tb t n' hn' hd),?_,T.hs,T.ht,T.ha,yEEE tb t n' hn'⟩ (ct T.ha hl eH sb hlk _))
  exact T.F.step _ _ (ct T.ha hl eH sb hlk _)
theorem wZ {env:Env}(fm:Fm fi env){W:Wd}{h:H}{r:Tr AV}{p:P4}{y:Str}{av:AV}{v:Value}(hs:fi.slot p=some y) (hk:fi.kindOf y=some .local)
  (I:Inv w V oh W h s.heap) (F:aM V oh fi env W s.heap r) (R:Rep V W.μ av v){Q:Unit->Shared->Prop}
  (k:∀s',Inv w V oh W h s'.heap->aM V oh fi env W s'.heap (r.set av p)->Step (kC fi env) W s W s'->Heap.SameBut env.locals s.heap s'.heap->Q () s'):wpAny (model pw w) A (storeName env y v) Q E s:=by
 refine aI F.loc λm hn hm=>?_
 refine cC (id hn) λol es ep l1 l2 l3=>?_
 refine wpAny_storeName_local ((fm.kinds y).trans hk) hn (λh' hn' hsb=>?_) (by rw [fm.kind];rfl)
 obtain⟨I',S'⟩:=gR (fi:=fi) (env:=env) I (.inl rfl) F.un l1 (bQ l2) hsb (s.toks+1)
 refine k _ I' ⟨yEA _ hn' λq x av' e1 e2 e3=>?_,λq x e1=>?_,F.un,λx c e1=>?_,F.inj⟩ S' hsb
 ·by_cases hx:x=y
  ·subst hx
   obtain rfl:=fi.inj hs e1
   rw [Tr.au] at e2;cases e2
   exact yEA v (if_pos rfl) R
  ·have hq:p ≠ q:=λz=>hx (by subst z;rw [hs] at e1;cases e1;rfl)
   rw [Tr.aw _ _ _ _ hq] at e2
   refine aI (hm q x av' e1 e2 e3) λu g1 g2=>?_
   exact yEA u ((if_neg hx).trans g1) g2
 ·refine (F.me q x e1).imp id λ⟨k1,c,o,g1,g2,g3⟩=>yAEEAA k1 c o g1 ?_ λav' e2=>?_
  ·refine aI g2 λoc c1 c2=>?_;clear g2
   refine yEA oc ((hsb.2 c λz=>?_).trans c1) c2
   subst z;rw [l1] at c1;cases c1;rw [l2] at c2;cases c2
  ·have hq:p ≠ q:=λz=>by
    subst z;rw [hs] at e1;cases e1
    rw [hk] at k1;rcases k1 with k1|k1<;>cases k1
   rw [Tr.aw _ _ _ _ hq] at e2
   exact g3 av' e2
 ·exact⟨(F.ej x c e1).1,(F.ej x c e1).2.1,by rw [hsb.1];exact (F.ej x c e1).2.2⟩
theorem so (G:Gl w V oh mg mb) (HD:jf V){S I0 T0 D:Str}{q1 q2 q3 q4 q5 q6 q7 q8 q9 q10 q11 q12 q13 q14 q15 q16 q17 q18 q19 q20 q21 q22 q23 q24 q25 q26 q27 q28 q29 q30 q31 q32 q33 q34 q35 q36 q37 q38 q39 q40 q41 q42 q43 q44 q45 q46 q47 q48 q49 q50 q51 q52 q53 q54 q55 q56 q57 q58:Pos}{n1 n2 n3 n4 n5 n6 n7 n8 n9 n10 n11 n12 n13 n14:Nat}
  (hS:sg fi .e S=true) (hT:sg fi (.a .e) T0=true) (hDs:fi.kindOf D=some .local) (hDl:sg fi (.b .e) D=true) (hI:zk.lookup I0=some (.type "int")) (kI:jc fi I0=true) :
  SB w V oh kH fi uL [
   .If (.Compare (.Subscript (.Name S q1) (.Constant (.int 0) n1 q2) q3) [.Gt] [.Constant (.int 0) n2 q4] q5) [
    .Assign [.Name D q6] (.BinOp (.Call (.Name I0 q7) [.Subscript (.Name S q8) (.Constant (.int 0) n3 q9) q10] [] q11) .Mod (.Name T0 q12) q13) q14,
    .Assign [.Subscript (.Name S q15) (.Constant (.int 0) n4 q16) q17] (.BinOp (.Subscript (.Name S q18) (.Constant (.int 0) n5 q19) q20) .FloorDiv (.Name T0 q21) q22) q23,
    .Return (some (.Name D q24)) q25] [] q26,
   .Assign [.Subscript (.Name S q27) (.Constant (.int 1) n6 q28) q29] (.BinOp (.Call (.Name I0 q30) [.BinOp (.BinOp (.Subscript (.Name S q31) (.Constant (.int 1) n7 q32) q33) .Mult (.Constant (.int 39373) n8 q34) q35) .Add (.Constant (.int 7) n9 q36) q37] [] q38) .Mod (.Constant (.int 2147483647) n10 q39) q40) q41,
   .Return (some (.BinOp (.Call (.Name I0 q42) [.BinOp (.BinOp (.Call (.Name I0 q43) [.BinOp (.Subscript (.Name S q44) (.Constant (.int 1) n11 q45) q46) .Mult (.Subscript (.Name S q47) (.Constant (.int 1) n12 q48) q49) q50] [] q51) .Mod (.Constant (.int 2147483629) n13 q52) q53) .FloorDiv (.Constant (.int 32) n14 q54) q55] [] q56) .Mod (.Name T0 q57) q58)) q26]:=by
 intro x r h k hk W s I F Q E p
 refine WG.bodyG λbo hbo=>?_
 refine opt_k hk λxv hx e1=>?_
 refine opt_k e1 λyv hy e2=>?_
 have e3:(aG yv λn=>lU xv h λp o=>tI o λl=>List.rec (motive:=λ_=>Bool) false (λe r' _=>Bm e λtop v=>az (Nat.beq top n) (h.put p (.src r') λh=>k (.ret v) .lf h) false) l)=true:=e2
 refine onNat_k e3 λn r1_ e4=>?_;subst r1_
 refine onO_k e4 λP o r2_ hP e5=>?_;subst r2_
 have hsrc:∃l,o = .src l:=by cases o<;>first|(first|exact nf e5|exact nn e5|cases e5)|exact⟨_,rfl⟩
 obtain⟨l,rfl⟩:=hsrc
 cases l with
 |nil=>exact nf e5
 |cons ft rest=>
  cases ft with
  |mk top v=>
   obtain⟨e6,e7⟩:=aN (show az (Nat.beq top n) (h.put P (.src rest) λh=>k (.ret v) .lf h) false=true from e5)
   obtain rfl:=Nat.eq_of_beq_eq_true e6
   have e8:=dy e7
   refine aI F.loc λm0 hn0 hm0=>?_
   refine I.ob P _ hP λa ha ro=>?_
   have hlk:¬W.lk a:=I.nS hP ha rfl
   refine bG λ_ kk=>?_
   obtain⟨b,m,t,u,c,hl,hd⟩:=ro
   obtain⟨d1,d2,d3,d4,d5⟩:=HD _ _ _ _ _ hd
   refine kk ?_
   have T:Tk w V oh fi x.env W h r P a top b m s:=⟨I,F,hx,hy,ha,yEEE t u c hl⟩
   have tp:(0:Int)<(top:Int):=by lia
   subst hbo
   refine WG.consG λrs hrs=>?_
   refine WG.eq (execs_cons ..) ?_
   refine WG.bind ?_
   refine WG.eq (exec_If ..) ?_
   refine WG.aA (WG.bind ?_)
   show WG _ _ (do testChain q5 (<-eval (.Subscript (.Name S q1) (.Constant (.int 0) n1 q2) q3) x.env) [.Gt] (markedEach [.Gt] [.Constant (.int 0) n2 q4] (evalEach [.Constant (.int 0) n2 q4] x.env))) _ _ s
   rw [markedEach_of_false _ _ _ (by rfl)]
   refine WG.bind (sm (j:=0) hS (.inl ⟨rfl,rfl⟩) s T _ _ λt1 k1=>?_)
   refine fq (WG.of (wpAny_Constant_int ?_))
   refine PyProof.Rows.gt_int (wpAny_truthy_bool ?_)
   by_cases hb:0<b
   ·obtain⟨v1,v2⟩:=d4 hb
    rw [decide_eq_true hb,if_pos rfl]
    refine WG.consG λrt hrt=>?_
    refine WG.eq (execs_cons ..) ?_
    refine WG.bind ?_
    refine WG.eq (exec_Assign_Name _ _ _ _ _ rfl ..) ?_
    refine WG.aA (WG.bind ((sj Tk.ok (oX G Tk.ok hI kI rfl (sm (j:=0) hS (.inl ⟨rfl,rfl⟩))) (zE hT) tp) _ (T.toks _) _ _ λt2 k2=>WG.aA (WG.bind (WG.bindName (wZ x.fm (fA hDl).1 hDs (T.toks k2).I (T.toks k2).F (v1 _ t2) λs3 I3 F3 S3 sb3=>WG.pure ?_)))))
    have hne:a ≠ x.env.locals:=λz=>F.un.1 (.inl ⟨P,z▸ha⟩)
    have hl3:s3.heap.get? a=some { cls:=.type "list",data:=.seq #[.int b t,.int m u] c }:=(sb3.2 a hne).trans hl
    have T3:Tk w V oh fi x.env W h (r.set v (.b .e)) P a top b m s3:=⟨I3,F3,by rw [Tr.aw _ _ _ _ (by intro z;cases z)];exact hx,by rw [Tr.aw _ _ _ _ (by intro z;cases z)];exact hy,ha,yEEE t u c hl3⟩
    subst hrt
    refine WG.eq (execs_cons ..) ?_
    refine WG.bind (rC (rest:=rest) (b':=b / (top:Int)) (m':=m) x T3 hS (Ca Tk.ok (sm (j:=0) hS (.inl ⟨rfl,rfl⟩)) (zE hT) tp (by lia)) (.inl ⟨rfl,rfl,rfl⟩) rfl hlk v2 λs4 T4 S4=>?_)
    refine WG.eq (execs_cons ..) ?_
    refine WG.bind ?_
    refine WG.eq (exec_Return_some ..) ?_
    refine WG.aA (WG.bind (jd x hDl T4.F (by rw [Tr.au]) λv' R'=>WG.pure ?_))
    have S0:Step (kC fi x.env) W s W s3:=⟨S3.le,S3.fresh,S3.keep,S3.size,S3.gens,S3.os⟩
    exact WG.pure (WG.pure (p (.ret v) .lf _ (.ret v') W s4 e8 (.ret R') T4.I T4.F.bare (S0.trans S4.up)))
   ·obtain⟨v1,v2⟩:=d5 hb
    rw [decide_eq_false hb,if_neg (by decide)]
    refine WG.of (wpAny_execs_nil ?_)
    subst hrs
    refine WG.consG λrt hrt=>?_
    refine WG.eq (execs_cons ..) ?_
    have mb1:m.natAbs<2 ^ 64:=by lia
    refine WG.bind (rC (rest:=rest) (b':=b) (m':=rB m) x (T.toks _) hS (sj Tk.ok (oX G Tk.ok hI kI rfl (wY Tk.ok (sk Tk.ok (sm (j:=1) hS (.inr ⟨rfl,rfl⟩)) cE mb1) cE)) cE (by decide)) (.inr ⟨rfl,rfl,rfl⟩) rfl hlk v2 λs4 T4 S4=>?_)
    subst hrt
    refine WG.eq (execs_cons ..) ?_
    refine WG.bind ?_
    refine WG.eq (exec_Return_some ..) ?_
    have mb2:(rB m).natAbs<2 ^ 64:=by delta rB;lia
    refine WG.aA (WG.bind ((sj Tk.ok (oX G Tk.ok hI kI rfl (Ca Tk.ok (sj Tk.ok (oX G Tk.ok hI kI rfl (sk Tk.ok (sm (j:=1) hS (.inr ⟨rfl,rfl⟩)) (sm (j:=1) hS (.inr ⟨rfl,rfl⟩)) mb2)) cE (by decide)) cE (by decide) (by decide))) (zE hT) tp) _ T4 _ _ λt5 k5=>WG.pure ?_))
    have T5:=T4.toks k5
    have S0:Step none_ W s W { s4 with toks:=k5 }:=⟨S4.le,S4.fresh,S4.keep,S4.size,S4.gens,S4.os⟩
    exact WG.pure (p (.ret v) .lf _ (.ret _) W { s4 with toks:=k5 } e8 (.ret (v1 _ t5)) T5.I T5.F.bare S0.up)
end
end
section
set_option genInjectivity false
set_option genSizeOf false
noncomputable def ee (c:Int):Int:=if -1 - c > c then -1 - c else c
def dz (c:Int):Int:=(ee c % 2147483629+7919*0*0+31*0+17)*48271 % 2147483647
def srcOf (c:Int):Int:=ee c*(if decide (10 ^ 18<=ee c) then 1 else 0)
def mV (V:Va) (oh:Heap) (l:List FT):Prop:=∃sc items,V.fF 0 = .ref sc/\oh.IsList sc items/\(items.size:Int)<2 ^ 63/\((items = #[]/\V.draws l (srcOf 0) (dz 0))∨∃c t,items[0]? = some (.int c t)/\V.draws l (srcOf c) (dz c))
def rD (v:AV) (k:Nat->Bool):Bool:=AV.rec (motive:=λ_=>Bool) false (λ_=>false) (λ_=>false) (λ_=>false)
 (λx=>OV.rec (motive:=λ_=>Bool) (λ_=>false) (λ_=>false) (λ_ _ _=>false) (λ_ _=>false) (λ_=>false) (λ_=>false) false (λ_=>false) (λ_=>false) k x) v
theorem jV {v:AV}{k:Nat->Bool}(e:rD v k=true):∃i,v = .o (.fF i)/\k i=true:=by
 cases v with
 |o y=>cases y<;>first|exact yEA _ rfl e|exact nf e
 |_=>exact nf e
def uM (l:List FT):SC:=λco r h k=>opt (r.get .e) λx=>rD x λi=>opt (r.get (.a .e)) λy=>aG y λn=>az (Nat.beq i 0) (az (Nat.beq n 0) (alloc (.src l) h λv h=>k (.ret v) .lf h) false) false
section
variable {w:World}{V:Va}{oh:Heap}{kH:Bool}{fi:aY}{A:Around}{E:Value->Shared->Prop}{s:Shared}{mg mb:Str->Option Value}
structure Lm (w:World) (V:Va) (oh:Heap) (env:Env) (W:Wd) (h:H) (m:Str->Option Value) (s:Shared):Prop where
 I:Inv w V oh W h s.heap
 ns:s.heap.Ns env.locals m
 un:¬W.own env.locals/\oh.get? env.locals=none
variable {x:Cx w V oh kH fi}{W:Wd}{h:H}{m:Str->Option Value}
theorem Lm.ok:vQ oh (Lm w V oh x.env W h m):=⟨λs k T=>⟨T.I,T.ns,T.un⟩,λs T=>T.I.bq⟩
theorem gw {y:Str}{pos:Pos}{v:Value}(hk:fi.kindOf y=some .local) (hd:(y==("__debug__" : Str))=false) (T:Lm w V oh x.env W h m s) (hm:m y=some v){Q:Value->Shared->Prop}(q:Q v s):WG (model pw w) x.A (eval (.Name y pos) x.env) Q E s:=
 js (wpAny_loadName_local x.fm.kind ((x.fm.kinds y).trans hk) T.ns hm q) hd
theorem zF {y:Str}{pos:Pos}{i:Int}{t:Tok}(hk:fi.kindOf y=some .local) (hd:(y==("__debug__" : Str))=false) (hm:m y=some (.int i t)):Iv x (Lm w V oh x.env W h m) (.Name y pos) i:=λs T Q E q=>gw hk hd T hm (q t s.toks)
theorem mW {y:Str}{v:Value}(hk:fi.kindOf y=some .local) (T:Lm w V oh x.env W h m s){Q:Unit->Shared->Prop}(k:∀s',Lm w V oh x.env W h (λz=>if z=y then some v else m z) s'->Step (kC fi x.env) W s W s'->Q () s'):wpAny (model pw w) A (storeName x.env y v) Q E s:=by
 refine cC (id T.ns) λol es ep l1 l2 l3=>?_
 refine wpAny_storeName_local ((x.fm.kinds y).trans hk) T.ns (λh' hn' hsb=>?_) (by rw [x.fm.kind];rfl)
 obtain⟨I',S'⟩:=gR (fi:=fi) (env:=x.env) T.I (.inl rfl) T.un l1 (bQ l2) hsb (s.toks+1)
 exact k _ ⟨I',hn',T.un⟩ S'
theorem Cb (hT:vQ oh (Lm w V oh x.env W h m)){ea eb:PySem.Expr}{pos:Pos}{i j:Int}(ha:Iv x (Lm w V oh x.env W h m) ea i) (hb:Iv x (Lm w V oh x.env W h m) eb j):Iv x (Lm w V oh x.env W h m) (.BinOp ea .Sub eb pos) (i - j):=
 qz hT ha hb λs Q E t u q=>PyProof.Rows.sub_int (q _ _)
theorem iNeg {ea:PySem.Expr}{pos:Pos}{i:Int}(ha:Iv x (Lm w V oh x.env W h m) ea i):Iv x (Lm w V oh x.env W h m) (.UnaryOp .USub ea pos) (-i):=λs z Q E q=>
 lp (ha s z _ _ λt k=>PyProof.Rows.neg_int (q _ _))
noncomputable def upd (m:Str->Option Value) (y:Str) (v:Value):Str->Option Value:=λz=>if z=y then some v else m z
theorem Cc {y:Str}{np pos:Pos}{e:PySem.Expr}{i:Int}(hk:fi.kindOf y=some .local) (hw:swapsWith e (some (.Name y np)) pos.line x.env=pure false) (he:Iv x (Lm w V oh x.env W h m) e i) (T:Lm w V oh x.env W h m s){Q:Flow->Shared->Prop}
  (q:∀t s',Lm w V oh x.env W h (upd m y (.int i t)) s'->Step (kC fi x.env) W s W s'->Q .next s'):WG (model pw w) x.A (exec (.Assign [.Name y np] e pos) x.env) Q E s:=by
 refine WG.eq (exec_Assign_Name _ _ _ _ _ hw ..) ?_
 refine WG.aA (WG.bind (he s T _ _ λt k=>WG.aA (WG.bind (WG.bindName (mW hk (Lm.ok.toks s k T) λs1 T1 S1=>WG.pure (q t s1 T1 ?_))))))
 exact⟨S1.le,S1.fresh,S1.keep,S1.size,S1.gens,S1.os⟩
theorem mX {m:Str->Option Value}{y z:Str}{v:Value}(h:z ≠ y):upd m y v z=m z:=if_neg h
theorem mY {m:Str->Option Value}{y:Str}{v:Value}:upd m y v y=some v:=if_pos rfl
theorem uN {c:Value}(hc:(∃id,c = .builtin id)∨∃T,c = .type T){es:List PySem.Expr}{pos:Pos}(hs:es.all notStar=true){Q:Value->Shared->Prop}(h:WG (model pw w) x.A (spliced (backTo pos (starEach es x.env))) (λvs s'=>WG (model pw w) x.A (PySem.call c vs) Q E s') E s) :
  WG (model pw w) x.A (callWith pos c [] (backTo pos (starEach es x.env)) []) Q E s:=by
 have args:=aL (M:=model pw w) (A:=x.A) (E:=E) (s:=s) (f:=c) (pos:=pos) (env:=x.env) hs (Q:=λa s'=>WG (model pw w) x.A (PySem.call c ([]++a.pos) a.kw) Q E s') h
 rcases hc with ⟨id,rfl⟩|⟨T,rfl⟩
 ·exact cD args.2 args.1
 ·exact dq args.2 args.1
theorem sr (G:Gl w V oh mg mb){l:List FT}{sc:Addr}{items:Array Value}(hL:oh.IsList sc items) (hz:(items.size:Int)<2 ^ 63) (hd:(items = #[]/\V.draws l (srcOf 0) (dz 0))∨∃c t,items[0]? = some (.int c t)/\V.draws l (srcOf c) (dz c))
  (l1:fi.kindOf "script" = some .local) (l2:fi.kindOf "k" = some .local) (l3:fi.kindOf "cell" = some .local) (o1:jc fi "len" = true){t2:Tok}(m1:m "script" = some (.ref sc)) (m2:m "k" = some (.int 0 t2)) (T:Lm w V oh x.env W h m s)
  {a1 a2 a3 a4 a5 a6 a7 a8 a9 b1 b2 b3 b4 b5:Pos}{n1:Nat}{rest:List Stmt}{Q:Flow->Shared->Prop}
  (nxt:∀c s' m',Lm w V oh x.env W h m' s'->Step (kC fi x.env) W s W s'->(∃t,m' "k" = some (.int 0 t))->(∃t,m' "cell" = some (.int c t))->V.draws l (srcOf c) (dz c)->WG (model pw w) x.A (execs rest x.env) Q E s') :
  WG (model pw w) x.A (execs (.Assign [.Name "cell" a1] (.Constant (.int 0) n1 a2) a3 :: .If (.Compare (.Name "k" a4) [.Lt] [.Call (.Name "len" a5) [.Name "script" a6] [] a7] a8) [.Assign [.Name "cell" a9] (.Subscript (.Name "script" b1) (.Name "k" b2) b3) b4] [] b5::rest) x.env) Q E s:=by
 refine WG.eq (execs_cons ..) ?_
 refine WG.bind (Cc l3 rfl cE T λtA s1 T1 S1=>?_)
 have e1:upd m "cell" (.int 0 tA) "k" = some (.int 0 t2):=(mX (by decide)).trans m2
 have e2:upd m "cell" (.int 0 tA) "script" = some (.ref sc):=(mX (by decide)).trans m1
 have hl1:s1.heap.IsList sc items:=aI hL λo a b=>(yEA o (T1.I.bq _ _ a) b)
 refine WG.eq (execs_cons ..) ?_
 refine WG.bind ?_
 refine WG.eq (exec_If ..) ?_
 refine WG.aA (WG.bind ?_)
 show WG _ _ (do testChain a8 (<-eval (.Name "k" a4) x.env) [.Lt] (markedEach [.Lt] [.Call (.Name "len" a5) [.Name "script" a6] [] a7] (evalEach [.Call (.Name "len" a5) [.Name "script" a6] [] a7] x.env))) _ _ s1
 rw [markedEach_of_false _ _ _ (by rfl)]
 refine WG.bind (gw l2 rfl T1 e1 (fq ?_))
 refine WG.eq (bc ..) ?_
 refine WG.leaf (je G Lm.ok (by rfl) o1 T1 ?_)
 refine uN (.inl ⟨_,rfl⟩) rfl (bg (gw l1 rfl T1 e2 (WG.pure (WG.of (call_len_list hl1 hz ?_)))))
 refine PyProof.Rows.lt_int (wpAny_truthy_bool ?_)
 have T2:Lm w V oh x.env W h (upd m "cell" (.int 0 tA)) { s1 with toks:=s1.toks+1+1 }:=Lm.ok.toks _ _ T1
 have S2:Step (kC fi x.env) W s W { s1 with toks:=s1.toks+1+1 }:=S1.toks _
 rcases hd with ⟨rfl,hd⟩|⟨c,t,hc,hd⟩
 ·refine gif Bool.false_ne_true ?_
  refine WG.eq (execs_nil ..) ?_
  exact WG.pure (nxt 0 _ _ T2 S2 ⟨_,e1⟩ ⟨_,mY⟩ hd)
 ·have pos:(0:Int)<(items.size:Int):=by
   have:=(Array.getElem?_eq_some_iff.mp hc).1
   lia
  rw [decide_eq_true pos,if_pos rfl,execs_cons,exec_Assign_Name _ _ _ _ _ rfl]
  have hl2:({ s1 with toks:=s1.toks+1+1 }:Shared).heap.IsList sc items:=hl1
  refine WG.bind (WG.aA (WG.bind (cI (gw l1 rfl T2 e2 (gw l2 rfl T2 e1 ?_)))))
  refine WG.of (fh wU hl2.typeIs slot_list_getitem.lookup (wpAny_getItem_list hl2 (by decide) (by decide) hc ?_))
  refine WG.aA (WG.bind (WG.bindName (mW l3 T2 λs3 T3 S3=>WG.pure ?_)))
  refine WG.eq (execs_nil ..) ?_
  exact WG.pure (nxt c s3 _ T3 (S2.trans S3) ⟨_,(if_neg (by decide)).trans e1⟩ ⟨t,if_pos rfl⟩ hd)
theorem Lm.grown (T:Lm w V oh x.env W h m s){h':Heap}{tk:Tok}(k:∀b o,s.heap.get? b=some o->h'.get? b=some o) (sz:s.heap.objs.size<=h'.objs.size):Lm w V oh x.env W h m { s with heap:=h',toks:=tk }/\Step none_ W s W { s with heap:=h',toks:=tk }:=by
 obtain⟨a,b⟩:=du T.I k sz tk
 exact⟨⟨a,T.ns.keeps k,T.un⟩,b⟩
theorem su (G:Gl w V oh mg mb) (hh:x.A.handled=none) (l2:fi.kindOf "k" = some .local) (l3:fi.kindOf "cell" = some .local) (l4:fi.kindOf "big" = some .local) (l5:fi.kindOf "mixed" = some .local) (o2:jc fi "max" = true) (o3:jc fi "int" = true){c:Int}{t2 t3:Tok}(m2:m "k" = some (.int 0 t2)) (m3:m "cell" = some (.int c t3)) (T:Lm w V oh x.env W h m s)
  {b6 b7 b8 b9 c1 c2 c3 c4 c5 c6 c7 c8 c9 d1 d2 d3 d4 d5 d6 d7 d8 d9 e1 e2 e3 e4 e5 e6 e7 e8 e9 f1 f2 f3 f4 f5 f6 f7 f8 f9 g1 g2 g3 g4 g5 g6 g7 g8 g9 h1:Pos}{n2 n3 n4 n5 n6 n7 n8 n9 n10:Nat}{Q:Flow->Shared->Prop}
  (nxt:∀s' m' t u,Lm w V oh x.env W h m' s'->Step (kC fi x.env) W s W s'->Q (.ret (.ref s'.heap.objs.size)) { s' with heap:=s'.heap.push { cls:=.type "list",data:=.seq #[.int (srcOf c) t,.int (dz c) u] } }) :
  WG (model pw w) x.A (execs [
   .Assign [.Name "big" b6] (.Call (.Name "max" b7) [.Call (.Name "int" b8) [.Name "cell" b9] [] c1,.Call (.Name "int" c2) [.BinOp (.UnaryOp .USub (.Constant (.int 1) n2 c3) c4) .Sub (.Name "cell" c5) c6] [] c7] [] c8) c9,
   .Assign [.Name "mixed" d1] (.BinOp (.Call (.Name "int" d2) [.BinOp (.BinOp (.BinOp (.BinOp (.BinOp (.Call (.Name "int" d3) [.Name "big" d4] [] d5) .Mod (.Constant (.int 2147483629) n3 d6) d7) .Add (.BinOp (.BinOp (.Constant (.int 7919) n4 d8) .Mult (.Name "k" d9) e1) .Mult (.Name "k" e2) e3) e4) .Add (.BinOp (.Constant (.int 31) n5 e5) .Mult (.Name "k" e6) e7) e8) .Add (.Constant (.int 17) n6 e9) f1) .Mult (.Constant (.int 48271) n7 f2) f3] [] f4) .Mod (.Constant (.int 2147483647) n8 f5) f6) f7,
   .Return (some (.List [.BinOp (.Name "big" f8) .Mult (.Call (.Name "int" f9) [.Compare (.Name "big" g1) [.GtE] [.BinOp (.Constant (.int 10) n9 g2) .Pow (.Constant (.int 18) n10 g3) g4] g5] [] g6) g7,.Name "mixed" g8] g9)) h1] x.env) Q E s:=by
 refine WG.consG λrs hrs=>?_
 refine WG.eq (execs_cons ..) ?_;rw [exec_Assign_Name _ _ _ _ _ rfl]
 refine WG.bind (WG.aA (WG.bind ?_))
 refine WG.eq (bc ..) ?_
 refine WG.leaf (je G Lm.ok (by rfl) o2 T ?_)
 refine uN (.inl ⟨_,rfl⟩) rfl (bg (oX G Lm.ok (by rfl) o3 rfl (zF l3 rfl m3) s T _ _ λtA kA=>bg (oX G Lm.ok (by rfl) o3 rfl (Cb Lm.ok (iNeg cE) (zF l3 rfl m3)) _ (Lm.ok.toks _ kA T) _ _ λtB kB=>WG.pure (WG.of (aV (max_two_ints hh λh' tk hk sz=>?_))))))
 obtain⟨T1,S1⟩:=Lm.grown (tk:=tk) (Lm.ok.toks _ kB (Lm.ok.toks _ kA T)) hk sz
 have hv:∃t,(if (-1 - c:Int) > c then Value.int (-1 - c) tB else .int c tA) = .int (ee c) t:=by
  unfold ee
  split
  ·exact⟨_,rfl⟩
  ·exact⟨_,rfl⟩
 obtain⟨tC,hv⟩:=hv
 have hv':(if (-(1:Int) - c:Int) > c then Value.int (-(1:Int) - c) tB else .int c tA) = .int (ee c) tC:=hv
 rw [hv']
 refine WG.aA (WG.bind (WG.bindName (mW l4 T1 λs2 T2 S2=>WG.pure ?_)))
 have T2:Lm w V oh x.env W h (upd m "big" (.int (ee c) tC)) s2:=T2
 have e2:upd m "big" (.int (ee c) tC) "k" = some (.int 0 t2):=(mX (by decide)).trans m2
 subst hrs
 refine WG.consG λrs hrs=>?_
 refine WG.eq (execs_cons ..) ?_
 have small:∀i:Int,((i % 2147483629+7919*0*0+31*0+17).natAbs<2 ^ 64):=λi=>by lia
 refine WG.bind (Cc l5 rfl (sj Lm.ok (oX G Lm.ok (by rfl) o3 rfl (sk Lm.ok (wY Lm.ok (wY Lm.ok (wY Lm.ok (sj Lm.ok (oX G Lm.ok (by rfl) o3 rfl (zF l4 rfl mY)) cE (by decide)) (sk Lm.ok (sk Lm.ok cE (zF l2 rfl e2) (by decide)) (zF l2 rfl e2) (by decide))) (sk Lm.ok cE (zF l2 rfl e2) (by decide))) cE) cE (small _))) cE (by decide)) T2 λtD s3 T3 S3=>?_)
 have T3:Lm w V oh x.env W h (upd (upd m "big" (.int (ee c) tC)) "mixed" (.int (dz c) tD)) s3:=T3
 subst hrs
 refine WG.eq (execs_cons ..) ?_;rw [exec_Return_some]
 refine WG.bind (WG.aA (WG.bind ?_))
 have eb:upd (upd m "big" (.int (ee c) tC)) "mixed" (.int (dz c) tD) "big" = some (.int (ee c) tC):=(mX (by decide)).trans mY
 have hi:Iv x (Lm w V oh x.env W h (upd (upd m "big" (.int (ee c) tC)) "mixed" (.int (dz c) tD))) (.Call (.Name "int" f9) [.Compare (.Name "big" g1) [.GtE] [.BinOp (.Constant (.int 10) n9 g2) .Pow (.Constant (.int 18) n10 g3) g4] g5] [] g6) (if decide (10 ^ 18<=ee c) then 1 else 0):=λs T Q E q=>by
  refine WG.eq (bc ..) ?_
  refine WG.leaf (je G Lm.ok (by rfl) o3 T ?_)
  refine uN (.inr ⟨_,rfl⟩) rfl (bg ?_)
  show WG _ _ (do compareChain g5 (<-eval (.Name "big" g1) x.env) [.GtE] (markedEach [.GtE] [.BinOp (.Constant (.int 10) n9 g2) .Pow (.Constant (.int 18) n10 g3) g4] (evalEach [.BinOp (.Constant (.int 10) n9 g2) .Pow (.Constant (.int 18) n10 g3) g4] x.env))) _ _ _
  rw [markedEach_of_false _ _ _ (by rfl)]
  have hp:Iv x (Lm w V oh x.env W h (upd (upd m "big" (.int (ee c) tC)) "mixed" (.int (dz c) tD))) (.BinOp (.Constant (.int 10) n9 g2) .Pow (.Constant (.int 18) n10 g3) g4) (10 ^ 18):=
   qz Lm.ok cE cE λs Q E t u q=>pow_int_small (by decide) (by decide) (by decide) (q _ _)
  refine WG.bind (gw l4 rfl T eb (gN (hp s T _ _ λt k=>PyProof.Rows.ge_int ?_)))
  exact WG.pure (WG.of (call_int_bool (q _ _)))
 show WG _ _ (do standAt g9;newList (<-spliced (backTo g9 (starEach [.BinOp (.Name "big" f8) .Mult (.Call (.Name "int" f9) [.Compare (.Name "big" g1) [.GtE] [.BinOp (.Constant (.int 10) n9 g2) .Pow (.Constant (.int 18) n10 g3) g4] g5] [] g6) g7,.Name "mixed" g8] x.env)))) _ _ _
 refine WG.aA (WG.bind (bg (qz (k:=srcOf c) Lm.ok (zF l4 rfl eb) hi (λs Q E t u q=>PyProof.Rows.mul_int (q _ _) (IntMulOk.of_right (mh (by split<;>decide)))) s3 T3 _ _ λtE kE=>bg (gw l5 rfl (Lm.ok.toks _ kE T3) mY (WG.pure (WG.of (wpAny_newList ?_)))))))
 have S0:Step none_ W s W _:=(((Step.refl W s).toks kA).toks kB).trans S1
 exact WG.pure (WG.pure (nxt { s3 with toks:=kE } _ tE tD (Lm.ok.toks _ kE T3) (((S0.up.trans S2).trans S3).toks _)))
theorem sv (G:Gl w V oh mg mb){l:List FT}(PO:mV V oh l){a1 a2 a3 a4 a5 a6 a7 a8 a9 b1 b2 b3 b4 b5 b6 b7 b8 b9 c1 c2 c3 c4 c5 c6 c7 c8 c9 d1 d2 d3 d4 d5 d6 d7 d8 d9 e1 e2 e3 e4 e5 e6 e7 e8 e9 f1 f2 f3 f4 f5 f6 f7 f8 f9 g1 g2 g3 g4 g5 g6 g7 g8 g9 h1:Pos}{n1 n2 n3 n4 n5 n6 n7 n8 n9 n10:Nat}
  (k1:fi.slot .e=some ("script" : Str)) (k2:fi.slot (.a .e)=some ("k" : Str)) (kl:(["script","k","cell","big","mixed"]:List Str).all (λy=>fi.kindOf y==some .local)=true) (kg:(["len","max","int"]:List Str).all (jc fi)=true) (ks:∀p y,fi.slot p=some y->fi.kindOf y=some .local) :
  SB w V oh false fi (uM l) [
   .Assign [.Name "cell" a1] (.Constant (.int 0) n1 a2) a3,
   .If (.Compare (.Name "k" a4) [.Lt] [.Call (.Name "len" a5) [.Name "script" a6] [] a7] a8) [.Assign [.Name "cell" a9] (.Subscript (.Name "script" b1) (.Name "k" b2) b3) b4] [] b5,
   .Assign [.Name "big" b6] (.Call (.Name "max" b7) [.Call (.Name "int" b8) [.Name "cell" b9] [] c1,.Call (.Name "int" c2) [.BinOp (.UnaryOp .USub (.Constant (.int 1) n2 c3) c4) .Sub (.Name "cell" c5) c6] [] c7] [] c8) c9,
   .Assign [.Name "mixed" d1] (.BinOp (.Call (.Name "int" d2) [.BinOp (.BinOp (.BinOp (.BinOp (.BinOp (.Call (.Name "int" d3) [.Name "big" d4] [] d5) .Mod (.Constant (.int 2147483629) n3 d6) d7) .Add (.BinOp (.BinOp (.Constant (.int 7919) n4 d8) .Mult (.Name "k" d9) e1) .Mult (.Name "k" e2) e3) e4) .Add (.BinOp (.Constant (.int 31) n5 e5) .Mult (.Name "k" e6) e7) e8) .Add (.Constant (.int 17) n6 e9) f1) .Mult (.Constant (.int 48271) n7 f2) f3] [] f4) .Mod (.Constant (.int 2147483647) n8 f5) f6) f7,
   .Return (some (.List [.BinOp (.Name "big" f8) .Mult (.Call (.Name "int" f9) [.Compare (.Name "big" g1) [.GtE] [.BinOp (.Constant (.int 10) n9 g2) .Pow (.Constant (.int 18) n10 g3) g4] g5] [] g6) g7,.Name "mixed" g8] g9)) h1]:=by
 simp only [List.all_cons,List.all_nil,Bool.and_true,Bool.and_eq_true,beq_iff_eq] at kl kg
 refine bG λ_ kk=>?_
 obtain⟨l1,l2,l3,l4,l5⟩:=kl
 refine pS kg λo1 o2 o3=>?_
 obtain⟨sc,items,hsc,hL,hz,hd⟩:=PO
 refine kk ?_
 intro x r h k hk W s I F Q E p
 refine WG.bodyG λbo hbo=>?_
 refine opt_k hk λxv hx q1=>?_
 refine aI (jV q1) λi0 r1_ q2=>?_;subst r1_
 refine opt_k q2 λyv hy q3=>?_
 refine onNat_k q3 λn0 r1_ q4=>?_;subst r1_
 obtain⟨q5,q6⟩:=aN q4
 obtain⟨q7,q8⟩:=aN q6
 obtain rfl:=Nat.eq_of_beq_eq_true q5
 obtain rfl:=Nat.eq_of_beq_eq_true q7
 refine aI F.loc λm hn hm=>?_
 refine aI (hm _ _ _ k1 hx l1) λv1 m1 rv1=>?_
 refine aI (hm _ _ _ k2 hy l2) λv2 m2 q2_=>?_;obtain⟨t2,rfl⟩:=q2_
 obtain rfl:v1 = .ref sc:=rv1.1.trans hsc
 have T:Lm w V oh x.env W h m s:=⟨I,hn,F.un⟩
 have hh:x.A.handled=none:=x.ho.elim id λz=>by cases z.1
 subst hbo
 refine sr G hL hz hd l1 l2 l3 o1 m1 m2 T λc s1 m' T1 S1 ⟨tk,ek⟩ ⟨tc,ec⟩ hdr=>?_
 refine su G hh l2 l3 l4 l5 o2 o3 ek ec T1 λs2 m2' t u T2 S2=>?_
 refine pS (gO (o:=.src l) (ob:={ cls:=.type "list",data:=.seq #[.int (srcOf c) t,.int (dz c) u] }) T2.I λW' le _=>yEEEEEA _ _ _ _ _ (Heap.get?_push_size _ rfl) hdr) λI3 S3 e3=>?_
 have S:=(S1.trans S2).trans S3.up
 refine p (.ret (.ref h.nx)) .lf _ (.ret (.ref s2.heap.objs.size)) _ _ (dW q8) (.ret (yEA _ e3 rfl)) I3 ?_ S
 have N3:=T2.ns.keeps (h':=s2.heap.push { cls:=.type "list",data:=.seq #[.int (srcOf c) t,.int (dz c) u] }) λb o e=>Heap.get?_push_of_some _ e
 have up:∀b,b<s.heap.objs.size->¬W.own b->¬(W.ext h.nx s2.heap.objs.size none).own b:=λb hb hn q=>(S.fresh b q).elim hn λz=>absurd hb (Nat.not_lt.mpr z)
 exact⟨yEA _ N3 λp y av _ q _=>by rw [Tr.bF] at q;exact nn q,λp y q=>.inl (ks p y q),⟨up _ hn.lt F.un.1,F.un.2⟩,λy c q=>⟨up _ (F.ej y c q).2.2 (F.ej y c q).1,(F.ej y c q).2.1,Nat.lt_of_lt_of_le (F.ej y c q).2.2 S.size⟩,F.inj⟩
end
end
section
def qA (x oct:Nat->Nat):AV->Int->Prop
 |.nat n,i=>i=(n:Int)
 |.o (.sq b k p),i=>i=((((b / 4)*x (b % 4)+k) % 256+p:Nat):Int)
 |.o (.ot j),i=>i=(oct j:Int)
 |_,_=>False
def dr (rep:AV->Int->Prop):List FT->Int->Int->Prop
 | [],_,_=>True
 |.mk top v::r,b,m=>0<top/\top<=1000000/\m.natAbs<2 ^ 62/\(0<b->rep v (b % (top:Int))/\dr rep r (b / (top:Int)) m)/\(¬0<b->rep v ((rB m*rB m % 2147483629 / 32) % (top:Int))/\dr rep r b (rB m))
theorem rE {G:Addr->Option Obj}{x oct un:Nat->Nat}{fF:Nat->Value}{draws:List FT->Int->Int->Prop}{ho:∀i,oct i<26}{v:AV}{i:Int}(h:qA x oct v i):∀μ t,Rep (jT G x oct un fF draws ho) μ v (.int i t):=by
 intro μ t
 cases v with
 |nat n=>have h:i=_:=h;subst h;exact⟨t,rfl⟩
 |o y=>cases y<;>first|exact (show False from h).elim|(have h:i=_:=h;subst h;exact⟨t,rfl⟩)
 |_=>exact (show False from h).elim
theorem yg {G:Addr->Option Obj}{x oct un:Nat->Nat}{fF:Nat->Value}{ho:∀i,oct i<26}:jf (jT G x oct un fF (dr (qA x oct)) ho):=by
 intro top v r b m h
 refine bG λ_ kk=>?_
 obtain⟨h1,h2,h3,h4,h5⟩:=h
 refine kk ?_
 exact yAAAA h1 h2 h3 (λhb=>⟨rE (h4 hb).1,(h4 hb).2⟩) λhb=>⟨rE (h5 hb).1,(h5 hb).2⟩
end
section
def dm (top:Nat) (s:Int × Int):Int × (Int × Int):=if 0<s.1 then (s.1 % (top:Int),(s.1 / (top:Int),s.2)) else ((rB s.2*rB s.2 % 2147483629 / 32) % (top:Int),(s.1,rB s.2))
theorem sy (m:Int):(rB m).natAbs<2 ^ 62:=by unfold rB;lia
theorem eI {top:Nat}(h:0<top) (s:Int × Int):0<=(dm top s).1/\(dm top s).1<top:=by
 unfold dm
 split
 ·exact⟨Int.emod_nonneg _ (by lia),Int.emod_lt_of_pos _ (by lia)⟩
 ·exact⟨Int.emod_nonneg _ (by lia),Int.emod_lt_of_pos _ (by lia)⟩
theorem cJ {top:Nat}{s:Int × Int}(h:s.2.natAbs<2 ^ 62):(dm top s).2.2.natAbs<2 ^ 62:=by
 unfold dm
 split
 ·exact h
 ·exact sy _
theorem fK {rep:AV->Int->Prop}{top:Nat}{v:AV}{r:List FT}{s:Int × Int}(h1:0<top) (h2:top<=1000000) (h3:s.2.natAbs<2 ^ 62) (hv:rep v (dm top s).1) (hr:dr rep r (dm top s).2.1 (dm top s).2.2):dr rep (.mk top v::r) s.1 s.2:=by
 unfold dm at hv hr
 refine yAAAA h1 h2 h3 (λhb=>?_) λhb=>?_
 ·rw [if_pos hb] at hv hr;exact⟨hv,hr⟩
 ·rw [if_neg hb] at hv hr;exact⟨hv,hr⟩
noncomputable def A9:Nat->Nat->List FT
 |0,_=>[]
 |n+1,j=>.mk 26 (.o (.ot j))::A9 n (j+1)
theorem qB:∀(n j:Nat) (s:Int × Int),s.2.natAbs<2 ^ 62->∃(g:Nat->Nat) (s':Int × Int),(∀i,g i<26)/\s'.2.natAbs<2 ^ 62/\∀(x oct:Nat->Nat) (tail:List FT),(∀i,j<=i->i<j+n->oct i=g i)->dr (qA x oct) tail s'.1 s'.2->dr (qA x oct) (A9 n j++tail) s.1 s.2
 |0,j,s,h=>yEEAA (λ_=>0) s (λ_=>Nat.succ_pos _) h λx oct tail _ d=>d
 |n+1,j,s,h=>by
  refine bj (qB n (j+1) (dm 26 s).2 (cJ h)) λg s' h1 h2 h3=>?_
  have lt:=eI (top:=26) (by decide) s
  refine yEEAA (λi=>if i=j then (dm 26 s).1.toNat else g i) s' (λi=>?_) h2 λx oct tail ho d=>?_
  ·dsimp only
   split
   ·lia
   ·exact h1 i
  ·refine fK (by decide) (by decide) h ?_ (h3 x oct tail (λi a b=>?_) d)
   ·show (dm 26 s).1=(oct j:Int)
    have e:=ho j (Nat.le_refl _) (by lia)
    dsimp only at e
    rw [if_pos rfl] at e
    rw [e];lia
   ·have e:=ho i (by exact Nat.le_of_lt ‹_›) (by lia)
    dsimp only at e
    rw [if_neg (by exact Nat.ne_of_gt ‹_›)] at e
    exact e
def cfg (li n1 n2:Nat):List FT:=.mk 256 (.o (.sq 4 0 0)) :: .mk 256 (.o (.sq 5 0 0)) :: .mk 2 (.nat li) :: .mk 9 (.nat n1)::(A9 (n1+1) 0++(.mk 9 (.nat n2)::(A9 (n2+1) (n1+1)++[])))
theorem sA (s:Int × Int) (h:s.2.natAbs<2 ^ 62):∃(li n1 n2:Nat) (x oct:Nat->Nat),li<2/\n1<9/\n2<9/\(∀i,oct i<26)/\dr (qA x oct) (cfg li n1 n2) s.1 s.2:=by
 have a1:=eI (top:=256) (by decide) s
 have b1:=cJ (top:=256) h
 generalize e1:dm 256 s=d1 at a1 b1
 have a2:=eI (top:=256) (by decide) d1.2
 have b2:=cJ (top:=256) b1
 generalize e2:dm 256 d1.2=d2 at a2 b2
 have a3:=eI (top:=2) (by decide) d2.2
 have b3:=cJ (top:=2) b2
 generalize e3:dm 2 d2.2=d3 at a3 b3
 have a4:=eI (top:=9) (by decide) d3.2
 have b4:=cJ (top:=9) b3
 generalize e4:dm 9 d3.2=d4 at a4 b4
 refine bj (qB (d4.1.toNat+1) 0 d4.2 b4) λg s5 g1 b5 g3=>?_
 have a6:=eI (top:=9) (by decide) s5
 have b6:=cJ (top:=9) b5
 generalize e6:dm 9 s5=d6 at a6 b6
 refine bj (qB (d6.1.toNat+1) (d4.1.toNat+1) d6.2 b6) λg' s7 g1' b7 g3'=>?_
 refine yEEEEEA d3.1.toNat d4.1.toNat d6.1.toNat (λi=>if i=0 then d1.1.toNat else d2.1.toNat) (λi=>if i<d4.1.toNat+1 then g i else g' i) (by lia) (yAAA (by lia) (by lia) (λi=>?_) ?_)
 ·dsimp only
  split
  ·exact g1 i
  ·exact g1' i
 ·unfold cfg
  refine fK (by decide) (by decide) h ?_ ?_
  ·rw [e1];show d1.1=((((4 / 4)*(if 4 % 4=0 then d1.1.toNat else d2.1.toNat)+0) % 256+0:Nat):Int)
   rw [if_pos (by decide)];lia
  rw [e1]
  refine fK (by decide) (by decide) b1 ?_ ?_
  ·rw [e2];show d2.1=((((5 / 4)*(if 5 % 4=0 then d1.1.toNat else d2.1.toNat)+0) % 256+0:Nat):Int)
   rw [if_neg (by decide)];lia
  rw [e2]
  refine fK (by decide) (by decide) b2 ?_ ?_
  ·rw [e3];show d3.1=((d3.1.toNat:Nat):Int);lia
  rw [e3]
  refine fK (by decide) (by decide) b3 ?_ ?_
  ·rw [e4];show d4.1=((d4.1.toNat:Nat):Int);lia
  rw [e4]
  refine g3 _ _ _ (λi _ b=>?_) ?_
  ·exact if_pos (by lia)
  refine fK (by decide) (by decide) b5 ?_ ?_
  ·rw [e6];show d6.1=((d6.1.toNat:Nat):Int);lia
  rw [e6]
  refine g3' _ _ _ (λi a _=>?_) trivial
  exact if_neg (by lia)
end
section
set_option genInjectivity false
set_option genSizeOf false
open Builtin Builtin.ObjectAttr
noncomputable abbrev gy (C0:Addr):List Value:=[.ref C0,.type "Exception",.type "BaseException",.type "object"]
noncomputable abbrev gz (e t:Addr) (C:Addr) (d:Option Addr):Obj:={ cls:=.ref C,dict:=d,data:=.fields #[.ref t,.none,.none,.none,.bool false,.none] }
structure uO (V:Va) (K:Frag) (C:Addr):Prop where
 obj:∃nm q N bs C0 sn sub col dd k0 k1 k2 k3 k5,K.lookup C=some (excClassObj nm q C N bs (gy C0) true sn sub false col dd k0 k1 k2 k3 k5 "Exception.__new__")
 init:∃a,V.fn .e=some a/\findIn K (.ref C) "__init__" = some (some (.ref a))/\typeIn K (.ref a)=some (.type "function")
 sa:findIn K (.ref C) "__setattr__" = some (some (.builtin "object.__setattr__"))
 msg:findIn K (.ref C) "message" = some none
 call:specialIn K (.ref C) "__call__" = some (some (.builtin "type.__call__"))
 typ:instIn K (.ref C) (.type "type")=some true
section
variable {w:World}{V:Va}{oh:Heap}{kH:Bool}{fi:aY}{A:Around}{E:Value->Shared->Prop}{s:Shared}
theorem eW:ExcBaseFacts "Exception" "Exception.__new__" "Exception.__init__" [.type "Exception",.type "BaseException",.type "object"]:=PySem.F.excBase_Exception
theorem Cd {h:Heap}{g:Array GenState}{dr:Drawn}{t:Nat}{os:OsState}{nm q:Str}{C N C0:Addr}{bs:List Value}{sn:List Str}{sub:List Value}{ab:Bool}{col:Option Bool}{dd:Option Addr}{k0 k1 k2 k3 k5:Option Value}{R:Result->Shared->Prop}{rest:List Value}
  (hC:h.get? C=some (excClassObj nm q C N bs (gy C0) true sn sub ab col dd k0 k1 k2 k3 k5 "Exception.__new__")) (hr:rest.length<=sizeLine)
  (hq:R (.ok (.ret (.ref (h.objs.size+1)))) ⟨(h.push { cls:=.type "tuple",data:=.seq rest.toArray }).push (gz (h.objs.size+1) h.objs.size C none),g,dr,t,os⟩) :
  codeAny (model pw w) A (.builtin "Exception.__new__" ⟨.ref C::rest,[]⟩) R ⟨h,g,dr,t,os⟩:=by
 have hends:=eW.ends
 have hcB:(Value.ref C::gy C0).contains (.type "Exception")=true:=by rfl
 have hcA:(Value.ref C::gy C0).contains (.type "AttributeError")=false:=by rfl
 have hcN:(Value.ref C::gy C0).contains (.type "NameError")=false:=by rfl
 refine codeAny_builtinAt eW.entry ?_
 delta Builtin.«BaseException.__new__»
 refine PySem.wpAt_bind ?_
 refine PySem.wpAt_bind (PySem.wpAt_stack λp below=>PySem.wpAt_of_wpAny ?_)
 wp_walk
 refine PySem.wpAt_of_wpAny ?_
 rw [eW.owner]
 repeat (first|with_reducible refine wpAny_madeHere_exc eW.canon hC ?_|with_reducible refine wpAny_loadPart_at hC ?_|(with_reducible refine wpAny_isSubtype_exc hC ?_;first|rw [hcB]|rw [hcA]|rw [hcN])|wp_step)
 rw [Heap.size_push]
 exact hq
theorem w0 {M:Model}{h:Heap}{g:Array GenState}{dr:Drawn}{t:Nat}{os:OsState}{nm q:Str}{C N C0:Addr}{bs:List Value}{sn:List Str}{sub:List Value}{ab:Bool}{col:Option Bool}{dd:Option Addr}{k0 k1 k2 k3 k5:Option Value}{rest:List Value}{Q:Unit->Shared->Prop}
  (hC:h.get? C=some (excClassObj nm q C N bs (gy C0) true sn sub ab col dd k0 k1 k2 k3 k5 "Exception.__new__")) (hq:Q () ⟨h,g,dr,t,os⟩):wpAny M A (checkBuiltinCall "Exception.__new__" ⟨.ref C::rest,[]⟩) Q E ⟨h,g,dr,t,os⟩:=by
 have hcont:(Value.ref C::gy C0).contains (.type "Exception")=true:=by rfl
 have hstar:=eW.noStar
 delta checkBuiltinCall
 rw [eW.newKind]
 dsimp only
 rw [eW.newSplit]
 dsimp only
 rw [eW.newRow]
 dsimp only
 repeat (first|refine wpAny_loadPart_at hC ?_|(refine wpAny_isSubtype_exc hC ?_;rw [hcont])|refine wpAny_staticBase_exc hC ?_|refine wpAny_madeBy_exc hC ?_|simp only [bne_self_eq_false,Bool.false_eq_true,if_false]|wp_step)
 exact hq
theorem w4 {K:Frag}{C:Addr}(XC:uO V K C) (X:K.In s.heap){e t:Addr}(he:s.heap.get? e=some (gz e t C none)){v:Value}{Q:Unit->Shared->Prop}
  (hq:∀h' tk,(∀b o,b ≠ e->s.heap.get? b=some o->h'.get? b=some o)->h'.get? e=some (gz e t C (some s.heap.objs.size))->Q () { s with heap:=h',toks:=tk }) :
  wpAny (model pw w) A (setAttr (.ref e) "message" v) Q E s:=by
 obtain⟨nm,q,N,bs,C0,sn,sub,col,dd,k0,k1,k2,k3,k5,hK⟩:=XC.obj
 have I:InstAt s.heap e (gz e t C none) C none:=⟨he,rfl,rfl,trivial⟩
 obtain⟨h,g,dr,tk,os⟩:=s
 have hc:clsIn K C=some { name:=nm,bases:=bs,mro:=.ref C::gy C0,ns:=N,qualname:=q,hasDict:=true,slotNames:=sn,subclasses:=sub,abstract:=false,collection:=col,hasDel:=false }:=by delta clsIn;rw [hK]
 have SF:=PySem.F.store_object
 refine set_plain X I XC.sa ?_
 have sub':Looks (model pw w) h (isInstance (.ref e) (.type "object")) true:=I.type.andThen (looks_mroIn X (by delta mroIn;rw [hc];rfl))
 refine codeAny_call_builtin SF.slot.plain SF.entry (@check_slot (model pw w) _ _ ⟨h,g,dr,tk+1,os⟩ "object.__setattr__" "object" "__setattr__" (.ref e) [.str "message" tk,v] [] _ SF.kind SF.split sub' (SF.args (.ref e) (.str "message" tk) v) ?_)
 have hm:Looks (model pw w) h (mroOf (.ref C)) (.ref C::gy C0):=(looks_clsIn X hc).andThen .now
 refine wpe (osa_eq ..) ?_;rw [refuse_eq]
 refine wpAny_bind (wpAny_bind (I.type.at (wpAny_bind (hm.at ?_))))
 refine wpe (refuseLoop_ref ..) ?_;rw [refuseLoop_ref,PySem.F.store_Exception.passes]
 refine wpAny_pure (wpAny_bind (I.type.at (wpAny_bind ((looks_findIn X XC.msg).at ?_))))
 refine wpAny_bind (wpAny_pure (a:=none) ?_)
 refine wpAny_bind (wpAny_pure (wpAny_bind (wpAny_bind (wpAny_loadPart he (wpAny_bind ((looks_clsIn X hc).at ?_))))))
 have hx₁:(h.push { cls:=.type "dict",data:=.dict #[] }).get? e=some (gz e t C none):=Heap.get?_push_of_some _ he
 have hxs:e ≠ h.objs.size:=Nat.ne_of_lt (Heap.lt_size he)
 refine wpAny_bind (wpAny_alloc' (wpAny_bind (wpAny_update' hx₁ (wpAny_pure (a:=some h.objs.size) ?_))))
 have hgd:((h.push { cls:=.type "dict",data:=.dict #[] }).update e λo=>{ cls:=o.cls,dict:=some h.objs.size,data:=o.data,slots:=o.slots }).get? h.objs.size=some { cls:=.type "dict",data:=.dict #[] }:=
  (Heap.get?_update_ne _ _ _ _ hxs.symm).trans (Heap.get?_push_at rfl rfl)
 have hnd:((h.push { cls:=.type "dict",data:=.dict #[] }).update e λo=>{ cls:=o.cls,dict:=some h.objs.size,data:=o.data,slots:=o.slots }).Ns h.objs.size (λ_=>none):=yEEEAAA _ (#[]) _ hgd rfl (λe he=>absurd he (by exact nofun)) λ_=>rfl
 delta storeInDict newKeyGuard
 refine wpAny_bind (wpAny_pure (wpAny_bind (wpAny_nsSet1 (Heap.Ns1.of_empty hnd) λh' hn' hs=>?_)))
 refine cC (hn'.count (Within.cons "message" v Within.nil)) λoD esD epD hoD hdD hcD=>?_
 refine wpAny_bind (wpAny_lookBehind hoD (by rw [hdD];exact pastItsLine_dict (Nat.le_trans hcD (by rw [List.length_cons,List.length_nil,sizeLine_eq];decide))) ?_)
 refine wpAny_pure (hq h' _ (λb o hb e1=>?_) ?_)
 ·exact (hs.2 b (Nat.ne_of_lt (Heap.lt_size e1))).trans ((Heap.get?_update_ne _ _ _ _ hb).trans (Heap.get?_push_of_some _ e1))
 ·exact (hs.2 e hxs).trans (Heap.get?_update_self _ hx₁ rfl)
theorem zG (NL:oh.NoLimit){K:Frag}{C a:Addr}(XC:uO V K C) (KI:K.In oh) (ha:V.fn .e=some a){fd:FuncData}{ps:List PD}{dvals:List Value}{p1 p2 p3 p4:Pos}(hps:ps=[.mk .e none,.mk (.a .e) none])
  (D:fx V oh a fd fi ps ["self","message"] dvals [.Assign [.Attribute (.Name "self" p1) "message" p2] (.Name "message" p3) p4]) (k1:fi.kindOf "self" = some .local) (k2:fi.kindOf "message" = some .local)
  {W:Wd}{h:H}(I:Inv w V oh W h s.heap) (rm:A.depth+2<recursionLimit){m:Value}(hm:handedIn m=true){R:Result->Shared->Prop}
  (hq:∀h' tk e t d,(∀b o,s.heap.get? b=some o->h'.get? b=some o)->s.heap.objs.size<=h'.objs.size->s.heap.objs.size<=e->h'.get? e=some (gz e t C d)->R (.ok (.ret (.ref e))) { s with heap:=h',toks:=tk }) :
  CG (model pw w) A (.call (.ref C) ⟨[m],[]⟩) R s:=by
 obtain⟨nm,q,N,bs,C0,sn,sub,col,dd,k0,k1',k2',k3,k5,hK⟩:=XC.obj
 refine cS XC.init λa' ha' hfi hty=>?_
 rw [ha] at ha';cases ha'
 have X:=KI.keeps I.bq
 have hc:clsIn K C=some { name:=nm,bases:=bs,mro:=.ref C::gy C0,ns:=N,qualname:=q,hasDict:=true,slotNames:=sn,subclasses:=sub,abstract:=false,collection:=col,hasDel:=false }:=by delta clsIn;rw [hK]
 obtain⟨hh,g,dr,tk,os⟩:=s
 have hC:=X _ _ hK
 refine CG.cM rfl ?_
 refine WG.leaf (wpAny_load hC ?_)
 delta callAny.viaDunder
 refine WG.leaf ((looks_specialIn X XC.call).at ?_)
 dsimp only
 refine WG.eqb (tc_bind ..) ?_
 refine WG.bind (WG.pure (WG.bind (WG.pure ?_)))
 refine WG.pure (a:=Fin.again (.call (.builtin "type.__call__") ⟨.ref C::[m],[]⟩)) (And.intro rfl ?_)
 refine CG.cN (Code.quiet_builtin _ (by decide +kernel)) entry_typeCall (dN (by decide +kernel) _) (check_slot tc_kind tc_split (looks_instIn X XC.typ) (tc_args _ _ _) ?_)
 delta Builtin.«type.__call__»
 have hmro:Looks (model pw w) hh (mroOf (.ref C)) (.ref C::gy C0):=(looks_clsIn X hc).andThen .now
 refine WG.bind (m:=mroOf (.ref C)) (WG.of (hmro.at ?_))
 refine gif Bool.false_ne_true ?_
 refine WG.leaf (wpAny_madeBy_exc hC ?_)
 refine WG.bind (WG.pure ?_)
 refine WG.bind (WG.hold (WG.call (CG.of (codeAny_call_builtin_code (Code.quiet_builtin _ eW.quiet) (w0 hC (Cd (rest:=[m]) hC (by size_fits) ?_))))))
 have kp:∀b o,hh.get? b=some o->((hh.push { cls:=.type "tuple",data:=.seq [m].toArray }).push (gz (hh.objs.size+1) hh.objs.size C none)).get? b=some o:=λb o e=>Heap.get?_push_of_some _ (Heap.get?_push_of_some _ e)
 have ge:((hh.push { cls:=.type "tuple",data:=.seq [m].toArray }).push (gz (hh.objs.size+1) hh.objs.size C none)).get? (hh.objs.size+1)=some (gz (hh.objs.size+1) hh.objs.size C none):=by heap_get
 have sz:((hh.push { cls:=.type "tuple",data:=.seq [m].toArray }).push (gz (hh.objs.size+1) hh.objs.size C none)).objs.size=hh.objs.size+2:=by rw [Heap.size_push,Heap.size_push]
 generalize hg:(hh.push { cls:=.type "tuple",data:=.seq [m].toArray }).push (gz (hh.objs.size+1) hh.objs.size C none)=h1 at *
 have X1:K.In h1:=X.keeps kp
 have hC1:=X1 _ _ hK
 delta isInstance callSpecial? specialOf
 have ty:Looks (model pw w) h1 (typeOf (.ref (hh.objs.size+1))) (.ref C):=(Looks.ld ge).andThen .now
 refine WG.bind (WG.leaf (ty.at (WG.of (wpAny_isSubtype_exc hC1 ?_))))
 have hcC:(Value.ref C::gy C0).contains (.ref C)=true:=by grind
 rw [hcC]
 refine gif Bool.false_ne_true ?_
 refine WG.bind (WG.hold (WG.bind (WG.leaf (ty.at (WG.of ((looks_findIn X1 hfi).at ?_))))))
 refine WG.hold (WG.leaf ((bind_fn X1 _ hty).at ?_))
 obtain⟨I1,S1⟩:=du (s:=⟨hh,g,dr,tk,os⟩) I kp (by skip;rw [sz];exact Nat.le_add_right _ _) tk
 refine WG.bind (WG.call (eE (s:=⟨h1,g,dr,tk,os⟩) NL D ?_ (vs:=[.o .nI,.o .nI]) (k:=λ_=>true) (by rw [hps];rfl) I1 (vals:=[.ref (hh.objs.size+1),m]) (.cons (show handedIn (.ref _)=true from rfl) (.cons hm .nil)) λenv r h2 tk2 _ fm hfr g1 _ keep ns I2 F2 S2=>?_))
 ·show (A.under (.builtin "type.__call__" ⟨.ref C::[m],[]⟩)).depth<_
  rw [depth_under_kw];exact Nat.le_of_lt ‹_›
 obtain⟨rest,ns⟩:=ns
 have e1:bindL fi.kindOf ((["self","message"]:List Str).zip ([.ref (hh.objs.size+1),m]++rest)) (λ_=>none) "self" = some (.ref (hh.objs.size+1)):=by
  show bindL fi.kindOf [("self",.ref (hh.objs.size+1)),("message",m)] _ _=_
  unfold bindL bindL bindL;rw [if_pos k1,if_pos k2];rfl
 have e2:bindL fi.kindOf ((["self","message"]:List Str).zip ([.ref (hh.objs.size+1),m]++rest)) (λ_=>none) "message" = some m:=by
  show bindL fi.kindOf [("self",.ref (hh.objs.size+1)),("message",m)] _ _=_
  unfold bindL bindL bindL;rw [if_pos k1,if_pos k2];rfl
 refine WG.eq (execs_cons ..) ?_;rw [plainObj_exec_Assign_Attribute _ _ _ _ _ rfl]
 refine WG.bind (WG.aA (WG.bind (js (wpAny_loadName_local fm.kind ((fm.kinds _).trans k2) ns e2 ?_) rfl)))
 refine WG.eqb (assign_Attribute ..) ?_
 refine WG.bind (WG.bind (WG.hold (js (wpAny_loadName_local fm.kind ((fm.kinds _).trans k1) ns e1 ?_) rfl)))
 refine WG.aA (WG.bind (WG.hold (WG.of (w4 (s:=⟨h2,g,dr,tk2,os⟩) XC (X1.keeps keep) (keep _ _ ge) λh3 tk3 z1 z2=>?_))))
 refine WG.of (wpAny_release' (WG.pure ?_))
 refine WG.eq (execs_nil ..) ?_
 refine WG.pure ?_
 have kall:∀b o,hh.get? b=some o->h3.get? b=some o:=λb o q=>z1 b o (Nat.ne_of_lt (Nat.lt_succ_of_lt (Heap.lt_size q))) (keep _ _ (kp _ _ q))
 refine WG.pure (WG.pure (hq h3 tk3 (hh.objs.size+1) hh.objs.size _ kall ?_ (Nat.le_succ _) z2))
 exact Nat.le_of_lt (Nat.lt_of_succ_lt (Heap.lt_size z2))
end
end
section
open Builtin Builtin.ObjectAttr
def MkX (w:World) (V:Va) (oh:Heap) (C:Addr):Prop:=∀(A:Around) (W:Wd) (h:H) (s:Shared) (m:Value) (R:Result->Shared->Prop),Inv w V oh W h s.heap->A.depth+2<recursionLimit->handedIn m=true ->
 (∀h' tk e t d,(∀b o,s.heap.get? b=some o->h'.get? b=some o)->s.heap.objs.size<=h'.objs.size->s.heap.objs.size<=e->h'.get? e=some (gz e t C d)->R (.ok (.ret (.ref e))) { s with heap:=h',toks:=tk })->CG (model pw w) A (.call (.ref C) ⟨[m],[]⟩) R s
def iy (v:AV) (k:Bool):Bool:=AV.rec (motive:=λ_=>Bool) false (λ_=>false) (λ_=>false) (λ_=>false)
 (λx=>OV.rec (motive:=λ_=>Bool) (λ_=>false) (λ_=>false) (λ_ _ _=>false) (λ_ _=>false) (λ_=>false) (λ_=>false) k (λ_=>false) (λ_=>false) (λ_=>false) x) v
theorem oY {v:AV}{k:Bool}(e:iy v k=true):v = .o .nI/\k=true:=by
 cases v with
 |o y=>cases y<;>first|exact⟨rfl,e⟩|exact nf e
 |_=>exact nf e
section
variable {w:World}{V:Va}{oh:Heap}{kH:Bool}{fi:aY}{A:Around}{E:Value->Shared->Prop}{s:Shared}
theorem uP {K:Frag}{C:Addr}(XC:uO V K C) (X:K.In s.heap) (hh:A.handled=none){x t:Addr}{d:Option Addr}(he:s.heap.get? x=some (gz x t C d)){Q:Flow->Shared->Prop}(h:E (.ref x) s) :
  wpAny (model pw w) A (do
   let cv <-(pure none:Sem (Option Value))
   let e <-holding cv.toList (excFromValue (.ref x) "exceptions must derive from BaseException")
   if let some cv:=cv then
    let c <-if cv == .none then pure .none else holding [e] (excFromValue cv "exception causes must derive from BaseException")
    setField e 3 c
    setField e 4 (.bool true)
   let e <-if <-isType (.ref x) then holding [e] (raisedFor (.ref x) e) else raisedInstance e
   setFlight e none
   raiseNew e) Q E s:=by
 refine bG λ_ kk=>?_
 obtain⟨nm,q,N,bs,C0,sn,sub,col,dd,k0,k1',k2',k3,k5,hK⟩:=XC.obj
 refine kk ?_
 have hC:=X _ _ hK
 obtain⟨hp,g,dr,tk,os⟩:=s
 have hcB:(Value.ref C::gy C0).contains (.type "BaseException")=true:=by rfl
 have hcT:(Value.ref C::gy C0).contains (.type "type")=false:=by rfl
 repeat (first|with_reducible refine wpAny_loadPart_at he ?_|with_reducible refine wpAny_loadPart_at hC ?_|(with_reducible refine wpAny_isSubtype_exc hC ?_;first|rw [hcB]|rw [hcT])|wp_step)
 exact wpAny_raiseNew_none hh h
theorem x_raise {K:Frag}{C:Addr}(XC:uO V K C) (KI:K.In oh) (mk:MkX w V oh C){mg:Str->Option Value}(hg:oh.Ns mainGlobals mg){x:Str}(hv:mg x=some (.ref C)){np cpos pos:Pos}(hk:jc fi x=true) (y:Cx w V oh kH fi) (hh:y.A.handled=none)
  {c:EC}{e:PySem.Expr}(hc:SE w V oh kH fi c e) (hs:notStar e=true){r:Tr AV}{h:H}{k:H->Bool}(e1:c y.co r h (λv h=>iy v (k h))=true){W:Wd}(I:Inv w V oh W h s.heap) (F:aM V oh fi y.env W s.heap r){Q:Flow->Shared->Prop}
  (p:∀W1 h1 s1 h' tk x t d,k h1=true->Inv w V oh W1 h1 s1.heap->Step none_ W s W1 s1->(∀b o,s1.heap.get? b=some o->h'.get? b=some o)->s1.heap.objs.size<=h'.objs.size->s1.heap.objs.size<=x->h'.get? x=some (gz x t C d)->E (.ref x) { s1 with heap:=h',toks:=tk }) :
  WG (model pw w) y.A (exec (.Raise (some (.Call (.Name x np) [e] [] cpos)) none pos) y.env) Q E s:=by
 refine WG.eq (arm_exec_Raise ..) ?_
 refine WG.aA ?_
 show WG _ _ (raiseStmt y.env (some (do let v <-eval (.Call (.Name x np) [e] [] cpos) y.env;standAt pos;pure v)) none) Q E s
 unfold raiseStmt
 refine WG.bind (WG.bind ?_)
 refine WG.eq (bc ..) ?_
 refine WG.leaf (Name_function_global y.fm.kind ((y.fm.kinds x).trans (cQ hk).1) (loadGlobal_global (mg:=mg) (by rw [y.fm.glob];exact hg.keeps I.bq) hv ?_) (cQ hk).2)
 have hkeep:keepIn K (.ref C)=true:=by
  refine bG λ_ kk=>?_
  obtain⟨nm,q,N,bs,C0,sn,sub,col,dd,k0,k1',k2',k3,k5,hK⟩:=XC.obj
  refine kk ?_
  unfold keepIn
  dsimp only
  rw [hK]
  exact beq_iff_eq.mpr XC.call
 have hl:SL w V oh kH fi (lC c lN) [e]:=x4 hs hc Bv
 have e2:lC c lN y.co r h (λvs h=>dS vs λv=>iy v (k h))=true:=e1
 have hes:[e].all notStar=true:=by simp [hs]
 refine dM (P:=K.In) (by rw [(aL (M:=model pw w) (A:=y.A) (E:=E) (s:=s) (f:=.none) (pos:=cpos) (env:=y.env) hes (Q:=λ_ _=>True) (hl y r h _ e2 W s I F cpos _ _ λ_ _ _ _ _ _ _ _ _=>trivial)).2];rfl) (λh z=>keeps_K hkeep h z) ?_
 refine (aL hes (hl y r h _ e2 W s I F cpos _ _ λavs h2 vs W2 s2 e3 R2 I2 S2=>?_)).1
 ·refine⟨KI.keeps I2.bq,?_⟩
  cases R2 with
  |nil=>exact nf e3
  |cons r1 r2=>
   cases r2 with
   |cons _ _=>exact nf e3
   |nil=>
    obtain⟨rfl,e4⟩:=oY (show iy _ _=true from e3)
    refine WG.call (mk y.A W2 h2 s2 _ _ I2 (by have:=y.rm.1;lia) r1 λh' tk x t d z1 z2 z3 z4=>?_)
    refine WG.aA (WG.pure (WG.of ?_))
    exact uP XC ((KI.keeps I2.bq).keeps z1) hh z4 (p W2 h2 s2 h' tk x t d e4 I2 S2 z1 z2 z3 z4)
end
end
section
set_option genInjectivity false
set_option genSizeOf false
open Builtin Builtin.ObjectAttr
def fC (oh:Heap) (W:Wd) (hp:Heap) (l:List Env):Prop:=∀env ∈ l,env.scope.kind = .function/\∃L,env.frame=some L/\¬W.own L/\oh.get? L=none/\∃o es n,hp.get? L=some o/\o.data = .dict es n
structure sC (base:Heap) (l:List Env) (C x t:Addr) (hd:Option Value) (h:Heap):Prop where
 st:base.StaysIn h
 new:base.get? x=none
 fr:h.FunFrames base l
 obj:∃d sl v,h.get? x=some { cls:=.ref C,dict:=d,data:=.fields #[.ref t,v,.none,.none,.bool false,.none],slots:=sl }/\match hd with
  |none=>v = .none
  |some fl=>∃T oT ts,v = .ref T/\base.get? T=none/\T ≠ x/\h.get? T=some oT/\oT.data = .fields ts/\ts[3]? = some fl
def hF (C:Addr) (l:List Env) (oh:Heap) (W:Wd) (hp:Heap) (x t:Addr) (hh:Heap):Prop:=∃Ls,sC (hideAll hp Ls) l C x t (some .none) hh/\hp.UpToSlots hh/\hp.objs.size<=hh.objs.size/\hp.objs.size<=x/\∀b ∈ Ls,¬W.own b/\oh.get? b=none/\∀o,hp.get? b=some o->∃es n,o.data = .dict es n
section
variable {w:World}{V:Va}{oh:Heap}{kH:Bool}{fi:aY}{A:Around}{E:Value->Shared->Prop}{s:Shared}{M:Model}
theorem fC.step {W W':Wd}{s s':Shared}{l:List Env}(f:fC oh W s.heap l) (S:Step none_ W s W' s'):fC oh W' s'.heap l:=λenv he=>by
 refine bG λ_ kk=>?_
 obtain⟨a,L,b,c,d,o,es,n,e,g⟩:=f env he
 refine kk ?_
 exact yAEA a L b ⟨λq=>(S.fresh L q).elim c λz=>absurd (Heap.lt_size e) (Nat.not_lt.mpr z),d,o,es,n,S.keep _ _ e (.inl ⟨c,id⟩),g⟩
theorem fC.cons {W:Wd}{hp:Heap}{l:List Env}(f:fC oh W hp l){env:Env}(fm:Fm fi env) (hf:env.frame=some env.locals){r:Tr AV}(F:aM V oh fi env W hp r):fC oh W hp (env::l):=λe he=>by
 rcases List.mem_cons.mp he with rfl|he
 ·refine aI F.loc λm q1_ _=>?_;obtain⟨o,es,n,a,b,_⟩:=q1_
  exact yAEA fm.kind _ hf ⟨F.un.1,F.un.2,o,es,n,a,b⟩
 ·exact f e he
theorem hH {W:Wd}{hp hp' base:Heap}:∀{l:List Env},fC oh W hp l->(∀b o,hp.get? b=some o->hp'.get? b=some o)->(∀env ∈ l,∀L,env.frame=some L->base.get? L=none)->hp'.FunFrames base l
 | [],_,_,_=>trivial
 |env::l,f,k,hb=>by
  refine bG λ_ kk=>?_
  obtain⟨a,L,b,c,d,o,es,n,e,g⟩:=f env (.head _)
  refine kk ?_
  exact⟨by rw [a];decide,⟨L,o,b,hb env (.head _) L b,k _ _ e,λvs q=>by rw [g] at q;cases q⟩,hH (λe' he'=>f e' (.tail _ he')) k λe' he'=>hb e' (.tail _ he')⟩
theorem uQ {base:Heap}{env:Env}{outer:List Env}{L x t C:Addr}{d:Option Addr}{sl:Array (Option Value)}{v head:Value}{hadNext:Bool}{Q:Unit->Shared->Prop}(hfr:A.frames=some (env::outer)) (hf:env.frame=some L) (st:base.StaysIn s.heap) (new:base.get? x=none) (fr:s.heap.FunFrames base (env::outer))
  (he:s.heap.get? x=some { cls:=.ref C,dict:=d,data:=.fields #[.ref t,v,.none,.none,.bool false,.none],slots:=sl }) (h:∀h',sC base (env::outer) C x t (some (rawInt L)) h'->s.heap.UpToSlots h'->Q () { s with heap:=h' }) :
  wpAny M A (do let a <-frameOf env;let pl <-entryPlaceOf L hadNext;let b <-EntryCells.newEntry head a .none (rawInt L) .none pl;setField (.ref x) 1 b) Q E s:=by
 have out:x ∉ (env::outer).filterMap (·.frame):=λhm=>by
  obtain⟨_,o,ho,hnf⟩:=fr.mem hm
  rw [he] at ho;cases ho;exact hnf _ rfl
 refine wpAny_bind (wpAny_frameOf_fun hfr fr hf λh₁ k₁=>?_)
 refine wpAny_bind (wpAny_entryPlaceOf λpl hpl=>?_)
 delta EntryCells.newEntry newFields
 refine wpAny_bind (wpAny_newObj_type ?_ (hpl.sizeOk5 _ _ _ _ _))
 have he₁:=(k₁.2.1 x out).trans he
 have st₁:base.StaysIn h₁:=λb o e=>(k₁.2.1 b λhm=>by rw [(fr.mem hm).1] at e;exact nn e).trans (st b o e)
 generalize hT:({ cls:=.type "traceback",dict:=none,data:=.fields ([head,.ref L,.none,rawInt L,.none]++(if pl.isEmpty then List.replicate 6 Value.none else pl)).toArray }:Obj)=oT
 have he₂:=Heap.get?_push_of_some oT he₁
 have ne:h₁.objs.size ≠ x:=Nat.ne_of_gt (Heap.lt_size he₁)
 have gx:((h₁.push oT).update x (Obj.mapFields (·.setIfInBounds 1 (.ref h₁.objs.size)))).get? x=some { cls:=.ref C,dict:=d,data:=.fields #[.ref t,.ref h₁.objs.size,.none,.none,.bool false,.none],slots:=sl }:=Heap.get?_update_self _ he₂ rfl
 have gT:((h₁.push oT).update x (Obj.mapFields (·.setIfInBounds 1 (.ref h₁.objs.size)))).get? h₁.objs.size=some oT:=(Heap.get?_update_other _ _ ne.symm).trans (Heap.get?_push_size h₁ (by rw [<-hT];rfl))
 have other:∀b o,b ≠ x->h₁.get? b=some o->((h₁.push oT).update x (Obj.mapFields (·.setIfInBounds 1 (.ref h₁.objs.size)))).get? b=some o:=λb o hb e=>by
  rw [Heap.get?_update_other _ _ (Ne.symm hb)];exact Heap.get?_push_of_some _ e
 have notX:∀b o,s.heap.get? b=some o->(∀vs,o.data ≠ .fields vs)->b ≠ x:=λb o e hn q=>by rw [q,he] at e;cases e;exact hn _ rfl
 have up:s.heap.UpToSlots ((h₁.push oT).update x (Obj.mapFields (·.setIfInBounds 1 (.ref h₁.objs.size)))):=λb o e hn=>by
  obtain⟨sl,e₁⟩:=k₁.2.2 b o e
  exact⟨sl,other b _ (notX b o e hn) e₁⟩
 refine wpAny_setField he₂ rfl (by show 1<6;decide) (h _ ⟨λb o e=>other b o (λq=>by rw [q,new] at e;exact nn e) (st₁ b o e),new,fr.of_keeps λb o e hn=>?_,d,sl,_,gx,h₁.objs.size,oT,_,rfl,st₁.fresh,ne,gT,by rw [<-hT],?_⟩ up)
 ·obtain⟨sl,e₁⟩:=up b o e hn;exact yEA _ e₁ rfl
 ·rcases hpl with rfl|⟨_,_,_,_,_,_,_,rfl⟩<;>rfl
theorem uR {base:Heap}{env:Env}{outer:List Env}{L x t C:Addr}{hd:Option Value}(hhd:hd=none∨hd=some .none){Q:Unit->Shared->Prop}(hfr:A.frames=some (env::outer)) (hf:env.frame=some L) (f:sC base (env::outer) C x t hd s.heap)
  (h:∀h',sC base (env::outer) C x t (some (rawInt L)) h'->s.heap.UpToSlots h'->Q () { s with heap:=h' }):wpAny M A (noteFrame (.ref x) env) Q E s:=by
 refine bG λ_ kk=>?_
 obtain⟨st,new,fr,d,sl,v,he,hv⟩:=f
 refine kk ?_
 delta noteFrame
 simp only [hf]
 refine wpAny_bind (wpAny_field he rfl (x:=v) (by rfl) ?_)
 rcases hhd with rfl|rfl
 ·subst hv
  refine wif (by decide) ?_
  exact uQ hfr hf st new fr he h
 ·refine bK hv λT oT ts r3_ hn hne hT hdT h3=>?_;clear hv;subst r3_
  refine wit (show (Value.ref T != Value.none)=true from by rfl) ?_
  refine wpAny_bind (wpAny_field hT hdT h3 ?_)
  refine wif (show ¬((Value.none==rawInt L)=true) from by exact nofun) ?_
  refine wpAny_bind (wpAny_setField hT hdT (Array.getElem?_eq_some_iff.mp h3).1 ?_)
  have other:∀b,b ≠ T->(s.heap.update T (Obj.mapFields (·.setIfInBounds 3 Value.none))).get? b=s.heap.get? b:=λb hb=>Heap.get?_update_other _ _ (Ne.symm hb)
  have notT:∀b o,s.heap.get? b=some o->(∀vs,o.data ≠ .fields vs)->b ≠ T:=λb o e hn q=>by rw [q,hT] at e;cases e;exact hn _ hdT
  refine uQ hfr hf (λb o e=>(other b λq=>by rw [q,hn] at e;exact nn e).trans (st b o e)) new (fr.of_keeps λb o e hn=>yEA o ((other b (notT b o e hn)).trans e) rfl) ((other x (Ne.symm hne)).trans he) λh' f' u=>h h' f' λb o e hn=>u b o ((other b (notT b o e hn)).trans e) hn
theorem jg {base:Heap}{l:List Env}{x t C:Addr}{fl:Value}{Q:Unit->Shared->Prop}(f:sC base l C x t (some fl) s.heap)
  (h:∀h',sC base l C x t (some .none) h'->s.heap.UpToSlots h'->Q () { s with heap:=h' }):wpAny M A (setFlight (.ref x) none) Q E s:=by
 obtain⟨st,new,fr,d,sl,v,he,T,oT,ts,rfl,hn,hne,hT,hdT,h3⟩:=f
 have other:∀b,b ≠ T->(s.heap.update T (Obj.mapFields (·.setIfInBounds 3 ((none:Option Addr).elim Value.none λf=>rawInt f)))).get? b=s.heap.get? b:=λb hb=>Heap.get?_update_other _ _ (Ne.symm hb)
 have notT:∀b o,s.heap.get? b=some o->(∀vs,o.data ≠ .fields vs)->b ≠ T:=λb o e hn q=>by rw [q,hT] at e;cases e;exact hn _ hdT
 have sz:=(Array.getElem?_eq_some_iff.mp h3).1
 unfold setFlight
 refine wpAny_bind (wpAny_field he rfl (x:=.ref T) (by simp) ?_)
 refine wit (show (Value.ref T != Value.none)=true from by simp) ?_
 refine wpAny_setField hT hdT sz (h _ ⟨λb o e=>(other b λq=>by rw [q,hn] at e;exact nn e).trans (st b o e),new,fr.of_keeps λb o e hn=>yEA o ((other b (notT b o e hn)).trans e) rfl,d,sl,_,(other x (Ne.symm hne)).trans he,T,_,_,rfl,hn,hne,Heap.get?_update_self _ hT (Obj.isFreed_of_fields (Obj.data_mapFields hdT _)),Obj.data_mapFields hdT _,by simp [sz]⟩ λb o e hn=>⟨o.slots,(other b (notT b o e hn)).trans e⟩)
theorem w5 {env:Env}{outer:List Env}{L:Addr}(hfr:A.frames=some (env::outer)) (hf:env.frame=some L){W:Wd}{hp:Heap}(f:fC oh W hp (env::outer)){C x t:Addr}{d:Option Addr}(k:∀b o,hp.get? b=some o->s.heap.get? b=some o)
  (sz:hp.objs.size<=s.heap.objs.size) (hx0:hp.objs.size<=x) (he:s.heap.get? x=some (gz x t C d)){Q:Unit->Shared->Prop}(h:∀hh,hF C outer oh W hp x t hh->Q () { s with heap:=hh }):wpAny M A (leaving env (.ref x)) Q E s:=by
 have mem:∀e ∈ env::outer,∀b,e.frame=some b->b ∈ (env::outer).filterMap (·.frame):=λe he b hb=>List.mem_filterMap.mpr (yEA e he hb)
 have nx:(hideAll hp ((env::outer).filterMap (·.frame))).get? x=none:=Heap.get?_none_of_le (by rw [hideAll_size];exact hx0)
 unfold leaving
 refine aV (wpAny_bind (uR (base:=hideAll hp ((env::outer).filterMap (·.frame))) (.inl rfl) hfr hf ⟨λb o q=>k _ _ (of_hideAll _ q),nx,hH f k λe he b hb=>hideAll_none _ (mem e he b hb),d,_,_,he,rfl⟩ λh1 f1 u1=>jg f1 λh2 f2 u2 sz'=>h h2 (yEAAAA _ ⟨f2.st,f2.new,f2.fr.2.2,f2.obj⟩ (((Heap.UpToSlots.of_keeps k).trans u1).trans u2) (Nat.le_trans sz sz') hx0 λb hb=>?_)))
 refine bG λ_ kk=>?_
 refine aI (List.mem_filterMap.mp hb) λe he hb=>?_
 obtain⟨a,L',b',c,d,o,es,n,e1,g⟩:=f e he
 refine kk ?_
 rw [hb] at b';cases b'
 exact⟨c,d,λo' q=>by rw [e1] at q;cases q;exact yEE es n g⟩
theorem w6 {env:Env}{outer:List Env}{L:Addr}(hfr:A.frames=some (env::outer)) (hf:env.frame=some L){W:Wd}{hp:Heap}{C x t:Addr}(f:hF C (env::outer) oh W hp x t s.heap){Q:Unit->Shared->Prop}
  (h:∀hh,hF C outer oh W hp x t hh->Q () { s with heap:=hh }):wpAny M A (leaving env (.ref x)) Q E s:=by
 refine bG λ_ kk=>?_
 obtain⟨Ls,a,b,c,c',d⟩:=f
 refine kk ?_
 unfold leaving
 exact aV (wpAny_bind (uR (.inr rfl) hfr hf a λh1 f1 u1=>jg f1 λh2 f2 u2 sz=>h h2 (yEAAAA Ls ⟨f2.st,f2.new,f2.fr.2.2,f2.obj⟩ ((b.trans u1).trans u2) (Nat.le_trans c sz) c' d)))
theorem hF.inv {C:Addr}{l:List Env}{W:Wd}{hp hh:Heap}{x t:Addr}{h:H}(f:hF C l oh W hp x t hh) (I:Inv w V oh W h hp):Inv w V oh W h hh:=by
 refine bG λ_ kk=>?_
 obtain⟨Ls,a,b,c,c',d⟩:=f
 refine kk ?_
 refine I.keep (mt:=λb=>b ∈ Ls) (λb o e n=>a.st _ _ (hideAll_get _ e n)) c (λb m=>⟨(d b m).1,(d b m).2.1⟩) λb o m e=>?_
 obtain⟨es,n,g⟩:=(d b m).2.2 o e
 exact bQ g
theorem aM.slots {env:Env}{W:Wd}{hp hh:Heap}{r:Tr AV}(F:aM V oh fi env W hp r) (u:hp.UpToSlots hh) (sz:hp.objs.size<=hh.objs.size):aM V oh fi env W hh r:=by
 refine aI F.loc λm hn hm=>?_
 refine⟨yEA m (u.ns hn) hm,λp x a=>(F.me p x a).imp id λ⟨k,c,o,l,⟨oc,g1,g2⟩,q⟩=>yAEEAA k c o l ?_ q,F.un,λx c e=>⟨(F.ej x c e).1,(F.ej x c e).2.1,Nat.lt_of_lt_of_le (F.ej x c e).2.2 sz⟩,F.inj⟩
 obtain⟨sl,e⟩:=u c oc g1 λvs z=>by rw [g2] at z;cases z
 exact yEA _ e g2
end
end
section
open Builtin Builtin.ObjectAttr
def cW (b:Bool) (k:Bool):Bool:=Bool.rec (motive:=λ_=>Bool) false k b
def w7 (b:Bool) (k:Bool):Bool:=Bool.rec (motive:=λ_=>Bool) k false b
def mZ (f:Fl) (k:Bool):Bool:=Fl.rec (motive:=λ_=>Bool) k false false (λ_=>false) f
theorem aH {b k:Bool}(e:cW b k=true):b=true/\k=true:=by cases b<;>first|exact⟨rfl,e⟩|exact nf e
theorem oZ {b k:Bool}(e:w7 b k=true):b=false/\k=true:=by cases b<;>first|exact⟨rfl,e⟩|exact nf e
theorem fL {f:Fl}{k:Bool}(e:mZ f k=true):f = .nx/\k=true:=by cases f<;>first|exact⟨rfl,e⟩|exact nf e
abbrev XK:=P4->List AV->H->(H->Bool)->Bool
section
variable (w:World) (V:Va) (oh:Heap) (C:Addr)
abbrev Ce (outer:List Env) (k:H->Bool) (W:Wd) (s:Shared) (E:Value->Shared->Prop):Prop:=
 ∀W1 h1 s1 x t hh tk,k h1=true->Inv w V oh W1 h1 s1.heap->Step none_ W s W1 s1->hF C outer oh W1 s1.heap x t hh->E (.ref x) { s1 with heap:=hh,toks:=tk }
def Ba (n:Nat) (K:XK):Prop:=∀f vs h k,K f vs h k=true->∃a,V.fn f=some a/\∀A outer,xZ n A->A.handled=none->A.frames=some outer->∀W s vals,Inv w V oh W h s.heap->fC oh W s.heap outer->aR V W.μ vs vals ->
 ∀R:Result->Shared->Prop,Ce w V oh C outer k W s (λe s'=>R (.error e) s')->CG (model pw w) A (.call (.ref a) ⟨vals,[]⟩) R s
end
def rF (f0:P4) (ps:List PD) (t1 t2:TC) (c:EC) (co:CO):XK:=λf vs h k=>az (decide (f=f0)) (iE ps vs .lf λr=>t1 co r h λb h=>w7 b (t2 co r h λb h=>cW b (c co r h λv h=>iy v (k h)))) false
def yh (f0:P4) (ps:List PD) (s1:SC) (t:TC) (c:EC) (q:P4) (cf:CF) (l:LC) (co:CO) (K:XK):XK:=λf vs h k=>az (decide (f=f0)) (iE ps vs .lf λr=>s1 co r h λfl r h=>mZ fl (t co r h λb h=>cW b (gm c q cf l co r h λf vs h=>K f vs h k))) false
section
variable {w:World}{V:Va}{oh:Heap}{kH:Bool}{fi:aY}{A:Around}{E:Value->Shared->Prop}{s:Shared}{C:Addr}
theorem rf_s (NL:oh.NoLimit){K:Frag}(XC:uO V K C) (KI:K.In oh) (mk:MkX w V oh C){mg:Str->Option Value}(hg:oh.Ns mainGlobals mg){x:Str}(hv:mg x=some (.ref C)){f0:P4}{a:Addr}(hf0:V.fn f0=some a){fd:FuncData}{ps:List PD}{names:List Str}{dvals:List Value}{e1 e2 m:PySem.Expr}{b1:List Stmt}{q1 q2 np cpos rp:Pos}
  (D:fx V oh a fd fi ps names dvals [.If e1 b1 [] q1,.If e2 [.Raise (some (.Call (.Name x np) [m] [] cpos)) none rp] [] q2]) (hk:jc fi x=true){t1 t2:TC}{c:EC}(ht1:ST w V oh false fi t1 e1) (ht2:ST w V oh false fi t2 e2) (hc:SE w V oh false fi c m) (hs:notStar m=true)
  {n:Nat}{co:CO}(ok:ti w V oh false n co):Ba w V oh C (n+1) (rF f0 ps t1 t2 c co):=by
 intro f vs h k e
 obtain⟨e0,eB⟩:=aN (show az (decide (f=f0)) _ false=true from e)
 obtain rfl:=of_decide_eq_true e0
 refine yEA a hf0 λA outer rm hh hfr W s vals I fo R RR p=>?_
 refine eE NL D (by have:=rm.1;lia) (k:=λr=>t1 co r h λb h=>w7 b (t2 co r h λb h=>cW b (c co r h λv h=>iy v (k h)))) eB I R λenv r hp tk e2 fm hfl g1 g2 keep ns I1 F1 S1=>?_
 have rm':Rm n (A.deeper env):=by
  obtain⟨r1,r2⟩:=rm
  refine⟨?_,?_⟩
  ·show A.depth+1+4*n+4<_;lia
  ·show A.units+3+32*n+40<_;lia
 refine WG.eq (execs_cons ..) ?_
 refine WG.bind ?_
 refine WG.eq (exec_If ..) ?_
 refine WG.aA (WG.bind (ht1 ⟨n,co,ok,A.deeper env,rm',.inl hh,env,fm⟩ r h _ e2 W _ I1 F1 _ _ λb h2 W2 s2 e3 I2 S2=>?_))
 obtain⟨rfl,e3⟩:=oZ e3
 refine gif Bool.false_ne_true ?_
 refine WG.eq (execs_nil ..) ?_
 refine WG.pure ?_
 dsimp only
 refine WG.eq (execs_cons ..) ?_
 refine WG.bind ?_
 refine WG.eq (exec_If ..) ?_
 have F2:=F1.step _ _ S2
 refine WG.aA (WG.bind (ht2 ⟨n,co,ok,A.deeper env,rm',.inl hh,env,fm⟩ r h2 _ e3 W2 s2 I2 F2 _ _ λb h3 W3 s3 e4 I3 S3=>?_))
 obtain⟨rfl,e4⟩:=aH e4
 have F3:=F2.step _ _ S3
 refine git rfl ?_
 refine WG.eq (execs_cons ..) ?_
 refine WG.bind (x_raise XC KI mk hg hv hk ⟨n,co,ok,A.deeper env,rm',.inl hh,env,fm⟩ hh hc hs e4 I3 F3 λW4 h4 s4 h' tk' x' t' d k1 I4 S4 z1 z2 z3 z4=>?_)
 have S:=S1.trans (S2.trans (S3.trans S4))
 have F4:=F3.step _ _ S4
 refine WG.of (w5 (Around.frames_deeper hfr) hfl ((fo.step S).cons fm hfl F4) z1 z2 z3 z4 λhh' fl=>?_)
 exact p W4 h4 s4 x' t' hh' tk' k1 I4 S fl
theorem rc_s (NL:oh.NoLimit) (CA:cP V oh) (FA:iH V oh){f0:P4}{a:Addr}(hf0:V.fn f0=some a){fd:FuncData}{ps:List PD}{names:List Str}{dvals:List Value}{st:Stmt}{e1 e:PySem.Expr}{x:Str}{es:List PySem.Expr}{apos pos ep q1:Pos}{b1 b2:List Stmt}
  (D:fx V oh a fd fi ps names dvals (st :: .If e1 (.Expr (.Call (.Attribute e x apos) es [] pos) ep::b1) [] q1::b2)){s1:SC}{t:TC}{c:EC}{q:P4}{cf:CF}{l:LC}(h1:SS w V oh false fi s1 st) (ht:ST w V oh false fi t e1) (hx:V.attr q=some x) (okc:qf V q cf) (hm:mS e es apos pos=true)
  (hw:∀env,swapsWith (.Call (.Attribute e x apos) es [] pos) none ep.line env=pure false) (hc:SE w V oh false fi c e) (hl:SL w V oh false fi l es){n:Nat}{co:CO}(ok:ti w V oh false n co){K:XK}(hK:Ba w V oh C n K):Ba w V oh C (n+1) (yh f0 ps s1 t c q cf l co K):=by
 intro f vs h k e
 obtain⟨e0,eB⟩:=aN (show az (decide (f=f0)) _ false=true from e)
 obtain rfl:=of_decide_eq_true e0
 refine yEA a hf0 λA outer rm hh hfr W s vals I fo R RR p=>?_
 refine eE NL D (by have:=rm.1;lia) (k:=λr=>s1 co r h λfl r h=>mZ fl (t co r h λb h=>cW b (gm c q cf l co r h λf vs h=>K f vs h k))) eB I R λenv r hp tk e2 fm hfl g1 g2 keep ns I1 F1 S1=>?_
 have rm':Rm n (A.deeper env):=by
  obtain⟨r1,r2⟩:=rm
  refine⟨?_,?_⟩
  ·show A.depth+1+4*n+4<_;lia
  ·show A.units+3+32*n+40<_;lia
 refine WG.eq (execs_cons ..) ?_
 refine WG.bind (h1 ⟨n,co,ok,A.deeper env,rm',.inl hh,env,fm⟩ r h _ e2 W _ I1 F1 _ _ λfl r2 h2 f2 W2 s2 e3 R2 I2 F2 S2=>?_)
 obtain⟨rfl,e3⟩:=fL e3
 cases R2
 have S12:Step none_ W s W2 s2:=(S1.up.trans S2).new λb' hb'=>.inr (by
  rcases hb' with rfl|⟨x,_,q⟩
  ·exact g1
  ·exact g2 x b' q)
 dsimp only
 refine WG.eq (execs_cons ..) ?_
 refine WG.bind ?_
 refine WG.eq (exec_If ..) ?_
 refine WG.aA (WG.bind (ht ⟨n,co,ok,A.deeper env,rm',.inl hh,env,fm⟩ r2 h2 _ e3 W2 s2 I2 F2 _ _ λb h3 W3 s3 e4 I3 S3=>?_))
 obtain⟨rfl,e4⟩:=aH (k:=gm c q cf l co r2 h3 λf vs h=>K f vs h k) e4
 have F3:=F2.step _ _ S3
 refine git rfl ?_
 refine WG.eq (execs_cons ..) ?_
 refine WG.bind ?_
 refine WG.eq (exec_Expr _ _ _ (by unfold interactive;rw [fm.kind];rfl) (hw _) ..) ?_
 obtain⟨m1,m2,m3,m4⟩:=de hm
 refine WG.aA (WG.bind (uh CA FA hx okc m1 m2 m3 m4 hc hl ⟨n,co,ok,A.deeper env,rm',.inl hh,env,fm⟩ (kk:=λf vs h=>K f vs h k) e4 I3 F3 λf' a' vs' h4 vals' W4 s4 e5 hf' R4 I4 S4=>?_))
 refine aI (hK f' vs' h4 k e5) λa2 ha2 call=>?_
 rw [hf'] at ha2;cases ha2
 have F4:=F3.step _ _ S4
 have S14:=S12.trans (S3.trans S4)
 refine call (A.deeper env) (env::outer) (rm'.call (by exact Nat.le_add_right _ _) (by exact Nat.le_add_right _ _)) hh (Around.frames_deeper hfr) W4 s4 vals' I4 ((fo.step S14).cons fm hfl F4) R4 _ λW5 h5 s5 x' t' hh' tk' k1 I5 S5 fl=>?_
 exact WG.of (w6 (Around.frames_deeper hfr) hfl fl λhh2 fl2=>p W5 h5 s5 x' t' hh2 tk' k1 I5 (S14.trans S5) fl2)
end
end
section
open Builtin Builtin.ObjectAttr
section
variable {w:World}{V:Va}{oh:Heap}{kH:Bool}{fi:aY}{A:Around}{E:Value->Shared->Prop}{s:Shared}{C:Addr}
theorem rebase {env:Env}{W:Wd}{h:H}{hp:Heap}{r:Tr AV}(I:Inv w V oh W h hp) (F:aM V oh fi env W hp r){x:Addr}{ox:Obj}(hx:hp.get? x=some ox) (x1:¬W.own x) (x2:x ≠ env.locals) (x3:∀y c,env.cells.lookup y=some c->c ≠ x) :
  ∃h',(∀b o,oh.get? b=some o->h'.get? b=some o)/\(∀b o,h'.get? b=some o->hp.get? b=some o)/\h'.get? x=some ox/\Inv w V h' W h hp/\aM V h' fi env W hp r:=by
 classical
 let P:Addr->Prop:=λb=>W.own b∨b=env.locals∨∃y,env.cells.lookup y=some b
 let Ls:=(List.range hp.objs.size).filter λb=>decide (P b)
 have mem:∀b,b<hp.objs.size->P b->b ∈ Ls:=λb hb q=>List.mem_filter.mpr ⟨List.mem_range.mpr hb,decide_eq_true q⟩
 have nm:∀b,¬P b->b ∉ Ls:=λb q m=>q (of_decide_eq_true (List.mem_filter.mp m).2)
 have none:∀b,P b->(hideAll hp Ls).get? b=none:=λb q=>by
  by_cases hb:b<hp.objs.size
  ·exact hideAll_none _ (mem b hb q)
  ·exact Heap.get?_none_of_le (by rw [hideAll_size];exact Nat.not_lt.mp hb)
 refine yEAAAA (hideAll hp Ls) (λb o e=>hideAll_get _ (I.bq _ _ e) (nm b ?_)) (λb o e=>of_hideAll _ e) (hideAll_get _ hx (nm x ?_)) ⟨λb o e=>of_hideAll _ e,λb q=>none b (.inl q),I.lt,I.fp,I.fR,I.apart,I.nE,I.ez,I.obj,I.lk⟩ ⟨F.loc,F.me,⟨F.un.1,none _ (.inr (.inl rfl))⟩,λy c q=>⟨(F.ej y c q).1,none _ (.inr (.inr ⟨y,q⟩)),(F.ej y c q).2.2⟩,F.inj⟩
 ·rintro (q|rfl|⟨y,q⟩)
  ·rw [I.low b q] at e;exact nn e
  ·rw [F.un.2] at e;exact nn e
  ·rw [(F.ej y b q).2.1] at e;exact nn e
 ·rintro (q|q|⟨y,q⟩)
  ·exact x1 q
  ·exact x2 q
  ·exact x3 y x q rfl
theorem w8 {K:Frag}(XC:uO V K C) (KI:K.In oh){mg:Str->Option Value}(hg:oh.Ns mainGlobals mg){y:Str}(hv:mg y=some (.ref C)) (hk:jc fi y=true){env:Env}{outer:List Env}(fm:Fm fi env) (hfr:A.frames=some (env::outer)) (hf:env.frame=some env.locals)
  {W:Wd}{h:H}{r:Tr AV}{hp:Heap}(I:Inv w V oh W h hp) (F:aM V oh fi env W hp r){x t:Addr}(fl:hF C (env::outer) oh W hp x t s.heap){np hpos rp:Pos}{er:PySem.Expr}{Q:Flow->Shared->Prop}
  (p:∀h₁ s',(∀b o,oh.get? b=some o->h₁.get? b=some o)->Inv w V h₁ W h s'.heap->aM V h₁ fi env W s'.heap r->s'.gens=s.gens->s'.os=s.os->(∀b o,h₁.get? b=some o->s'.heap.get? b=some o) ->
   (∃o vs,h₁.get? x=some o/\o.data = .fields vs/\vs[2]? = some .none)->WG (model pw w) (A.mark (some (.ref x))) (execs [.Return (some er) rp] env) Q i7 s') :
  WG (model pw w) A (do noteFrame (.ref x) env;setFlight (.ref x) none;handleBy (.ref x) env [.ExceptHandler (some (.Name y np)) none [.Return (some er) rp] hpos]) Q i7 s:=by
 refine bG λ_ kk=>?_
 obtain⟨Ls,f0,u0,c0,x0,d0⟩:=fl
 refine kk ?_
 have nnf:¬W.own x:=λq=>absurd (I.lt x q) (Nat.not_lt.mpr x0)
 have nloc:x ≠ env.locals:=λq=>by
  refine aI F.loc λm q1_ _=>?_;obtain⟨o,es,n,e,_⟩:=q1_
  exact absurd (Heap.lt_size e) (Nat.not_lt.mpr (q▸x0))
 have ncell:∀z c,env.cells.lookup z=some c->c ≠ x:=λz c e q=>absurd (F.ej z c e).2.2 (Nat.not_lt.mpr (q▸x0))
 refine WG.leaf (aV (uR (.inr rfl) hfr hf f0 λh1 f1 u1 z1=>?_))
 refine WG.leaf (aV (jg f1 λh2 f2 u2 z2=>?_))
 have fl2:hF C (env::outer) oh W hp x t h2:=yEAAAA Ls f2 ((u0.trans u1).trans u2) (Nat.le_trans c0 (Nat.le_trans z1 z2)) x0 d0
 have I2:=fl2.inv I
 rw [handleBy]
 have hnb:(some (Value.ref x)) ≠ some byPass:=λq=>by have:=Option.some.inj q;cases this
 refine bG λ_ kk=>?_
 obtain⟨nm,q,N,bs,C0,sn,sub,col,dd,k0,k1',k2',k3,k5,hK⟩:=XC.obj
 refine kk ?_
 refine WG.bind (WG.of (wpAny_holding (wpAny_runOwn (codeAny_handlers_test ?_) hnb)))
 refine Name_function_global fm.kind ((fm.kinds y).trans (cQ hk).1) (loadGlobal_global (mg:=mg) (by rw [fm.glob];exact hg.keeps I2.bq) hv ?_) (cQ hk).2
 refine dH f2.obj λdx sl v hx _=>?_
 refine wpAny_excMatches_sub_self (KI.keeps I2.bq _ _ hK) hx rfl (by rfl) ?_
 refine WG.bind (WG.pure ?_)
 refine gif Bool.false_ne_true ?_
 have suite:CG (model pw w) (A.mark (some (.ref x))) (.handlers (.ref x) [.ExceptHandler none none [.Return (some er) rp] hpos] env) (λr s'=>match r with|.ok f=>Q f s' | .error _=>False) { s with heap:=h2 }:=by
  refine CG.cM rfl ?_
  refine WG.bind (WG.onRaise ?_)
  delta handleWith
  refine WG.aA (WG.leaf (aV (jg f2 λh3 f3 u3 z3=>?_)))
  have fl3:hF C (env::outer) oh W hp x t h3:=yEAAAA Ls f3 (((u0.trans u1).trans u2).trans u3) (Nat.le_trans c0 (Nat.le_trans z1 (Nat.le_trans z2 z3))) x0 d0
  refine bG λ_ kk=>?_
  refine dH f3.obj λdx sl v hx _=>?_
  obtain⟨h₁,b1,b2,b3,b4,b5⟩:=rebase (fl3.inv I) (F.slots fl3.choose_spec.2.1 fl3.choose_spec.2.2.1) hx nnf nloc ncell
  refine kk ?_
  exact WG.mono (p h₁ { s with heap:=h3 } b1 b4 b5 rfl rfl b2 (yEEAA _ _ b3 rfl rfl)) (λf s' z=>WG.pure z) λ_ _ z=>z.elim
 have own:WG (model pw w) A (runOwn (.handlers (.ref x) [.ExceptHandler none none [.Return (some er) rp] hpos] env) env (some (.ref x))) Q i7 { s with heap:=h2 }:=by
  delta runOwn
  refine WG.onRaise (WG.run (CG.mono suite λr s' z=>?_) hnb)
  cases r with
  |ok f=>exact z
  |error e=>exact z.elim
 exact WG.bind (WG.hold (WG.mono own (λf s' z=>WG.pure z) λ_ _ z=>z))
end
end
section
open Builtin Builtin.ObjectAttr
def Cf (ps:List PD) (s1 s2:SC) (c:EC) (q:P4) (cf:CF) (l:LC) (co:CO) (K:XK) (cr:EC) (co2:CO) (vs:List AV) (h:H) (k:K1):Bool:=
 iE ps vs .lf λr=>s1 co r h λfl r h=>mZ fl (s2 co r h λfl r h=>mZ fl (gm c q cf l co r h λf vs h=>K f vs h λh=>cr co2 r h k))
section
variable {w:World}{V:Va}{oh:Heap}{kH:Bool}{fi:aY}{A:Around}{E:Value->Shared->Prop}{s:Shared}{C:Addr}
theorem Cg (NL:oh.NoLimit) (CA:cP V oh) (FA:iH V oh){KF:Frag}(XC:uO V KF C) (KI:KF.In oh){mg:Str->Option Value}(hg:oh.Ns mainGlobals mg){y:Str}(hv:mg y=some (.ref C)) (hk:jc fi y=true){a:Addr}{fd:FuncData}{ps:List PD}{names:List Str}{dvals:List Value}
  {st1 st2:Stmt}{e er:PySem.Expr}{x:Str}{es:List PySem.Expr}{apos pos ep np hpos rp tp:Pos}{b1:List Stmt}
  (D:fx V oh a fd fi ps names dvals [st1,st2,.Try (.Expr (.Call (.Attribute e x apos) es [] pos) ep::b1) [.ExceptHandler (some (.Name y np)) none [.Return (some er) rp] hpos] [] [] tp]){s1 s2:SC}{c:EC}{q:P4}{cf:CF}{l:LC}{cr:EC}
  (h1:SS w V oh false fi s1 st1) (h2:SS w V oh false fi s2 st2) (hx:V.attr q=some x) (okc:qf V q cf) (hm:mS e es apos pos=true) (hw:∀env,swapsWith (.Call (.Attribute e x apos) es [] pos) none ep.line env=pure false) (hc:SE w V oh false fi c e) (hl:SL w V oh false fi l es)
  {n:Nat}{co co2:CO}(ok:ti w V oh false n co){K:XK}(hK:Ba w V oh C n K) (hret:∀h₁,(∀b o,oh.get? b=some o->h₁.get? b=some o)->ti w V h₁ true n co2/\SE w V h₁ true fi cr er)
  {vs:List AV}{h:H}{k:K1}(e0:Cf ps s1 s2 c q cf l co K cr co2 vs h k=true){outer:List Env}(rm:xZ (n+1) A) (hh:A.handled=none) (hfr:A.frames=some outer){W:Wd}{vals:List Value}(I:Inv w V oh W h s.heap) (fo:fC oh W s.heap outer) (R:aR V W.μ vs vals){RR:Result->Shared->Prop}
  (p:∀av h' v μ s',k av h'=true->Rep V μ av v->(∀b o,oh.get? b=some o->s'.heap.get? b=some o)->s'.gens=s.gens->s'.os=s.os->RR (.ok (.ret v)) s'):CG (model pw w) A (.call (.ref a) ⟨vals,[]⟩) RR s:=by
 refine eE NL D (by have:=rm.1;lia) (k:=λr=>s1 co r h λfl r h=>mZ fl (s2 co r h λfl r h=>mZ fl (gm c q cf l co r h λf vs h=>K f vs h λh=>cr co2 r h k))) e0 I R λenv r hp tk e2 fm hfl g1 g2 keep ns I1 F1 S1=>?_
 have rm':Rm n (A.deeper env):=by
  obtain⟨r1,r2⟩:=rm
  refine⟨?_,?_⟩
  ·show A.depth+1+4*n+4<_;lia
  ·show A.units+3+32*n+40<_;lia
 refine WG.mono (E:=i7) ?_ (λ_ _ z=>z) λ_ _ z=>z.elim
 refine WG.consG λrs hrs=>?_
 refine WG.eq (execs_cons ..) ?_
 refine WG.bind (h1 ⟨n,co,ok,A.deeper env,rm',.inl hh,env,fm⟩ r h _ e2 W _ I1 F1 _ _ λfl r2 h2' f2 W2 s2' e3 R2 I2 F2 S2=>?_)
 obtain⟨rfl,e3⟩:=fL e3
 cases R2
 subst hrs
 refine WG.consG λrs hrs=>?_
 refine WG.eq (execs_cons ..) ?_
 refine WG.bind (h2 ⟨n,co,ok,A.deeper env,rm',.inl hh,env,fm⟩ r2 h2' _ e3 W2 s2' I2 F2 _ _ λfl r3 h3 f3 W3 s3 e4 R3 I3 F3 S3=>?_)
 obtain⟨rfl,e4⟩:=fL (k:=gm c q cf l co r3 h3 λf vs h=>K f vs h λh=>cr co2 r3 h k) e4
 cases R3
 have S13:Step none_ W s W3 s3:=((S1.up.trans S2).trans S3).new λb' hb'=>.inr (by
  rcases hb' with rfl|⟨x,_,q⟩
  ·exact g1
  ·exact g2 x b' q)
 subst hrs
 refine WG.eq (execs_cons ..) ?_;rw [arm_exec_Try]
 refine WG.bind (WG.aA ?_)
 refine WG.bind (WG.attempt ?_)
 refine WG.eq (execs_cons ..) ?_
 refine WG.bind ?_
 refine WG.eq (exec_Expr _ _ _ (by unfold interactive;rw [fm.kind];rfl) (hw _) ..) ?_
 obtain⟨m1,m2,m3,m4⟩:=de hm
 refine WG.aA (WG.bind (uh CA FA hx okc m1 m2 m3 m4 hc hl ⟨n,co,ok,A.deeper env,rm',.inl hh,env,fm⟩ (kk:=λf vs h=>K f vs h λh=>cr co2 r3 h k) e4 I3 F3 λf' a' vs' h4 vals' W4 s4 e5 hf' R4 I4 S4=>?_))
 refine aI (hK f' vs' h4 _ e5) λa2 ha2 call=>?_
 rw [hf'] at ha2;cases ha2
 have F4:=F3.step _ _ S4
 have S14:=S13.trans S4
 refine call (A.deeper env) (env::outer) (rm'.call (by exact Nat.le_add_right _ _) (by exact Nat.le_add_right _ _)) hh (Around.frames_deeper hfr) W4 s4 vals' I4 ((fo.step S14).cons fm hfl F4) R4 _ λW5 h5 s5 x' t' hh' tk' k1 I5 S5 fl=>?_
 have F5:=F4.step _ _ S5
 have S15:=S14.trans S5
 refine WG.mono (E:=i7) (w8 (s:={ s5 with heap:=hh',toks:=tk' }) XC KI hg hv hk fm (Around.frames_deeper hfr) hfl I5 F5 fl (Q:=λf s'=>∃v,f = .ret v/\RR (.ok (.ret v)) s') λh₁ s6 b1 I6 F6 q1 q2 q3 q4=>?_) (λf s' z=>?_) λ_ _ z=>z.elim
 ·obtain⟨ok2,hr⟩:=hret h₁ b1
  refine WG.eq (execs_cons ..) ?_;rw [exec_Return_some]
  refine WG.bind (WG.aA (WG.bind (hr ⟨n,co2,ok2,(A.deeper env).mark (some (.ref x')),rm',.inr ⟨rfl,x',?_⟩,env,fm⟩ r3 h5 _ k1 W5 s6 I6 F6 _ _ λav h7 v W7 s7 e7 R7 I7 S7=>WG.pure (WG.pure (yEA v rfl ?_)))))
  ·refine bj q4 λo vs z1 z2 z3=>?_;clear q4
   exact yEEAAA o vs rfl z1 z2 z3
  ·exact p av h7 v _ s7 e7 R7 (λb o z=>I7.bq _ _ (b1 _ _ z)) (S7.gens.trans (q1.trans S15.gens)) (S7.os.trans (q2.trans S15.os))
 ·obtain⟨v,rfl,z⟩:=z
  exact WG.pure z
end
end
section
set_option genInjectivity false
set_option genSizeOf false
inductive Fx where
 |fn (T:Tr Str) (sf:Scope)
 |ot
def Fx.Ok:Fx->aY->Prop
 |.fn T sf,fi=>∃hT,fi=bR T sf hT
 |.ot,_=>True
theorem pN {T:Tr Str}{sf:Scope}{hT:aW T.vals=true}:(Fx.fn T sf).Ok (bR T sf hT):=⟨hT,rfl⟩
@[reducible] def HJ {C E:Type}(J:World->Va->Heap->Bool->aY->C->E->Prop) (g:Bool) (x:Fx) (fi:aY) (c:C) (e:E):Prop:=∀{w:World}{V:Va}{oh:Heap}{mg mb:Str->Option Value}{kH:Bool},Gl w V oh mg mb->(kH=true->g=true)->x.Ok fi->J w V oh kH fi c e
@[reducible] def HY {C A B:Type}(J:World->Va->Heap->Bool->aY->C->A->B->Prop) (g:Bool) (x:Fx) (fi:aY) (c:C) (a:A) (b:B):Prop:=∀{w:World}{V:Va}{oh:Heap}{mg mb:Str->Option Value}{kH:Bool},Gl w V oh mg mb->(kH=true->g=true)->x.Ok fi->J w V oh kH fi c a b
structure KX (C E:Type) (J:World->Va->Heap->Bool->aY->C->E->Prop) where
 c:C
 g:Bool
 k:∀(x:Fx) (fi:aY) (e:E),Pf (HJ J g x fi c e)
structure KY (C A B:Type) (J:World->Va->Heap->Bool->aY->C->A->B->Prop) where
 c:C
 g:Bool
 k:∀(x:Fx) (fi:aY) (a:A) (b:B),Pf (HY J g x fi c a b)
theorem KX.s {C E:Type}{J:World->Va->Heap->Bool->aY->C->E->Prop}(X:KX C E J){w:World}{V:Va}{oh:Heap}{mg mb:Str->Option Value}{kH:Bool}(G:Gl w V oh mg mb) (g:kH=true->X.g=true){x:Fx}{fi:aY}{e:E}(ok:x.Ok fi) (h:(X.k x fi e).b=true):J w V oh kH fi X.c e:=(X.k x fi e).h h G g ok
abbrev KE:=KX EC PySem.Expr (SE)
abbrev KA:=KX LC (List PySem.Expr) (SL)
abbrev KT:=KX TC PySem.Expr (Mine.ST)
abbrev KS:=KX SC Stmt (SS)
abbrev KB:=KX SC (List Stmt) (SB)
abbrev KI:=KX TC (List PySem.Expr) (eG)
abbrev KQ:=KY QC (List CmpOp) (List PySem.Expr) (SQ)
abbrev KD:=KY DC (List (Option PySem.Expr)) (List PySem.Expr) (pL)
@[reducible] def HO (c:OP) (o:Operator):Prop:=∀{w:World}{V:Va}{oh:Heap}{kH:Bool},qV w V oh kH c (binaryOp o)
@[reducible] def HC (c:CP) (o:CmpOp):Prop:=∀{w:World}{V:Va}{oh:Heap}{kH:Bool},(oh.get? sysModules).isSome=true->qW w V oh kH c (compareOp o)
structure KO where
 c:OP
 k:∀o:Operator,Pf (HO c o)
structure KC where
 c:CP
 k:∀o:CmpOp,Pf (HC c o)
theorem g2 {a b kH:Bool}(h:kH=true->(a&&b)=true):(kH=true->a=true)/\(kH=true->b=true):=⟨λq=>(Bool.and_eq_true_iff.mp (h q)).1,λq=>(Bool.and_eq_true_iff.mp (h q)).2⟩
namespace K
def oFx (l:Fx){P:Fx->Prop}(k:∀T sf,Pf (P (.fn T sf))):Pf (P l):=Fx.casesOn (motive:=λl=>Pf (P l)) l k no
def oStr (l:Const){P:Const->Prop}(k:∀x,Pf (P (.str x))):Pf (P l):=by cases l with|str x=>exact k x|_=>exact no
def fM (e:PySem.Expr){P:PySem.Expr->Prop}(k:∀a0 a1 a2,Pf (P (.BoolOp a0 a1 a2))):Pf (P e):=by cases e with|BoolOp a0 a1 a2=>exact k a0 a1 a2|_=>exact no
def zH (e:PySem.Expr){P:PySem.Expr->Prop}(k:∀a0 a1 a2 a3,Pf (P (.BinOp a0 a1 a2 a3))):Pf (P e):=by cases e with|BinOp a0 a1 a2 a3=>exact k a0 a1 a2 a3|_=>exact no
def o5 (e:PySem.Expr){P:PySem.Expr->Prop}(k:∀a0 a1 a2,Pf (P (.UnaryOp a0 a1 a2))):Pf (P e):=by cases e with|UnaryOp a0 a1 a2=>exact k a0 a1 a2|_=>exact no
def zJ (e:PySem.Expr){P:PySem.Expr->Prop}(k:∀a0 a1 a2 a3,Pf (P (.IfExp a0 a1 a2 a3))):Pf (P e):=by cases e with|IfExp a0 a1 a2 a3=>exact k a0 a1 a2 a3|_=>exact no
def uS (e:PySem.Expr){P:PySem.Expr->Prop}(k:∀a0 a1 a2,Pf (P (.Dict a0 a1 a2))):Pf (P e):=by cases e with|Dict a0 a1 a2=>exact k a0 a1 a2|_=>exact no
def sD (e:PySem.Expr){P:PySem.Expr->Prop}(k:∀a0 a1 a2 a3,Pf (P (.ListComp a0 a1 a2 a3))):Pf (P e):=by cases e with|ListComp a0 a1 a2 a3=>exact k a0 a1 a2 a3|_=>exact no
def o6 (e:PySem.Expr){P:PySem.Expr->Prop}(k:∀a0 a1 a2 a3,Pf (P (.Compare a0 a1 a2 a3))):Pf (P e):=by cases e with|Compare a0 a1 a2 a3=>exact k a0 a1 a2 a3|_=>exact no
def lO (e:PySem.Expr){P:PySem.Expr->Prop}(k:∀a0 a1 a2 a3,Pf (P (.Call a0 a1 a2 a3))):Pf (P e):=by cases e with|Call a0 a1 a2 a3=>exact k a0 a1 a2 a3|_=>exact no
def eJ (e:PySem.Expr){P:PySem.Expr->Prop}(k:∀a0 a1 a2,Pf (P (.Constant a0 a1 a2))):Pf (P e):=by cases e with|Constant a0 a1 a2=>exact k a0 a1 a2|_=>exact no
def cG (e:PySem.Expr){P:PySem.Expr->Prop}(k:∀a0 a1 a2,Pf (P (.Attribute a0 a1 a2))):Pf (P e):=by cases e with|Attribute a0 a1 a2=>exact k a0 a1 a2|_=>exact no
def dQ (e:PySem.Expr){P:PySem.Expr->Prop}(k:∀a0 a1 a2,Pf (P (.Subscript a0 a1 a2))):Pf (P e):=by cases e with|Subscript a0 a1 a2=>exact k a0 a1 a2|_=>exact no
def dA (e:PySem.Expr){P:PySem.Expr->Prop}(k:∀a0 a1,Pf (P (.Name a0 a1))):Pf (P e):=by cases e with|Name a0 a1=>exact k a0 a1|_=>exact no
def Ci (e:PySem.Expr){P:PySem.Expr->Prop}(k:∀a0 a1,Pf (P (.List a0 a1))):Pf (P e):=by cases e with|List a0 a1=>exact k a0 a1|_=>exact no
def jW (e:PySem.Expr){P:PySem.Expr->Prop}(k:∀a0 a1 a2,Pf (P (.Tuple a0 a1 a2))):Pf (P e):=by cases e with|Tuple a0 a1 a2=>exact k a0 a1 a2|_=>exact no
def qC (e:PySem.Expr){P:PySem.Expr->Prop}(k:∀a0 a1 a2 a3,Pf (P (.Slice a0 a1 a2 a3))):Pf (P e):=by cases e with|Slice a0 a1 a2 a3=>exact k a0 a1 a2 a3|_=>exact no
def rG (e:Stmt){P:Stmt->Prop}(k:∀a0 a1,Pf (P (.Return a0 a1))):Pf (P e):=by cases e with|Return a0 a1=>exact k a0 a1|_=>exact no
def fN (e:Stmt){P:Stmt->Prop}(k:∀a0 a1 a2,Pf (P (.Assign a0 a1 a2))):Pf (P e):=by cases e with|Assign a0 a1 a2=>exact k a0 a1 a2|_=>exact no
def jX (e:Stmt){P:Stmt->Prop}(k:∀a0 a1 a2 a3,Pf (P (.AugAssign a0 a1 a2 a3))):Pf (P e):=by cases e with|AugAssign a0 a1 a2 a3=>exact k a0 a1 a2 a3|_=>exact no
def wFor (e:Stmt){P:Stmt->Prop}(k:∀a0 a1 a2 a3 a4,Pf (P (.For a0 a1 a2 a3 a4))):Pf (P e):=by cases e with|For a0 a1 a2 a3 a4=>exact k a0 a1 a2 a3 a4|_=>exact no
def zK (e:Stmt){P:Stmt->Prop}(k:∀a0 a1 a2 a3,Pf (P (.While a0 a1 a2 a3))):Pf (P e):=by cases e with|While a0 a1 a2 a3=>exact k a0 a1 a2 a3|_=>exact no
def wIf (e:Stmt){P:Stmt->Prop}(k:∀a0 a1 a2 a3,Pf (P (.If a0 a1 a2 a3))):Pf (P e):=by cases e with|If a0 a1 a2 a3=>exact k a0 a1 a2 a3|_=>exact no
def wExpr (e:Stmt){P:Stmt->Prop}(k:∀a0 a1,Pf (P (.Expr a0 a1))):Pf (P e):=by cases e with|Expr a0 a1=>exact k a0 a1|_=>exact no
noncomputable def lN:KA:=⟨Mine.lN,true,λx fi e=>by refine bS e ?_;exact dn λG g ok=>Bv⟩
def eL (p:P4):KE:=⟨Mine.eL p,true,λx fi e=>by refine dA e λy m1=>?_;refine ck (sg fi p y) λh1=>?_;exact dn λG g ok=>zL h1⟩
noncomputable def lC (a:KE) (l:KA):KA:=⟨Mine.lC a.c l.c,a.g&&l.g,λx fi e=>by refine aU e λu r=>?_;refine ck (notStar u) λh1=>?_;refine bd (a.k x fi u) λc1=>?_;refine bd (l.k x fi r) λc2=>?_;exact dn λG g ok=>x4 h1 (c1 G (g2 g).1 ok) (c2 G (g2 g).2 ok)⟩
noncomputable def aB (o:KO) (a:KE) (b:KE):KE:=⟨Mine.aB o.c a.c b.c,a.g&&b.g,λx fi e=>by refine zH e λu p v m1=>?_;refine bd (o.k p) λc1=>?_;refine bd (a.k x fi u) λc2=>?_;refine bd (b.k x fi v) λc3=>?_;exact dn λG g ok=>sBin c1 (c2 G (g2 g).1 ok) (c3 G (g2 g).2 ok)⟩
def ba:KO:=⟨Mine.ba,λo=>by refine dG o .Add ?_;exact dn oAdd⟩
def eM:KO:=⟨Mine.eM,λo=>by refine dG o .Sub ?_;exact dn oSub⟩
def hW:KO:=⟨Mine.hW,λo=>by refine dG o .Mult ?_;exact dn oMul⟩
def lX:KO:=⟨Mine.lX,λo=>by refine dG o .Mod ?_;exact dn oMod⟩
def jk:KO:=⟨Mine.jk,λo=>by refine dG o .FloorDiv ?_;exact dn oDiv⟩
def v7:KO:=⟨Mine.v7,λo=>by refine dG o .LShift ?_;exact dn oShl⟩
def tM:KO:=⟨Mine.tM,λo=>by refine dG o .RShift ?_;exact dn oShr⟩
def pU:KO:=⟨Mine.pU,λo=>by refine dG o .BitAnd ?_;exact dn oAnd⟩
def xW:KO:=⟨Mine.xW,λo=>by refine dG o .BitOr ?_;exact dn oOr⟩
def bI:KC:=⟨Mine.bI,λo=>by refine dG o .Eq ?_;exact dn λGS=>cEq⟩
def iB:KC:=⟨Mine.iB,λo=>by refine dG o .NotEq ?_;exact dn λGS=>cNe⟩
def iP:KC:=⟨Mine.iP,λo=>by refine dG o .Lt ?_;exact dn λGS=>cLt⟩
def qL:KC:=⟨Mine.qL,λo=>by refine dG o .LtE ?_;exact dn λGS=>cLe⟩
def fP:KC:=⟨Mine.fP,λo=>by refine dG o .Gt ?_;exact dn λGS=>cGt⟩
def th:KC:=⟨Mine.th,λo=>by refine dG o .GtE ?_;exact dn λGS=>cGe⟩
def fG:KC:=⟨Mine.fG,λo=>by refine dG o .Is ?_;exact dn λGS=>cIs⟩
def dB:KC:=⟨Mine.dB,λo=>by refine dG o .IsNot ?_;exact dn λGS=>cIsn⟩
def km:KC:=⟨Mine.km,λo=>by refine dG o .In ?_;exact dn λGS=>cIn GS⟩
def kq:KC:=⟨Mine.kq,λo=>by refine dG o .NotIn ?_;exact dn λGS=>cNin GS⟩
def aa (l:P4) (q:P4):KE:=⟨Mine.aa l q,true,λx fi e=>by refine cG e λn1 y m2=>?_;refine dA n1 (P:=λn1=>HJ (SE) true x fi (Mine.aa l q) ((.Attribute n1 y m2))) λz m3=>?_;refine ck (bY.get q==some y) λh1=>?_;refine ck (sg fi l z) λh2=>?_;exact dn λG g ok=>zAtL G (beq_iff_eq.mp h1) h2⟩
def cV (a:KE) (q:P4):KE:=⟨Mine.cV a.c q,a.g,λx fi e=>by refine cG e λu y m1=>?_;refine ck (bY.get q==some y) λh1=>?_;refine ck (bP u) λh2=>?_;refine bd (a.k x fi u) λc1=>?_;exact dn λG g ok=>zAt G (beq_iff_eq.mp h1) h2 (c1 G g ok)⟩
def iQ (a:KE) (q:P4) (cl:Nat) (f:P4):KE:=⟨Mine.iQ a.c q cl f,a.g,λx fi e=>by refine cG e λu y m1=>?_;refine ck (bY.get q==some y) λh1=>?_;refine ck (oS cl q==some f) λh2=>?_;refine ck (bP u) λh3=>?_;refine bd (a.k x fi u) λc1=>?_;exact dn λG g ok=>zAtP G (beq_iff_eq.mp h1) (beq_iff_eq.mp h2) h3 (c1 G g ok)⟩
def ag (a:KE) (q:P4) (cf:CF) (l:KA):KE:=⟨Mine.ag a.c q cf l.c,a.g&&l.g,λx fi e=>by refine lO e λn1 es n2 ps=>?_;refine cG n1 (P:=λn1=>HJ (SE) (a.g&&l.g) x fi (Mine.ag a.c q cf l.c) ((.Call n1 es n2 ps))) λu y ap=>?_;refine bS n2 (P:=λn2=>HJ (SE) (a.g&&l.g) x fi (Mine.ag a.c q cf l.c) ((.Call (.Attribute u y ap) es n2 ps))) ?_;refine ck (bY.get q==some y) λh1=>?_;refine ck (BQ q cf) λh2=>?_;refine ck (mS u es ap ps) λh3=>?_;refine bd (a.k x fi u) λc1=>?_;refine bd (l.k x fi es) λc2=>?_;exact dn λG g ok=>BR G (beq_iff_eq.mp h1) h2 h3 (c1 G (g2 g).1 ok) (c2 G (g2 g).2 ok)⟩
noncomputable def ah (f:P4) (l:KA):KE:=⟨Mine.ah f l.c,l.g,λx fi e=>by refine lO e λn1 es n2 m3=>?_;refine dA n1 (P:=λn1=>HJ (SE) l.g x fi (Mine.ah f l.c) ((.Call n1 es n2 m3))) λy m4=>?_;refine bS n2 (P:=λn2=>HJ (SE) l.g x fi (Mine.ah f l.c) ((.Call (.Name y m4) es n2 m3))) ?_;refine ck (A7.lookup y==some f) λh1=>?_;refine ck (jc fi y) λh2=>?_;refine ck (es.all notStar) λh3=>?_;refine bd (l.k x fi es) λc1=>?_;exact dn λG g ok=>zm G (beq_iff_eq.mp h1) h2 h3 (c1 G g ok)⟩
def aZ (cl:Nat) (i:P4) (l:KA):KE:=⟨Mine.aZ cl i l.c,l.g,λx fi e=>by refine lO e λn1 es n2 m3=>?_;refine dA n1 (P:=λn1=>HJ (SE) l.g x fi (Mine.aZ cl i l.c) ((.Call n1 es n2 m3))) λy m4=>?_;refine bS n2 (P:=λn2=>HJ (SE) l.g x fi (Mine.aZ cl i l.c) ((.Call (.Name y m4) es n2 m3))) ?_;refine ck (wQ.lookup y==some cl) λh1=>?_;refine ck (lL.lookup cl==some i) λh2=>?_;refine ck (jc fi y) λh3=>?_;refine ck (es.all notStar) λh4=>?_;refine bd (l.k x fi es) λc1=>?_;exact dn λG g ok=>zo G (beq_iff_eq.mp h1) (beq_iff_eq.mp h2) h3 h4 (c1 G g ok)⟩
def gf (a:KE) (l:KA):KE:=⟨Mine.gf a.c l.c,a.g&&l.g,λx fi e=>by refine lO e λn1 es n2 m3=>?_;refine dA n1 (P:=λn1=>HJ (SE) (a.g&&l.g) x fi (Mine.gf a.c l.c) ((.Call n1 es n2 m3))) λy np=>?_;refine bS n2 (P:=λn2=>HJ (SE) (a.g&&l.g) x fi (Mine.gf a.c l.c) ((.Call (.Name y np) es n2 m3))) ?_;refine ck (es.all notStar) λh1=>?_;refine bd (a.k x fi (.Name y np)) λc1=>?_;refine bd (l.k x fi es) λc2=>?_;exact dn λG g ok=>zp G h1 (c1 G (g2 g).1 ok) (c2 G (g2 g).2 ok)⟩
def aJ (l:KA):KE:=⟨Mine.aJ l.c,l.g,λx fi e=>by refine jW e λes m1 m2=>?_;refine bd (l.k x fi es) λc1=>?_;exact dn λG g ok=>sTup (c1 G g ok)⟩
def bt (l:KA):KE:=⟨Mine.bt l.c,l.g,λx fi e=>by refine Ci e λes m1=>?_;refine bd (l.k x fi es) λc1=>?_;exact dn λG g ok=>sLst (c1 G g ok)⟩
def bU (a:KE) (b:KE):KE:=⟨Mine.bU a.c b.c,a.g&&b.g,λx fi e=>by refine dQ e λu v m1=>?_;refine bd (a.k x fi u) λc1=>?_;refine bd (b.k x fi v) λc2=>?_;exact dn λG g ok=>zIx (c1 G (g2 g).1 ok) (c2 G (g2 g).2 ok)⟩
def l6 (a:KE) (b:KE) (d:KE):KE:=⟨Mine.l6 a.c b.c d.c,a.g&&(b.g&&d.g),λx fi e=>by refine dQ e λu n1 m2=>?_;refine qC n1 (P:=λn1=>HJ (SE) (a.g&&(b.g&&d.g)) x fi (Mine.l6 a.c b.c d.c) ((.Subscript u n1 m2))) λn3 n4 n5 m6=>?_;refine gZ n3 (P:=λn3=>HJ (SE) (a.g&&(b.g&&d.g)) x fi (Mine.l6 a.c b.c d.c) ((.Subscript u (.Slice n3 n4 n5 m6) m2))) λv=>?_;refine gZ n4 (P:=λn4=>HJ (SE) (a.g&&(b.g&&d.g)) x fi (Mine.l6 a.c b.c d.c) ((.Subscript u (.Slice (some v) n4 n5 m6) m2))) λt=>?_;refine lM n5 (P:=λn5=>HJ (SE) (a.g&&(b.g&&d.g)) x fi (Mine.l6 a.c b.c d.c) ((.Subscript u (.Slice (some v) (some t) n5 m6) m2))) ?_;refine bd (a.k x fi u) λc1=>?_;refine bd (b.k x fi v) λc2=>?_;refine bd (d.k x fi t) λc3=>?_;exact dn λG g ok=>zCut (c1 G (g2 g).1 ok) (c2 G (g2 (g2 g).2).1 ok) (c3 G (g2 (g2 g).2).2 ok)⟩
def fa (a:KE) (b:KE):KE:=⟨Mine.fa a.c b.c,a.g&&b.g,λx fi e=>by refine dQ e λu n1 m2=>?_;refine qC n1 (P:=λn1=>HJ (SE) (a.g&&b.g) x fi (Mine.fa a.c b.c) ((.Subscript u n1 m2))) λn3 n4 n5 m6=>?_;refine gZ n3 (P:=λn3=>HJ (SE) (a.g&&b.g) x fi (Mine.fa a.c b.c) ((.Subscript u (.Slice n3 n4 n5 m6) m2))) λv=>?_;refine lM n4 (P:=λn4=>HJ (SE) (a.g&&b.g) x fi (Mine.fa a.c b.c) ((.Subscript u (.Slice (some v) n4 n5 m6) m2))) ?_;refine lM n5 (P:=λn5=>HJ (SE) (a.g&&b.g) x fi (Mine.fa a.c b.c) ((.Subscript u (.Slice (some v) none n5 m6) m2))) ?_;refine bd (a.k x fi u) λc1=>?_;refine bd (b.k x fi v) λc2=>?_;exact dn λG g ok=>BV (c1 G (g2 g).1 ok) (c2 G (g2 g).2 ok)⟩
def ew (a:KE) (b:KE):KE:=⟨Mine.ew a.c b.c,a.g&&b.g,λx fi e=>by refine dQ e λu n1 m2=>?_;refine qC n1 (P:=λn1=>HJ (SE) (a.g&&b.g) x fi (Mine.ew a.c b.c) ((.Subscript u n1 m2))) λn3 n4 n5 m6=>?_;refine lM n3 (P:=λn3=>HJ (SE) (a.g&&b.g) x fi (Mine.ew a.c b.c) ((.Subscript u (.Slice n3 n4 n5 m6) m2))) ?_;refine gZ n4 (P:=λn4=>HJ (SE) (a.g&&b.g) x fi (Mine.ew a.c b.c) ((.Subscript u (.Slice none n4 n5 m6) m2))) λv=>?_;refine lM n5 (P:=λn5=>HJ (SE) (a.g&&b.g) x fi (Mine.ew a.c b.c) ((.Subscript u (.Slice none (some v) n5 m6) m2))) ?_;refine bd (a.k x fi u) λc1=>?_;refine bd (b.k x fi v) λc2=>?_;exact dn λG g ok=>BW (c1 G (g2 g).1 ok) (c2 G (g2 g).2 ok)⟩
def dJ (t:KT) (a:KE) (b:KE):KE:=⟨Mine.dJ t.c a.c b.c,t.g&&(a.g&&b.g),λx fi e=>by refine zJ e λr u v m1=>?_;refine bd (t.k x fi r) λc1=>?_;refine bd (a.k x fi u) λc2=>?_;refine bd (b.k x fi v) λc3=>?_;exact dn λG g ok=>sIte (c1 G (g2 g).1 ok) (c2 G (g2 (g2 g).2).1 ok) (c3 G (g2 (g2 g).2).2 ok)⟩
def gG  : KE:=⟨Mine.gG,true,λx fi e=>by refine uS e λn1 n2 m3=>?_;refine bS n1 (P:=λn1=>HJ (SE) true x fi Mine.gG ((.Dict n1 n2 m3))) ?_;refine bS n2 (P:=λn2=>HJ (SE) true x fi Mine.gG ((.Dict [] n2 m3))) ?_;exact dn λG g ok=>BJ⟩
noncomputable def ai (cp:KC) (b:KE):KQ:=⟨Mine.ai cp.c b.c,b.g,λx fi o e=>by refine aU o (P:=λo=>HY (SQ) b.g x fi (Mine.ai cp.c b.c) o e) λp n1=>?_;refine bS n1 (P:=λn1=>HY (SQ) b.g x fi (Mine.ai cp.c b.c) ((p::n1)) e) ?_;refine aU e (P:=λe=>HY (SQ) b.g x fi (Mine.ai cp.c b.c) ((p::[])) e) λu n2=>?_;refine bS n2 (P:=λn2=>HY (SQ) b.g x fi (Mine.ai cp.c b.c) ((p::[])) ((u::n2))) ?_;refine bd (cp.k p) λc1=>?_;refine bd (b.k x fi u) λc2=>?_;exact dn λG g ok=>Bs (c1 G.GS) (c2 G g ok)⟩
def fQ (cp:KC) (b:KE) (q:KQ):KQ:=⟨Mine.fQ cp.c b.c q.c,b.g&&q.g,λx fi o e=>by refine aU o (P:=λo=>HY (SQ) (b.g&&q.g) x fi (Mine.fQ cp.c b.c q.c) o e) λp n1=>?_;refine aU n1 (P:=λn1=>HY (SQ) (b.g&&q.g) x fi (Mine.fQ cp.c b.c q.c) ((p::n1)) e) λp2 ps=>?_;refine aU e (P:=λe=>HY (SQ) (b.g&&q.g) x fi (Mine.fQ cp.c b.c q.c) ((p::(p2::ps))) e) λu n2=>?_;refine aU n2 (P:=λn2=>HY (SQ) (b.g&&q.g) x fi (Mine.fQ cp.c b.c q.c) ((p::(p2::ps))) ((u::n2))) λv r=>?_;refine bd (cp.k p) λc1=>?_;refine bd (b.k x fi u) λc2=>?_;refine bd (q.k x fi (p2::ps) (v::r)) λc3=>?_;exact dn λG g ok=>yQ (c1 G.GS) (c2 G (g2 g).1 ok) (c3 G (g2 g).2 ok)⟩
noncomputable def aD (a:KE) (q:KQ):KT:=⟨Mine.aD a.c q.c,a.g&&q.g,λx fi e=>by refine o6 e λu os es m1=>?_;refine ck (lastMarks os es==false) λh1=>?_;refine bd (a.k x fi u) λc1=>?_;refine bd (q.k x fi os es) λc2=>?_;exact dn λG g ok=>Bu (c1 G (g2 g).1 ok) (c2 G (g2 g).2 ok) (beq_iff_eq.mp h1)⟩
def eX (a:KE) (q:KQ):KE:=⟨Mine.tQ (Mine.aD a.c q.c),a.g&&q.g,λx fi e=>by refine o6 e λu os es m1=>?_;refine ck (lastMarks os es==false) λh1=>?_;refine bd (a.k x fi u) λc1=>?_;refine bd (q.k x fi os es) λc2=>?_;exact dn λG g ok=>Bt (c1 G (g2 g).1 ok) (c2 G (g2 g).2 ok) (beq_iff_eq.mp h1)⟩
def Bb (a:KE):KE:=⟨Mine.tQ (Mine.bz (Mine.bl a.c)),a.g,λx fi e=>by refine o5 e λn1 u m2=>?_;refine dG n1 .Not (P:=λn1=>HJ (SE) a.g x fi (Mine.tQ (Mine.bz (Mine.bl a.c))) ((.UnaryOp n1 u m2))) ?_;refine bd (a.k x fi u) λc1=>?_;exact dn λG g ok=>sNot (c1 G g ok)⟩
def bz (t:KT):KT:=⟨Mine.bz t.c,t.g,λx fi e=>by refine o5 e λn1 u m2=>?_;refine dG n1 .Not (P:=λn1=>HJ (Mine.ST) t.g x fi (Mine.bz t.c) ((.UnaryOp n1 u m2))) ?_;refine bd (t.k x fi u) λc1=>?_;exact dn λG g ok=>Bp (c1 G g ok)⟩
noncomputable def bw  : KT:=⟨Mine.bw,true,λx fi e=>by refine fM e λn1 n2 m3=>?_;refine dG n1 .And (P:=λn1=>HJ (Mine.ST) true x fi Mine.bw ((.BoolOp n1 n2 m3))) ?_;refine bS n2 (P:=λn2=>HJ (Mine.ST) true x fi Mine.bw ((.BoolOp .And n2 m3))) ?_;exact dn λG g ok=>Bq⟩
noncomputable def aP  : KT:=⟨Mine.aP,true,λx fi e=>by refine fM e λn1 n2 m3=>?_;refine dG n1 .Or (P:=λn1=>HJ (Mine.ST) true x fi Mine.aP ((.BoolOp n1 n2 m3))) ?_;refine bS n2 (P:=λn2=>HJ (Mine.ST) true x fi Mine.aP ((.BoolOp .Or n2 m3))) ?_;exact dn λG g ok=>yP⟩
def bL (t:KT) (u:KT):KT:=⟨Mine.bL t.c u.c,t.g&&u.g,λx fi e=>by refine fM e λn1 n2 ps=>?_;refine dG n1 .Or (P:=λn1=>HJ (Mine.ST) (t.g&&u.g) x fi (Mine.bL t.c u.c) ((.BoolOp n1 n2 ps))) ?_;refine aU n2 (P:=λn2=>HJ (Mine.ST) (t.g&&u.g) x fi (Mine.bL t.c u.c) ((.BoolOp .Or n2 ps))) λa r=>?_;refine bd (t.k x fi a) λc1=>?_;refine bd (u.k x fi (.BoolOp .Or r ps)) λc2=>?_;exact dn λG g ok=>sTor (c1 G (g2 g).1 ok) (c2 G (g2 g).2 ok)⟩
def bh (t:KT) (u:KT):KT:=⟨Mine.bh t.c u.c,t.g&&u.g,λx fi e=>by refine fM e λn1 n2 ps=>?_;refine dG n1 .And (P:=λn1=>HJ (Mine.ST) (t.g&&u.g) x fi (Mine.bh t.c u.c) ((.BoolOp n1 n2 ps))) ?_;refine aU n2 (P:=λn2=>HJ (Mine.ST) (t.g&&u.g) x fi (Mine.bh t.c u.c) ((.BoolOp .And n2 ps))) λa r=>?_;refine bd (t.k x fi a) λc1=>?_;refine bd (u.k x fi (.BoolOp .And r ps)) λc2=>?_;exact dn λG g ok=>Br (c1 G (g2 g).1 ok) (c2 G (g2 g).2 ok)⟩
noncomputable def uT (e:PySem.Expr):Bool:=by cases e with|ListComp=>exact false|SetComp=>exact false|DictComp=>exact false|_=>exact true
noncomputable def uU (e:PySem.Expr):Bool:=by cases e with|UnaryOp=>exact false|BoolOp=>exact false|IfExp=>exact false|Compare=>exact false|_=>exact true
noncomputable def lP (e:PySem.Expr):Bool:=by cases e with|Set=>exact false|_=>exact true
noncomputable def yi (e:PySem.Expr):Bool:=by cases e with|Tuple=>exact false|_=>exact true
theorem m7 {e:PySem.Expr}(h:uT e=true) (t:Option PySem.Expr) (l:Nat) (env:Env):swapsWith e t l env=pure false:=by
 cases e<;>first|rfl|exact nf h
theorem sE {e:PySem.Expr}(h:uU e=true) (env:Env) (whole:Sem Value):PySem.isTrue e env whole=(do
  let v <-whole
  standAt e.pos
  holding [v] (truthy v)):=by
 cases e<;>first|rfl|exact nf h
theorem jY {e:PySem.Expr}(h:lP e=true) (env:Env) (v:Value):foldedSetIterable e env v=pure v:=by
 cases e<;>first|rfl|exact nf h
theorem sF {e:PySem.Expr}(h:uT e=true) (t:PySem.Expr) (l:Nat) (env:Env):swapsWithSole [t] e l env=pure false:=m7 h (some t) l env
theorem uV {e:PySem.Expr}(h:yi e=true) (es:List PySem.Expr) (kd:Nat) (tp:Pos) (env:Env):swappedStores [.Tuple es kd tp] e env=pure none:=by
 cases e<;>first|rfl|exact nf h
theorem swA {e v:PySem.Expr}{y:Str}{p:Pos}{l:Nat}{env:Env}:swapsWith e (some (.Attribute v y p)) l env=pure false:=by cases e<;>rfl
theorem swI {e v t:PySem.Expr}{p:Pos}{l:Nat}{env:Env}:swapsWith e (some (.Subscript v t p)) l env=pure false:=by cases e<;>rfl
def bl (a:KE):KT:=⟨Mine.bl a.c,a.g,λx fi e=>by refine ck (uU e) λh1=>?_;refine bd (a.k x fi e) λc1=>?_;exact dn λG g ok=>sTof (c1 G g ok) λenv w=>sE h1 env w⟩
noncomputable def aj (a:KE):KS:=⟨Mine.aj a.c,a.g,λx fi e=>by refine rG e λn1 m2=>?_;refine gZ n1 (P:=λn1=>HJ (SS) a.g x fi (Mine.aj a.c) ((.Return n1 m2))) λu=>?_;refine bd (a.k x fi u) λc1=>?_;exact dn λG g ok=>BA (c1 G g ok)⟩
noncomputable def iD  : KS:=⟨Mine.iD,true,λx fi e=>by refine rG e λn1 m2=>?_;refine lM n1 (P:=λn1=>HJ (SS) true x fi Mine.iD ((.Return n1 m2))) ?_;exact dn λG g ok=>y0⟩
noncomputable def ar:KS:=⟨Mine.ar,true,λx fi e=>by exact dn λG g ok=>Bz⟩
def ao (p:P4) (a:KE):KS:=⟨Mine.ao p a.c,a.g,λx fi e=>by refine fN e λn1 u m2=>?_;refine aU n1 (P:=λn1=>HJ (SS) a.g x fi (Mine.ao p a.c) ((.Assign n1 u m2))) λn3 n4=>?_;refine dA n3 (P:=λn3=>HJ (SS) a.g x fi (Mine.ao p a.c) ((.Assign (n3::n4) u m2))) λy m5=>?_;refine bS n4 (P:=λn4=>HJ (SS) a.g x fi (Mine.ao p a.c) ((.Assign ((.Name y m5)::n4) u m2))) ?_;refine ck (ix fi p y) λh1=>?_;refine ck (uT u) λh2=>?_;refine bd (a.k x fi u) λc1=>?_;exact dn λG g ok=>zSet h1 (λenv=>m7 h2 _ _ env) (c1 G g ok)⟩
def ae (o:KE) (q:P4) (cl:Nat) (a:KE):KS:=⟨Mine.ae o.c q cl a.c,o.g&&a.g,λx fi e=>by refine fN e λn1 u m2=>?_;refine aU n1 (P:=λn1=>HJ (SS) (o.g&&a.g) x fi (Mine.ae o.c q cl a.c) ((.Assign n1 u m2))) λn3 n4=>?_;refine cG n3 (P:=λn3=>HJ (SS) (o.g&&a.g) x fi (Mine.ae o.c q cl a.c) ((.Assign (n3::n4) u m2))) λv y m5=>?_;refine bS n4 (P:=λn4=>HJ (SS) (o.g&&a.g) x fi (Mine.ae o.c q cl a.c) ((.Assign ((.Attribute v y m5)::n4) u m2))) ?_;refine ck (bY.get q==some y) λh1=>?_;refine ck (oQ cl q) λh2=>?_;refine bd (o.k x fi v) λc1=>?_;refine bd (a.k x fi u) λc2=>?_;exact dn λG g ok=>zr G (beq_iff_eq.mp h1) h2 (λenv=>swA) (c1 G (g2 g).1 ok) (c2 G (g2 g).2 ok)⟩
def cX (o:KE) (i:KE) (a:KE):KS:=⟨Mine.cX o.c i.c a.c,o.g&&(i.g&&a.g),λx fi e=>by refine fN e λn1 u m2=>?_;refine aU n1 (P:=λn1=>HJ (SS) (o.g&&(i.g&&a.g)) x fi (Mine.cX o.c i.c a.c) ((.Assign n1 u m2))) λn3 n4=>?_;refine dQ n3 (P:=λn3=>HJ (SS) (o.g&&(i.g&&a.g)) x fi (Mine.cX o.c i.c a.c) ((.Assign (n3::n4) u m2))) λv t m5=>?_;refine bS n4 (P:=λn4=>HJ (SS) (o.g&&(i.g&&a.g)) x fi (Mine.cX o.c i.c a.c) ((.Assign ((.Subscript v t m5)::n4) u m2))) ?_;refine bd (o.k x fi v) λc1=>?_;refine bd (i.k x fi t) λc2=>?_;refine bd (a.k x fi u) λc3=>?_;exact dn λG g ok=>wy (λenv=>swI) (c1 G (g2 g).1 ok) (c2 G (g2 (g2 g).2).1 ok) (c3 G (g2 (g2 g).2).2 ok)⟩
noncomputable def bo (a:KE):KS:=⟨Mine.bo a.c,a.g,λx fi e=>by refine wExpr e λu m1=>?_;refine ck (uT u) λh1=>?_;refine bd (a.k x fi u) λc1=>?_;exact dn λG g ok=>sSEx (λenv=>m7 h1 _ _ env) (c1 G g ok)⟩
def aE (t:KT) (a:KB) (b:KB):KS:=⟨Mine.aE t.c a.c b.c,t.g&&(a.g&&b.g),λx fi e=>by refine wIf e λr u v m1=>?_;refine bd (t.k x fi r) λc1=>?_;refine bd (a.k x fi u) λc2=>?_;refine bd (b.k x fi v) λc3=>?_;exact dn λG g ok=>sSIf (c1 G (g2 g).1 ok) (c2 G (g2 (g2 g).2).1 ok) (c3 G (g2 (g2 g).2).2 ok)⟩
def gh (t:KT) (b:KB):KS:=⟨Mine.gh t.c b.c,t.g&&b.g,λx fi e=>by refine zK e λr u n1 m2=>?_;refine bS n1 (P:=λn1=>HJ (SS) (t.g&&b.g) x fi (Mine.gh t.c b.c) ((.While r u n1 m2))) ?_;refine bd (t.k x fi r) λc1=>?_;refine bd (b.k x fi u) λc2=>?_;exact dn λG g ok=>wx (c1 G (g2 g).1 ok) (c2 G (g2 g).2 ok)⟩
noncomputable def bN:KB:=⟨Mine.bN,true,λx fi e=>by refine bS e ?_;exact dn λG g ok=>By⟩
def bC (a:KS) (b:KB):KB:=⟨Mine.bC a.c b.c,a.g&&b.g,λx fi e=>by refine aU e λu r=>?_;refine bd (a.k x fi u) λc1=>?_;refine bd (b.k x fi r) λc2=>?_;exact dn λG g ok=>yZ (c1 G (g2 g).1 ok) (c2 G (g2 g).2 ok)⟩
def iC (p:P4) (a:KE):KS:=⟨Mine.iC p (et Nat.add) a.c,a.g,λx fi e=>by refine jX e λn1 n2 u m3=>?_;refine dG n2 .Add (P:=λn2=>HJ (SS) a.g x fi (Mine.iC p (et Nat.add) a.c) ((.AugAssign n1 n2 u m3))) ?_;refine dA n1 (P:=λn1=>HJ (SS) a.g x fi (Mine.iC p (et Nat.add) a.c) ((.AugAssign n1 .Add u m3))) λy m4=>?_;refine ck (ix fi p y) λh1=>?_;refine bd (a.k x fi u) λc1=>?_;exact dn λG g ok=>BS h1 (c1 G g ok)⟩
def jo (o:KE) (q:P4) (cl:Nat) (a:KE):KS:=⟨Mine.jo o.c q cl (et Nat.add) a.c,o.g&&a.g,λx fi e=>by refine jX e λn1 n2 u m3=>?_;refine dG n2 .Add (P:=λn2=>HJ (SS) (o.g&&a.g) x fi (Mine.jo o.c q cl (et Nat.add) a.c) ((.AugAssign n1 n2 u m3))) ?_;refine cG n1 (P:=λn1=>HJ (SS) (o.g&&a.g) x fi (Mine.jo o.c q cl (et Nat.add) a.c) ((.AugAssign n1 .Add u m3))) λv y m4=>?_;refine ck (bY.get q==some y) λh1=>?_;refine ck (oQ cl q) λh2=>?_;refine bd (o.k x fi v) λc1=>?_;refine bd (a.k x fi u) λc2=>?_;exact dn λG g ok=>BU G (beq_iff_eq.mp h1) h2 (c1 G (g2 g).1 ok) (c2 G (g2 g).2 ok)⟩
def nmB (fi:aY) (ps:List P4):∀es:List PySem.Expr,Pf (bO fi ps es):=List.rec (motive:=λps=>∀es:List PySem.Expr,Pf (bO fi ps es)) (λes=>bS es (P:=λes=>bO fi [] es) <| dn .nil) (λp _ ih es=>aU es (P:=λes=>bO fi (p::_) es) λe r=>dA e (P:=λe=>bO fi (p::_) (e::r)) λy _=>ck (ix fi p y) λh1=>bd (ih r) λh2=>dn (zNm h1 h2)) ps
def tgB (fi:aY) (t:Tg) (e:PySem.Expr):Pf (fv fi t e):=Tg.casesOn (motive:=λt=>Pf (fv fi t e)) t (λp=>dA e (P:=λe=>fv fi (.one p) e) λy _=>ck (ix fi p y) λh1=>dn (zTg h1)) (λps=>jW e (P:=λe=>fv fi (.tup ps) e) λes _ _=>bd (nmB fi ps es) λh1=>dn (.tup h1))
def dh (tg:Tg) (a:KE) (b:KB):KS:=⟨Mine.dh tg a.c b.c,a.g&&b.g,λx fi e=>by refine wFor e λt u v n1 m2=>?_;refine bS n1 (P:=λn1=>HJ (SS) (a.g&&b.g) x fi (Mine.dh tg a.c b.c) ((.For t u v n1 m2))) ?_;refine ck (lP u) λh1=>?_;refine bd (tgB fi tg t) λh2=>?_;refine bd (a.k x fi u) λc1=>?_;refine bd (b.k x fi v) λc2=>?_;exact dn λG g ok=>BC G.GS (λenv y=>jY h1 env y) h2 (c1 G (g2 g).1 ok) (c2 G (g2 g).2 ok)⟩
def yj (u:KE) (x:Fx) (fi:aY) (op:BoolOp) (v:PySem.Expr) (r:List PySem.Expr) (ps:Pos):Pf (HJ (SE) u.g x fi u.c (.BoolOp op (v::r) ps)):=List.casesOn (motive:=λr=>Pf (HJ (SE) u.g x fi u.c (.BoolOp op (v::r) ps))) r (bd (u.k x fi v) λc=>dn λG g ok=>sOne (c G g ok)) (λa r=>u.k x fi (.BoolOp op (v::a::r) ps))
def dI (a:KE) (u:KE):KE:=⟨Mine.dI a.c u.c,a.g&&u.g,λx fi e=>by refine fM e λn1 n2 ps=>?_;refine dG n1 .And (P:=λn1=>HJ (SE) (a.g&&u.g) x fi (Mine.dI a.c u.c) ((.BoolOp n1 n2 ps))) ?_;refine aU n2 (P:=λn2=>HJ (SE) (a.g&&u.g) x fi (Mine.dI a.c u.c) ((.BoolOp .And n2 ps))) λv n3=>?_;refine aU n3 (P:=λn3=>HJ (SE) (a.g&&u.g) x fi (Mine.dI a.c u.c) ((.BoolOp .And (v::n3) ps))) λv2 r2=>?_;refine bd (yj u x fi .And v2 r2 ps) λh1=>?_;refine bd (a.k x fi v) λc1=>?_;exact dn λG g ok=>sAnd (c1 G (g2 g).1 ok) (h1 G (g2 g).2 ok)⟩
def rQ (a:KE) (u:KE):KE:=⟨Mine.rQ a.c u.c,a.g&&u.g,λx fi e=>by refine fM e λn1 n2 ps=>?_;refine dG n1 .Or (P:=λn1=>HJ (SE) (a.g&&u.g) x fi (Mine.rQ a.c u.c) ((.BoolOp n1 n2 ps))) ?_;refine aU n2 (P:=λn2=>HJ (SE) (a.g&&u.g) x fi (Mine.rQ a.c u.c) ((.BoolOp .Or n2 ps))) λv n3=>?_;refine aU n3 (P:=λn3=>HJ (SE) (a.g&&u.g) x fi (Mine.rQ a.c u.c) ((.BoolOp .Or (v::n3) ps))) λv2 r2=>?_;refine bd (yj u x fi .Or v2 r2 ps) λh1=>?_;refine bd (a.k x fi v) λc1=>?_;exact dn λG g ok=>sOr (c1 G (g2 g).1 ok) (h1 G (g2 g).2 ok)⟩
structure KM where
 kd:AO->Bool
 m:P4->List AV->H->K1->Bool
 n:Str
 s:∀{w:World}{V:Va}{oh:Heap}{kH:Bool},(oh.get? sysModules).isSome=true->∀{fi:aY}{c:EC}{l:LC}{y:Str}{e:PySem.Expr}{apos pos:Pos}{es:List PySem.Expr},y=n->mS e es apos pos=true->SE w V oh kH fi c e->SL w V oh kH fi l es->SE w V oh kH fi (Mine.aS c kd m l) (.Call (.Attribute e y apos) es [] pos)
structure KF where
 f:List AV->H->K1->Bool
 v:Value
 g:Bool
 t:(∃id,v = .builtin id)∨∃T,v = .type T
 s:∀{w:World}{V:Va}{oh:Heap}{kH:Bool},(oh.get? sysModules).isSome=true->(kH=true->g=true)->jD w V oh kH f v
theorem only {kH:Bool}{P:Bool->Prop}(h:kH=true->false=true) (p:P false):P kH:=by
 cases kH with
 |false=>exact p
 |true=>exact nf (h rfl)
def bJ:KM:=⟨Mine.gE,Mine.bJ,"append",λ{_ _ _ _} GS {_ _ _ _ _ _ _ _} hy hm h1 h2=>fB rh rY PySem.F.plainAttrs_list PySem.F.slot_list_append PySem.F.type_list_append hy hm h1 h2⟩
def nJ:KM:=⟨Mine.gE,Mine.nJ,"pop",λ{_ _ _ _} GS {_ _ _ _ _ _ _ _} hy hm h1 h2=>fB rh wm PySem.F.plainAttrs_list PySem.F.slot_list_pop PySem.F.type_list_pop hy hm h1 h2⟩
def qN:KM:=⟨Mine.gE,Mine.qN,"extend",λ{_ _ _ _} GS {_ _ _ _ _ _ _ _} hy hm h1 h2=>fB rh wo PySem.F.plainAttrs_list PySem.F.slot_list_extend PySem.F.type_list_extend hy hm h1 h2⟩
def gH:KM:=⟨Mine.gE,Mine.gH,"remove",λ{_ _ _ _} GS {_ _ _ _ _ _ _ _} hy hm h1 h2=>fB rh rZ PySem.F.plainAttrs_list PySem.F.slot_list_remove PySem.F.type_list_remove hy hm h1 h2⟩
def nK:KM:=⟨Mine.isD,Mine.nK,"get",λ{_ _ _ _} GS {_ _ _ _ _ _ _ _} hy hm h1 h2=>fB ui (yY GS) PySem.F.plainAttrs_dict PySem.F.slot_dict_get PySem.F.type_dict_get hy hm h1 h2⟩
def qM:KM:=⟨Mine.isD,Mine.qM,"pop",λ{_ _ _ _} GS {_ _ _ _ _ _ _ _} hy hm h1 h2=>fB ui wt PySem.F.plainAttrs_dict PySem.F.slot_dict_pop PySem.F.type_dict_pop hy hm h1 h2⟩
def lh:KM:=⟨Mine.isD,Mine.lh,"pop",λ{_ _ _ _} GS {_ _ _ _ _ _ _ _} hy hm h1 h2=>fB ui wq PySem.F.plainAttrs_dict PySem.F.slot_dict_pop PySem.F.type_dict_pop hy hm h1 h2⟩
def qO:KM:=⟨Mine.isB,Mine.qO,"extend",λ{_ _ _ _} GS {_ _ _ _ _ _ _ _} hy hm h1 h2=>fB kBya wD jG dw iU hy hm h1 h2⟩
def aS (a:KE) (m:KM) (l:KA):KE:=⟨Mine.aS a.c m.kd m.m l.c,a.g&&l.g,λx fi e=>by refine lO e λn1 es n2 ps=>?_;refine cG n1 (P:=λn1=>HJ (SE) (a.g&&l.g) x fi (Mine.aS a.c m.kd m.m l.c) ((.Call n1 es n2 ps))) λu y ap=>?_;refine bS n2 (P:=λn2=>HJ (SE) (a.g&&l.g) x fi (Mine.aS a.c m.kd m.m l.c) ((.Call (.Attribute u y ap) es n2 ps))) ?_;refine ck (y==m.n) λh1=>?_;refine ck (mS u es ap ps) λh2=>?_;refine bd (a.k x fi u) λc1=>?_;refine bd (l.k x fi es) λc2=>?_;exact dn λG g ok=>m.s G.GS (beq_iff_eq.mp h1) h2 (c1 G (g2 g).1 ok) (c2 G (g2 g).2 ok)⟩
def cq:KF:=⟨Mine.cq,.builtin "len",true,.inl ⟨_,rfl⟩,λGS g=>y7⟩
def fk:KF:=⟨Mine.fk,.builtin "min",false,.inl ⟨_,rfl⟩,λGS g=>only (P:=λkH=>jD _ _ _ kH _ _) g y9⟩
def lZ:KF:=⟨Mine.lZ,.builtin "max",false,.inl ⟨_,rfl⟩,λGS g=>only (P:=λkH=>jD _ _ _ kH _ _) g za⟩
def jl:KF:=⟨Mine.jl,.type "int",true,.inr ⟨_,rfl⟩,λGS g=>y8⟩
def dK:KF:=⟨Mine.dK,.type "range",true,.inr ⟨_,rfl⟩,λGS g=>ur⟩
def eN:KF:=⟨Mine.eN,.type "bytes",false,.inr ⟨_,rfl⟩,λGS g=>only (P:=λkH=>jD _ _ _ kH _ _) g uw⟩
def eO:KF:=⟨Mine.eO,.type "bytearray",false,.inr ⟨_,rfl⟩,λGS g=>only (P:=λkH=>jD _ _ _ kH _ _) g mF⟩
def qP:KF:=⟨Mine.qP,.type "dict",false,.inr ⟨_,rfl⟩,λGS g=>only (P:=λkH=>jD _ _ _ kH _ _) g wF⟩
def lj:KF:=⟨Mine.lj,.type "list",false,.inr ⟨_,rfl⟩,λGS g=>only (P:=λkH=>jD _ _ _ kH _ _) g (wG GS)⟩
def gK:KF:=⟨Mine.gK,.builtin "sorted",false,.inl ⟨_,rfl⟩,λGS g=>only (P:=λkH=>jD _ _ _ kH _ _) g (r7 GS)⟩
def v8:KF:=⟨Mine.v8,.builtin "any",false,.inl ⟨_,rfl⟩,λGS g=>only (P:=λkH=>jD _ _ _ kH _ _) g zb⟩
noncomputable def ak (f:KF) (l:KA):KE:=⟨Mine.ak f.f l.c,f.g&&l.g,λx fi e=>by refine lO e λn1 es n2 m3=>?_;refine dA n1 (P:=λn1=>HJ (SE) (f.g&&l.g) x fi (Mine.ak f.f l.c) ((.Call n1 es n2 m3))) λy m4=>?_;refine bS n2 (P:=λn2=>HJ (SE) (f.g&&l.g) x fi (Mine.ak f.f l.c) ((.Call (.Name y m4) es n2 m3))) ?_;refine ck (zk.lookup y==some f.v) λh1=>?_;refine ck (jc fi y) λh2=>?_;refine ck (es.all notStar) λh3=>?_;refine bd (l.k x fi es) λc1=>?_;exact dn λG g ok=>zq G (f.s G.GS (g2 g).1) f.t (beq_iff_eq.mp h1) h2 h3 (c1 G (g2 g).2 ok)⟩
def gnat (o:Option AV) (n:Nat):Pf (o=some (.nat n)):=gZ o (P:=λo=>o=some (.nat n)) λa=>by cases a with|nat m=>exact dG m n (P:=λm=>some (AV.nat m)=some (.nat n)) (dn rfl)|_=>exact no
def gstr (o:Option AV) (n:Nat):Pf (o=some (.o (.str n))):=gZ o (P:=λo=>o=some (.o (.str n))) λa=>by cases a with|o x=>(cases x with|str m=>exact dG m n (P:=λm=>some (AV.o (.str m))=some (.o (.str n))) (dn rfl)|_=>exact no)|_=>exact no
def bH:KE:=⟨Mine.eK .none,true,λx fi e=>by refine eJ e λc k p=>?_;refine dG c Const.none (P:=λc=>HJ (SE) true x fi (Mine.eK .none) (.Constant c k p)) ?_;exact dn λG g ok=>zN⟩
def fD (b:Bool):KE:=⟨Mine.eK (.bool b),true,λx fi e=>by refine eJ e λc k p=>?_;refine dG c (Const.bool b) (P:=λc=>HJ (SE) true x fi (Mine.eK (.bool b)) (.Constant c k p)) ?_;exact dn λG g ok=>zB⟩
def uW:KE:=⟨Mine.eK (.o (.bytes [])),true,λx fi e=>by refine eJ e λc k p=>?_;refine dG c (Const.bytes []) (P:=λc=>HJ (SE) true x fi (Mine.eK (.o (.bytes []))) (.Constant c k p)) ?_;exact dn λG g ok=>zY⟩
def eKf (p:P4):KE:=⟨Mine.eK (.o (.fn p)),true,λx fi e=>by refine dA e λy m1=>?_;refine ck (A7.lookup y==some p) λh1=>?_;refine ck (jc fi y) λh2=>?_;exact dn λG g ok=>zGf G (beq_iff_eq.mp h1) h2⟩
def aq (n:Nat):KE:=⟨Mine.eK (.nat n),true,λx fi e=>or (eJ e λc k p=>dG c (Const.int n) (P:=λc=>HJ (SE) true x fi (Mine.eK (.nat n)) (.Constant c k p)) <| dn λG g ok=>zI rfl) (dA e λy _=>bd (gnat (jR.lookup y) n) λh1=>ck (jc fi y) λh2=>dn λG g ok=>zGc G h1 h2)⟩
def aO (n:Nat):KE:=⟨Mine.eK (.o (.str n)),true,λx fi e=>or (eJ e λc k p=>oStr c (P:=λc=>HJ (SE) true x fi (Mine.eK (.o (.str n))) (.Constant c k p)) λy=>ck (kU[n]? == some y) λh1=>dn λG g ok=>zS G (beq_iff_eq.mp h1)) (dA e λy _=>bd (gstr (jR.lookup y) n) λh1=>ck (jc fi y) λh2=>dn λG g ok=>zGc G h1 h2)⟩
def bT (ps:List P4) (a:KE):KS:=⟨Mine.bT ps a.c,a.g,λx fi e=>by refine fN e λn1 u m2=>?_;refine aU n1 (P:=λn1=>HJ (SS) a.g x fi (Mine.bT ps a.c) ((.Assign n1 u m2))) λn3 n4=>?_;refine jW n3 (P:=λn3=>HJ (SS) a.g x fi (Mine.bT ps a.c) ((.Assign (n3::n4) u m2))) λes m5 m6=>?_;refine bS n4 (P:=λn4=>HJ (SS) a.g x fi (Mine.bT ps a.c) ((.Assign ((.Tuple es m5 m6)::n4) u m2))) ?_;refine ck (uT u) λh1=>?_;refine ck (yi u) λh2=>?_;refine bd (nmB fi ps es) λh3=>?_;refine bd (a.k x fi u) λc1=>?_;exact dn λG g ok=>BD (λenv=>sF h1 _ _ env) (λenv=>uV h2 _ _ _ env) h3 (c1 G g ok)⟩
noncomputable def lQ (p:P4) (q:P4) (a:KE):KS:=⟨Mine.bT [p,q] a.c,a.g,λx fi e=>by refine fN e λn1 n2 m3=>?_;refine aU n1 (P:=λn1=>HJ (SS) a.g x fi (Mine.bT [p,q] a.c) ((.Assign n1 n2 m3))) λn4 n5=>?_;refine jW n4 (P:=λn4=>HJ (SS) a.g x fi (Mine.bT [p,q] a.c) ((.Assign (n4::n5) n2 m3))) λn6 kd tp=>?_;refine aU n6 (P:=λn6=>HJ (SS) a.g x fi (Mine.bT [p,q] a.c) ((.Assign ((.Tuple n6 kd tp)::n5) n2 m3))) λn7 n8=>?_;refine dA n7 (P:=λn7=>HJ (SS) a.g x fi (Mine.bT [p,q] a.c) ((.Assign ((.Tuple (n7::n8) kd tp)::n5) n2 m3))) λya pa=>?_;refine aU n8 (P:=λn8=>HJ (SS) a.g x fi (Mine.bT [p,q] a.c) ((.Assign ((.Tuple ((.Name ya pa)::n8) kd tp)::n5) n2 m3))) λn9 n10=>?_;refine dA n9 (P:=λn9=>HJ (SS) a.g x fi (Mine.bT [p,q] a.c) ((.Assign ((.Tuple ((.Name ya pa)::(n9::n10)) kd tp)::n5) n2 m3))) λyb pb=>?_;refine bS n10 (P:=λn10=>HJ (SS) a.g x fi (Mine.bT [p,q] a.c) ((.Assign ((.Tuple ((.Name ya pa)::((.Name yb pb)::n10)) kd tp)::n5) n2 m3))) ?_;refine bS n5 (P:=λn5=>HJ (SS) a.g x fi (Mine.bT [p,q] a.c) ((.Assign ((.Tuple ((.Name ya pa)::((.Name yb pb)::[])) kd tp)::n5) n2 m3))) ?_;refine jW n2 (P:=λn2=>HJ (SS) a.g x fi (Mine.bT [p,q] a.c) ((.Assign ((.Tuple ((.Name ya pa)::((.Name yb pb)::[])) kd tp)::[]) n2 m3))) λn11 kd2 vp=>?_;refine aU n11 (P:=λn11=>HJ (SS) a.g x fi (Mine.bT [p,q] a.c) ((.Assign ((.Tuple ((.Name ya pa)::((.Name yb pb)::[])) kd tp)::[]) (.Tuple n11 kd2 vp) m3))) λu n12=>?_;refine aU n12 (P:=λn12=>HJ (SS) a.g x fi (Mine.bT [p,q] a.c) ((.Assign ((.Tuple ((.Name ya pa)::((.Name yb pb)::[])) kd tp)::[]) (.Tuple (u::n12) kd2 vp) m3))) λv n13=>?_;refine bS n13 (P:=λn13=>HJ (SS) a.g x fi (Mine.bT [p,q] a.c) ((.Assign ((.Tuple ((.Name ya pa)::((.Name yb pb)::[])) kd tp)::[]) (.Tuple (u::(v::n13)) kd2 vp) m3))) ?_;refine ck (swS fi p q ya yb pa pb u v) λh1=>?_;refine bd (a.k x fi (.Tuple [u,v] kd2 vp)) λc1=>?_;exact dn λG g ok=>zv (λenv=>rfl) h1 (c1 G g ok)⟩
noncomputable def iR:KD:=⟨Mine.iR,true,λx fi o e=>by refine bS o (P:=λo=>HY (pL) true x fi Mine.iR o e) ?_;refine bS e (P:=λe=>HY (pL) true x fi Mine.iR [] e) ?_;exact dn λG g ok=>.nil⟩
def bu (a b:KE) (d:KD):KD:=⟨Mine.bu a.c b.c d.c,a.g&&(b.g&&d.g),λx fi o e=>by refine aU o (P:=λo=>HY (pL) (a.g&&(b.g&&d.g)) x fi (Mine.bu a.c b.c d.c) o e) λko kr=>?_;refine gZ ko (P:=λko=>HY (pL) (a.g&&(b.g&&d.g)) x fi (Mine.bu a.c b.c d.c) (ko::kr) e) λke=>?_;refine aU e (P:=λe=>HY (pL) (a.g&&(b.g&&d.g)) x fi (Mine.bu a.c b.c d.c) (some ke::kr) e) λv vr=>?_;refine bd (a.k x fi ke) λc1=>?_;refine bd (b.k x fi v) λc2=>?_;refine bd (d.k x fi kr vr) λc3=>?_;exact dn λG g ok=>.cons (c1 G (g2 g).1 ok) (c2 G (g2 (g2 g).2).1 ok) (c3 G (g2 (g2 g).2).2 ok)⟩
def ku (d:KD):KE:=⟨Mine.ku d.c,d.g,λx fi e=>uS e λks vs _=>bd (d.k x fi ks vs) λc1=>or (ck (ks.length==18) λq=>dn λG g ok=>BL G.GS (c1 G g ok) (beq_iff_eq.mp q)) (ck (Nat.blt 0 ks.length) λq1=>ck (Nat.ble ks.length 15) λq2=>dn λG g ok=>sDic (c1 G g ok) (λz=>by subst z;exact nf q1) (Nat.le_of_ble_eq_true q2))⟩
def yk  : KE:=⟨Mine.ku Mine.iR,true,λx fi e=>by refine uS e λn1 n2 m3=>?_;refine bS n1 (P:=λn1=>HJ (SE) true x fi (Mine.ku Mine.iR) ((.Dict n1 n2 m3))) ?_;refine bS n2 (P:=λn2=>HJ (SE) true x fi (Mine.ku Mine.iR) ((.Dict [] n2 m3))) ?_;exact dn λG g ok=>BK⟩
def zM:KI:=⟨Mine.bw,true,λx fi e=>by refine bS e ?_;exact dn λG g ok=>.none⟩
def iOn (t:KT):KI:=⟨t.c,t.g,λx fi e=>by refine aU e λa r=>?_;refine bS r (P:=λr=>HJ (eG) t.g x fi t.c (a::r)) ?_;refine bd (t.k x fi a) λc1=>?_;exact dn λG g ok=>.one (c1 G g ok)⟩
def oGen (l:List Comprehension){P:List Comprehension->Prop}(k:∀t i c,Pf (P [⟨t,i,c,0⟩])):Pf (P l):=aU l (P:=P) λg r=>bS r (P:=λr=>P (g::r)) <| by
 obtain⟨t,i,c,n⟩:=g
 exact dG n 0 (P:=λn=>P [⟨t,i,c,n⟩]) (k t i c)
abbrev cT (fi:aY) (bE:hZ) (tg:Tg) (t:PySem.Expr):Tr Str:=jQ fi bE (uG tg t .lf)
abbrev cF (fi:aY) (bE:hZ) (tg:Tg) (t:PySem.Expr) (sc:Scope) (hi:aW (cT fi bE tg t).vals=true):aY:=mQ fi (cT fi bE tg t) sc hi
section
variable {w:World}{V:Va}{oh:Heap}{mg mb:Str->Option Value}{kH:Bool}{tg:Tg}{bE:hZ}{T:Tr Str}{sf:Scope}{fi:aY}{t i elt:PySem.Expr}{cs:List PySem.Expr}{sc:Scope}{ps:Pos}{hi:aW (cT fi bE tg t).vals=true}{c ce:EC}{cond:TC}
theorem zO (G:Gl w V oh mg mb) (o:(Fx.fn T sf).Ok fi) (h1:lP i=true) (h2:iN T fi (cT fi bE tg t) sc bE=true) (h3:fv (cF fi bE tg t sc hi) tg t) (h4:eG w V oh kH (cF fi bE tg t sc hi) cond cs) (h5:SE w V oh kH fi c i) (h6:SE w V oh kH (cF fi bE tg t sc hi) ce elt):SE w V oh kH fi (Mine.cn tg bE c cond ce) (.ListComp elt [⟨t,i,cs,0⟩] sc ps):=by
 obtain⟨hT,rfl⟩:=o
 exact BX G (λenv y=>jY h1 env y) hi h2 h3 h4 h5 h6
theorem w9 {p:P4}{y:Str}{np sp:Pos}(G:Gl w V oh mg mb) (o:(Fx.fn T sf).Ok fi) (k1:ix fi p y=true) (k2:BY fi y np ps sc=true) (h1:lP i=true) (h2:iN T fi (cT fi bE tg t) sc bE=true) (h3:fv (cF fi bE tg t sc hi) tg t) (h4:eG w V oh kH (cF fi bE tg t sc hi) cond cs) (h5:SE w V oh kH fi c i) (h6:SE w V oh kH (cF fi bE tg t sc hi) ce elt):SS w V oh kH fi (Mine.ao p (Mine.cn tg bE c cond ce)) (.Assign [.Name y np] (.ListComp elt [⟨t,i,cs,0⟩] sc ps) sp):=by
 obtain⟨hT,rfl⟩:=o
 exact zu G k1 k2 (λenv y=>jY h1 env y) hi h2 h3 h4 h5 h6
end
def cp (tg:Tg) (bE:hZ) (c:KE) (d:KI) (a:KE) (x:Fx) (fi:aY) (e:PySem.Expr){P:Fx->PySem.Expr->Prop}
  (k:∀T sf elt t i cs sc ps hi,lP i=true->iN T fi (cT fi bE tg t) sc bE=true->fv (cF fi bE tg t sc hi) tg t->HJ (eG) d.g .ot (cF fi bE tg t sc hi) d.c cs->HJ (SE) c.g (.fn T sf) fi c.c i->HJ (SE) a.g .ot (cF fi bE tg t sc hi) a.c elt->Pf (P (.fn T sf) (.ListComp elt [⟨t,i,cs,0⟩] sc ps))):Pf (P x e):=
 sD e (P:=λe=>P x e) λelt gs sc ps=>oGen gs (P:=λgs=>P x (.ListComp elt gs sc ps)) λt i cs=>oFx x (P:=λx=>P x (.ListComp elt [⟨t,i,cs,0⟩] sc ps)) λT sf=>ck (aW (cT fi bE tg t).vals) λhi=>ck (lP i) λh1=>ck (iN T fi (cT fi bE tg t) sc bE) λh2=>bd (tgB (cF fi bE tg t sc hi) tg t) λh3=>bd (d.k .ot (cF fi bE tg t sc hi) cs) λh4=>bd (c.k (.fn T sf) fi i) λh5=>bd (a.k .ot (cF fi bE tg t sc hi) elt) λh6=>k T sf elt t i cs sc ps hi h1 h2 h3 h4 h5 h6
def cn (tg:Tg) (bE:hZ) (c:KE) (d:KI) (a:KE):KE:=⟨Mine.cn tg bE c.c d.c a.c,c.g&&(d.g&&a.g),λx fi e=>by refine cp tg bE c d a x fi e (P:=λx e=>HJ (SE) (c.g&&(d.g&&a.g)) x fi (Mine.cn tg bE c.c d.c a.c) e) λ_ _ _ _ _ _ _ _ _ h1 h2 h3 h4 h5 h6=>?_;exact dn λG g ok=>zO G ok h1 h2 h3 (h4 G (g2 (g2 g).2).1 trivial) (h5 G (g2 g).1 ok) (h6 G (g2 (g2 g).2).2 trivial)⟩
def ym (p:P4) (tg:Tg) (bE:hZ) (c:KE) (d:KI) (a:KE):KS:=⟨Mine.ao p (Mine.cn tg bE c.c d.c a.c),c.g&&(d.g&&a.g),λx fi e=>by refine fN e λts u q=>?_;refine aU ts (P:=λts=>HJ (SS) (c.g&&(d.g&&a.g)) x fi (Mine.ao p (Mine.cn tg bE c.c d.c a.c)) (.Assign ts u q)) λn r=>?_;refine bS r (P:=λr=>HJ (SS) (c.g&&(d.g&&a.g)) x fi (Mine.ao p (Mine.cn tg bE c.c d.c a.c)) (.Assign (n::r) u q)) ?_;refine dA n (P:=λn=>HJ (SS) (c.g&&(d.g&&a.g)) x fi (Mine.ao p (Mine.cn tg bE c.c d.c a.c)) (.Assign [n] u q)) λy np=>?_;refine ck (ix fi p y) λk1=>?_;refine cp tg bE c d a x fi u (P:=λx u=>HJ (SS) (c.g&&(d.g&&a.g)) x fi (Mine.ao p (Mine.cn tg bE c.c d.c a.c)) (.Assign [.Name y np] u q)) λ_ _ _ _ _ _ sc ps _ h1 h2 h3 h4 h5 h6=>?_;refine ck (BY fi y np ps sc) λk2=>?_;exact dn λG g ok=>w9 G ok k1 k2 h1 h2 h3 (h4 G (g2 (g2 g).2).1 trivial) (h5 G (g2 g).1 ok) (h6 G (g2 (g2 g).2).2 trivial)⟩
end K
end
section
noncomputable abbrev Z1:P4:=.a .e
noncomputable abbrev Z2:P4:=.b .e
noncomputable abbrev Z3:P4:=.c .e
noncomputable abbrev Z4:P4:=.d .e
abbrev Z5:P4:=.a Z1
abbrev Z6:P4:=.a Z2
abbrev Z7:P4:=.a Z3
abbrev Z8:P4:=.a Z4
abbrev Z9:P4:=.b Z1
abbrev kY:P4:=.b Z2
abbrev fX:P4:=.b Z3
abbrev iY:P4:=.b Z4
abbrev pO:P4:=.c Z1
abbrev j9:P4:=.c Z2
abbrev nF:P4:=.c Z3
abbrev o7:P4:=.c Z4
abbrev lR:P4:=.d Z1
abbrev nG:P4:=.d Z2
abbrev pP:P4:=.d Z3
abbrev lS:P4:=.d Z4
abbrev hO:P4:=.a Z5
abbrev iZ:P4:=.a Z6
abbrev jh:P4:=.a Z7
abbrev tj:P4:=.a Z8
abbrev rH:P4:=.a Z9
abbrev tn:P4:=.a kY
abbrev sH:P4:=.a fX
abbrev rI:P4:=.a iY
abbrev qD:P4:=.a pO
abbrev Cj:P4:=.a j9
abbrev xd:P4:=.a nF
abbrev tr:P4:=.a o7
abbrev Bc:P4:=.a lR
abbrev uX:P4:=.a nG
abbrev tw:P4:=.a pP
abbrev sI:P4:=.a lS
abbrev vR:P4:=.b Z5
abbrev tx:P4:=.b Z6
abbrev uY:P4:=.b Z7
abbrev nH:P4:=.b Z8
abbrev uZ:P4:=.b Z9
abbrev o8:P4:=.b kY
abbrev vS:P4:=.b fX
abbrev vU:P4:=.b iY
abbrev u9:P4:=.b pO
abbrev tF:P4:=.b j9
abbrev tG:P4:=.b nF
abbrev zQ:P4:=.b o7
abbrev pQ:P4:=.b lR
abbrev vb:P4:=.b nG
abbrev qE:P4:=.b pP
abbrev xe:P4:=.b lS
abbrev kf:P4:=.c Z5
abbrev vc:P4:=.c Z6
abbrev yn:P4:=.c Z7
abbrev sJ:P4:=.c Z8
abbrev vV:P4:=.c Z9
abbrev Be:P4:=.c kY
abbrev vd:P4:=.c fX
abbrev xf:P4:=.c iY
abbrev yo:P4:=.c pO
abbrev yp:P4:=.c j9
abbrev yq:P4:=.c nF
abbrev xg:P4:=.c o7
abbrev Ck:P4:=.c lR
abbrev Cm:P4:=.c nG
abbrev yr:P4:=.c pP
abbrev zR:P4:=.c lS
abbrev yt:P4:=.d Z5
abbrev vW:P4:=.d Z6
abbrev yu:P4:=.d Z7
abbrev Z72:P4:=.d Z8
abbrev yw:P4:=.d Z9
abbrev yx:P4:=.d kY
abbrev fO:P4:=.d fX
abbrev vf:P4:=.d iY
abbrev yy:P4:=.d pO
abbrev Z78:P4:=.d j9
abbrev zU:P4:=.d nF
abbrev yz:P4:=.d o7
abbrev Z81:P4:=.d lR
abbrev yA:P4:=.d nG
abbrev Bf:P4:=.d pP
abbrev zV:P4:=.d lS
abbrev Cn:P4:=.a hO
abbrev Co:P4:=.a iZ
abbrev Cp:P4:=.a jh
abbrev vX:P4:=.a tj
abbrev Cq:P4:=.a rH
abbrev tH:P4:=.a tn
abbrev Z91:P4:=.a sH
abbrev xh:P4:=.a rI
abbrev Cr:P4:=.a qD
abbrev Cs:P4:=.a Cj
abbrev Bg:P4:=.a xd
abbrev Ct:P4:=.a tr
abbrev Cv:P4:=.a Bc
abbrev Z98:P4:=.a uX
abbrev zW:P4:=.a tw
abbrev xi:P4:=.a sI
abbrev xj:P4:=.a vR
abbrev sN:P4:=.a tx
abbrev kZ:P4:=.a uY
abbrev xm:P4:=.a nH
abbrev xn:P4:=.a uZ
abbrev xo:P4:=.a o8
abbrev vg:P4:=.a vS
abbrev sO:P4:=.a vU
abbrev xp:P4:=.a u9
abbrev xq:P4:=.a tF
abbrev sP:P4:=.a tG
abbrev xr:P4:=.a zQ
abbrev vh:P4:=.a pQ
abbrev vi:P4:=.a vb
abbrev Z115:P4:=.a qE
abbrev zX:P4:=.a xe
abbrev xt:P4:=.a kf
abbrev zZ:P4:=.a vc
abbrev xu:P4:=.a yn
abbrev z0:P4:=.a sJ
abbrev o9:P4:=.a vV
abbrev xw:P4:=.a Be
abbrev k8:P4:=.a vd
abbrev vj:P4:=.a xf
abbrev z6:P4:=.a yo
abbrev z7:P4:=.a yp
abbrev z8:P4:=.a yq
abbrev z9:P4:=.a xg
abbrev Aa:P4:=.a Ck
abbrev Ab:P4:=.a Cm
abbrev Ac:P4:=.a yr
abbrev Ad:P4:=.a zR
abbrev sQ:P4:=.a yt
abbrev Ae:P4:=.a vW
abbrev Af:P4:=.a yu
abbrev Cw:P4:=.a Z72
abbrev Cy:P4:=.a yw
abbrev pg:P4:=.a yx
abbrev xx:P4:=.a fO
abbrev Ag:P4:=.a vf
abbrev Ah:P4:=.a yy
abbrev Cz:P4:=.a Z78
abbrev Ai:P4:=.a zU
abbrev CB:P4:=.a yz
abbrev Aj:P4:=.a Z81
abbrev xy:P4:=.a yA
abbrev CC:P4:=.a Bf
abbrev xB:P4:=.a zV
abbrev CD:P4:=.b hO
abbrev Z150:P4:=.b iZ
abbrev CE:P4:=.b jh
abbrev CH:P4:=.b tj
abbrev CI:P4:=.b rH
abbrev Ak:P4:=.b tn
abbrev CJ:P4:=.b sH
abbrev Al:P4:=.b rI
abbrev Am:P4:=.b qD
abbrev An:P4:=.b Cj
abbrev CL:P4:=.b xd
abbrev CM:P4:=.b tr
abbrev Ao:P4:=.b Bc
abbrev Z162:P4:=.b uX
abbrev Ap:P4:=.b tw
abbrev CN:P4:=.b sI
abbrev Aq:P4:=.b vR
abbrev sR:P4:=.b tx
abbrev CQ:P4:=.b uY
abbrev CR:P4:=.b nH
abbrev CS:P4:=.b uZ
abbrev CT:P4:=.b o8
abbrev CU:P4:=.b vS
abbrev CV:P4:=.b vU
abbrev Ar:P4:=.b u9
abbrev As:P4:=.b tF
abbrev pj:P4:=.b tG
abbrev CW:P4:=.b zQ
abbrev xD:P4:=.b pQ
abbrev Au:P4:=.b vb
abbrev qF:P4:=.b qE
abbrev CX:P4:=.b xe
abbrev sT:P4:=.b kf
abbrev Z182:P4:=.b vc
abbrev Av:P4:=.b yn
abbrev Aw:P4:=.b sJ
abbrev sU:P4:=.b vV
abbrev sV:P4:=.b Be
abbrev k9:P4:=.b vd
abbrev vk:P4:=.b xf
abbrev Ax:P4:=.b yo
abbrev CY:P4:=.b yp
abbrev Ay:P4:=.b yq
abbrev vm:P4:=.b xg
abbrev CZ:P4:=.b Ck
abbrev C3:P4:=.b Cm
abbrev C4:P4:=.b yr
abbrev C5:P4:=.b zR
abbrev Az:P4:=.b yt
abbrev vo:P4:=.b vW
abbrev C6:P4:=.b yu
abbrev xF:P4:=.b Z72
abbrev C7:P4:=.b yw
abbrev m8:P4:=.b yx
abbrev AA:P4:=.b fO
abbrev AB:P4:=.b vf
abbrev AD:P4:=.b yy
abbrev Z206:P4:=.b Z78
structure Fb (w:World) (V:Va) (oh:Heap) (kH:Bool) (d:aC) (b:SC) (hT:aW d.T.vals=true):Prop where
 sb:SB w V oh kH (bR d.T (aX d.st) hT) b (bodyOf d.st)
set_option genInjectivity false
set_option genSizeOf false
structure aF where
 d:aC
 b:KB
 v:aW d.T.vals=true:=by kernel_rfl
 z:(b.k (.fn d.T (aX d.st)) (bR d.T (aX d.st) v) (bodyOf d.st)).b=true:=by kernel_rfl
theorem aF.ok {w:World}{V:Va}{oh:Heap}{mg mb:Str->Option Value}{kH:Bool}(X:aF) (g:kH=true->X.b.g=true) (G:Gl w V oh mg mb):Fb w V oh kH X.d X.b.c X.v:=⟨X.b.s G g pN X.z⟩
inductive rJ where
 |py (X:aF)
 |tk
 |pl
def dgt (n:Nat) (p:P4):P4:=Bool.rec (motive:=λ_=>P4) (Bool.rec (motive:=λ_=>P4) (Bool.rec (motive:=λ_=>P4) (.d p) (.c p) (Nat.beq n 2)) (.b p) (Nat.beq n 1)) (.a p) (Nat.beq n 0)
def pl (n:Nat):P4:=Nat.rec (motive:=λ_=>Nat->P4->P4) (λ_ p=>p) (λ_ ih n p=>Bool.rec (motive:=λ_=>P4) (ih (Nat.div (Nat.pred n) 4) (dgt (Nat.mod (Nat.pred n) 4) p)) p (Nat.beq n 0)) 6 n .e
def trN (l:List Str):Nat->Tr Str:=List.rec (motive:=λ_=>Nat->Tr Str) (λ_=>.lf) (λx _ ih n=>Tr.set x (pl n) (ih (Nat.succ n))) l
def psN (k:Nat):Nat->List PD:=Nat.rec (motive:=λ_=>Nat->List PD) (λ_=>[]) (λ_ ih n=>.mk (pl n) none::ih (Nat.succ n)) k
def tkN (l:List Str):Nat->List Str:=List.rec (motive:=λ_=>Nat->List Str) (λ_=>[]) (λx _ ih n=>Bool.rec (motive:=λ_=>List Str) (x::ih (Nat.pred n)) [] (Nat.beq n 0)) l
noncomputable def dn (c:uH) (l:List Str) (k:Nat) (s:Stmt):aC:=⟨c,trN l 0,psN k 0,tkN l k,s⟩
def d0:aC:=dn (.ay 0 "__init__") ["self","message"] 2 (ax 2 0)
def d1:aC:=dn (.ay 7 "__init__") ["self","first","last"] 3 (ax 11 0)
def d2:aC:=dn (.ay 7 "is_taken") ["self","number"] 2 (ax 11 1)
def d3:aC:=⟨.ay 7 "take",(.nd (some "self") (L1 "number") .lf .lf .lf),[.mk .e none,.mk Z1 (some (.nat 0))],["self","number"],(ax 11 2)⟩
def d4:aC:=dn (.ay 7 "next_free") ["self","number","turn"] 1 (ax 11 3)
def d5:aC:=dn (.ay 7 "behind") ["self","number"] 2 (ax 11 4)
def d6:aC:=dn (.ay 7 "free") ["self","number"] 2 (ax 11 5)
def d7:aC:=dn (.ay 8 "__init__") ["self","delay"] 2 (ax 14 0)
def d8:aC:=⟨.ay 8 "on_octets",(.nd (some "self") (L1 "in_order") (L1 "now") (L1 "has_holes") (L1 "filled")),[.mk .e none,.mk Z1 none,.mk Z2 none,.mk Z3 (some (.bool false))],["self","in_order","now","has_holes"],(ax 14 1)⟩
def d9:aC:=dn (.ay 8 "at_once") ["self"] 1 (ax 14 2)
def d10:aC:=dn (.ay 8 "is_due") ["self","now"] 2 (ax 14 3)
def d11:aC:=dn (.ay 8 "on_sent") ["self"] 1 (ax 14 4)
def d12:aC:=dn (.ay 8 "due_time") ["self"] 1 (ax 14 5)
def d13:aC:=dn (.ay 9 "__init__") ["self","mss","first","most"] 4 (ax 17 0)
def d14:aC:=dn (.ay 9 "window") ["self"] 1 (ax 17 1)
def d15:aC:=dn (.ay 9 "grow") ["self","octets"] 2 (ax 17 2)
def d16:aC:=dn (.ay 9 "halved") ["self","flight","half"] 2 (ax 17 3)
def d17:aC:=dn (.ay 9 "acked") ["self","octets"] 2 (ax 17 4)
def d18:aC:=dn (.ay 9 "slow_start") ["self","octets","most"] 2 (ax 17 5)
def d19:aC:=dn (.ay 9 "duplicate") ["self","flight"] 2 (ax 17 7)
def d20:aC:=dn (.ay 9 "timed_out") ["self","flight"] 2 (ax 17 9)
def d21:aC:=dn (.top "plus") ["a","n","ring"] 3 (aT 19)
def d22:aC:=dn (.top "distance") ["a","b","ring"] 3 (aT 20)
def d23:aC:=dn (.top "is_before") ["a","b","ring","gap"] 3 (aT 21)
def d24:aC:=dn (.top "is_at_most") ["a","b","ring"] 3 (aT 22)
def d25:aC:=dn (.top "is_within") ["x","low","size","ring"] 4 (aT 23)
def d26:aC:=dn (.top "latest") ["a","b","ring"] 3 (aT 24)
def d27:aC:=dn (.ay 10 "__init__") ["self","estimate","most_tries"] 3 (ax 27 0)
def d28:aC:=dn (.ay 10 "sent") ["self","seq_end","now"] 3 (ax 27 2)
def d29:aC:=dn (.ay 10 "forget") ["self"] 1 (ax 27 3)
def d30:aC:=dn (.ay 10 "acked") ["self","ack","now","ring","measured"] 4 (ax 27 4)
def d31:aC:=dn (.ay 10 "back_off") ["self"] 1 (ax 27 5)
def d32:aC:=dn (.ay 10 "waited") ["self","ticks","turn"] 1 (ax 27 7)
def d33:aC:=dn (.ay 10 "deadline") ["self","now"] 2 (ax 27 8)
def d34:aC:=dn (.ay 11 "__init__") ["self","first","least","most"] 4 (ax 29 0)
def d35:aC:=dn (.ay 11 "sample") ["self","measured","apart"] 2 (ax 29 1)
def d36:aC:=dn (.ay 11 "plain_timeout") ["self"] 1 (ax 29 3)
def d37:aC:=dn (.ay 11 "timeout") ["self"] 1 (ax 29 4)
def d38:aC:=dn (.ay 11 "bounded") ["self","ticks"] 2 (ax 29 5)
def d39:aC:=dn (.ay 12 "__init__") ["self","room"] 2 (ax 31 0)
def d40:aC:=dn (.ay 12 "size") ["self"] 1 (ax 31 1)
def d41:aC:=dn (.ay 12 "room_left") ["self"] 1 (ax 31 2)
def d42:aC:=dn (.ay 12 "put") ["self","octets","taken"] 2 (ax 31 3)
def d43:aC:=dn (.ay 12 "part") ["self","at","many"] 3 (ax 31 4)
def d44:aC:=dn (.ay 12 "drop") ["self","many"] 2 (ax 31 5)
def d45:aC:=dn (.ay 13 "__init__") ["self","ring"] 2 (ax 33 0)
def d46:aC:=dn (.ay 13 "is_newer") ["self","seq","ack","ahead"] 3 (ax 33 1)
def d47:aC:=dn (.ay 13 "take") ["self","seq","ack","size"] 4 (ax 33 2)
def d48:aC:=dn (.ay 14 "__init__") ["self","iss","ring","mss","room"] 5 (ax 34 0)
def d49:aC:=dn (.prp 14 "window") ["self"] 1 (ax 34 1)
def d50:aC:=dn (.ay 14 "take_window") ["self","seq","ack","window"] 4 (ax 34 2)
def d51:aC:=dn (.ay 14 "put") ["self","octets"] 2 (ax 34 3)
def d52:aC:=dn (.ay 14 "ask_fin") ["self"] 1 (ax 34 4)
def d53:aC:=dn (.ay 14 "flight") ["self"] 1 (ax 34 5)
def d54:aC:=dn (.ay 14 "usable") ["self","congestion_window"] 2 (ax 34 6)
def d55:aC:=dn (.ay 14 "data_sent") ["self"] 1 (ax 34 7)
def d56:aC:=dn (.ay 14 "unsent") ["self"] 1 (ax 34 8)
def d57:aC:=dn (.ay 14 "is_fin_due") ["self","room"] 1 (ax 34 9)
def d58:aC:=dn (.ay 14 "is_fin_acked") ["self"] 1 (ax 34 10)
def d59:aC:=dn (.ay 14 "go_on") ["self","many"] 2 (ax 34 12)
def d60:aC:=dn (.ay 14 "start") ["self"] 1 (ax 34 13)
def d61:aC:=dn (.ay 14 "may_go") ["self","many","is_nagle"] 3 (ax 34 14)
def d62:aC:=⟨.ay 14 "pieces",(.nd (some "self") (L1 "congestion_window") (L1 "is_nagle") (L1 "found") (L1 "many")),[.mk .e none,.mk Z1 none,.mk Z2 (some (.bool true))],["self","congestion_window","is_nagle"],(ax 34 15)⟩
def d63:aC:=dn (.ay 14 "piece_of") ["self","many","congestion_window","seq","octets","is_last","has_fin"] 3 (ax 34 16)
def d64:aC:=dn (.ay 14 "ever_sent") ["self"] 1 (ax 34 17)
def d65:aC:=dn (.ay 14 "first_piece") ["self","many","size","has_fin"] 1 (ax 34 18)
def d66:aC:=dn (.ay 14 "reach") ["self","many"] 2 (ax 34 19)
def d67:aC:=dn (.ay 14 "back_to") ["self","seq"] 2 (ax 34 20)
def d68:aC:=dn (.ay 14 "is_idle_with_more") ["self"] 1 (ax 34 21)
def d69:aC:=dn (.ay 14 "needs_probe") ["self","many"] 1 (ax 34 22)
def d70:aC:=dn (.ay 14 "acked") ["self","ack","many","ahead","is_syn","octets"] 2 (ax 34 24)
def d71:aC:=dn (.top "put16") ["n"] 1 (aT 36)
def d72:aC:=dn (.top "need") ["octets","at","size"] 3 (aT 37)
def d73:aC:=dn (.top "get16") ["octets","at"] 2 (aT 38)
def d74:aC:=⟨.ay 15 "__init__",(.nd (some "self") (.nd (some "source_port") (L1 "flags") (L1 "window") (L1 "urgent") (L1 "options")) (.nd (some "target_port") (L1 "payload") .lf .lf .lf) (L1 "seq") (L1 "ack")),[.mk .e none,.mk Z1 none,.mk Z2 none,.mk Z3 none,.mk Z4 none,.mk Z5 none,.mk Z6 none,.mk Z7 (some (.nat 0)),.mk Z8 (some (.o (.bytes []))),.mk Z9 (some (.o (.bytes [])))],["self","source_port","target_port","seq","ack","flags","window","urgent","options","payload"],(ax 50 0)⟩
def d75:aC:=dn (.ay 15 "has") ["self","flag"] 2 (ax 50 1)
def d76:aC:=dn (.ay 15 "length") ["self","many"] 1 (ax 50 2)
def d77:aC:=dn (.top "check_number") ["number","bits"] 2 (aT 51)
def d78:aC:=dn (.top "mss_option") ["n"] 1 (aT 52)
def d79:aC:=dn (.top "mss_of") ["options","at","kind","size"] 1 (aT 53)
def d80:aC:=dn (.top "opening_steps") [] 0 (aT 66)
def d81:aC:=dn (.top "closing_steps") [] 0 (aT 67)
def d82:aC:=dn (.top "follow") ["state","event","found"] 2 (aT 68)
def d83:aC:=dn (.top "may_send") ["state"] 1 (aT 69)
def d84:aC:=dn (.top "may_receive") ["state"] 1 (aT 70)
def d85:aC:=dn (.top "is_synchronized") ["state"] 1 (aT 71)
def d86:aC:=dn (.top "is_sending") ["state"] 1 (aT 72)
def d87:aC:=⟨.ay 16 "__init__",(.nd (some "self") (L1 "size") .lf .lf .lf),[.mk .e none,.mk Z1 (some (.nat 16))],["self","size"],(ax 74 0)⟩
def d88:aC:=dn (.ay 16 "put") ["self","key","time"] 3 (ax 74 1)
def d89:aC:=dn (.ay 16 "list_of") ["self","time"] 2 (ax 74 2)
def d90:aC:=dn (.ay 16 "cancel") ["self","key","time","order","keys"] 2 (ax 74 3)
def d91:aC:=dn (.ay 16 "time_of") ["self","key"] 2 (ax 74 4)
def d92:aC:=dn (.ay 16 "next_time") ["self","times"] 1 (ax 74 5)
def d93:aC:=dn (.ay 16 "due") ["self","now","found","key","time","order"] 2 (ax 74 6)
def d94:aC:=dn (.ay 16 "keys_until") ["self","now","found","time"] 2 (ax 74 7)
def d95:aC:=dn (.ay 17 "__init__") ["self","ring","mss","send_room","receive_room","first_timeout","least_timeout","most_timeout","most_tries","ack_delay","time_wait"] 11 (ax 81 0)
def d96:aC:=dn (.top "clock_of") ["limits","estimate"] 1 (aT 82)
def d97:aC:=dn (.ay 18 "__init__") ["self","limits","local","remote","iss"] 5 (ax 83 0)
def d98:aC:=dn (.ay 18 "window_now") ["self"] 1 (ax 83 1)
def d99:aC:=⟨.ay 18 "make",(.nd (some "self") (.nd (some "flags") (L1 "options") (L1 "window") .lf .lf) (L1 "seq") (L1 "payload") (L1 "ack")),[.mk .e none,.mk Z1 none,.mk Z2 none,.mk Z3 (some (.o (.bytes [])))],["self","flags","seq","payload"],(ax 83 2)⟩
def d100:aC:=dn (.ay 19 "__init__") ["self","ring"] 2 (ax 85 0)
def d101:aC:=dn (.ay 19 "is_empty") ["self"] 1 (ax 85 2)
def d102:aC:=dn (.ay 19 "offset") ["self","seq","next"] 3 (ax 85 3)
def d103:aC:=dn (.ay 19 "put") ["self","seq","octets","next","begin","fresh"] 4 (ax 85 4)
def d104:aC:=dn (.ay 19 "missing") ["self","begin","octets","next","end","found","at","seq","kept","first","last"] 4 (ax 85 5)
def d105:aC:=dn (.ay 19 "merged") ["self","fresh","next","found","rest","seq","kept","first"] 3 (ax 85 6)
def d106:aC:=dn (.ay 19 "joined") ["self","pieces","next","found","end","first","octets","seq","ahead"] 3 (ax 85 7)
def d107:aC:=dn (.ay 19 "forget") ["self","next","seq","octets","begin"] 2 (ax 85 8)
def d108:aC:=dn (.ay 19 "take") ["self","next"] 2 (ax 85 9)
def d109:aC:=dn (.ay 19 "cut_behind") ["self","edge","next","most","found","seq","octets","left"] 3 (ax 85 11)
def d110:aC:=⟨.ay 20 "__init__",(.nd (some "self") (L1 "irs") (L1 "ring") (L1 "room") (L1 "mss")),[.mk .e none,.mk Z1 none,.mk Z2 none,.mk Z3 none,.mk Z4 (some (.nat 1))],["self","irs","ring","room","mss"],(ax 87 0)⟩
def d111:aC:=dn (.ay 20 "free_edge") ["self"] 1 (ax 87 1)
def d112:aC:=dn (.ay 20 "should_tell") ["self","mss"] 2 (ax 87 2)
def d113:aC:=dn (.ay 20 "told_window") ["self"] 1 (ax 87 3)
def d114:aC:=dn (.ay 20 "window") ["self"] 1 (ax 87 4)
def d115:aC:=dn (.ay 20 "arrive") ["self","seq","octets","has_fin","is_in_order","kept","fresh"] 4 (ax 87 5)
def d116:aC:=dn (.ay 20 "let_in") ["self","seq","octets","most"] 3 (ax 87 6)
def d117:aC:=dn (.ay 20 "note_fin") ["self","place"] 2 (ax 87 7)
def d118:aC:=dn (.ay 20 "ahead_of_fin") ["self","seq","octets"] 3 (ax 87 8)
def d119:aC:=dn (.ay 20 "gather") ["self","fresh"] 1 (ax 87 9)
def d120:aC:=dn (.ay 20 "has_holes") ["self"] 1 (ax 87 10)
def d121:aC:=dn (.ay 20 "available") ["self"] 1 (ax 87 11)
def d122:aC:=dn (.ay 20 "read") ["self","many","found"] 2 (ax 87 12)
def d123:aC:=dn (.top "change_state") ["tcb","event","state"] 2 (aT 90)
def d124:aC:=dn (.top "closed") ["tcb","error","key"] 2 (aT 91)
def d125:aC:=dn (.top "enter_time_wait") ["tcb","now","key"] 2 (aT 92)
def d126:aC:=dn (.top "check_error") ["tcb"] 1 (aT 93)
def d127:aC:=dn (.top "open_active") ["tcb","now"] 2 (aT 94)
def d128:aC:=dn (.top "open_passive") ["tcb"] 1 (aT 95)
def d129:aC:=dn (.top "send") ["tcb","octets","now","taken"] 3 (aT 96)
def d130:aC:=dn (.top "receive") ["tcb","many","now","octets"] 3 (aT 98)
def d131:aC:=dn (.top "close") ["tcb","now"] 2 (aT 100)
def d132:aC:=dn (.top "abort") ["tcb","now","found"] 2 (aT 102)
def d133:aC:=dn (.top "ack_segment") ["tcb"] 1 (aT 104)
def d134:aC:=dn (.top "syn_segment") ["tcb"] 1 (aT 105)
def d135:aC:=dn (.top "flags_of") ["has_push","has_fin","flags"] 2 (aT 106)
def d136:aC:=dn (.top "take_asked_fin") ["tcb","state"] 1 (aT 107)
def d137:aC:=dn (.top "data_segments") ["tcb","now","found","ring","ahead","seq","octets","has_push","has_fin","end"] 2 (aT 108)
def d138:aC:=dn (.top "output") ["tcb","now","found"] 2 (aT 109)
def d139:aC:=dn (.top "set_resend") ["tcb","now"] 2 (aT 110)
def d140:aC:=dn (.top "keep_timers") ["tcb","now"] 2 (aT 111)
def d141:aC:=dn (.top "on_time") ["tcb","now","found","key"] 2 (aT 113)
def d142:aC:=dn (.top "sent_again") ["tcb","now","flight","found"] 2 (aT 115)
def d143:aC:=dn (.top "segment_again") ["tcb","seq","octets","has_syn","has_fin"] 1 (aT 116)
def d144:aC:=dn (.top "is_acceptable") ["seq","length","expected","window","ring"] 5 (aT 119)
def d145:aC:=dn (.top "is_new_ack") ["ack","una","following","ring","gap"] 4 (aT 120)
def d146:aC:=dn (.top "arrive") ["tcb","segment","now"] 3 (aT 124)
def d147:aC:=⟨.top "reset_for",(.nd (some "segment") (L1 "ring") (L1 "ack") .lf .lf),[.mk .e none,.mk Z1 (some (.nat 4294967296))],["segment","ring"],(aT 126)⟩
def d148:aC:=dn (.top "take_syn") ["tcb","segment","limits","told"] 2 (aT 127)
def d149:aC:=dn (.top "in_listen") ["tcb","segment","now"] 3 (aT 128)
def d150:aC:=dn (.top "in_syn_sent") ["tcb","segment","now","ring"] 3 (aT 129)
def d151:aC:=dn (.top "without_syn") ["segment","ring"] 2 (aT 131)
def d152:aC:=dn (.top "in_others") ["tcb","segment","now","ring","found"] 3 (aT 132)
def d153:aC:=dn (.top "is_let_in") ["tcb","segment","receiver","window"] 2 (aT 133)
def d154:aC:=dn (.top "turned_down") ["tcb","segment","now","found"] 3 (aT 134)
def d155:aC:=dn (.top "is_old_acknowledgement") ["tcb","segment"] 2 (aT 135)
def d156:aC:=dn (.top "is_too_far") ["tcb","ack","sender","ring"] 2 (aT 137)
def d157:aC:=dn (.top "take_ack") ["tcb","ack","now","octets","is_syn","is_fin"] 3 (aT 138)
def d158:aC:=dn (.top "take_acknowledgement") ["tcb","segment","now","sender","ring","found","is_fin"] 3 (aT 139)
def d159:aC:=dn (.top "take_duplicate") ["tcb","segment","now","sender","found"] 3 (aT 140)
def d160:aC:=dn (.top "end_of_sending") ["tcb","now"] 2 (aT 141)
def d161:aC:=dn (.top "take_octets") ["tcb","segment","now","receiver","had_fin","fresh","is_in_order"] 3 (aT 142)
def d162:aC:=dn (.top "end_of_receiving") ["tcb","now"] 2 (aT 143)
def d163:aC:=dn (.top "replies") ["tcb","now","found"] 2 (aT 144)
def d164:aC:=dn (.ay 21 "__init__") ["self"] 1 (ax 146 0)
def d165:aC:=dn (.ay 21 "listen") ["self","address","port","owner"] 4 (ax 146 1)
def d166:aC:=dn (.ay 21 "connect") ["self","local","remote","owner"] 4 (ax 146 2)
def d167:aC:=dn (.ay 21 "remove") ["self","owner","many","rows","key"] 2 (ax 146 3)
def d168:aC:=dn (.ay 21 "find") ["self","target","target_port","source","source_port","local","owner"] 5 (ax 146 4)
def d169:aC:=dn (.ay 21 "is_port_used") ["self","port","local","remote"] 2 (ax 146 5)
def d170:aC:=dn (.ay 22 "__init__") ["self","address","port","most_waiting"] 4 (ax 149 0)
def d171:aC:=dn (.ay 22 "waiting") ["self"] 1 (ax 149 1)
def d172:aC:=dn (.ay 22 "take_open") ["self","number"] 2 (ax 149 2)
def d173:aC:=dn (.ay 23 "__init__") ["self","tcb","listener","own_port"] 4 (ax 150 0)
def d174:aC:=dn (.ay 23 "is_done") ["self"] 1 (ax 150 1)
def d175:aC:=dn (.top "rows_out") ["tcb","segments"] 2 (aT 151)
def d176:aC:=dn (.ay 24 "__init__") ["self","limits","seed","first_port","last_port"] 5 (ax 152 0)
def d177:aC:=dn (.ay 24 "new_number") ["self"] 1 (ax 152 1)
def d178:aC:=dn (.ay 24 "new_iss") ["self","now"] 2 (ax 152 2)
def d179:aC:=dn (.ay 24 "link") ["self","number"] 2 (ax 152 3)
def d180:aC:=dn (.ay 24 "listen") ["self","address","port","most_waiting","number"] 4 (ax 152 4)
def d181:aC:=⟨.ay 24 "connect",(.nd (some "self") (.nd (some "local") (L1 "local_port") (L1 "own") (L1 "number") (L1 "tcb")) (L1 "remote") (L1 "port") (L1 "now")),[.mk .e none,.mk Z1 none,.mk Z2 none,.mk Z3 none,.mk Z4 none,.mk Z5 (some (.nat 0))],["self","local","remote","port","now","local_port"],(ax 152 5)⟩
def d182:aC:=dn (.ay 24 "own_port") ["self","local_port","turn","found"] 2 (ax 152 6)
def d183:aC:=dn (.ay 24 "accept") ["self","number","ready","found"] 2 (ax 152 7)
def d184:aC:=dn (.ay 24 "send") ["self","number","octets","now","tcb","taken","segments"] 4 (ax 152 8)
def C8:aC:=dn (.ay 24 "receive") ["self","number","many","now","tcb","octets","segments"] 4 (ax 152 9)
def C9:aC:=dn (.ay 24 "refuse_failed") ["self","tcb"] 2 (ax 152 10)
def d187:aC:=dn (.ay 24 "status") ["self","number","tcb","to_read"] 2 (ax 152 11)
def d188:aC:=dn (.ay 24 "is_ended") ["self","number","receiver"] 2 (ax 152 12)
def d189:aC:=dn (.ay 24 "close") ["self","number","now"] 3 (ax 152 13)
def d190:aC:=dn (.ay 24 "abort") ["self","number","now"] 3 (ax 152 14)
def d191:aC:=dn (.ay 24 "leave") ["self","number","call","now","link","segments","found"] 4 (ax 152 15)
def d192:aC:=dn (.ay 24 "look_at") ["self","number","link","state"] 2 (ax 152 17)
def d193:aC:=dn (.ay 24 "end") ["self","number","link"] 3 (ax 152 18)
def d194:aC:=dn (.ay 24 "input") ["self","source","target","segment","now","found","number","is_listener","tcb","rows"] 5 (ax 152 19)
def d195:aC:=dn (.ay 24 "refused") ["self","source","target","segment","answer"] 4 (ax 152 20)
def d196:aC:=dn (.ay 24 "input_new") ["self","number","source","target","segment","now","listener","local","remote","tcb","rows","child"] 6 (ax 152 21)
def d197:aC:=dn (.ay 24 "on_time") ["self","now","found","number","tcb","time"] 2 (ax 152 22)
def d198:aC:=dn (.ay 24 "next_time") ["self","times","number","time"] 1 (ax 152 23)
def dP:aC:=dn (.top "_law_pool") ["script","k","cell","big","mixed"] 2 (aT 154)
theorem vP:aW dP.T.vals=true:=by kernel_rfl
def dT:aC:=dn (.top "_law_take") ["source","top","drawn"] 2 (aT 155)
theorem vT:aW dT.T.vals=true:=by kernel_rfl
def d201:aC:=dn (.top "_law_one") ["source","things"] 2 (aT 156)
def d202:aC:=dn (.top "_law_settled") ["sides","rows","now","turn","source","target","segment","times"] 3 (aT 157)
def d203:aC:=dn (.top "_law_octets") ["source"] 1 (aT 158)
def d204:aC:=dn (.top "_law_read") ["sides","address","number","due","now","side","found","turn","octets","rows"] 5 (aT 159)
def Dc:aC:=dn (.top "_law_refused_right") ["sides","now","number","rows"] 2 (aT 160)
namespace K
def F0:aF:=.mk d0 (bC (ae (eL .e) CJ 0 (eL Z1)) bN)
def F1:aF:=.mk d1 (bC (aE (bz (aD (aq 1) (fQ qL (eL Z1) (fQ qL (eL Z2) (ai qL (aq 65535)))))) (bC ar bN) bN) (bC (ae (eL .e) vd 7 (eL Z1)) (bC (ae (eL .e) yA 7 (eL Z2)) (bC (ae (eL .e) Cv 7 (eL Z1)) (bC (ae (eL .e) yr 7 gG) bN)))))
def F2:aF:=.mk d2 (bC (aj (eX (eL Z1) (ai km (aa .e yr)))) bN)
def F3:aF:=.mk d3 (bC (aE (aD (eL Z1) (ai bI (aq 0))) (bC (ao Z1 (ag (eL .e) qF (.cons 7 Z4 .nil) lN)) bN) (bC ar bN)) (bC (cX (aa .e yr) (eL Z1) (fD true)) (bC (aj (eL Z1)) bN)))
def F4:aF:=.mk d4 (bC (ao Z1 (aa .e Cv)) (bC (dh (.one Z2) (ak dK (lC (aB ba (aB eM (aa .e yA) (aa .e vd)) (aq 1)) lN)) (bC (aE (bz (bl (ag (eL .e) CH (.cons 7 Z2 .nil) (lC (eL Z1) lN)))) (bC (ae (eL .e) Cv 7 (ag (eL .e) Cz (.cons 7 Z5 .nil) (lC (eL Z1) lN))) (bC (aj (eL Z1)) bN)) bN) (bC ar bN))) (bC ar bN)))
def F5:aF:=.mk d5 (bC (aj (dJ (aD (eL Z1) (ai bI (aa .e yA))) (aa .e vd) (aB ba (eL Z1) (aq 1)))) bN)
def F6:aF:=.mk d6 (bC (aE (aD (eL Z1) (ai kq (aa .e yr))) (bC ar bN) bN) (bC (bo (aS (aa .e yr) lh (lC (eL Z1) lN))) bN))
def F7:aF:=.mk d7 (bC (ae (eL .e) Z98 8 (eL Z1)) (bC (ae (eL .e) tG 8 (aq 0)) (bC (ae (eL .e) tx 8 bH) (bC (ae (eL .e) zW 8 (fD false)) bN))))
def F8:aF:=.mk d8 (bC (ao Z4 (aa .e zW)) (bC (ae (eL .e) zW 8 (rQ (eL Z3) (Bb (eL Z1)))) (bC (jo (eL .e) tG 8 (aq 1)) (bC (aE (bL (bz (bl (eL Z1))) (bL (bl (eL Z4)) (bL (bl (eL Z3)) (bL (aD (aa .e Z98) (ai qL (aq 0))) (bL (aD (aa .e tG) (ai th (aq 2))) aP))))) (bC (bo (ag (eL .e) vf (.cons 8 Z9 .nil) lN)) (bC (aj (aO 1)) bN)) bN) (bC (aE (aD (aa .e tx) (ai fG bH)) (bC (ae (eL .e) tx 8 (aB ba (eL Z2) (aa .e Z98))) bN) bN) (bC (aj (aO 0)) bN))))))
def F9:aF:=.mk d9 (bC (ae (eL .e) tG 8 (aq 2)) bN)
def F10:aF:=.mk d10 (bC (aE (aD (aa .e tG) (ai th (aq 2))) (bC (aj (fD true)) bN) bN) (bC (aj (dI (eX (aa .e tx) (ai dB bH)) (eX (aa .e tx) (ai qL (eL Z1))))) bN))
def F11:aF:=.mk d11 (bC (ae (eL .e) tG 8 (aq 0)) (bC (ae (eL .e) tx 8 bH) bN))
def F12:aF:=.mk d12 (bC (aj (aa .e tx)) bN)
def F13:aF:=.mk d13 (bC (ae (eL .e) Z4 9 (eL Z1)) (bC (ae (eL .e) tn 9 (eL Z3)) (bC (ae (eL .e) Z5 9 (eL Z2)) (bC (ae (eL .e) zQ 9 (eL Z3)) (bC (ae (eL .e) Bc 9 (aq 0)) (bC (ae (eL .e) pQ 9 (aq 0)) (bC (ae (eL .e) vb 9 (fD false)) (bC (ae (eL .e) Bf 9 (fD false)) bN))))))))
def F14:aF:=.mk d14 (bC (aj (aa .e Z5)) bN)
def F15:aF:=.mk d15 (bC (ae (eL .e) Z5 9 (aB ba (aa .e Z5) (eL Z1))) (bC (aE (aD (aa .e Z5) (ai fP (aa .e tn))) (bC ar bN) bN) bN))
def F16:aF:=.mk d16 (bC (ao Z2 (aB jk (eL Z1) (aq 2))) (bC (aj (dJ (aD (eL Z2) (ai fP (aB hW (aq 2) (aa .e Z4)))) (eL Z2) (aB hW (aq 2) (aa .e Z4)))) bN))
def F17:aF:=.mk d17 (bC (aE (bl (aa .e vb)) (bC ar (bC ar bN)) bN) (bC (ae (eL .e) pQ 9 (aq 0)) (bC (aE (aD (aa .e Z5) (ai iP (aa .e zQ))) (bC (bo (ag (eL .e) sT (.cons 9 nG .nil) (lC (eL Z1) lN))) bN) (bC ar bN)) bN)))
def F18:aF:=.mk d18 (bC (ao Z2 (dJ (bl (aa .e Bf)) (aa .e Z4) (aB hW (aq 2) (aa .e Z4)))) (bC (bo (ag (eL .e) Z78 (.cons 9 nF .nil) (lC (dJ (aD (eL Z1) (ai fP (eL Z2))) (eL Z2) (eL Z1)) lN))) (bC (aE (aD (aa .e Z5) (ai th (aa .e zQ))) (bC (ae (eL .e) Bf 9 (fD false)) bN) bN) bN)))
def F19:aF:=.mk d19 (bC (ae (eL .e) pQ 9 (aB ba (aa .e pQ) (aq 1))) (bC (aE (bl (aa .e vb)) (bC ar (bC ar bN)) bN) (bC (aE (aD (aa .e pQ) (ai iP (aq 3))) (bC (aj (aO 2)) bN) bN) (bC ar (bC ar (bC ar (bC ar (bC ar (bC ar bN)))))))))
def F20:aF:=.mk d20 (bC (ae (eL .e) zQ 9 (ag (eL .e) Af (.cons 9 o7 .nil) (lC (eL Z1) lN))) (bC (ae (eL .e) Z5 9 (aa .e Z4)) (bC (ae (eL .e) Bc 9 (aq 0)) (bC (ae (eL .e) pQ 9 (aq 0)) (bC (ae (eL .e) vb 9 (fD false)) (bC (ae (eL .e) Bf 9 (fD true)) bN))))))
def F21:aF:=.mk d21 (bC (aj (aB lX (aB ba (eL .e) (eL Z1)) (eL Z2))) bN)
def F22:aF:=.mk d22 (bC (aj (aB lX (aB eM (eL Z1) (eL .e)) (eL Z2))) bN)
def F23:aF:=.mk d23 (bC (ao Z3 (ah iZ (lC (eL .e) (lC (eL Z1) (lC (eL Z2) lN))))) (bC (aj (dI (eX (eL Z3) (ai fP (aq 0))) (eX (aB hW (aq 2) (eL Z3)) (ai iP (eL Z2))))) bN))
def F24:aF:=.mk d24 (bC (aj (rQ (eX (eL .e) (ai bI (eL Z1))) (ah jh (lC (eL .e) (lC (eL Z1) (lC (eL Z2) lN)))))) bN)
def F25:aF:=.mk d25 (bC (aj (eX (ah iZ (lC (eL Z1) (lC (eL .e) (lC (eL Z3) lN)))) (ai iP (eL Z2)))) bN)
def F26:aF:=.mk d26 (bC (aj (dJ (bl (ah jh (lC (eL .e) (lC (eL Z1) (lC (eL Z2) lN))))) (eL Z1) (eL .e))) bN)
def F27:aF:=.mk d27 (bC (ae (eL .e) xg 10 (eL Z1)) (bC (ae (eL .e) zR 10 (eL Z2)) (bC (ae (eL .e) uY 10 (aq 0)) (bC (ae (eL .e) nH 10 bH) (bC (ae (eL .e) xi 10 (aq 0)) bN)))))
def F28:aF:=.mk d28 (bC (aE (bh (aD (aa .e nH) (ai fG bH)) (bh (aD (aa .e uY) (ai bI (aq 0))) bw)) (bC (ae (eL .e) nH 10 (eL Z1)) (bC (ae (eL .e) xi 10 (eL Z2)) bN)) bN) bN)
def F29:aF:=.mk d29 (bC (ae (eL .e) nH 10 bH) bN)
def F30:aF:=.mk d30 (bC (ae (eL .e) uY 10 (aq 0)) (bC (aE (bL (aD (aa .e nH) (ai fG bH)) (bL (bz (bl (ah tj (lC (aa .e nH) (lC (eL Z1) (lC (eL Z3) lN)))))) aP)) (bC (aj bH) bN) bN) (bC (ao Z4 (aB eM (eL Z2) (aa .e xi))) (bC (ae (eL .e) nH 10 bH) (bC (bo (ag (aa .e xg) CQ (.cons 11 tw .nil) (lC (eL Z4) lN))) (bC (aj (eL Z4)) bN))))))
def F31:aF:=.mk d31 (bC (ae (eL .e) nH 10 bH) (bC (ae (eL .e) uY 10 (aB ba (aa .e uY) (aq 1))) (bC (aj (eX (aa .e uY) (ai qL (aa .e zR)))) bN)))
def F32:aF:=.mk d32 (bC (ao Z1 (ag (aa .e xg) Cw (.cons 11 vR .nil) lN)) (bC (dh (.one Z2) (ak dK (lC (dJ (aD (aa .e uY) (ai fP (aq 7))) (aq 7) (aa .e uY)) lN)) (bC (ao Z1 (aB hW (aq 2) (eL Z1))) bN)) (bC (aj (ag (aa .e xg) vg (.cons 11 tx .nil) (lC (eL Z1) lN))) bN)))
def F33:aF:=.mk d33 (bC (aj (aB ba (eL Z1) (ag (eL .e) Av (.cons 10 tr .nil) lN))) bN)
def F34:aF:=.mk d34 (bC (ae (eL .e) vd 11 (eL Z1)) (bC (ae (eL .e) xj 11 (eL Z2)) (bC (ae (eL .e) tn 11 (eL Z3)) (bC (ae (eL .e) qE 11 (aq 0)) (bC (ae (eL .e) xf 11 (aq 0)) (bC (ae (eL .e) yt 11 (aq 0)) bN))))))
def F35:aF:=.mk d35 (bC (aE (aD (aa .e yt) (ai bI (aq 0))) (bC (ae (eL .e) qE 11 (aB hW (aq 8) (eL Z1))) (bC (ae (eL .e) xf 11 (aB hW (aq 2) (eL Z1))) bN)) (bC (ao Z2 (aB eM (eL Z1) (aB jk (aa .e qE) (aq 8)))) (bC (ae (eL .e) qE 11 (aB ba (aa .e qE) (eL Z2))) (bC (aE (aD (eL Z2) (ai iP (aq 0))) (bC ar bN) bN) (bC (ae (eL .e) xf 11 (aB eM (aB ba (aa .e xf) (eL Z2)) (aB jk (aa .e xf) (aq 4)))) bN))))) (bC (ae (eL .e) yt 11 (aB ba (aa .e yt) (aq 1))) bN))
def F36:aF:=.mk d36 (bC (aE (aD (aa .e yt) (ai bI (aq 0))) (bC (aj (aa .e vd)) bN) bN) (bC (aj (aB ba (aB jk (aa .e qE) (aq 8)) (aa .e xf))) bN))
def F37:aF:=.mk d37 (bC (aj (ag (eL .e) vg (.cons 11 tx .nil) (lC (ag (eL .e) Aw (.cons 11 sI .nil) lN) lN))) bN)
def F38:aF:=.mk d38 (bC (aE (aD (eL Z1) (ai iP (aa .e xj))) (bC (aj (aa .e xj)) bN) bN) (bC (aj (dJ (aD (eL Z1) (ai fP (aa .e tn))) (aa .e tn) (eL Z1))) bN))
def F39:aF:=.mk d39 (bC (aE (aD (eL Z1) (ai iP (aq 1))) (bC ar bN) bN) (bC (ae (eL .e) vW 12 (eL Z1)) (bC (ae (eL .e) sH 12 uW) bN)))
def F40:aF:=.mk d40 (bC (aj (ak cq (lC (aa .e sH) lN))) bN)
def F41:aF:=.mk d41 (bC (aj (aB eM (aa .e vW) (ak cq (lC (aa .e sH) lN)))) bN)
def F42:aF:=.mk d42 (bC (ao Z2 (ak fk (lC (ak cq (lC (eL Z1) lN)) (lC (ag (eL .e) sU (.cons 12 uZ .nil) lN) lN)))) (bC (ae (eL .e) sH 12 (aB ba (aa .e sH) (ak eN (lC (ew (eL Z1) (eL Z2)) lN)))) (bC (aj (eL Z2)) bN)))
def F43:aF:=.mk d43 (bC (aE (bL (aD (eL Z1) (ai iP (aq 0))) (bL (aD (eL Z2) (ai iP (aq 0))) (bL (aD (aB ba (eL Z1) (eL Z2)) (ai fP (ak cq (lC (aa .e sH) lN)))) aP))) (bC ar bN) bN) (bC (aj (l6 (aa .e sH) (eL Z1) (aB ba (eL Z1) (eL Z2)))) bN))
def F44:aF:=.mk d44 (bC (aE (bL (aD (eL Z1) (ai iP (aq 0))) (bL (aD (eL Z1) (ai fP (ak cq (lC (aa .e sH) lN)))) aP)) (bC ar bN) bN) (bC (ae (eL .e) sH 12 (fa (aa .e sH) (eL Z1))) bN))
def F45:aF:=.mk d45 (bC (ae (eL .e) .e 13 (eL Z1)) (bC (ae (eL .e) Z5 13 (aq 0)) (bC (ae (eL .e) tn 13 (aq 0)) (bC (ae (eL .e) zV 13 bH) (bC (ae (eL .e) sN 13 (aq 0)) bN)))))
def F46:aF:=.mk d46 (bC (aE (aD (aa .e zV) (ai fG bH)) (bC (aj (fD true)) bN) bN) (bC (ao Z3 (ah iZ (lC (aa .e zV) (lC (eL Z1) (lC (aa .e .e) lN))))) (bC (aE (aD (eL Z3) (ai bI (aq 0))) (bC (aj (eX (ah iZ (lC (aa .e sN) (lC (eL Z2) (lC (aa .e .e) lN)))) (ai iP (aB jk (aa .e .e) (aq 2))))) bN) bN) (bC (aj (eX (eL Z3) (ai iP (aB jk (aa .e .e) (aq 2))))) bN))))
def F47:aF:=.mk d47 (bC (aE (bz (bl (ag (eL .e) sV (.cons 13 tF .nil) (lC (eL Z1) (lC (eL Z2) lN))))) (bC ar bN) bN) (bC (ae (eL .e) zV 13 (eL Z1)) (bC (ae (eL .e) sN 13 (eL Z2)) (bC (ae (eL .e) Z5 13 (eL Z3)) (bC (ae (eL .e) tn 13 (ak lZ (lC (aa .e tn) (lC (eL Z3) lN)))) (bC (aj (fD true)) bN))))))
def F48:aF:=.mk d48 (bC (ae (eL .e) uX 14 (eL Z1)) (bC (ae (eL .e) .e 14 (eL Z2)) (bC (ae (eL .e) Z4 14 (eL Z3)) (bC (ae (eL .e) fX 14 (eL Z1)) (bC (ae (eL .e) Z2 14 (eL Z1)) (bC (ae (eL .e) tj 14 (eL Z1)) (bC (ae (eL .e) Cn 14 (aZ 13 u9 (lC (eL Z2) lN))) (bC (ae (eL .e) lR 14 (aZ 12 uY (lC (eL Z4) lN))) (bC (ae (eL .e) rI 14 (fD true)) (bC (ae (eL .e) tr 14 (fD false)) (bC (ae (eL .e) xe 14 (fD false)) bN)))))))))))
def F49:aF:=.mk d49 (bC (aj (cV (aa .e Cn) Z5)) bN)
def F50:aF:=.mk d50 (bC (aj (ag (aa .e Cn) sP (.cons 7 Z3 (.cons 13 tG (.cons 19 sO .nil))) (lC (eL Z1) (lC (eL Z2) (lC (eL Z3) lN))))) bN)
def F51:aF:=.mk d51 (bC (aE (bl (aa .e tr)) (bC ar bN) bN) (bC (aj (ag (aa .e lR) vR (.cons 12 o8 (.cons 14 qE (.cons 16 vX (.cons 19 kZ .nil)))) (lC (eL Z1) lN))) bN))
def F52:aF:=.mk d52 (bC (ae (eL .e) tr 14 (fD true)) bN)
def F53:aF:=.mk d53 (bC (aj (ah iZ (lC (aa .e fX) (lC (aa .e Z2) (lC (aa .e .e) lN))))) bN)
def F54:aF:=.mk d54 (bC (aj (ak lZ (lC (aq 0) (lC (aB eM (ak fk (lC (iQ (eL .e) pO 14 pQ) (lC (eL Z1) lN))) (ag (eL .e) hO (.cons 14 kf .nil) lN)) lN)))) bN)
def F55:aF:=.mk d55 (bC (aj (ak fk (lC (ag (aa .e lR) Z5 (.cons 12 nH .nil) lN) (lC (ak lZ (lC (aq 0) (lC (aB eM (ag (eL .e) hO (.cons 14 kf .nil) lN) (ak jl (lC (aa .e rI) lN))) lN))) lN)))) bN)
def F56:aF:=.mk d56 (bC (aj (aB eM (ag (aa .e lR) Z5 (.cons 12 nH .nil) lN) (ag (eL .e) z0 (.cons 14 yn .nil) lN))) bN)
def F57:aF:=.mk d57 (bC (ao Z1 (aB ba (ag (aa .e lR) Z5 (.cons 12 nH .nil) lN) (ak jl (lC (aa .e rI) lN)))) (bC (aj (dI (aa .e tr) (dI (Bb (ag (eL .e) Az (.cons 14 Be .nil) lN)) (eX (ag (eL .e) hO (.cons 14 kf .nil) lN) (ai qL (eL Z1)))))) bN))
def F58:aF:=.mk d58 (bC (aj (dI (aa .e xe) (dI (Bb (aa .e rI)) (dI (eX (ag (aa .e lR) Z5 (.cons 12 nH .nil) lN) (ai bI (aq 0))) (eX (aa .e fX) (ai bI (aa .e tj))))))) bN)
def F59:aF:=.mk d59 (bC (ae (eL .e) Z2 14 (ah hO (lC (aa .e Z2) (lC (eL Z1) (lC (aa .e .e) lN))))) (bC (ae (eL .e) tj 14 (ah tn (lC (aa .e tj) (lC (aa .e Z2) (lC (aa .e .e) lN))))) bN))
def F60:aF:=.mk d60 (bC (aE (bz (bl (aa .e rI))) (bC ar bN) bN) (bC (aE (aD (aa .e Z2) (ai bI (aa .e uX))) (bC (bo (ag (eL .e) vh (.cons 14 vd .nil) (lC (aq 1) lN))) bN) bN) (bC (aj (aa .e uX)) bN)))
def F61:aF:=.mk d61 (bC (aE (aD (eL Z1) (ai th (aa .e Z4))) (bC (aj (fD true)) bN) bN) (bC (aE (bh (bl (eL Z2)) (bh (aD (ag (eL .e) hO (.cons 14 kf .nil) lN) (ai fP (aq 0))) (bh (bz (bh (bl (aa .e tr)) (bh (aD (eL Z1) (ai bI (ag (eL .e) xd (.cons 14 sJ .nil) lN))) bw))) bw))) (bC (aj (fD false)) bN) bN) (bC (aj (rQ (eX (eL Z1) (ai bI (ag (eL .e) xd (.cons 14 sJ .nil) lN))) (eX (aB hW (aq 2) (eL Z1)) (ai th (cV (aa .e Cn) tn))))) bN)))
def F62:aF:=.mk d62 (bC (ao Z3 (bt lN)) (bC (aE (bl (aa .e rI)) (bC ar bN) bN) (bC (gh (aD (ag (eL .e) xd (.cons 14 sJ .nil) lN) (ai fP (aq 0))) (bC (ao Z4 (ak fk (lC (aa .e Z4) (lC (ag (eL .e) xd (.cons 14 sJ .nil) lN) (lC (ag (eL .e) k8 (.cons 14 vc .nil) (lC (eL Z1) lN)) lN))))) (bC (aE (bL (aD (eL Z4) (ai bI (aq 0))) (bL (bz (bl (ag (eL .e) CI (.cons 14 yo .nil) (lC (eL Z4) (lC (eL Z2) lN))))) aP)) (bC (aj (eL Z3)) bN) bN) (bC (bo (aS (eL Z3) bJ (lC (ag (eL .e) Aj (.cons 14 yq .nil) (lC (eL Z4) (lC (eL Z1) lN))) lN))) bN)))) (bC (aE (bh (bl (ag (eL .e) Ai (.cons 14 vV .nil) lN)) (bh (aD (ag (eL .e) k8 (.cons 14 vc .nil) (lC (eL Z1) lN)) (ai fP (aq 0))) bw)) (bC (bo (aS (eL Z3) bJ (lC (aJ (lC (aa .e Z2) (lC uW (lC (fD false) (lC (fD true) lN))))) lN))) (bC (ae (eL .e) xe 14 (fD true)) (bC (bo (ag (eL .e) vh (.cons 14 vd .nil) (lC (aq 1) lN))) bN))) bN) (bC (aj (eL Z3)) bN)))))
def F63:aF:=.mk d63 (bC (ao Z3 (aa .e Z2)) (bC (ao Z4 (ag (aa .e lR) xr (.cons 12 vS .nil) (lC (ag (eL .e) z0 (.cons 14 yn .nil) lN) (lC (eL Z1) lN)))) (bC (ao Z5 (eX (eL Z1) (ai bI (ag (eL .e) xd (.cons 14 sJ .nil) lN)))) (bC (ao Z6 (dI (eL Z5) (dI (aa .e tr) (eX (ag (eL .e) k8 (.cons 14 vc .nil) (lC (eL Z2) lN)) (ai fP (eL Z1)))))) (bC (ae (eL .e) xe 14 (rQ (aa .e xe) (eL Z6))) (bC (bo (ag (eL .e) vh (.cons 14 vd .nil) (lC (aB ba (eL Z1) (ak jl (lC (eL Z6) lN))) lN))) (bC (aj (aJ (lC (eL Z3) (lC (eL Z4) (lC (eL Z5) (lC (eL Z6) lN)))))) bN)))))))
def F64:aF:=.mk d64 (bC (aj (ah iZ (lC (aa .e fX) (lC (aa .e tj) (lC (aa .e .e) lN))))) bN)
def F65:aF:=.mk d65 (bC (ao Z1 (ag (eL .e) vi (.cons 14 xg .nil) lN)) (bC (aE (aD (eL Z1) (ai bI (aq 0))) (bC ar bN) bN) (bC (aE (bl (aa .e rI)) (bC ar (bC ar bN)) bN) (bC (ao Z2 (ak fk (lC (aa .e Z4) (lC (ag (aa .e lR) Z5 (.cons 12 nH .nil) lN) (lC (eL Z1) lN))))) (bC (ao Z3 (dI (aa .e xe) (dI (eX (eL Z2) (ai bI (ag (aa .e lR) Z5 (.cons 12 nH .nil) lN))) (eX (eL Z1) (ai fP (eL Z2)))))) (bC (bo (ag (eL .e) Cy (.cons 14 Cm .nil) (lC (aB ba (eL Z2) (ak jl (lC (eL Z3) lN))) lN))) (bC (aj (aJ (lC (aa .e fX) (lC (ag (aa .e lR) xr (.cons 12 vS .nil) (lC (aq 0) (lC (eL Z2) lN))) (lC (fD false) (lC (eL Z3) lN)))))) bN)))))))
def F66:aF:=.mk d66 (bC (aE (aD (ag (eL .e) hO (.cons 14 kf .nil) lN) (ai iP (eL Z1))) (bC (ae (eL .e) Z2 14 (ah hO (lC (aa .e fX) (lC (eL Z1) (lC (aa .e .e) lN))))) bN) bN) bN)
def F67:aF:=.mk d67 (bC (aE (aD (ah iZ (lC (aa .e fX) (lC (eL Z1) (lC (aa .e .e) lN)))) (ai fP (ag (eL .e) hO (.cons 14 kf .nil) lN))) (bC ar bN) bN) (bC (ae (eL .e) Z2 14 (eL Z1)) bN))
def F68:aF:=.mk d68 (bC (aE (bL (bl (aa .e rI)) (bL (aD (ag (eL .e) hO (.cons 14 kf .nil) lN) (ai fP (aq 0))) aP)) (bC (aj (fD false)) bN) bN) (bC (aj (rQ (eX (ag (eL .e) xd (.cons 14 sJ .nil) lN) (ai fP (aq 0))) (ag (eL .e) Ai (.cons 14 vV .nil) lN))) bN))
def F69:aF:=.mk d69 (bC (aE (bz (bl (ag (eL .e) k9 (.cons 14 zR .nil) lN))) (bC (aj (fD false)) bN) bN) (bC ar (bC ar (bC ar bN))))
def F70:aF:=.mk d70 (bC (ao Z2 (ah iZ (lC (aa .e fX) (lC (eL Z1) (lC (aa .e .e) lN))))) (bC (aE (bL (aD (eL Z2) (ai bI (aq 0))) (bL (aD (eL Z2) (ai fP (ag (eL .e) vi (.cons 14 xg .nil) lN))) aP)) (bC ar bN) bN) (bC (ao Z3 (ag (eL .e) hO (.cons 14 kf .nil) lN)) (bC (ao Z4 (aa .e rI)) (bC (ae (eL .e) rI 14 (fD false)) (bC (ao Z5 (ak fk (lC (aB eM (eL Z2) (ak jl (lC (eL Z4) lN))) (lC (ag (aa .e lR) Z5 (.cons 12 nH .nil) lN) lN)))) (bC (bo (ag (aa .e lR) CR (.cons 12 vU .nil) (lC (eL Z5) lN))) (bC (ae (eL .e) fX 14 (eL Z1)) (bC (aE (aD (eL Z3) (ai iP (eL Z2))) (bC ar bN) bN) (bC (aj (aJ (lC (eL Z5) (lC (eL Z4) (lC (eX (aB eM (eL Z2) (ak jl (lC (eL Z4) lN))) (ai fP (eL Z5))) lN))))) bN))))))))))
def F71:aF:=.mk d71 (bC (aj (ak eN (lC (bt (lC (aB pU (aB tM (eL .e) (aq 8)) (aq 255)) (lC (aB pU (eL .e) (aq 255)) lN))) lN))) bN)
def F72:aF:=.mk d72 (bC (aE (bL (aD (eL Z1) (ai iP (aq 0))) (bL (aD (aB ba (eL Z1) (eL Z2)) (ai fP (ak cq (lC (eL .e) lN)))) aP)) (bC ar bN) bN) bN)
def F73:aF:=.mk d73 (bC (bo (ah Z72 (lC (eL .e) (lC (eL Z1) (lC (aq 2) lN))))) (bC (aj (aB xW (aB v7 (bU (eL .e) (eL Z1)) (aq 8)) (bU (eL .e) (aB ba (eL Z1) (aq 1))))) bN))
def F74:aF:=.mk d74 (bC (ae (eL .e) yo 15 (eL Z1)) (bC (ae (eL .e) yp 15 (eL Z2)) (bC (ae (eL .e) nF 15 (eL Z3)) (bC (ae (eL .e) nG 15 (eL Z4)) (bC (ae (eL .e) kZ 15 (eL Z5)) (bC (ae (eL .e) pO 15 (eL Z6)) (bC (ae (eL .e) Co 15 (eL Z7)) (bC (ae (eL .e) xm 15 (eL Z8)) (bC (ae (eL .e) yu 15 (eL Z9)) bN)))))))))
def F75:aF:=.mk d75 (bC (aj (eX (aB pU (aa .e kZ) (eL Z1)) (ai iB (aq 0)))) bN)
def F76:aF:=.mk d76 (bC (ao Z1 (ak cq (lC (aa .e yu) lN))) (bC (aE (bl (ag (eL .e) Z6 (.cons 15 fO .nil) (lC (aq 2) lN))) (bC (iC Z1 (aq 1)) bN) bN) (bC (aE (bl (ag (eL .e) Z6 (.cons 15 fO .nil) (lC (aq 1) lN))) (bC (iC Z1 (aq 1)) bN) bN) (bC (aj (eL Z1)) bN))))
def F77:aF:=.mk d77 (bC (aE (bL (aD (eL .e) (ai iP (aq 0))) (bL (aD (aB tM (eL .e) (eL Z1)) (ai iB (aq 0))) aP)) (bC ar bN) bN) bN)
def F78:aF:=.mk d78 (bC (bo (ah yy (lC (eL .e) (lC (aq 16) lN)))) (bC (aj (aB ba (ak eN (lC (bt (lC (aq 2) (lC (aq 4) lN))) lN)) (ah yu (lC (eL .e) lN)))) bN))
def F79:aF:=.mk d79 (bC (ao Z1 (aq 0)) (bC (gh (aD (eL Z1) (ai iP (ak cq (lC (eL .e) lN)))) (bC (ao Z2 (bU (eL .e) (eL Z1))) (bC (aE (aD (eL Z2) (ai bI (aq 0))) (bC ar bN) bN) (bC (aE (aD (eL Z2) (ai bI (aq 1))) (bC ar bN) (bC (aE (aD (aB ba (eL Z1) (aq 2)) (ai fP (ak cq (lC (eL .e) lN)))) (bC ar bN) bN) (bC (ao Z3 (bU (eL .e) (aB ba (eL Z1) (aq 1)))) (bC (aE (bL (aD (eL Z3) (ai iP (aq 2))) (bL (aD (aB ba (eL Z1) (eL Z3)) (ai fP (ak cq (lC (eL .e) lN)))) aP)) (bC ar bN) bN) (bC (aE (aD (eL Z2) (ai bI (aq 2))) (bC (aj (dJ (aD (eL Z3) (ai bI (aq 4))) (ah yw (lC (eL .e) (lC (aB ba (eL Z1) (aq 2)) lN))) bH)) bN) bN) (bC ar bN)))))) bN)))) (bC ar bN)))
def F80:aF:=.mk d80 (bC (aj (ku (bu (aJ (lC (aO 11) (lC (aO 9) lN))) (aO 9) (bu (aJ (lC (aO 11) (lC (aO 10) lN))) (aO 7) (bu (aJ (lC (aO 9) (lC (aO 10) lN))) (aO 7) (bu (aJ (lC (aO 9) (lC (aO 8) lN))) (aO 4) (bu (aJ (lC (aO 7) (lC (aO 8) lN))) (aO 4) (bu (aJ (lC (aO 7) (lC (aO 6) lN))) (aO 5) (bu (aJ (lC (aO 4) (lC (aO 3) lN))) (aO 5) iR))))))))) bN)
def F81:aF:=.mk d81 (bC (aj (ku (bu (aJ (lC (aO 9) (lC (aO 22) lN))) (aO 11) (bu (aJ (lC (aO 7) (lC (aO 22) lN))) (aO 11) (bu (aJ (lC (aO 4) (lC (aO 22) lN))) (aO 15) (bu (aJ (lC (aO 5) (lC (aO 22) lN))) (aO 15) (bu (aJ (lC (aO 21) (lC (aO 22) lN))) (aO 17) (bu (aJ (lC (aO 4) (lC (aO 20) lN))) (aO 21) (bu (aJ (lC (aO 5) (lC (aO 20) lN))) (aO 21) (bu (aJ (lC (aO 15) (lC (aO 20) lN))) (aO 18) (bu (aJ (lC (aO 19) (lC (aO 20) lN))) (aO 13) (bu (aJ (lC (aO 21) (lC (aO 20) lN))) (aO 21) (bu (aJ (lC (aO 18) (lC (aO 20) lN))) (aO 18) (bu (aJ (lC (aO 17) (lC (aO 20) lN))) (aO 17) (bu (aJ (lC (aO 13) (lC (aO 20) lN))) (aO 13) (bu (aJ (lC (aO 15) (lC (aO 16) lN))) (aO 19) (bu (aJ (lC (aO 18) (lC (aO 16) lN))) (aO 13) (bu (aJ (lC (aO 17) (lC (aO 16) lN))) (aO 11) (bu (aJ (lC (aO 15) (lC (aO 14) lN))) (aO 13) (bu (aJ (lC (aO 13) (lC (aO 12) lN))) (aO 11) iR)))))))))))))))))))) bN)
def F82:aF:=.mk d82 (bC (aE (aD (eL Z1) (ai bI (aO 25))) (bC ar bN) bN) (bC (aE (aD (eL Z1) (ai bI (aO 24))) (bC ar bN) bN) (bC (aE (aD (eL Z1) (ai bI (aO 23))) (bC ar bN) bN) (bC (ao Z2 (aS (ah yz lN) nK (lC (aJ (lC (eL .e) (lC (eL Z1) lN))) lN))) (bC (aj (dJ (aD (eL Z2) (ai fG bH)) (aS (ah Z81 lN) nK (lC (aJ (lC (eL .e) (lC (eL Z1) lN))) lN)) (eL Z2))) bN)))))
def F83:aF:=.mk d83 (bC (aj (eX (eL .e) (ai km (aJ (lC (aO 7) (lC (aO 4) (lC (aO 5) (lC (aO 21) lN)))))))) bN)
def F84:aF:=.mk d84 (bC (aj (eX (eL .e) (ai km (aJ (lC (aO 5) (lC (aO 15) (lC (aO 19) lN))))))) bN)
def F85:aF:=.mk d85 (bC (aj (eX (eL .e) (ai kq (aJ (lC (aO 11) (lC (aO 9) (lC (aO 7) (lC (aO 4) lN)))))))) bN)
def F86:aF:=.mk d86 (bC (aj (eX (eL .e) (ai km (aJ (lC (aO 5) (lC (aO 15) (lC (aO 21) (lC (aO 18) (lC (aO 17) lN))))))))) bN)
def F87:aF:=.mk d87 (bC (ae (eL .e) Z5 16 (eL Z1)) (bC (ae (eL .e) Cp 16 (cn (.one .e) .nil (ak dK (lC (eL Z1) lN)) zM (bt lN))) (bC (ae (eL .e) vX 16 (bt lN)) (bC (ae (eL .e) qD 16 gG) (bC (ae (eL .e) tw 16 bH) (bC (ae (eL .e) uZ 16 (aq 0)) bN))))))
def F88:aF:=.mk d88 (bC (bo (ag (eL .e) u9 (.cons 16 tH .nil) (lC (eL Z1) lN))) (bC (ae (eL .e) uZ 16 (aB ba (aa .e uZ) (aq 1))) (bC (cX (aa .e qD) (eL Z1) (aJ (lC (eL Z2) (lC (aa .e uZ) lN)))) (bC (bo (aS (ag (eL .e) vo (.cons 16 Cq .nil) (lC (eL Z2) lN)) bJ (lC (eL Z1) lN))) bN))))
def F89:aF:=.mk d89 (bC (aE (bh (aD (aa .e tw) (ai dB bH)) (bh (aD (eL Z1) (ai qL (aa .e tw))) bw)) (bC ar bN) bN) (bC (aj (bU (aa .e Cp) (aB lX (eL Z1) (aa .e Z5)))) bN))
def F90:aF:=.mk d90 (bC (aE (aD (eL Z1) (ai km (aa .e qD))) (bC (bT [Z2,Z3] (aS (aa .e qD) lh (lC (eL Z1) lN))) (bC (dh (.one Z4) (aJ (lC (aa .e vX) (lC (bU (aa .e Cp) (aB lX (eL Z2) (aa .e Z5))) lN))) (bC (aE (aD (eL Z1) (ai km (eL Z4))) (bC (bo (aS (eL Z4) gH (lC (eL Z1) lN))) bN) bN) bN)) bN)) bN) bN)
def F91:aF:=.mk d91 (bC (aj (dJ (aD (eL Z1) (ai km (aa .e qD))) (bU (bU (aa .e qD) (eL Z1)) (aq 0)) bH)) bN)
def F92:aF:=.mk d92 (bC (ym Z1 (.one .e) (.cons .e Z1 .nil) (aa .e qD) zM (bU (bU (aa Z1 qD) (eL .e)) (aq 0))) (bC (aj (dJ (aD (eL Z1) (ai iB (bt lN))) (ak fk (lC (eL Z1) lN)) bH)) bN))
def F93:aF:=.mk d93 (bC (ao Z2 (bt lN)) (bC (dh (.one Z3) (ag (eL .e) CS (.cons 16 Cs .nil) (lC (eL Z1) lN)) (bC (bT [Z4,Z5] (bU (aa .e qD) (eL Z3))) (bC (aE (aD (eL Z4) (ai qL (eL Z1))) (bC (bo (aS (eL Z2) bJ (lC (aJ (lC (eL Z4) (lC (eL Z5) (lC (eL Z3) lN)))) lN))) bN) bN) bN))) (bC (dh (.tup [Z4,Z5,Z3]) (eL Z2) (bC (bo (ag (eL .e) u9 (.cons 16 tH .nil) (lC (eL Z3) lN))) bN)) (bC (aE (bL (aD (aa .e tw) (ai fG bH)) (bL (aD (eL Z1) (ai fP (aa .e tw))) aP)) (bC (ae (eL .e) tw 16 (eL Z1)) bN) bN) (bC (aj (cn (.tup [.e,Z1,Z2]) .nil (ak gK (lC (eL Z2) lN)) zM (eL Z2))) bN)))))
def F94:aF:=.mk d94 (bC (aE (bL (aD (aa .e tw) (ai fG bH)) (bL (aD (aB eM (eL Z1) (aa .e tw)) (ai th (aa .e Z5))) aP)) (bC (aj (ak lj (lC (aa .e qD) lN))) bN) bN) (bC (ao Z2 (ak lj (lC (aa .e vX) lN))) (bC (dh (.one Z3) (ak dK (lC (aB ba (aa .e tw) (aq 1)) (lC (aB ba (eL Z1) (aq 1)) lN))) (bC (ao Z2 (aB ba (eL Z2) (bU (aa .e Cp) (aB lX (eL Z3) (aa .e Z5))))) bN)) (bC (aj (eL Z2)) bN))))
def F95:aF:=.mk d95 (bC (ae (eL .e) .e 17 (eL Z1)) (bC (ae (eL .e) Z4 17 (eL Z2)) (bC (ae (eL .e) xn 17 (eL Z3)) (bC (ae (eL .e) xo 17 (eL Z4)) (bC (ae (eL .e) vj 17 (eL Z5)) (bC (ae (eL .e) z6 17 (eL Z6)) (bC (ae (eL .e) z7 17 (eL Z7)) (bC (ae (eL .e) zR 17 (eL Z8)) (bC (ae (eL .e) z8 17 (eL Z9)) (bC (ae (eL .e) z9 17 (eL kY)) bN))))))))))
def F96:aF:=.mk d96 (bC (ao Z1 (aZ 11 uX (lC (aa .e vj) (lC (aa .e z6) (lC (aa .e z7) lN))))) (bC (aj (aZ 10 sH (lC (eL Z1) (lC (aa .e zR) lN)))) bN))
def F97:aF:=.mk d97 (bC (ae (eL .e) Z7 18 (eL Z1)) (bC (ae (eL .e) Cq 18 (eL Z2)) (bC (ae (eL .e) tH 18 (eL Z3)) (bC (ae (eL .e) Z1 18 (aO 11)) (bC (ae (eL .e) Z3 18 (aZ 14 zQ (lC (eL Z4) (lC (aa Z1 .e) (lC (aa Z1 Z4) (lC (aa Z1 xn) lN)))))) (bC (ae (eL .e) Z8 18 bH) (bC (ae (eL .e) iZ 18 (ah Ct (lC (eL Z1) lN))) (bC (ae (eL .e) kf 18 (aZ 9 pO (lC (aa Z1 Z4) (lC (aB hW (aq 2) (aa Z1 Z4)) (lC (aB ba (aa Z1 xn) (aa Z1 Z4)) lN))))) (bC (ae (eL .e) jh 18 (aZ 8 Z7 (lC (aa Z1 z8) lN))) (bC (ae (eL .e) iY 18 (aZ 16 Cp lN)) (bC (ae (eL .e) sI 18 bH) (bC (ae (eL .e) Cm 18 (aq 0)) (bC (ae (eL .e) Ck 18 (aq 0)) (bC (ae (eL .e) Aa 18 (fD true)) bN))))))))))))))
def F98:aF:=.mk d98 (bC (aE (aD (aa .e Z8) (ai fG bH)) (bC (aj (ak fk (lC (cV (aa .e Z7) xo) (lC (aq 65535) lN)))) bN) bN) (bC (aj (ak fk (lC (ag (aa .e Z8) pO (.cons 9 j9 (.cons 20 vi .nil)) lN) (lC (aq 65535) lN)))) bN))
def F99:aF:=.mk d99 (bC (ao Z4 (aq 0)) (bC (aE (aD (aa .e Z8) (ai dB bH)) (bC (ao Z1 (aB xW (eL Z1) (aq 16))) (bC (ao Z4 (cV (aa .e Z8) Z2)) (bC (bo (ag (aa .e jh) vk (.cons 8 fX .nil) lN)) (bC (bo (ag (aa .e iY) u9 (.cons 16 tH .nil) (lC (aq 3) lN))) bN)))) bN) (bC (ao Z5 (dJ (aD (aB pU (eL Z1) (aq 2)) (ai iB (aq 0))) (ah Z78 (lC (ak fk (lC (cV (aa .e Z7) Z4) (lC (aq 65535) lN))) lN)) uW)) (bC (ao Z6 (ag (eL .e) CT (.cons 18 Z98 .nil) lN)) (bC (aj (aZ 15 yx (lC (bU (aa .e Cq) (aq 1)) (lC (bU (aa .e tH) (aq 1)) (lC (eL Z2) (lC (eL Z4) (lC (eL Z1) (lC (eL Z6) (lC (aq 0) (lC (eL Z5) (lC (eL Z3) lN))))))))))) bN)))))
def F100:aF:=.mk d100 (bC (ae (eL .e) .e 19 (eL Z1)) (bC (ae (eL .e) o7 19 (bt lN)) bN))
def F101:aF:=.mk d101 (bC (aj (eX (aa .e o7) (ai bI (bt lN)))) bN)
def F102:aF:=.mk d102 (bC (aE (bl (ah jh (lC (eL Z1) (lC (eL Z2) (lC (aa .e .e) lN))))) (bC ar bN) bN) (bC (aj (ah iZ (lC (eL Z2) (lC (eL Z1) (lC (aa .e .e) lN))))) bN))
def F103:aF:=.mk d103 (bC (bo (ag (eL .e) yx (.cons 10 qD (.cons 19 vg .nil)) (lC (eL Z3) lN))) (bC (ao Z4 (ag (eL .e) Be (.cons 19 sN .nil) (lC (eL Z1) (lC (eL Z3) lN)))) (bC (aE (aD (eL Z4) (ai iP (aq 0))) (bC ar (bC ar bN)) bN) (bC (ao Z5 (ag (eL .e) CU (.cons 19 xm .nil) (lC (eL Z4) (lC (eL Z2) (lC (eL Z3) lN))))) (bC (aE (aD (eL Z5) (ai iB (bt lN))) (bC (ae (eL .e) o7 19 (ag (eL .e) Ax (.cons 19 xo .nil) (lC (ag (eL .e) C6 (.cons 19 xn .nil) (lC (eL Z5) (lC (eL Z3) lN))) (lC (eL Z3) lN)))) bN) bN) bN)))))
def F104:aF:=.mk d104 (bC (ao Z4 (aB ba (eL Z1) (ak cq (lC (eL Z2) lN)))) (bC (lQ Z5 Z6 (aJ (lC (bt lN) (lC (eL Z1) lN)))) (bC (dh (.tup [Z7,Z8]) (aa .e o7) (bC ar (bC ar (bC ar (bC ar (bC ar (bC ar bN))))))) (bC (aE (aD (eL Z6) (ai iP (eL Z4))) (bC (bo (aS (eL Z5) bJ (lC (aJ (lC (eL Z6) (lC (fa (eL Z2) (aB eM (eL Z6) (eL Z1))) lN))) lN))) bN) bN) (bC (aj (eL Z5)) bN)))))
def F105:aF:=.mk d105 (bC (lQ Z3 Z4 (aJ (lC (bt lN) (lC (ak lj (lC (eL Z1) lN)) lN)))) (bC (dh (.tup [Z5,Z6]) (aa .e o7) (bC ar (bC ar (bC ar bN)))) (bC (aj (aB ba (eL Z3) (eL Z4))) bN)))
def F106:aF:=.mk d106 (bC (lQ Z3 Z4 (aJ (lC (bt lN) (lC bH lN)))) (bC (dh (.tup [Z5,Z6]) (eL Z1) (bC (aE (aD (eL Z4) (ai bI (eL Z5))) (bC ar (bC ar bN)) (bC (bo (aS (eL Z3) bJ (lC (aJ (lC (ah hO (lC (eL Z2) (lC (eL Z5) (lC (aa .e .e) lN)))) (lC (eL Z6) lN))) lN))) bN)) (bC (ao Z4 (aB ba (eL Z5) (ak cq (lC (eL Z6) lN)))) bN))) (bC (aj (eL Z3)) bN)))
def F107:aF:=.mk d107 (bC (gh (aD (aa .e o7) (ai iB (bt lN))) (bC (bT [Z2,Z3] (bU (aa .e o7) (aq 0))) (bC (ao Z4 (ag (eL .e) Be (.cons 19 sN .nil) (lC (eL Z2) (lC (eL Z1) lN)))) (bC (aE (aD (eL Z4) (ai th (aq 0))) (bC iD bN) bN) (bC ar (bC ar bN)))))) bN)
def F108:aF:=.mk d108 (bC (bo (ag (eL .e) yx (.cons 10 qD (.cons 19 vg .nil)) (lC (eL Z1) lN))) (bC (aE (bL (aD (aa .e o7) (ai bI (bt lN))) (bL (aD (bU (bU (aa .e o7) (aq 0)) (aq 0)) (ai iB (eL Z1))) aP)) (bC (aj uW) bN) bN) (bC (aj (bU (aS (aa .e o7) nJ (lC (aq 0) lN)) (aq 1))) bN)))
def F109:aF:=.mk d109 (bC (ao Z3 (ag (eL .e) Be (.cons 19 sN .nil) (lC (eL Z1) (lC (eL Z2) lN)))) (bC (ao Z4 (bt lN)) (bC (dh (.tup [Z5,Z6]) (aa .e o7) (bC ar (bC ar bN))) (bC (ae (eL .e) o7 19 (eL Z4)) bN))))
def F110:aF:=.mk d110 (bC (ae (eL .e) .e 20 (eL Z2)) (bC (ae (eL .e) vW 20 (eL Z3)) (bC (ae (eL .e) Z4 20 (eL Z4)) (bC (ae (eL .e) Z2 20 (ah hO (lC (eL Z1) (lC (aq 1) (lC (eL Z2) lN))))) (bC (ae (eL .e) pP 20 (ak eO lN)) (bC (ae (eL .e) yw 20 (aZ 19 xi (lC (eL Z2) lN))) (bC (ae (eL .e) o8 20 (ah hO (lC (aa .e Z2) (lC (eL Z3) (lC (eL Z2) lN))))) (bC (ae (eL .e) vc 20 bH) (bC (ae (eL .e) rH 20 (fD false)) (bC (ae (eL .e) Z91 20 bH) bN))))))))))
def F111:aF:=.mk d111 (bC (aj (ah hO (lC (aa .e Z2) (lC (aB eM (aa .e vW) (ak cq (lC (aa .e pP) lN))) (lC (aa .e .e) lN))))) bN)
def F112:aF:=.mk d112 (bC (aE (bL (bl (aa .e rH)) (bL (bz (bl (ah jh (lC (aa .e o8) (lC (ag (eL .e) o9 (.cons 20 sP .nil) lN) (lC (aa .e .e) lN)))))) aP)) (bC (aj (fD false)) bN) bN) (bC (aj (eX (ah iZ (lC (aa .e o8) (lC (ag (eL .e) o9 (.cons 20 sP .nil) lN) (lC (aa .e .e) lN)))) (ai th (ak lZ (lC (aq 1) (lC (ak fk (lC (eL Z1) (lC (aB jk (aa .e vW) (aq 2)) lN))) lN)))))) bN))
def F113:aF:=.mk d113 (bC (aE (bl (ah jh (lC (aa .e o8) (lC (aa .e Z2) (lC (aa .e .e) lN))))) (bC ar bN) bN) (bC (aj (ah iZ (lC (aa .e Z2) (lC (aa .e o8) (lC (aa .e .e) lN))))) bN))
def F114:aF:=.mk d114 (bC (aE (bl (ag (eL .e) pg (.cons 20 xr .nil) (lC (aa .e Z4) lN))) (bC (ae (eL .e) o8 20 (ag (eL .e) o9 (.cons 20 sP .nil) lN)) bN) bN) (bC (aj (ag (eL .e) Ab (.cons 20 vh .nil) lN)) bN))
def F115:aF:=.mk d115 (bC (ao Z4 (ah tj (lC (eL Z1) (lC (aa .e Z2) (lC (aa .e .e) lN))))) (bC (ao Z5 (ag (eL .e) CV (.cons 20 zX .nil) (lC (eL Z1) (lC (eL Z2) lN)))) (bC (aE (bh (bl (eL Z3)) (bh (aD (ak cq (lC (eL Z5) lN)) (ai bI (ak cq (lC (eL Z2) lN)))) bw)) (bC (bo (ag (eL .e) CY (.cons 20 xt .nil) (lC (ah hO (lC (eL Z1) (lC (ak cq (lC (eL Z2) lN)) (lC (aa .e .e) lN)))) lN))) bN) bN) (bC (aE (aD (aa .e vc) (ai dB bH)) (bC (ao Z5 (ag (eL .e) Ay (.cons 20 zZ .nil) (lC (eL Z1) (lC (eL Z5) lN)))) bN) bN) (bC (aE (bh (bz (bl (aa .e rH))) (bh (aD (eL Z5) (ai iB uW)) bw)) (bC (bo (ag (aa .e yw) vR (.cons 12 o8 (.cons 14 qE (.cons 16 vX (.cons 19 kZ .nil)))) (lC (eL Z1) (lC (eL Z5) (lC (aa .e Z2) lN))))) bN) bN) (bC (ao Z6 (ag (eL .e) Ar (.cons 20 xu .nil) lN)) (bC (aj (aJ (lC (eL Z6) (lC (eL Z4) lN)))) bN)))))))
def F116:aF:=.mk d116 (bC (aE (bz (bl (ah jh (lC (eL Z1) (lC (aa .e o8) (lC (aa .e .e) lN)))))) (bC ar bN) bN) (bC (ao Z3 (ah iZ (lC (eL Z1) (lC (aa .e o8) (lC (aa .e .e) lN))))) (bC (aj (ak eN (lC (ew (eL Z2) (eL Z3)) lN))) bN)))
def F117:aF:=.mk d117 (bC (aE (bh (aD (aa .e vc) (ai fG bH)) (bh (bz (bl (ah jh (lC (eL Z1) (lC (aa .e Z2) (lC (aa .e .e) lN)))))) bw)) (bC (ae (eL .e) vc 20 (eL Z1)) (bC (bo (ag (aa .e yw) vm (.cons 19 xp .nil) (lC (eL Z1) (lC (aa .e Z2) lN)))) bN)) bN) bN)
def F118:aF:=.mk d118 (bC (aE (bz (bl (ah jh (lC (eL Z1) (lC (aa .e vc) (lC (aa .e .e) lN)))))) (bC (aj uW) bN) bN) (bC ar bN))
def F119:aF:=.mk d119 (bC (ao Z1 uW) (bC (aE (bz (bl (aa .e rH))) (bC (ao Z1 (ag (aa .e yw) sP (.cons 7 Z3 (.cons 13 tG (.cons 19 sO .nil))) (lC (aa .e Z2) lN))) bN) bN) (bC (bo (aS (aa .e pP) qO (lC (eL Z1) lN))) (bC (ae (eL .e) Z2 20 (ah hO (lC (aa .e Z2) (lC (ak cq (lC (eL Z1) lN)) (lC (aa .e .e) lN))))) (bC (aE (bh (aD (aa .e vc) (ai bI (aa .e Z2))) (bh (bz (bl (aa .e rH))) bw)) (bC (ae (eL .e) rH 20 (fD true)) (bC (ae (eL .e) Z2 20 (ah hO (lC (aa .e Z2) (lC (aq 1) (lC (aa .e .e) lN))))) bN)) bN) (bC (aj (ak cq (lC (eL Z1) lN))) bN))))))
def F120:aF:=.mk d120 (bC (aj (Bb (ag (aa .e yw) CZ (.cons 19 xj .nil) lN))) bN)
def F121:aF:=.mk d121 (bC (aj (ak cq (lC (aa .e pP) lN))) bN)
def F122:aF:=.mk d122 (bC (ao Z2 (ak eN (lC (ew (aa .e pP) (eL Z1)) lN))) (bC (ae (eL .e) pP 20 (fa (aa .e pP) (ak cq (lC (eL Z2) lN)))) (bC (aj (eL Z2)) bN)))
def F123:aF:=.mk d123 (bC (ao Z2 (ah yA (lC (aa .e Z1) (lC (eL Z1) lN)))) (bC (aE (aD (eL Z2) (ai fG bH)) (bC ar bN) bN) (bC (ae (eL .e) Z1 18 (eL Z2)) bN)))
def F124:aF:=.mk d124 (bC (ae (eL .e) Z1 18 (aO 11)) (bC (aE (aD (eL Z1) (ai dB bH)) (bC (ae (eL .e) sI 18 (eL Z1)) bN) bN) (bC (dh (.one Z2) (aJ (lC (aq 1) (lC (aq 2) (lC (aq 3) (lC (aq 4) lN))))) (bC (bo (ag (aa .e iY) u9 (.cons 16 tH .nil) (lC (eL Z2) lN))) bN)) bN)))
def F125:aF:=.mk d125 (bC (ae (eL .e) Z1 18 (aO 13)) (bC (dh (.one Z2) (aJ (lC (aq 1) (lC (aq 2) lN))) (bC (bo (ag (aa .e iY) u9 (.cons 16 tH .nil) (lC (eL Z2) lN))) bN)) (bC (bo (ag (aa .e iY) vR (.cons 12 o8 (.cons 14 qE (.cons 16 vX (.cons 19 kZ .nil)))) (lC (aq 4) (lC (aB ba (eL Z1) (cV (aa .e Z7) z9)) lN)))) bN)))
def F126:aF:=.mk d126 (bC (aE (aD (aa .e sI) (ai bI (aO 26))) (bC ar bN) bN) (bC (aE (aD (aa .e sI) (ai dB bH)) (bC ar bN) bN) bN))
def F127:aF:=.mk d127 (bC (bo (ah k8 (lC (eL .e) (lC (aO 10) lN)))) (bC (aj (ah pg (lC (eL .e) (lC (eL Z1) lN)))) bN))
def F128:aF:=.mk d128 (bC (bo (ah k8 (lC (eL .e) (lC (aO 9) lN)))) (bC (aj (bt lN)) bN))
def F129:aF:=.mk d129 (bC (bo (ah z7 (lC (eL .e) lN))) (bC (aE (bL (bz (bl (ah Bf (lC (aa .e Z1) lN)))) (bL (bl (cV (aa .e Z3) tr)) aP)) (bC ar bN) bN) (bC (ao Z3 (ag (aa .e Z3) vR (.cons 12 o8 (.cons 14 qE (.cons 16 vX (.cons 19 kZ .nil)))) (lC (eL Z1) lN))) (bC (aj (aJ (lC (eL Z3) (lC (ah pg (lC (eL .e) (lC (eL Z2) lN))) lN)))) bN))))
def F130:aF:=.mk d130 (bC (aE (aD (aa .e Z8) (ai fG bH)) (bC ar (bC ar bN)) bN) (bC (ao Z3 (ag (aa .e Z8) Al (.cons 20 xw .nil) (lC (eL Z1) lN))) (bC (aE (bh (aD (eL Z3) (ai bI uW)) (bh (aD (eL Z1) (ai fP (aq 0))) bw)) (bC ar bN) bN) (bC (aE (bh (bl (ah zV (lC (aa .e Z1) lN))) (bh (bl (ag (aa .e Z8) pg (.cons 20 xr .nil) (lC (cV (aa .e Z7) Z4) lN))) bw)) (bC (aj (aJ (lC (eL Z3) (lC (bt (lC (ah sQ (lC (eL .e) lN)) lN)) lN)))) bN) bN) (bC (aj (aJ (lC (eL Z3) (lC (bt lN) lN)))) bN)))))
def F131:aF:=.mk d131 (bC (aE (bl (cV (aa .e Z3) tr)) (bC ar bN) bN) (bC (aE (aD (ah yA (lC (aa .e Z1) (lC (aO 22) lN))) (ai fG bH)) (bC ar bN) bN) (bC (aE (aD (aa .e Z1) (ai km (aJ (lC (aO 9) (lC (aO 7) lN))))) (bC ar (bC ar bN)) bN) (bC (bo (ag (aa .e Z3) Am (.cons 14 xe .nil) lN)) (bC (aj (ah pg (lC (eL .e) (lC (eL Z1) lN)))) bN)))))
def F132:aF:=.mk d132 (bC ar (bC ar (bC ar (bC ar (bC ar bN)))))
def F133:aF:=.mk d133 (bC (aj (ag (eL .e) yn (.cons 18 zW .nil) (lC (aq 16) (lC (cV (aa .e Z3) Z2) lN)))) bN)
def F134:aF:=.mk d134 (bC (aj (ag (eL .e) yn (.cons 18 zW .nil) (lC (aq 2) (lC (ag (aa .e Z3) As (.cons 14 xf .nil) lN) lN)))) bN)
def F135:aF:=.mk d135 (bC (ao Z2 (aq 16)) (bC (aE (bl (eL .e)) (bC (ao Z2 (aB xW (eL Z2) (aq 8))) bN) bN) (bC (aE (bl (eL Z1)) (bC (ao Z2 (aB xW (eL Z2) (aq 1))) bN) bN) (bC (aj (eL Z2)) bN))))
def F136:aF:=.mk d136 (bC (aE (bh (bl (cV (aa .e Z3) tr)) (bh (bl (ah Co (lC (aa .e Z1) lN))) bw)) (bC (ao Z1 (ah yA (lC (aa .e Z1) (lC (aO 22) lN)))) (bC (aE (aD (eL Z1) (ai dB bH)) (bC (ae (eL .e) Z1 18 (eL Z1)) bN) bN) bN)) bN) bN)
def F137:aF:=.mk d137 (bC (ao Z2 (bt lN)) (bC (ao Z3 (cV (aa .e Z7) .e)) (bC (ao Z4 (cV (aa .e Z3) tj)) (bC (dh (.tup [Z5,Z6,Z7,Z8]) (ag (aa .e Z3) An (.cons 14 yp .nil) (lC (ag (aa .e kf) pO (.cons 9 j9 (.cons 20 vi .nil)) lN) (lC (aa .e Aa) lN))) (bC (ao Z9 (ah hO (lC (eL Z5) (lC (aB ba (ak cq (lC (eL Z6) lN)) (dJ (bl (eL Z8)) (aq 1) (aq 0))) (lC (eL Z3) lN))))) (bC (aE (bl (ah jh (lC (eL Z4) (lC (eL Z9) (lC (eL Z3) lN))))) (bC (bo (ag (aa .e iZ) xy (.cons 10 rI .nil) (lC (eL Z9) (lC (eL Z1) lN)))) bN) bN) (bC (bo (aS (eL Z2) bJ (lC (ag (eL .e) yn (.cons 18 zW .nil) (lC (ah Af (lC (eL Z7) (lC (eL Z8) lN))) (lC (eL Z5) (lC (eL Z6) lN)))) lN))) bN)))) (bC (aj (eL Z2)) bN)))))
def F138:aF:=.mk d138 (bC (bo (ah Cw (lC (eL .e) lN))) (bC (ao Z2 (bt lN)) (bC (aE (aD (aa .e Z1) (ai km (aJ (lC (aO 7) (lC (aO 4) lN))))) (bC (aE (aD (cV (aa .e Z3) Z2) (ai bI (cV (aa .e Z3) uX))) (bC (bo (aS (eL Z2) bJ (lC (ah Ae (lC (eL .e) lN)) lN))) (bC (bo (ag (aa .e iZ) xy (.cons 10 rI .nil) (lC (cV (aa .e Z3) Z2) (lC (eL Z1) lN)))) bN)) bN) bN) (bC (aE (bl (ah Co (lC (aa .e Z1) lN))) (bC (ao Z2 (ah Cy (lC (eL .e) (lC (eL Z1) lN)))) bN) bN) bN)) (bC (bo (ah Ag (lC (eL .e) (lC (eL Z1) lN)))) (bC (aj (eL Z2)) bN)))))
def F139:aF:=.mk d139 (bC (aE (aD (ag (aa .e Z3) hO (.cons 14 kf .nil) lN) (ai fP (aq 0))) (bC ar bN) (bC (bo (ag (aa .e iY) u9 (.cons 16 tH .nil) (lC (aq 1) lN))) bN)) bN)
def F140:aF:=.mk d140 (bC (aE (aD (aa .e Z1) (ai km (aJ (lC (aO 11) (lC (aO 9) (lC (aO 13) lN)))))) (bC iD bN) bN) (bC (aE (aD (ag (aa .e Z3) hO (.cons 14 kf .nil) lN) (ai bI (aq 0))) (bC (bo (ag (aa .e iY) u9 (.cons 16 tH .nil) (lC (aq 1) lN))) bN) (bC (aE (aD (ag (aa .e iY) CC (.cons 16 Z91 .nil) (lC (aq 1) lN)) (ai fG bH)) (bC (bo (ag (aa .e iY) vR (.cons 12 o8 (.cons 14 qE (.cons 16 vX (.cons 19 kZ .nil)))) (lC (aq 1) (lC (ag (aa .e iZ) zX (.cons 10 Bc .nil) (lC (eL Z1) lN)) lN)))) bN) bN) bN)) (bC (aE (bL (bz (bl (ah Co (lC (aa .e Z1) lN)))) (bL (bz (bl (ag (aa .e Z3) CB (.cons 14 yt .nil) lN))) aP)) (bC (bo (ag (aa .e iY) u9 (.cons 16 tH .nil) (lC (aq 2) lN))) (bC (ae (eL .e) Cm 18 (aq 0)) bN)) (bC ar bN)) bN)))
def F141:aF:=.mk d141 (bC (ao Z2 (bt lN)) (bC (dh (.one Z3) (ag (aa .e iY) tx (.cons 16 Cr .nil) (lC (eL Z1) lN)) (bC (aE (aD (aa .e Z1) (ai bI (aO 11))) (bC ar bN) bN) (bC (aE (aD (eL Z3) (ai bI (aq 1))) (bC (bo (aS (eL Z2) qN (lC (ah Cz (lC (eL .e) (lC (eL Z1) lN))) lN))) bN) (bC (aE (aD (eL Z3) (ai bI (aq 2))) (bC ar bN) (bC (aE (aD (eL Z3) (ai bI (aq 3))) (bC (aE (aD (ag (aa .e jh) xw (.cons 8 iY .nil) lN) (ai dB bH)) (bC (bo (aS (eL Z2) bJ (lC (ah sQ (lC (eL .e) lN)) lN))) bN) bN) bN) (bC (aE (aD (aa .e Z1) (ai bI (aO 13))) (bC (bo (ah vj (lC (eL .e) (lC bH lN)))) bN) bN) bN)) bN)) bN)) bN))) (bC (aj (eL Z2)) bN)))
def F142:aF:=.mk d142 (bC (ao Z2 (ag (aa .e Z3) hO (.cons 14 kf .nil) lN)) (bC (aE (aD (eL Z2) (ai bI (aq 0))) (bC ar bN) bN) (bC (bo (ag (aa .e kf) CL (.cons 9 lS .nil) (lC (eL Z2) lN))) (bC (aE (bz (bl (ag (aa .e iZ) pj (.cons 10 xd .nil) lN))) (bC ar (bC ar bN)) bN) (bC (bo (ag (aa .e Z3) CM (.cons 14 yr .nil) (lC (cV (aa .e Z3) fX) lN))) (bC (ao Z3 (bt (lC (ah Ai (lC (eL .e) lN)) lN))) (bC (bo (ag (aa .e iY) vR (.cons 12 o8 (.cons 14 qE (.cons 16 vX (.cons 19 kZ .nil)))) (lC (aq 1) (lC (ag (aa .e iZ) zX (.cons 10 Bc .nil) (lC (eL Z1) lN)) lN)))) (bC (aj (eL Z3)) bN))))))))
def F143:aF:=.mk d143 (bC (bo (ag (aa .e iZ) yx (.cons 10 qD (.cons 19 vg .nil)) lN)) (bC (bT [Z1,Z2,Z3,Z4] (ag (aa .e Z3) Ao (.cons 14 Ck .nil) lN)) (bC (aE (bl (eL Z3)) (bC ar bN) bN) (bC (aj (ag (eL .e) yn (.cons 18 zW .nil) (lC (ah Af (lC (fD true) (lC (eL Z4) lN))) (lC (eL Z1) (lC (eL Z2) lN))))) bN))))
def F144:aF:=.mk d144 (bC (aE (bh (aD (eL Z1) (ai bI (aq 0))) (bh (aD (eL Z3) (ai bI (aq 0))) bw)) (bC ar bN) bN) (bC (aE (aD (eL Z1) (ai bI (aq 0))) (bC (aj (ah rH (lC (eL .e) (lC (eL Z2) (lC (eL Z3) (lC (eL Z4) lN)))))) bN) bN) (bC (aE (aD (eL Z3) (ai bI (aq 0))) (bC ar bN) bN) (bC (aj (rQ (ah rH (lC (eL .e) (lC (eL Z2) (lC (eL Z3) (lC (eL Z4) lN))))) (ah rH (lC (eL Z2) (lC (eL .e) (lC (eL Z1) (lC (eL Z4) lN))))))) bN))))
def F145:aF:=.mk d145 (bC (ao Z4 (ah iZ (lC (eL Z1) (lC (eL .e) (lC (eL Z3) lN))))) (bC (aj (eX (aq 0) (fQ iP (eL Z4) (ai qL (ah iZ (lC (eL Z1) (lC (eL Z2) (lC (eL Z3) lN)))))))) bN))
def F146:aF:=.mk d146 (bC (aE (aD (aa .e Z1) (ai bI (aO 11))) (bC ar bN) bN) (bC (aE (aD (aa .e Z1) (ai bI (aO 9))) (bC (aj (ah CD (lC (eL .e) (lC (eL Z1) (lC (eL Z2) lN))))) bN) bN) (bC (aE (aD (aa .e Z1) (ai bI (aO 7))) (bC (aj (ah Z150 (lC (eL .e) (lC (eL Z1) (lC (eL Z2) lN))))) bN) bN) (bC (aj (ah CH (lC (eL .e) (lC (eL Z1) (lC (eL Z2) lN))))) bN))))
def F147:aF:=.mk d147 (bC (aE (bl (ag (eL .e) Z6 (.cons 15 fO .nil) (lC (aq 4) lN))) (bC ar bN) bN) (bC (aE (bl (ag (eL .e) Z6 (.cons 15 fO .nil) (lC (aq 16) lN))) (bC ar bN) bN) (bC (ao Z2 (ah hO (lC (aa .e nF) (lC (ag (eL .e) zU (.cons 15 vf .nil) lN) (lC (eL Z1) lN))))) (bC (aj (aZ 15 yx (lC (aa .e yp) (lC (aa .e yo) (lC (aq 0) (lC (eL Z2) (lC (aB xW (aq 4) (aq 16)) (lC (aq 0) lN)))))))) bN))))
def F148:aF:=.mk d148 (bC (ao Z2 (aa .e Z7)) (bC (ae (eL .e) Z8 18 (aZ 20 xq (lC (aa Z1 nF) (lC (aa Z2 .e) (lC (aa Z2 xo) (lC (aa Z2 Z4) lN)))))) (bC (ao Z3 (ah zU (lC (aa Z1 xm) lN))) (bC (ae (aa .e Z3) Z4 14 (ak lZ (lC (aq 1) (lC (ak fk (lC (aa Z2 Z4) (lC (dJ (aD (eL Z3) (ai fG bH)) (aq 536) (eL Z3)) lN))) lN)))) (bC (ae (aa .e kf) Z4 9 (cV (aa .e Z3) Z4)) bN)))))
def F149:aF:=.mk d149 (bC (aE (bl (ag (eL Z1) Z6 (.cons 15 fO .nil) (lC (aq 4) lN))) (bC ar bN) bN) (bC (aE (bl (ag (eL Z1) Z6 (.cons 15 fO .nil) (lC (aq 16) lN))) (bC ar bN) bN) (bC (aE (bz (bl (ag (eL Z1) Z6 (.cons 15 fO .nil) (lC (aq 2) lN)))) (bC ar bN) bN) (bC (bo (ah xB (lC (eL .e) (lC (eL Z1) lN)))) (bC (bo (ag (aa .e Z3) fO (.cons 14 vb .nil) (lC (aa Z1 nF) (lC (cV (aa .e Z3) fX) (lC (iQ (eL Z1) pO 14 pQ) lN))))) (bC (bo (ah k8 (lC (eL .e) (lC (aO 8) lN)))) (bC (aj (ah pg (lC (eL .e) (lC (eL Z2) lN)))) bN)))))))
def F150:aF:=.mk d150 (bC (ao Z3 (cV (aa .e Z7) .e)) (bC (aE (bh (bl (ag (eL Z1) Z6 (.cons 15 fO .nil) (lC (aq 16) lN))) (bh (bz (bl (ah Aj (lC (aa Z1 nG) (lC (cV (aa .e Z3) fX) (lC (cV (aa .e Z3) tj) (lC (eL Z3) lN))))))) bw)) (bC ar bN) bN) (bC (aE (bl (ag (eL Z1) Z6 (.cons 15 fO .nil) (lC (aq 4) lN))) (bC (aE (bl (ag (eL Z1) Z6 (.cons 15 fO .nil) (lC (aq 16) lN))) (bC (bo (ah vj (lC (eL .e) (lC (aO 27) lN)))) bN) bN) (bC (aj (bt lN)) bN)) bN) (bC (aE (bz (bl (ag (eL Z1) Z6 (.cons 15 fO .nil) (lC (aq 2) lN)))) (bC ar bN) bN) (bC (bo (ah xB (lC (eL .e) (lC (eL Z1) lN)))) (bC (aE (bz (bl (ag (eL Z1) Z6 (.cons 15 fO .nil) (lC (aq 16) lN)))) (bC ar bN) bN) (bC (bo (ah Am (lC (eL .e) (lC (aa Z1 nG) (lC (eL Z2) lN))))) (bC (bo (ag (aa .e Z3) fO (.cons 14 vb .nil) (lC (aa Z1 nF) (lC (aa Z1 nG) (lC (iQ (eL Z1) pO 14 pQ) lN))))) (bC (bo (ah k8 (lC (eL .e) (lC (aO 6) lN)))) (bC (bo (ag (aa .e jh) vf (.cons 8 Z9 .nil) lN)) (bC (bo (ah Ao (lC (eL .e) (lC (ah CE (lC (eL Z1) (lC (eL Z3) lN))) (lC (eL Z2) lN))))) (bC (aj (ah Ap (lC (eL .e) (lC (eL Z2) lN)))) bN))))))))))))
def F151:aF:=.mk d151 (bC (aE (bz (bl (ag (eL .e) Z6 (.cons 15 fO .nil) (lC (aq 2) lN)))) (bC ar bN) bN) (bC (aj (aZ 15 yx (lC (aa .e yo) (lC (aa .e yp) (lC (ah hO (lC (aa .e nF) (lC (aq 1) (lC (eL Z1) lN)))) (lC (aa .e nG) (lC (aB eM (aa .e kZ) (aq 2)) (lC (iQ (eL .e) pO 14 pQ) (lC (aa .e Co) (lC (aa .e xm) (lC (aa .e yu) lN))))))))))) bN))
def F152:aF:=.mk d152 (bC (ao Z3 (cV (aa .e Z7) .e)) (bC (aE (bh (aD (aa .e Z1) (ai bI (aO 4))) (bh (aD (ah hO (lC (aa Z1 nF) (lC (aq 1) (lC (eL Z3) lN)))) (ai bI (cV (aa .e Z8) Z2))) bw)) (bC ar bN) bN) (bC (aE (bz (bl (ah CI (lC (eL .e) (lC (eL Z1) lN))))) (bC (aj (ah Ak (lC (eL .e) (lC (eL Z1) (lC (eL Z2) lN))))) bN) bN) (bC (aE (bl (ag (eL Z1) Z6 (.cons 15 fO .nil) (lC (aq 4) lN))) (bC ar bN) bN) (bC (aE (bl (ag (eL Z1) Z6 (.cons 15 fO .nil) (lC (aq 2) lN))) (bC ar bN) bN) (bC (aE (bz (bl (ag (eL Z1) Z6 (.cons 15 fO .nil) (lC (aq 16) lN)))) (bC ar bN) bN) (bC (aE (aD (aa .e Z1) (ai bI (aO 4))) (bC (aE (bz (bl (ah Aj (lC (aa Z1 nG) (lC (cV (aa .e Z3) fX) (lC (cV (aa .e Z3) tj) (lC (eL Z3) lN))))))) (bC ar bN) bN) (bC (bo (ah k8 (lC (eL .e) (lC (aO 3) lN)))) bN)) bN) (bC (aE (bl (ah Al (lC (eL .e) (lC (aa Z1 nG) lN)))) (bC ar bN) bN) (bC (ao Z4 (ah An (lC (eL .e) (lC (eL Z1) (lC (eL Z2) lN))))) (bC (aE (aD (aa .e Z1) (ai bI (aO 11))) (bC (aj (eL Z4)) bN) bN) (bC (bo (ah Ao (lC (eL .e) (lC (eL Z1) (lC (eL Z2) lN))))) (bC (aj (aB ba (eL Z4) (ah Ap (lC (eL .e) (lC (eL Z2) lN))))) bN))))))))))))
def F153:aF:=.mk d153 (bC (ao Z2 (aa .e Z8)) (bC (ao Z3 (ag (eL Z2) Ab (.cons 20 vh .nil) lN)) (bC (aE (bh (aD (eL Z3) (ai bI (aq 0))) (bh (aD (aa Z1 nF) (ai bI (aa Z2 Z2))) bw)) (bC ar bN) bN) (bC (aj (ah CB (lC (aa Z1 nF) (lC (ag (eL Z1) zU (.cons 15 vf .nil) lN) (lC (aa Z2 Z2) (lC (eL Z3) (lC (cV (aa .e Z7) .e) lN))))))) bN))))
def F154:aF:=.mk d154 (bC (aE (bl (ag (eL Z1) Z6 (.cons 15 fO .nil) (lC (aq 4) lN))) (bC ar bN) bN) (bC (aE (bh (aD (aa .e Z1) (ai bI (aO 13))) (bh (bl (ag (eL Z1) Z6 (.cons 15 fO .nil) (lC (aq 1) lN))) bw)) (bC ar bN) bN) (bC (ao Z3 (bt lN)) (bC (aE (bl (ah CJ (lC (eL .e) (lC (eL Z1) lN)))) (bC (ao Z3 (ah An (lC (eL .e) (lC (eL Z1) (lC (eL Z2) lN))))) (bC (aE (aD (aa .e Z1) (ai bI (aO 11))) (bC ar bN) bN) (bC (ao Z3 (aB ba (eL Z3) (ah pg (lC (eL .e) (lC (eL Z2) lN))))) bN))) bN) (bC (aj (aB ba (eL Z3) (bt (lC (ah sQ (lC (eL .e) lN)) lN)))) bN)))))
def F155:aF:=.mk d155 (bC (aE (bL (bz (bl (ag (eL Z1) Z6 (.cons 15 fO .nil) (lC (aq 16) lN)))) (bL (bl (ag (eL Z1) Z6 (.cons 15 fO .nil) (lC (aq 2) lN))) (bL (bz (bl (ah Cn (lC (aa .e Z1) lN)))) aP))) (bC ar bN) bN) (bC (aj (dI (ah jh (lC (aa Z1 nF) (lC (cV (aa .e Z8) Z2) (lC (cV (aa .e Z7) .e) lN)))) (Bb (ah Al (lC (eL .e) (lC (aa Z1 nG) lN)))))) bN))
def F156:aF:=.mk d156 (bC (ao Z2 (aa .e Z3)) (bC (ao Z3 (cV (aa .e Z7) .e)) (bC (aj (dI (Bb (ah jh (lC (eL Z1) (lC (aa Z2 fX) (lC (eL Z3) lN))))) (eX (ah iZ (lC (aa Z2 fX) (lC (eL Z1) (lC (eL Z3) lN)))) (ai fP (ag (eL Z2) vi (.cons 14 xg .nil) lN))))) bN)))
def F157:aF:=.mk d157 (bC (bT [Z3,Z4,Z5] (ag (aa .e Z3) sO (.cons 9 lR (.cons 10 Cj (.cons 14 vW .nil))) (lC (eL Z1) lN))) (bC (bo (ag (aa .e iZ) sO (.cons 9 lR (.cons 10 Cj (.cons 14 vW .nil))) (lC (eL Z1) (lC (eL Z2) (lC (cV (aa .e Z7) .e) lN))))) (bC (aE (bL (aD (eL Z3) (ai fP (aq 0))) (bL (bl (cV (aa .e kf) vb)) aP)) (bC (bo (ag (aa .e kf) sO (.cons 9 lR (.cons 10 Cj (.cons 14 vW .nil))) (lC (eL Z3) lN))) bN) bN) (bC (bo (ah xx (lC (eL .e) (lC (eL Z2) lN)))) (bC (aj (eL Z5)) bN)))))
def F158:aF:=.mk d158 (bC (ao Z3 (aa .e Z3)) (bC (ao Z4 (cV (aa .e Z7) .e)) (bC (ae (eL .e) Ck 18 (aq 0)) (bC (aE (bl (ah jh (lC (aa Z1 nG) (lC (aa Z3 fX) (lC (eL Z4) lN))))) (bC ar bN) bN) (bC (aE (aD (aa Z1 nG) (ai bI (aa Z3 fX))) (bC (ao Z5 (ah CL (lC (eL .e) (lC (eL Z1) (lC (eL Z2) lN))))) (bC (bo (ag (eL Z3) fO (.cons 14 vb .nil) (lC (aa Z1 nF) (lC (aa Z1 nG) (lC (iQ (eL Z1) pO 14 pQ) lN))))) (bC (aj (eL Z5)) bN))) bN) (bC (ao Z6 (ah Am (lC (eL .e) (lC (aa Z1 nG) (lC (eL Z2) lN))))) (bC (bo (ag (eL Z3) fO (.cons 14 vb .nil) (lC (aa Z1 nF) (lC (aa Z1 nG) (lC (iQ (eL Z1) pO 14 pQ) lN))))) (bC (aE (bl (eL Z6)) (bC (bo (ah CM (lC (eL .e) (lC (eL Z2) lN)))) bN) bN) (bC (aj (bt lN)) bN)))))))))
def F159:aF:=.mk d159 (bC (ao Z3 (aa .e Z3)) (bC (aE (bL (aD (ag (eL Z1) zU (.cons 15 vf .nil) lN) (ai fP (aq 0))) (bL (aD (ag (eL Z3) hO (.cons 14 kf .nil) lN) (ai bI (aq 0))) (bL (aD (iQ (eL Z1) pO 14 pQ) (ai iB (iQ (eL Z3) pO 14 pQ))) aP))) (bC (aj (bt lN)) bN) bN) (bC (aE (aD (ag (aa .e kf) CW (.cons 9 pP .nil) (lC (ag (eL Z3) hO (.cons 14 kf .nil) lN) lN)) (ai iB (aO 28))) (bC (aj (bt lN)) bN) bN) (bC ar (bC ar (bC ar bN))))))
def F160:aF:=.mk d160 (bC (aE (aD (aa .e Z1) (ai bI (aO 17))) (bC (bo (ah vj (lC (eL .e) (lC bH lN)))) bN) (bC (aE (aD (aa .e Z1) (ai bI (aO 18))) (bC ar bN) (bC (aE (aD (aa .e Z1) (ai bI (aO 15))) (bC (bo (ah k8 (lC (eL .e) (lC (aO 16) lN)))) bN) bN) bN)) bN)) bN)
def F161:aF:=.mk d161 (bC (ao Z3 (aa .e Z8)) (bC (aE (bz (bl (ah zV (lC (aa .e Z1) lN)))) (bC (aE (aD (ag (eL Z1) zU (.cons 15 vf .nil) lN) (ai fP (aq 0))) (bC ar bN) bN) (bC (aE (bh (aD (aa .e Z1) (ai bI (aO 13))) (bh (bl (ag (eL Z1) Z6 (.cons 15 fO .nil) (lC (aq 1) lN))) bw)) (bC ar bN) bN) (bC iD bN))) bN) (bC (aE (bl (ag (eL Z1) Z6 (.cons 15 fO .nil) (lC (aq 32) lN))) (bC ar bN) bN) (bC (aE (aD (ag (eL Z1) zU (.cons 15 vf .nil) lN) (ai bI (aq 0))) (bC iD bN) bN) (bC (ao Z4 (aa Z3 rH)) (bC (bT [Z5,Z6] (ag (eL Z3) Ap (.cons 20 Z115 .nil) (lC (aa Z1 nF) (lC (aa Z1 yu) (lC (ag (eL Z1) Z6 (.cons 15 fO .nil) (lC (aq 1) lN)) lN))))) (bC (aE (aD (ak cq (lC (aa Z1 yu) lN)) (ai fP (aq 0))) (bC (bo (ag (aa .e jh) xD (.cons 8 Z8 .nil) (lC (eL Z6) (lC (eL Z2) (lC (ag (eL Z3) C3 (.cons 20 z0 .nil) lN) lN))))) bN) bN) (bC (aE (bL (aD (eL Z5) (ai bI (aq 0))) (bL (bl (ag (eL Z1) Z6 (.cons 15 fO .nil) (lC (aq 1) lN))) aP)) (bC (bo (ag (aa .e jh) vf (.cons 8 Z9 .nil) lN)) bN) bN) (bC (aE (bh (bl (aa Z3 rH)) (bh (bz (bl (eL Z4))) bw)) (bC (bo (ah Z162 (lC (eL .e) (lC (eL Z2) lN)))) bN) bN) bN)))))))))
def F162:aF:=.mk d162 (bC (bo (ag (aa .e jh) vf (.cons 8 Z9 .nil) lN)) (bC (aE (aD (aa .e Z1) (ai bI (aO 19))) (bC (bo (ah z6 (lC (eL .e) (lC (eL Z1) lN)))) bN) (bC (bo (ah k8 (lC (eL .e) (lC (aO 20) lN)))) bN)) bN))
def F163:aF:=.mk d163 (bC (ao Z2 (ah pg (lC (eL .e) (lC (eL Z1) lN)))) (bC (aE (bl (ag (aa .e jh) CN (.cons 8 kY .nil) (lC (eL Z1) lN))) (bC (bo (aS (eL Z2) bJ (lC (ah sQ (lC (eL .e) lN)) lN))) bN) (bC (aE (aD (ag (aa .e jh) xw (.cons 8 iY .nil) lN) (ai dB bH)) (bC (bo (ag (aa .e iY) vR (.cons 12 o8 (.cons 14 qE (.cons 16 vX (.cons 19 kZ .nil)))) (lC (aq 3) (lC (ag (aa .e jh) xw (.cons 8 iY .nil) lN) lN)))) bN) bN) bN)) (bC (aj (eL Z2)) bN)))
def F164:aF:=.mk d164 (bC (ae (eL .e) vS 21 yk) (bC (ae (eL .e) Z9 21 yk) bN))
def F165:aF:=.mk d165 (bC (aE (aD (aJ (lC (eL Z1) (lC (eL Z2) lN))) (ai km (aa .e Z9))) (bC ar bN) bN) (bC (cX (aa .e Z9) (aJ (lC (eL Z1) (lC (eL Z2) lN))) (eL Z3)) bN))
def F166:aF:=.mk d166 (bC (aE (aD (aJ (lC (eL Z1) (lC (eL Z2) lN))) (ai km (aa .e vS))) (bC ar bN) bN) (bC (cX (aa .e vS) (aJ (lC (eL Z1) (lC (eL Z2) lN))) (eL Z3)) bN))
def F167:aF:=.mk d167 (bC (ao Z2 (aq 0)) (bC (dh (.one Z3) (aJ (lC (aa .e vS) (lC (aa .e Z9) lN))) (bC (dh (.one Z4) (cn (.one .e) (.cons Z1 Z1 (.cons Z3 Z2 .nil)) (eL Z3) (iOn (aD (bU (eL Z2) (eL .e)) (ai bI (eL Z1)))) (eL .e)) (bC (bo (aS (eL Z3) qM (lC (eL Z4) lN))) (bC (ao Z2 (aB ba (eL Z2) (aq 1))) bN))) bN)) (bC (aj (eL Z2)) bN)))
def F168:aF:=.mk d168 (bC (ao Z5 (aJ (lC (eL Z1) (lC (eL Z2) lN)))) (bC (ao Z6 (aS (aa .e vS) nK (lC (aJ (lC (eL Z5) (lC (aJ (lC (eL Z3) (lC (eL Z4) lN))) lN))) lN))) (bC (aE (aD (eL Z6) (ai dB bH)) (bC (aj (aJ (lC (eL Z6) (lC (fD false) lN)))) bN) bN) (bC (ao Z6 (aS (aa .e Z9) nK (lC (eL Z5) lN))) (bC (aE (aD (eL Z6) (ai fG bH)) (bC (ao Z6 (aS (aa .e Z9) nK (lC (aJ (lC (aq 0) (lC (eL Z2) lN))) lN))) bN) bN) (bC (aj (dJ (aD (eL Z6) (ai fG bH)) bH (aJ (lC (eL Z6) (lC (fD true) lN))))) bN))))))
def F169:aF:=.mk d169 (bC (dh (.tup [Z2,Z3]) (aa .e vS) (bC ar bN)) (bC (aj (ak v8 (lC (cn (.one .e) (.cons Z1 Z1 .nil) (aa .e Z9) zM (eX (bU (eL .e) (aq 1)) (ai bI (eL Z1)))) lN))) bN))
def F170:aF:=.mk d170 (bC (ae (eL .e) Aq 22 (eL Z1)) (bC (ae (eL .e) sR 22 (eL Z2)) (bC (ae (eL .e) Ac 22 (eL Z3)) (bC (ae (eL .e) sJ 22 (bt lN)) (bC (ae (eL .e) pP 22 (bt lN)) bN)))))
def F171:aF:=.mk d171 (bC (aj (aB ba (ak cq (lC (aa .e sJ) lN)) (ak cq (lC (aa .e pP) lN)))) bN)
def F172:aF:=.mk d172 (bC (aE (aD (eL Z1) (ai km (aa .e sJ))) (bC (bo (aS (aa .e sJ) gH (lC (eL Z1) lN))) (bC (bo (aS (aa .e pP) bJ (lC (eL Z1) lN))) bN)) bN) bN)
def F173:aF:=.mk d173 (bC (ae (eL .e) lS 23 (eL Z1)) (bC (ae (eL .e) vV 23 (eL Z2)) (bC (ae (eL .e) yy 23 (eL Z3)) (bC (ae (eL .e) xp 23 (fD false)) (bC (ae (eL .e) xq 23 (fD false)) bN)))))
def F174:aF:=.mk d174 (bC (aE (bL (bl (aa .e xq)) (bL (aD (aa .e vV) (ai dB bH)) aP)) (bC (aj (fD true)) bN) bN) (bC (aj (dI (aa .e xp) (rQ (eX (cV (aa .e lS) Z8) (ai fG bH)) (eX (ag (cV (aa .e lS) Z8) Bg (.cons 20 o9 .nil) lN) (ai bI (aq 0)))))) bN))
def F175:aF:=.mk d175 (bC (aj (cn (.one .e) (.cons .e Z1 .nil) (eL Z1) zM (aJ (lC (bU (aa Z1 Cq) (aq 0)) (lC (bU (aa Z1 tH) (aq 0)) (lC (eL .e) lN)))))) bN)
def F176:aF:=.mk d176 (bC (ae (eL .e) Z7 24 (eL Z1)) (bC (ae (eL .e) uX 24 (eL Z2)) (bC (ae (eL .e) yq 24 (aZ 7 Z1 (lC (eL Z3) (lC (eL Z4) lN)))) (bC (ae (eL .e) vU 24 (aZ 21 CN lN)) (bC (ae (eL .e) Z9 24 gG) (bC (ae (eL .e) j9 24 gG) (bC (ae (eL .e) uZ 24 (aq 0)) bN)))))))
def F177:aF:=.mk d177 (bC (ae (eL .e) uZ 24 (aB ba (aa .e uZ) (aq 1))) (bC (aj (aa .e uZ)) bN))
def F178:aF:=.mk d178 (bC (ae (eL .e) uX 24 (aB lX (aB ba (aB ba (aB hW (aa .e uX) (aq 5)) (aq 64)) (eL Z1)) (cV (aa .e Z7) .e))) (bC (aj (aa .e uX)) bN))
def F179:aF:=.mk d179 (bC (aE (aD (eL Z1) (ai kq (aa .e j9))) (bC ar bN) bN) (bC (aj (bU (aa .e j9) (eL Z1))) bN))
def F180:aF:=.mk d180 (bC (ao Z4 (ag (eL .e) xt (.cons 24 xD .nil) lN)) (bC (bo (ag (aa .e vU) Ad (.cons 21 Aq (.cons 24 CX .nil)) (lC (eL Z1) (lC (eL Z2) (lC (eL Z4) lN))))) (bC (cX (aa .e Z9) (eL Z4) (aZ 22 CT (lC (eL Z1) (lC (eL Z2) (lC (eL Z3) lN))))) (bC (aj (eL Z4)) bN))))
def F181:aF:=.mk d181 (bC (ao Z6 (ag (eL .e) yy (.cons 24 Z182 .nil) (lC (eL Z5) lN))) (bC (ao Z7 (ag (eL .e) xt (.cons 24 xD .nil) lN)) (bC (ao Z8 (aZ 18 Cv (lC (aa .e Z7) (lC (aJ (lC (eL Z1) (lC (eL Z6) lN))) (lC (aJ (lC (eL Z2) (lC (eL Z3) lN))) (lC (ag (eL .e) xB (.cons 24 Au .nil) (lC (eL Z4) lN)) lN)))))) (bC (bo (ag (aa .e vU) xh (.cons 21 sR (.cons 24 sT .nil)) (lC (aa Z8 Cq) (lC (aa Z8 tH) (lC (eL Z7) lN))))) (bC (cX (aa .e j9) (eL Z7) (aZ 23 Ar (lC (eL Z8) (lC bH (lC (dJ (aD (eL Z5) (ai bI (aq 0))) (eL Z6) bH) lN))))) (bC (aj (aJ (lC (eL Z7) (lC (ah pj (lC (eL Z8) (lC (ah z8 (lC (eL Z8) (lC (eL Z4) lN))) lN))) lN)))) bN))))))
def F182:aF:=.mk d182 (bC (aE (aD (eL Z1) (ai iB (aq 0))) (bC ar bN) bN) (bC (dh (.one Z2) (ak dK (lC (aB ba (aB eM (cV (aa .e yq) yA) (cV (aa .e yq) vd)) (aq 1)) lN)) (bC (ao Z3 (ag (aa .e yq) sP (.cons 7 Z3 (.cons 13 tG (.cons 19 sO .nil))) (lC (aq 0) lN))) (bC (aE (bz (bl (ag (aa .e vU) C7 (.cons 21 CS .nil) (lC (eL Z3) lN)))) (bC (aj (eL Z3)) bN) bN) (bC ar bN)))) (bC ar bN)))
def F183:aF:=.mk d183 (bC (aE (aD (eL Z1) (ai kq (aa .e Z9))) (bC ar bN) bN) (bC (ao Z2 (cV (bU (aa .e Z9) (eL Z1)) pP)) (bC (aE (aD (eL Z2) (ai bI (bt lN))) (bC (aj bH) bN) bN) (bC (ao Z3 (aS (eL Z2) nJ (lC (aq 0) lN))) (bC (ae (bU (aa .e j9) (eL Z3)) vV 23 bH) (bC (aj (eL Z3)) bN))))))
def F184:aF:=.mk d184 (bC (ao Z4 (cV (ag (eL .e) yz (.cons 24 qF .nil) (lC (eL Z1) lN)) lS)) (bC (bo (ag (eL .e) xx (.cons 24 sV .nil) (lC (eL Z4) lN))) (bC (bT [Z5,Z6] (ah Aa (lC (eL Z4) (lC (eL Z2) (lC (eL Z3) lN))))) (bC (aj (aJ (lC (eL Z5) (lC (ah pj (lC (eL Z4) (lC (eL Z6) lN))) lN)))) bN))))
def Dd:aF:=.mk C8 (bC (ao Z4 (cV (ag (eL .e) yz (.cons 24 qF .nil) (lC (eL Z1) lN)) lS)) (bC (aE (bL (aD (aa Z4 Z8) (ai fG bH)) (bL (aD (ag (aa Z4 Z8) Bg (.cons 20 o9 .nil) lN) (ai bI (aq 0))) aP)) (bC (bo (ag (eL .e) xx (.cons 24 sV .nil) (lC (eL Z4) lN))) (bC (aj (aJ (lC uW (lC (bt lN) lN)))) bN)) bN) (bC (bT [Z5,Z6] (ah Ab (lC (eL Z4) (lC (eL Z2) (lC (eL Z3) lN))))) (bC (aE (bh (aD (aa Z4 Z1) (ai bI (aO 11))) (bh (bl (ag (bU (aa .e j9) (eL Z1)) Ag (.cons 23 As .nil) lN)) bw)) (bC ar bN) bN) (bC (aj (aJ (lC (eL Z5) (lC (ah pj (lC (eL Z4) (lC (eL Z6) lN))) lN)))) bN)))))
def De:aF:=.mk C9 (bC (aE (aD (aa Z1 sI) (ai bI (aO 26))) (bC ar bN) bN) (bC (aE (aD (aa Z1 sI) (ai dB bH)) (bC ar bN) bN) bN))
def F187:aF:=.mk d187 (bC (aE (aD (eL Z1) (ai km (aa .e Z9))) (bC (aj (aJ (lC (aO 9) (lC bH (lC (aq 0) (lC (aq 0) lN)))))) bN) bN) (bC (aE (aD (eL Z1) (ai kq (aa .e j9))) (bC (aj (aJ (lC (aO 11) (lC bH (lC (aq 0) (lC (aq 0) lN)))))) bN) bN) (bC (ao Z2 (cV (bU (aa .e j9) (eL Z1)) lS)) (bC (ao Z3 (dJ (aD (aa Z2 Z8) (ai fG bH)) (aq 0) (ag (aa Z2 Z8) Bg (.cons 20 o9 .nil) lN))) (bC (aj (aJ (lC (aa Z2 Z1) (lC (aa Z2 sI) (lC (eL Z3) (lC (ag (cV (aa Z2 Z3) lR) Z5 (.cons 12 nH .nil) lN) lN)))))) bN)))))
def F188:aF:=.mk d188 (bC (ao Z2 (cV (cV (ag (eL .e) yz (.cons 24 qF .nil) (lC (eL Z1) lN)) lS) Z8)) (bC (aj (dI (eX (eL Z2) (ai dB bH)) (dI (aa Z2 rH) (eX (ag (eL Z2) Bg (.cons 20 o9 .nil) lN) (ai bI (aq 0)))))) bN))
def F189:aF:=.mk d189 (bC (aE (aD (eL Z1) (ai km (aa .e Z9))) (bC ar bN) bN) (bC (aj (ag (eL .e) zZ (.cons 24 Ay .nil) (lC (eL Z1) (lC (eKf Ac) (lC (eL Z2) lN))))) bN))
def F190:aF:=.mk d190 (bC (aE (aD (eL Z1) (ai km (aa .e Z9))) (bC ar bN) bN) (bC (ae (ag (eL .e) yz (.cons 24 qF .nil) (lC (eL Z1) lN)) xq 23 (fD true)) (bC (aj (ag (eL .e) zZ (.cons 24 Ay .nil) (lC (eL Z1) (lC (eKf Ad) (lC (eL Z2) lN))))) bN)))
def F191:aF:=.mk d191 (bC (ao Z4 (ag (eL .e) yz (.cons 24 qF .nil) (lC (eL Z1) lN))) (bC (ao Z5 (dJ (aD (cV (aa Z4 lS) Z1) (ai bI (aO 11))) (bt lN) (gf (eL Z2) (lC (aa Z4 lS) (lC (eL Z3) lN))))) (bC (ae (eL Z4) xp 23 (fD true)) (bC (ao Z6 (ah pj (lC (aa Z4 lS) (lC (eL Z5) lN)))) (bC (bo (ag (eL .e) Cr (.cons 24 vm .nil) (lC (eL Z1) lN))) (bC (aj (eL Z6)) bN))))))
def F192:aF:=.mk d192 (bC (ao Z2 (bU (aa .e j9) (eL Z1))) (bC (ao Z3 (cV (aa Z2 lS) Z1)) (bC (aE (aD (eL Z3) (ai bI (aO 11))) (bC (bo (ag (eL .e) C4 (.cons 24 CZ .nil) (lC (eL Z1) (lC (eL Z2) lN)))) bN) (bC (aE (bh (aD (aa Z2 vV) (ai dB bH)) (bh (aD (eL Z3) (ai kq (aJ (lC (aO 9) (lC (aO 7) (lC (aO 4) lN)))))) bw)) (bC (bo (ag (bU (aa .e Z9) (aa Z2 vV)) m8 (.cons 22 CV .nil) (lC (eL Z1) lN))) bN) bN) bN)) bN)))
def F193:aF:=.mk d193 (bC (bo (ag (aa .e vU) Z81 (.cons 21 CQ .nil) (lC (eL Z1) lN))) (bC (aE (aD (aa Z2 yy) (ai dB bH)) (bC (bo (ag (aa .e yq) CD (.cons 7 Z6 .nil) (lC (aa Z2 yy) lN))) (bC (ae (eL Z2) yy 23 bH) bN)) bN) (bC (aE (aD (aa Z2 vV) (ai dB bH)) (bC ar bN) bN) (bC (aE (bl (ag (eL Z2) Ag (.cons 23 As .nil) lN)) (bC (bo (aS (aa .e j9) lh (lC (eL Z1) lN))) bN) bN) bN))))
def F194:aF:=.mk d194 (bC (ao Z5 (ag (aa .e vU) Au (.cons 21 CR .nil) (lC (eL Z2) (lC (aa Z3 yp) (lC (eL Z1) (lC (aa Z3 yo) lN)))))) (bC (aE (aD (eL Z5) (ai fG bH)) (bC (aj (ag (eL .e) CE (.cons 24 C4 .nil) (lC (eL Z1) (lC (eL Z2) (lC (eL Z3) lN))))) bN) bN) (bC (bT [Z6,Z7] (eL Z5)) (bC (aE (bl (eL Z7)) (bC (aj (ag (eL .e) C5 (.cons 24 C5 .nil) (lC (eL Z6) (lC (eL Z1) (lC (eL Z2) (lC (eL Z3) (lC (eL Z4) lN))))))) bN) bN) (bC (ao Z8 (cV (bU (aa .e j9) (eL Z6)) lS)) (bC (ao Z9 (ah pj (lC (eL Z8) (lC (ah xy (lC (eL Z8) (lC (eL Z3) (lC (eL Z4) lN)))) lN)))) (bC (bo (ag (eL .e) Cr (.cons 24 vm .nil) (lC (eL Z6) lN))) (bC (aj (eL Z9)) bN))))))))
def F195:aF:=.mk d195 (bC (ao Z4 (ah CC (lC (eL Z3) lN))) (bC (aj (dJ (aD (eL Z4) (ai fG bH)) (bt lN) (bt (lC (aJ (lC (eL Z2) (lC (eL Z1) (lC (eL Z4) lN)))) lN)))) bN))
def F196:aF:=.mk d196 (bC (aE (bl (ag (eL Z4) Z6 (.cons 15 fO .nil) (lC (aq 4) lN))) (bC ar bN) bN) (bC (aE (bl (ag (eL Z4) Z6 (.cons 15 fO .nil) (lC (aq 16) lN))) (bC ar bN) bN) (bC (ao Z6 (bU (aa .e Z9) (eL Z1))) (bC (aE (bL (bz (bl (ag (eL Z4) Z6 (.cons 15 fO .nil) (lC (aq 2) lN)))) (bL (aD (ag (eL Z6) tG (.cons 22 CU .nil) lN) (ai th (aa Z6 Ac))) aP)) (bC ar bN) bN) (bC (lQ Z7 Z8 (aJ (lC (aJ (lC (eL Z3) (lC (aa Z4 yp) lN))) (lC (aJ (lC (eL Z2) (lC (aa Z4 yo) lN))) lN)))) (bC (ao Z9 (aZ 18 Cv (lC (aa .e Z7) (lC (eL Z7) (lC (eL Z8) (lC (ag (eL .e) xB (.cons 24 Au .nil) (lC (eL Z5) lN)) lN)))))) (bC (bo (ah z9 (lC (eL Z9) lN))) (bC (ao kY (ah pj (lC (eL Z9) (lC (ah xy (lC (eL Z9) (lC (eL Z4) (lC (eL Z5) lN)))) lN)))) (bC (aE (aD (aa Z9 Z1) (ai kq (aJ (lC (aO 9) (lC (aO 11) lN))))) (bC (ao fX (ag (eL .e) xt (.cons 24 xD .nil) lN)) (bC (bo (ag (aa .e vU) xh (.cons 21 sR (.cons 24 sT .nil)) (lC (eL Z7) (lC (eL Z8) (lC (eL fX) lN))))) (bC (cX (aa .e j9) (eL fX) (aZ 23 Ar (lC (eL Z9) (lC (eL Z1) (lC bH lN))))) (bC (bo (aS (aa Z6 sJ) bJ (lC (eL fX) lN))) (bC (bo (ag (eL .e) Cr (.cons 24 vm .nil) (lC (eL fX) lN))) bN))))) bN) (bC (aj (eL kY)) bN))))))))))
def F197:aF:=.mk d197 (bC (ao Z2 (bt lN)) (bC (dh (.one Z3) (ak gK (lC (aa .e j9) lN)) (bC (ao Z4 (cV (bU (aa .e j9) (eL Z3)) lS)) (bC (ao Z5 (ag (aa Z4 iY) Ct (.cons 16 xh (.cons 24 vo .nil)) lN)) (bC (aE (bh (aD (eL Z5) (ai dB bH)) (bh (aD (eL Z5) (ai qL (eL Z1))) bw)) (bC (ao Z2 (aB ba (eL Z2) (ah pj (lC (eL Z4) (lC (ah Ah (lC (eL Z4) (lC (eL Z1) lN))) lN))))) (bC (bo (ag (eL .e) Cr (.cons 24 vm .nil) (lC (eL Z3) lN))) bN)) bN) bN)))) (bC (aj (eL Z2)) bN)))
def F198:aF:=.mk d198 (bC (ao Z1 (bt lN)) (bC (dh (.one Z2) (aa .e j9) (bC (ao Z3 (ag (cV (cV (bU (aa .e j9) (eL Z2)) lS) iY) Ct (.cons 16 xh (.cons 24 vo .nil)) lN)) (bC (aE (aD (eL Z3) (ai dB bH)) (bC (bo (aS (eL Z1) bJ (lC (eL Z3) lN))) bN) bN) bN))) (bC (aj (dJ (aD (eL Z1) (ai iB (bt lN))) (ak fk (lC (eL Z1) lN)) bH)) bN)))
def F201:aF:=.mk d201 (bC (aj (bU (eL Z1) (ah xF (lC (eL .e) (lC (ak cq (lC (eL Z1) lN)) lN))))) bN)
def F202:aF:=.mk d202 (bC (dh (.one Z3) (ak dK (lC (aq 150) lN)) (bC (aE (aD (eL Z1) (ai iB (bt lN))) (bC (bT [Z4,Z5,Z6] (bU (eL Z1) (aq 0))) (bC (ao Z1 (aB ba (fa (eL Z1) (aq 1)) (ag (bU (eL .e) (eL Z5)) AA (.cons 24 C3 .nil) (lC (eL Z4) (lC (eL Z5) (lC (eL Z6) (lC (eL Z2) lN))))))) bN)) (bC (ao Z7 (bt (lC (ag (bU (eL .e) (aq 1)) Ct (.cons 16 xh (.cons 24 vo .nil)) lN) (lC (ag (bU (eL .e) (aq 2)) Ct (.cons 16 xh (.cons 24 vo .nil)) lN) lN)))) (bC (ym Z7 (.one .e) .nil (eL Z7) (iOn (aD (eL .e) (ai dB bH))) (ak jl (lC (eL .e) lN))) (bC (aE (aD (eL Z7) (ai bI (bt lN))) (bC (aj (eL Z2)) bN) bN) (bC (ao Z2 (ak lZ (lC (ak jl (lC (eL Z2) lN)) (lC (ak fk (lC (eL Z7) lN)) lN)))) (bC (ao Z1 (aB ba (ag (bU (eL .e) (aq 1)) Ak (.cons 24 Az .nil) (lC (eL Z2) lN)) (ag (bU (eL .e) (aq 2)) Ak (.cons 24 Az .nil) (lC (eL Z2) lN)))) bN)))))) bN)) (bC ar bN))
def F203:aF:=.mk d203 (bC (aj (ak eN (lC (cn (.one .e) (.cons .e Z1 .nil) (ak dK (lC (aB ba (aq 1) (ah xF (lC (eL .e) (lC (aq 9) lN)))) lN)) zM (aB ba (aq 65) (ah xF (lC (eL Z1) (lC (aq 26) lN))))) lN))) bN)
def F204:aF:=.mk d204 (bC (lQ Z5 Z6 (aJ (lC (bU (eL .e) (eL Z1)) (lC uW lN)))) (bC (dh (.one Z7) (ak dK (lC (aB ba (aB jk (ak cq (lC (eL Z3) lN)) (aq 3)) (aq 1)) lN)) (bC (aE (bh (bl (ag (eL Z5) Cs (.cons 24 vk .nil) (lC (eL Z2) lN))) (bh (aD (ak cq (lC (eL Z6) lN)) (ai iP (ak cq (lC (eL Z3) lN)))) bw)) (bC ar bN) bN) (bC (bT [Z8,Z9] (ag (eL Z5) xu (.cons 24 sU .nil) (lC (eL Z2) (lC (aq 3) (lC (eL Z4) lN))))) (bC (ao Z6 (aB ba (eL Z6) (eL Z8))) (bC (aE (aD (ah m8 (lC (eL .e) (lC (eL Z9) (lC (eL Z4) lN)))) (ai fG bH)) (bC ar bN) bN) bN))))) (bC (aj (eX (eL Z6) (ai bI (eL Z3)))) bN)))
def Df:aF:=.mk Dc (bC (bT [Z2,Z3] (ag (bU (eL .e) (aq 1)) xh (.cons 21 sR (.cons 24 sT .nil)) (lC (aq 1) (lC (aq 2) (lC (aq 9) (lC (eL Z1) lN)))))) (bC (aE (bL (aD (ah m8 (lC (eL .e) (lC (eL Z3) (lC (eL Z1) lN)))) (ai fG bH)) (bL (aD (ag (bU (eL .e) (aq 1)) tF (.cons 24 k9 .nil) (lC (eL Z2) lN)) (ai iB (aJ (lC (aO 11) (lC (aO 27) (lC (aq 0) (lC (aq 0) lN))))))) aP)) (bC ar bN) bN) (bC ar bN)))
end K
theorem zT {w:World}{V:Va}{oh:Heap}{mg mb:Str->Option Value}(G:Gl w V oh mg mb) (HD:jf V){kH:Bool}:Fb w V oh kH dT uL vT:=⟨so G HD (S:="source") (I0:="int") (T0:="top") (D:="drawn") (by kernel_rfl) (by kernel_rfl) (by kernel_rfl) (by kernel_rfl) (by kernel_rfl) (by kernel_rfl)⟩
theorem kP:(dP.T.vals.all λy=>(bR dP.T (aX dP.st) vP).kindOf y==some .local)=true:=by kernel_rfl
theorem zP {w:World}{V:Va}{oh:Heap}{mg mb:Str->Option Value}(G:Gl w V oh mg mb){l:List FT}(PO:mV V oh l):Fb w V oh false dP (uM l) vP:=⟨sv G PO (by kernel_rfl) (by kernel_rfl) (by kernel_rfl) (by kernel_rfl) (λp y h=>beq_iff_eq.mp (List.all_eq_true.mp kP y (Tr.aQ h)))⟩
def dL:aC:=dn (.top "law") ["script","source","limits","sides","listener","number","rows","now","child","octets","answer","taken","gone"] 1 (aT 161)
theorem vL:aW dL.T.vals=true:=by kernel_rfl
noncomputable def pq:Tr rJ:=(.nd (some (.py K.F0)) (.nd (some (.py K.F1)) (.nd (some (.py K.F5)) (.nd (some (.py K.F21)) (.nd (some (.py K.F85)) .lf .lf .lf .lf) (.nd (some (.py K.F86)) .lf .lf .lf .lf) (.nd (some (.py K.F87)) .lf .lf .lf .lf) (.nd (some (.py K.F88)) .lf .lf .lf .lf)) (.nd (some (.py K.F22)) (.nd (some (.py K.F89)) .lf .lf .lf .lf) (.nd (some (.py K.F90)) .lf .lf .lf .lf) (.nd (some (.py K.F91)) .lf .lf .lf .lf) (.nd (some (.py K.F92)) .lf .lf .lf .lf)) (.nd (some (.py K.F23)) (.nd (some (.py K.F93)) .lf .lf .lf .lf) (.nd (some (.py K.F94)) .lf .lf .lf .lf) (.nd (some (.py K.F95)) .lf .lf .lf .lf) (.nd (some (.py K.F96)) .lf .lf .lf .lf)) (.nd (some (.py K.F24)) (.nd (some (.py K.F97)) .lf .lf .lf .lf) (.nd (some (.py K.F98)) .lf .lf .lf .lf) (.nd (some (.py K.F99)) .lf .lf .lf .lf) (.nd (some (.py K.F100)) .lf .lf .lf .lf))) (.nd (some (.py K.F6)) (.nd (some (.py K.F25)) (.nd (some (.py K.F101)) .lf .lf .lf .lf) (.nd (some (.py K.F102)) .lf .lf .lf .lf) (.nd (some (.py K.F103)) .lf .lf .lf .lf) (.nd (some (.py K.F104)) .lf .lf .lf .lf)) (.nd (some (.py K.F26)) (.nd (some (.py K.F105)) .lf .lf .lf .lf) (.nd (some (.py K.F106)) .lf .lf .lf .lf) (.nd (some (.py K.F107)) .lf .lf .lf .lf) (.nd (some (.py K.F108)) .lf .lf .lf .lf)) (.nd (some (.py K.F27)) (.nd (some (.py K.F109)) .lf .lf .lf .lf) (.nd (some (.py K.F110)) .lf .lf .lf .lf) (.nd (some (.py K.F111)) .lf .lf .lf .lf) (.nd (some (.py K.F112)) .lf .lf .lf .lf)) (.nd (some (.py K.F28)) (.nd (some (.py K.F113)) .lf .lf .lf .lf) (.nd (some (.py K.F114)) .lf .lf .lf .lf) (.nd (some (.py K.F115)) .lf .lf .lf .lf) (.nd (some (.py K.F116)) .lf .lf .lf .lf))) (.nd (some (.py K.F7)) (.nd (some (.py K.F29)) (.nd (some (.py K.F117)) .lf .lf .lf .lf) (.nd (some (.py K.F118)) .lf .lf .lf .lf) (.nd (some (.py K.F119)) .lf .lf .lf .lf) (.nd (some (.py K.F120)) .lf .lf .lf .lf)) (.nd (some (.py K.F30)) (.nd (some (.py K.F121)) .lf .lf .lf .lf) (.nd (some (.py K.F122)) .lf .lf .lf .lf) (.nd (some (.py K.F123)) .lf .lf .lf .lf) (.nd (some (.py K.F124)) .lf .lf .lf .lf)) (.nd (some (.py K.F31)) (.nd (some (.py K.F125)) .lf .lf .lf .lf) (.nd (some (.py K.F126)) .lf .lf .lf .lf) (.nd (some (.py K.F127)) .lf .lf .lf .lf) (.nd (some (.py K.F128)) .lf .lf .lf .lf)) (.nd (some (.py K.F32)) (.nd (some (.py K.F129)) .lf .lf .lf .lf) (.nd (some (.py K.F130)) .lf .lf .lf .lf) (.nd (some (.py K.F131)) .lf .lf .lf .lf) (.nd (some (.py K.F132)) .lf .lf .lf .lf))) (.nd (some (.py K.F8)) (.nd (some (.py K.F33)) (.nd (some (.py K.F133)) .lf .lf .lf .lf) (.nd (some (.py K.F134)) .lf .lf .lf .lf) (.nd (some (.py K.F135)) .lf .lf .lf .lf) (.nd (some (.py K.F136)) .lf .lf .lf .lf)) (.nd (some (.py K.F34)) (.nd (some (.py K.F137)) .lf .lf .lf .lf) (.nd (some (.py K.F138)) .lf .lf .lf .lf) (.nd (some (.py K.F139)) .lf .lf .lf .lf) (.nd (some (.py K.F140)) .lf .lf .lf .lf)) (.nd (some (.py K.F35)) (.nd (some (.py K.F141)) .lf .lf .lf .lf) (.nd (some (.py K.F142)) .lf .lf .lf .lf) (.nd (some (.py K.F143)) .lf .lf .lf .lf) (.nd (some (.py K.F144)) .lf .lf .lf .lf)) (.nd (some (.py K.F36)) (.nd (some (.py K.F145)) .lf .lf .lf .lf) (.nd (some (.py K.F146)) .lf .lf .lf .lf) (.nd (some (.py K.F147)) .lf .lf .lf .lf) (.nd (some (.py K.F148)) .lf .lf .lf .lf)))) (.nd (some (.py K.F2)) (.nd (some (.py K.F9)) (.nd (some (.py K.F37)) (.nd (some (.py K.F149)) .lf .lf .lf .lf) (.nd (some (.py K.F150)) .lf .lf .lf .lf) (.nd (some (.py K.F151)) .lf .lf .lf .lf) (.nd (some (.py K.F152)) .lf .lf .lf .lf)) (.nd (some (.py K.F38)) (.nd (some (.py K.F153)) .lf .lf .lf .lf) (.nd (some (.py K.F154)) .lf .lf .lf .lf) (.nd (some (.py K.F155)) .lf .lf .lf .lf) (.nd (some (.py K.F156)) .lf .lf .lf .lf)) (.nd (some (.py K.F39)) (.nd (some (.py K.F157)) .lf .lf .lf .lf) (.nd (some (.py K.F158)) .lf .lf .lf .lf) (.nd (some (.py K.F159)) .lf .lf .lf .lf) (.nd (some (.py K.F160)) .lf .lf .lf .lf)) (.nd (some (.py K.F40)) (.nd (some (.py K.F161)) .lf .lf .lf .lf) (.nd (some (.py K.F162)) .lf .lf .lf .lf) (.nd (some (.py K.F163)) .lf .lf .lf .lf) (.nd (some (.py K.F164)) .lf .lf .lf .lf))) (.nd (some (.py K.F10)) (.nd (some (.py K.F41)) (.nd (some (.py K.F165)) .lf .lf .lf .lf) (.nd (some (.py K.F166)) .lf .lf .lf .lf) (.nd (some (.py K.F167)) .lf .lf .lf .lf) (.nd (some (.py K.F168)) .lf .lf .lf .lf)) (.nd (some (.py K.F42)) (.nd (some (.py K.F169)) .lf .lf .lf .lf) (.nd (some (.py K.F170)) .lf .lf .lf .lf) (.nd (some (.py K.F171)) .lf .lf .lf .lf) (.nd (some (.py K.F172)) .lf .lf .lf .lf)) (.nd (some (.py K.F43)) (.nd (some (.py K.F173)) .lf .lf .lf .lf) (.nd (some (.py K.F174)) .lf .lf .lf .lf) (.nd (some (.py K.F175)) .lf .lf .lf .lf) (.nd (some (.py K.F176)) .lf .lf .lf .lf)) (.nd (some (.py K.F44)) (.nd (some (.py K.F177)) .lf .lf .lf .lf) (.nd (some (.py K.F178)) .lf .lf .lf .lf) (.nd (some (.py K.F179)) .lf .lf .lf .lf) (.nd (some (.py K.F180)) .lf .lf .lf .lf))) (.nd (some (.py K.F11)) (.nd (some (.py K.F45)) (.nd (some (.py K.F181)) .lf .lf .lf .lf) (.nd (some (.py K.F182)) .lf .lf .lf .lf) (.nd (some (.py K.F183)) .lf .lf .lf .lf) (.nd (some (.py K.F184)) .lf .lf .lf .lf)) (.nd (some (.py K.F46)) (.nd (some (.py K.Dd)) .lf .lf .lf .lf) (.nd (some (.py K.De)) .lf .lf .lf .lf) (.nd (some (.py K.F187)) .lf .lf .lf .lf) (.nd (some (.py K.F188)) .lf .lf .lf .lf)) (.nd (some (.py K.F47)) (.nd (some (.py K.F189)) .lf .lf .lf .lf) (.nd (some (.py K.F190)) .lf .lf .lf .lf) (.nd (some (.py K.F191)) .lf .lf .lf .lf) (.nd (some (.py K.F192)) .lf .lf .lf .lf)) (.nd (some (.py K.F48)) (.nd (some (.py K.F193)) .lf .lf .lf .lf) (.nd (some (.py K.F194)) .lf .lf .lf .lf) (.nd (some (.py K.F195)) .lf .lf .lf .lf) (.nd (some (.py K.F196)) .lf .lf .lf .lf))) (.nd (some (.py K.F12)) (.nd (some (.py K.F49)) (.nd (some (.py K.F197)) .lf .lf .lf .lf) (.nd (some (.py K.F198)) .lf .lf .lf .lf) (.nd (some .pl) .lf .lf .lf .lf) (.nd (some .tk) .lf .lf .lf .lf)) (.nd (some (.py K.F50)) (.nd (some (.py K.F201)) .lf .lf .lf .lf) (.nd (some (.py K.F202)) .lf .lf .lf .lf) (.nd (some (.py K.F203)) .lf .lf .lf .lf) (.nd (some (.py K.F204)) .lf .lf .lf .lf)) (.nd (some (.py K.F51)) (.nd (some (.py K.Df)) .lf .lf .lf .lf) .lf .lf .lf) (.nd (some (.py K.F52)) .lf .lf .lf .lf))) (.nd (some (.py K.F3)) (.nd (some (.py K.F13)) (.nd (some (.py K.F53)) .lf .lf .lf .lf) (.nd (some (.py K.F54)) .lf .lf .lf .lf) (.nd (some (.py K.F55)) .lf .lf .lf .lf) (.nd (some (.py K.F56)) .lf .lf .lf .lf)) (.nd (some (.py K.F14)) (.nd (some (.py K.F57)) .lf .lf .lf .lf) (.nd (some (.py K.F58)) .lf .lf .lf .lf) (.nd (some (.py K.F59)) .lf .lf .lf .lf) (.nd (some (.py K.F60)) .lf .lf .lf .lf)) (.nd (some (.py K.F15)) (.nd (some (.py K.F61)) .lf .lf .lf .lf) (.nd (some (.py K.F62)) .lf .lf .lf .lf) (.nd (some (.py K.F63)) .lf .lf .lf .lf) (.nd (some (.py K.F64)) .lf .lf .lf .lf)) (.nd (some (.py K.F16)) (.nd (some (.py K.F65)) .lf .lf .lf .lf) (.nd (some (.py K.F66)) .lf .lf .lf .lf) (.nd (some (.py K.F67)) .lf .lf .lf .lf) (.nd (some (.py K.F68)) .lf .lf .lf .lf))) (.nd (some (.py K.F4)) (.nd (some (.py K.F17)) (.nd (some (.py K.F69)) .lf .lf .lf .lf) (.nd (some (.py K.F70)) .lf .lf .lf .lf) (.nd (some (.py K.F71)) .lf .lf .lf .lf) (.nd (some (.py K.F72)) .lf .lf .lf .lf)) (.nd (some (.py K.F18)) (.nd (some (.py K.F73)) .lf .lf .lf .lf) (.nd (some (.py K.F74)) .lf .lf .lf .lf) (.nd (some (.py K.F75)) .lf .lf .lf .lf) (.nd (some (.py K.F76)) .lf .lf .lf .lf)) (.nd (some (.py K.F19)) (.nd (some (.py K.F77)) .lf .lf .lf .lf) (.nd (some (.py K.F78)) .lf .lf .lf .lf) (.nd (some (.py K.F79)) .lf .lf .lf .lf) (.nd (some (.py K.F80)) .lf .lf .lf .lf)) (.nd (some (.py K.F20)) (.nd (some (.py K.F81)) .lf .lf .lf .lf) (.nd (some (.py K.F82)) .lf .lf .lf .lf) (.nd (some (.py K.F83)) .lf .lf .lf .lf) (.nd (some (.py K.F84)) .lf .lf .lf .lf))))
def rJ.d (X:rJ):aC:=rJ.rec (motive:=λ_=>aC) aF.d dT dP X
def i2:List aC:=dL::pq.vals.map rJ.d
theorem Dg:i2.all (λe=>stC e.st e.T e.names)=true:=by kernel_rfl
end
section
set_option maxHeartbeats 4000000
set_option genInjectivity false
set_option genSizeOf false
def AE (G:Addr->Option Obj):Option Addr:=mT (gv G "ResetError")
def sW (G:Addr->Option Obj):Frag:=((kW G zl 0).toList++(AE G).toList).flatMap (λC=>ent G (some C)++ent G (nsA G C))++ent G (pM G .e)
def jZ (C:Addr) (o:Obj):Prop:=∃nm q N bs C0 sn sub col dd k0 k1 k2 k3 k5,o=excClassObj nm q C N bs (gy C0) true sn sub false col dd k0 k1 k2 k3 k5 "Exception.__new__"
def vq (C:Addr) (o:Obj):Pf (jZ C o):=by
 obtain⟨c,dd,dt,sl⟩:=o
 cases dt with
 |cls cd=>
  obtain⟨nm,bs,mro,N,q,hd,sn,sub,ab,col,del⟩:=cd
  obtain⟨sl⟩:=sl
  refine K.dG c (.type "type") (P:=λc=>jZ C ⟨c,dd,.cls ⟨nm,bs,mro,N,q,hd,sn,sub,ab,col,del⟩,⟨sl⟩⟩) ?_
  refine K.dG hd true (P:=λhd=>jZ C ⟨.type "type",dd,.cls ⟨nm,bs,mro,N,q,hd,sn,sub,ab,col,del⟩,⟨sl⟩⟩) ?_
  refine K.dG ab false (P:=λab=>jZ C ⟨.type "type",dd,.cls ⟨nm,bs,mro,N,q,true,sn,sub,ab,col,del⟩,⟨sl⟩⟩) ?_
  refine K.dG del false (P:=λdel=>jZ C ⟨.type "type",dd,.cls ⟨nm,bs,mro,N,q,true,sn,sub,false,col,del⟩,⟨sl⟩⟩) ?_
  refine K.aU mro (P:=λmro=>jZ C ⟨.type "type",dd,.cls ⟨nm,bs,(mro),N,q,true,sn,sub,false,col,false⟩,⟨sl⟩⟩) λmroh0 mro1=>?_
  refine K.aU mro1 (P:=λmro1=>jZ C ⟨.type "type",dd,.cls ⟨nm,bs,(mroh0::mro1),N,q,true,sn,sub,false,col,false⟩,⟨sl⟩⟩) λmroh1 mro2=>?_
  refine K.aU mro2 (P:=λmro2=>jZ C ⟨.type "type",dd,.cls ⟨nm,bs,(mroh0::mroh1::mro2),N,q,true,sn,sub,false,col,false⟩,⟨sl⟩⟩) λmroh2 mro3=>?_
  refine K.aU mro3 (P:=λmro3=>jZ C ⟨.type "type",dd,.cls ⟨nm,bs,(mroh0::mroh1::mroh2::mro3),N,q,true,sn,sub,false,col,false⟩,⟨sl⟩⟩) λmroh3 mro4=>?_
  refine K.aU mro4 (P:=λmro4=>jZ C ⟨.type "type",dd,.cls ⟨nm,bs,(mroh0::mroh1::mroh2::mroh3::mro4),N,q,true,sn,sub,false,col,false⟩,⟨sl⟩⟩) λmroh4 mro5=>?_
  refine K.bS mro5 (P:=λmro5=>jZ C ⟨.type "type",dd,.cls ⟨nm,bs,(mroh0::mroh1::mroh2::mroh3::mroh4::mro5),N,q,true,sn,sub,false,col,false⟩,⟨sl⟩⟩) ?_
  refine K.dG mroh0 (.ref C) (P:=λmroh0=>jZ C ⟨.type "type",dd,.cls ⟨nm,bs,[mroh0,mroh1,mroh2,mroh3,mroh4],N,q,true,sn,sub,false,col,false⟩,⟨sl⟩⟩) ?_
  refine K.dG mroh2 (.type "Exception") (P:=λmroh2=>jZ C ⟨.type "type",dd,.cls ⟨nm,bs,[(.ref C),mroh1,mroh2,mroh3,mroh4],N,q,true,sn,sub,false,col,false⟩,⟨sl⟩⟩) ?_
  refine K.dG mroh3 (.type "BaseException") (P:=λmroh3=>jZ C ⟨.type "type",dd,.cls ⟨nm,bs,[(.ref C),mroh1,(.type "Exception"),mroh3,mroh4],N,q,true,sn,sub,false,col,false⟩,⟨sl⟩⟩) ?_
  refine K.dG mroh4 (.type "object") (P:=λmroh4=>jZ C ⟨.type "type",dd,.cls ⟨nm,bs,[(.ref C),mroh1,(.type "Exception"),(.type "BaseException"),mroh4],N,q,true,sn,sub,false,col,false⟩,⟨sl⟩⟩) ?_
  cases mroh1 with
  |ref C0=>
   refine K.aU sl (P:=λsl=>jZ C ⟨.type "type",dd,.cls ⟨nm,bs,[(.ref C),.ref C0,(.type "Exception"),(.type "BaseException"),(.type "object")],N,q,true,sn,sub,false,col,false⟩,⟨sl⟩⟩) λslh0 sl1=>?_
   refine K.aU sl1 (P:=λsl1=>jZ C ⟨.type "type",dd,.cls ⟨nm,bs,[(.ref C),.ref C0,(.type "Exception"),(.type "BaseException"),(.type "object")],N,q,true,sn,sub,false,col,false⟩,⟨slh0::sl1⟩⟩) λslh1 sl2=>?_
   refine K.aU sl2 (P:=λsl2=>jZ C ⟨.type "type",dd,.cls ⟨nm,bs,[(.ref C),.ref C0,(.type "Exception"),(.type "BaseException"),(.type "object")],N,q,true,sn,sub,false,col,false⟩,⟨slh0::slh1::sl2⟩⟩) λslh2 sl3=>?_
   refine K.aU sl3 (P:=λsl3=>jZ C ⟨.type "type",dd,.cls ⟨nm,bs,[(.ref C),.ref C0,(.type "Exception"),(.type "BaseException"),(.type "object")],N,q,true,sn,sub,false,col,false⟩,⟨slh0::slh1::slh2::sl3⟩⟩) λslh3 sl4=>?_
   refine K.aU sl4 (P:=λsl4=>jZ C ⟨.type "type",dd,.cls ⟨nm,bs,[(.ref C),.ref C0,(.type "Exception"),(.type "BaseException"),(.type "object")],N,q,true,sn,sub,false,col,false⟩,⟨slh0::slh1::slh2::slh3::sl4⟩⟩) λslh4 sl5=>?_
   refine K.aU sl5 (P:=λsl5=>jZ C ⟨.type "type",dd,.cls ⟨nm,bs,[(.ref C),.ref C0,(.type "Exception"),(.type "BaseException"),(.type "object")],N,q,true,sn,sub,false,col,false⟩,⟨slh0::slh1::slh2::slh3::slh4::sl5⟩⟩) λslh5 sl6=>?_
   refine K.bS sl6 (P:=λsl6=>jZ C ⟨.type "type",dd,.cls ⟨nm,bs,[(.ref C),.ref C0,(.type "Exception"),(.type "BaseException"),(.type "object")],N,q,true,sn,sub,false,col,false⟩,⟨slh0::slh1::slh2::slh3::slh4::slh5::sl6⟩⟩) ?_
   refine K.dG slh4 (some (.builtin "Exception.__new__")) (P:=λslh4=>jZ C ⟨.type "type",dd,.cls ⟨nm,bs,[(.ref C),.ref C0,(.type "Exception"),(.type "BaseException"),(.type "object")],N,q,true,sn,sub,false,col,false⟩,⟨[slh0,slh1,slh2,slh3,slh4,slh5]⟩⟩) ?_
   exact K.dn (yEEEEEE nm q N bs C0 sn (yEEEEEE sub col dd slh0 slh1 slh2 (yEE slh3 slh5 rfl)))
  |_=>exact K.no
 |_=>exact K.no
def xG (G:Addr->Option Obj):Bool:=match AE G,pM G .e with
 |some C,some a=>(match (sW G).lookup C with|some o=>(vq C o).b|none=>false)&&kX (findIn (sW G) (.ref C) "__init__") (.ref a)&&typeIn (sW G) (.ref a)==some (.type "function")&&kX (findIn (sW G) (.ref C) "__setattr__") (.builtin "object.__setattr__") &&
   uI (findIn (sW G) (.ref C) "message")&&kX (specialIn (sW G) (.ref C) "__call__") (.builtin "type.__call__")&&instIn (sW G) (.ref C) (.type "type")==some true
 |_,_=>false
theorem qG {G:Addr->Option Obj}{b:Addr}{o:Obj}(h:(sW G).lookup b=some o):G b=some o:=by
 have h:=bM h
 unfold sW at h
 rcases List.mem_append.mp h with h|h
 ·refine aI (List.mem_flatMap.mp h) λc _ h=>?_
  rcases List.mem_append.mp h with h|h<;>exact jS G h
 ·exact jS G h
theorem xH {G:Addr->Option Obj}{V:Va}(hV:V.fn .e=pM G .e) (h:xG G=true):∃C,gv G "ResetError" = some (.ref C)/\uO V (sW G) C:=by
 unfold xG at h
 split at h
 ·rename_i C a hC ha
  simp only [Bool.and_eq_true,beq_iff_eq] at h
  obtain⟨⟨⟨⟨⟨⟨h1,h2⟩,h3⟩,h4⟩,h5⟩,h6⟩,h7⟩:=h
  refine yEA C ?_ ⟨?_,⟨a,hV.trans ha,dZ h2,h3⟩,dZ h4,mU h5,dZ h6,h7⟩
  ·unfold AE at hC
   cases q:gv G "ResetError" with
   |none=>rw [q] at hC;exact nn hC
   |some v=>rw [q] at hC;cases v<;>first|((first|exact nf hC|exact nn hC|cases hC);rfl)|exact nn hC
  ·split at h1
   ·rename_i o ho
    obtain⟨nm,q,N,bs,C0,sn,sub,col,dd,k0,k1,k2,k3,k5,e⟩:=(vq C o).h h1
    exact yEEEEEE nm q N bs C0 sn (yEEEEEE sub col dd k0 k1 k2 (yEE k3 k5 (ho.trans (congrArg some e))))
   ·exact nf h1
 ·exact nf h
structure Hd (w:World) (V:Va) (G:Addr->Option Obj) (oh:Heap) (mg mb:Str->Option Value):Prop where
 hG:∀a o,G a=some o->oh.get? a=some o
 va:∃x oct un fF draws ho,V=jT G x oct un fF draws ho
 gl:Gl w V oh mg mb
 main:(G mainGlobals).isSome=true
 view:i2.map (λe=>B7 G e.at_)=i2.map (λe=>some (cy e.st,FuncBody.stmts (bodyOf e.st),aX e.st))
 chk:i2.all (λe=>B8 G e.T e.ps e.names e.at_)=true
 exc:xG G=true
 lim:oh.NoLimit
def Fo (w:World) (V:Va) (oh:Heap) (kH:Bool) (p:P4) (fn:Fn):Prop:=∃a,V.fn p=some a/\y5 w V oh kH a fn
def rJ.fn (l:List FT) (X:rJ):Fn:=rJ.rec (motive:=λ_=>Fn) (λX=>.py X.d.ps X.b.c) (.py dT.ps uL) (.py dP.ps (uM l)) X
def rJ.fn1 (X:rJ):Fn:=rJ.rec (motive:=λ_=>Fn) (λX=>Bool.rec (motive:=λ_=>Fn) (.prim λ_ _ _=>false) (.py X.d.ps X.b.c) X.b.g) (.prim λ_ _ _=>false) (.prim λ_ _ _=>false) X
def tab (l:List FT):Tr Fn:=pq.map (rJ.fn l)
def AF:Tr Fn:=pq.map rJ.fn1
theorem tabC:pq.iX (λp X=>decide (wR.lookup p=some X.d.at_)) id=true:=by kernel_rfl
theorem at_of {f:P4}{X:rJ}(h:pq.get f=some X):X.d ∈ i2/\wR.lookup f=some X.d.at_:=
 ⟨List.mem_cons_of_mem _ (List.mem_map.mpr (yEA X (Tr.aQ h) rfl)),of_decide_eq_true (Tr.bZ f pq tabC h)⟩
section
variable {w:World}{V:Va}{G:Addr->Option Obj}{oh:Heap}{mg mb:Str->Option Value}
theorem fo {kH:Bool}(H:Hd w V G oh mg mb){e:aC}{b:SC}{p:P4}(hm:e ∈ i2) (hT:aW e.T.vals=true) (hp:wR.lookup p=some e.at_) (hb:Fb w V oh kH e b hT):Fo w V oh kH p (.py e.ps b):=by
 obtain⟨x,oct,un,fF,draws,ho,rfl⟩:=H.va
 have hv:=List.map_inj_left.mp H.view e hm
 exact wX H.hG hT hv (List.all_eq_true.mp H.chk e hm) (List.all_eq_true.mp Dg e hm) hp hb.sb
theorem dAt (H:Hd w V G oh mg mb){e:aC}(hm:e ∈ i2) (hT:aW e.T.vals=true):∃a fd dvals,fnOf G e.at_=some a/\fx V oh a fd (bR e.T (aX e.st) hT) e.ps e.names dvals (bodyOf e.st):=by
 obtain⟨x,oct,un,fF,draws,ho,rfl⟩:=H.va
 exact oV H.hG (λi y e=>e) hT (List.map_inj_left.mp H.view e hm) (List.all_eq_true.mp H.chk e hm) (List.all_eq_true.mp Dg e hm)
theorem fnV (H:Hd w V G oh mg mb){f:P4}{t:uH}{a:Addr}(hp:wR.lookup f=some t) (ha:fnOf G t=some a):V.fn f=some a:=by
 obtain⟨x,oct,un,fF,draws,ho,rfl⟩:=H.va
 show pM G f=some a
 unfold pM;rw [hp];exact ha
theorem vt (H:Hd w V G oh mg mb) (HD:jf V){l:List FT}(PO:mV V oh l):fe w V oh false (tab l):=λf fn e=>by
 refine aI (Tr.get_map _ _ _ e) λX hX r2_=>?_;subst r2_
 obtain⟨hm,hp⟩:=at_of hX
 cases X with
 |py X=>exact fo H hm X.v hp (X.ok (λh=>by exact nf h) H.gl)
 |tk=>exact fo H hm vT hp (zT H.gl HD)
 |pl=>exact fo H hm vP hp (zP H.gl PO)
theorem xI (H:Hd w V G oh mg mb):fe w V oh true AF:=λf fn e=>by
 refine aI (Tr.get_map _ _ _ e) λX hX r2_=>?_;subst r2_
 obtain⟨hm,hp⟩:=at_of hX
 have no:∀{e:aC},e ∈ i2->aW e.T.vals=true->wR.lookup f=some e.at_->Fo w V oh true f (.prim λ_ _ _=>false):=λhm hT hp=>by
  refine dH (dAt H hm hT) λa fd dv h1 _=>?_
  exact yEA a (fnV H hp h1) λn A _ _ vs h k e=>by exact nf e
 cases X with
 |py X=>
  show Fo w V oh true f (Bool.rec (motive:=λ_=>Fn) (.prim λ_ _ _=>false) (.py X.d.ps X.b.c) X.b.g)
  cases hg:X.b.g with
  |false=>exact no hm X.v hp
  |true=>exact fo H hm X.v hp (X.ok (λ_=>hg) H.gl)
 |tk=>exact no hm vT hp
 |pl=>exact no hm vP hp
end
end
section
set_option genInjectivity false
set_option genSizeOf false
inductive hJ (w:World) (V:Va) (oh:Heap) (kH:Bool) (fi:aY):List SC->List Stmt->Prop where
 |nil:hJ w V oh kH fi [] []
 |cons {c:SC}{st:Stmt}{cs:List SC}{sts:List Stmt}:SS w V oh kH fi c st->hJ w V oh kH fi cs sts->hJ w V oh kH fi (c::cs) (st::sts)
def runs (cs:List SC) (co:CO):Tr AV->H->(Tr AV->H->Bool)->Bool:=
 List.rec (motive:=λ_=>Tr AV->H->(Tr AV->H->Bool)->Bool) (λr h k=>k r h) (λc _ ih r h k=>c co r h λfl r h=>mZ fl (ih r h k)) cs
section
variable {w:World}{V:Va}{oh:Heap}{kH:Bool}{fi:aY}{A:Around}{E:Value->Shared->Prop}{s:Shared}
theorem AG {cs:List SC}{sts:List Stmt}(all:hJ w V oh kH fi cs sts) (x:Cx w V oh kH fi){rest:List Stmt}{k:Tr AV->H->Bool}{Q:Flow->Shared->Prop}:∀{r:Tr AV}{h:H}{W:Wd}{s:Shared},runs cs x.co r h k=true->Inv w V oh W h s.heap->aM V oh fi x.env W s.heap r ->
  (∀r' h' W' s',k r' h'=true->Inv w V oh W' h' s'.heap->aM V oh fi x.env W' s'.heap r'->Step (kC fi x.env) W s W' s'->WG (model pw w) x.A (execs rest x.env) Q E s')->WG (model pw w) x.A (execs (sts++rest) x.env) Q E s:=by
 induction all with
 |nil=>intro r h W s e I F p;exact p r h W s e I F (Step.refl W s)
 | @cons c st cs sts hc _ ih=>
  intro r h W s e I F p
  have e:c x.co r h (λfl r h=>mZ fl (runs cs x.co r h k))=true:=e
  rw [List.cons_append,execs_cons]
  refine WG.bind (hc x r h _ e W s I F _ _ λfl r1 h1 f W1 s1 e1 R1 I1 F1 S1=>?_)
  obtain⟨rfl,e1⟩:=fL e1
  cases R1
  exact ih e1 I1 F1 λr' h' W' s' a b c d=>p r' h' W' s' a b c (S1.trans d)
theorem Dh (FA:iH V oh){e1:PySem.Expr}{y:Str}{np cpos bp rp:Pos}{es:List PySem.Expr}{c1:EC}{l:LC}{f:P4}(h1:SE w V oh kH fi c1 e1) (hf:SE w V oh kH fi (eK (.o (.fn f))) (.Name y np)) (hs:es.all notStar=true) (hl:SL w V oh kH fi l es) (x:Cx w V oh kH fi)
  {K:List AV->H->Bool}{r:Tr AV}{h:H}(e:c1 x.co r h (λv h=>dp v λb=>cW b (l x.co r h λvs h=>K vs h))=true){W:Wd}(I:Inv w V oh W h s.heap) (F:aM V oh fi x.env W s.heap r){Q:Flow->Shared->Prop}
  (p:∀vs h2 vals a W2 s2,K vs h2=true->V.fn f=some a->aR V W2.μ vs vals->Inv w V oh W2 h2 s2.heap->Step none_ W s W2 s2->CG (model pw w) x.A (.call (.ref a) ⟨vals,[]⟩) (RQ (λv s'=>Q (.ret v) s') E) s2) :
  WG (model pw w) x.A (execs [.Return (some (.BoolOp .And [e1,.Call (.Name y np) es [] cpos] bp)) rp] x.env) Q E s:=by
 refine WG.eq (execs_cons ..) ?_;rw [exec_Return_some]
 refine WG.bind (WG.aA (WG.bind (gM (h1 x r h _ e W s I F _ _ λav h1 v W1 s1 q1 R1 I1 S1=>?_))))
 refine onBool_k q1 λb r1_ q2=>?_;subst r1_
 obtain⟨rfl,q3⟩:=aH q2
 obtain rfl:v = .bool true:=R1
 refine wpAny_truthy_bool ?_
 rw [if_pos rfl]
 show WG _ _ (eval (.Call (.Name y np) es [] cpos) x.env) _ _ _
 refine WG.eq (bc ..) ?_
 have F1:=F.step _ _ S1
 have q4:(eK (.o (.fn f))) x.co r h1 (λv h=>yI v λf'=>az (decide (f'=f)) (l x.co r h λvs h=>K vs h) false)=true:=by
  show az (decide (f=f)) (l x.co r h1 λvs h=>K vs h) false=true
  rw [decide_eq_true rfl];exact q3
 refine WG.bind (hf x r h1 _ q4 W1 s1 I1 F1 _ _ λav h2 v W2 s2 q5 R2 I2 S2=>?_)
 refine aI (lq q5) λf' r1_ q6=>?_;subst r1_
 obtain⟨q7,q8⟩:=aN q6
 obtain rfl:=of_decide_eq_true q7
 refine aI R2 λa hfa r2_=>?_;clear R2;subst r2_
 refine bf (FA f' a hfa) λo fd ho hd=>?_
 have F2:=F1.step _ _ S2
 refine dM (P:=λh=>∃o,h.get? a=some o/\o.data = .func fd) (by rw [(aL (M:=model pw w) (A:=x.A) (E:=E) (s:=s2) (f:=.none) (pos:=cpos) (env:=x.env) hs (Q:=λ_ _=>True) (hl x r h2 _ q8 W2 s2 I2 F2 cpos _ _ λ_ _ _ _ _ _ _ _ _=>trivial)).2];rfl) (λh z=>gj h z) ?_
 refine (aL hs (hl x r h2 _ q8 W2 s2 I2 F2 cpos _ _ λavs h3 vs W3 s3 e3 R3 I3 S3=>?_)).1
 refine⟨yEA o (I3.bq _ _ ho) hd,WG.call (CG.mono (p avs h3 vs a W3 s3 e3 hfa R3 I3 (S1.trans (S2.trans S3))) λr s' z=>?_)⟩
 rcases r with e|(_|_|_|v)
 ·exact z
 ·exact z.elim
 ·exact z.elim
 ·exact z.elim
 ·exact WG.pure (WG.pure z)
end
end
section
def lT (l:List Nat):List Nat->Bool:=
 List.rec (motive:=λ_=>List Nat->Bool) (λm=>List.rec (motive:=λ_=>Bool) true (λ_ _ _=>false) m) (λn _ ih m=>List.rec (motive:=λ_=>Bool) false (λk r _=>cW (Nat.beq n k) (ih r)) m) l
theorem j0:∀{l m:List Nat},lT l m=true->l=m
 | [],[],_=>rfl
 | [],_::_,h=>by exact nf h
 |_::_,[],h=>by exact nf h
 |n::l,k::m,h=>by
  obtain⟨a,b⟩:=aH (show cW (Nat.beq n k) (lT l m)=true from h)
  rw [Nat.eq_of_beq_eq_true a,j0 b]
def pu (u:Nat) (a a':AV):Bool:=
 AV.rec (motive:=λ_=>Bool) (hU a true) (λb=>dp a λc=>Bool.rec (motive:=λ_=>Bool) (w7 c true) c b) (λn=>aG a λm=>Nat.beq m n) (λ_=>false)
  (λy=>OV.rec (motive:=λ_=>Bool)
   (λi=>AV.rec (motive:=λ_=>Bool) false (λ_=>false) (λ_=>false) (λ_=>false) (λz=>OV.rec (motive:=λ_=>Bool) (λj=>Nat.beq i j) (λ_=>false) (λ_ _ _=>false) (λ_ _=>false) (λ_=>false) (λ_=>false) false (λ_=>false) (λ_=>false) (λ_=>false) z) a)
   (λl=>onBytes a λm=>lT m l)
   (λb k p=>AV.rec (motive:=λ_=>Bool) false (λ_=>false) (λ_=>false) (λ_=>false) (λz=>OV.rec (motive:=λ_=>Bool) (λ_=>false) (λ_=>false) (λb' k' p'=>cW (Nat.beq b' b) (cW (Nat.beq k' k) (Nat.beq p' p))) (λ_ _=>false) (λ_=>false) (λ_=>false) false (λ_=>false) (λ_=>false) (λ_=>false) z) a)
   (λ_ _=>false) (λ_=>false) (λ_=>false) false (λ_=>false)
   (λi=>AV.rec (motive:=λ_=>Bool) false (λ_=>false) (λm=>cW (Nat.beq i 0) (Nat.beq m u)) (λ_=>false) (λz=>OV.rec (motive:=λ_=>Bool) (λ_=>false) (λ_=>false) (λ_ _ _=>false) (λ_ _=>false) (λ_=>false) (λ_=>false) false (λ_=>false) (λj=>Nat.beq j i) (λ_=>false) z) a)
   (λi=>rD a λj=>Nat.beq j i) y) a'
theorem hM {V:Va}{u:Nat}(hu:V.un 0=u){a a':AV}(h:pu u a a'=true){μ μ':Mu}{v:Value}(R:Rep V μ a v):Rep V μ' a' v:=by
 cases a' with
 |none=>cases a<;>first|exact R|exact nf h
 |bool b=>
  refine onBool_k (show dp a _=true from h) λc r1_ e=>?_;subst r1_
  cases b<;>cases c<;>first|exact R|exact nf e
 |nat n=>
  refine onNat_k (show aG a _=true from h) λm r1_ e=>?_;subst r1_
  obtain rfl:=Nat.eq_of_beq_eq_true e
  exact R
 |ref p=>exact nf h
 |o y=>
  cases y with
  |str i=>
   cases a with
   |o z=>cases z<;>first|(obtain rfl:=Nat.eq_of_beq_eq_true (show Nat.beq i _=true from h);exact R)|exact nf h
   |_=>exact nf h
  |bytes l=>
   refine onBytes_k (show onBytes a _=true from h) λm r1_ e=>?_;subst r1_
   obtain rfl:=j0 e
   exact R
  |sq b k p=>
   cases a with
   |o z=>
    cases z with
    |sq b' k' p'=>
     obtain⟨e1,e2⟩:=aH (show cW (Nat.beq b' b) (cW (Nat.beq k' k) (Nat.beq p' p))=true from h)
     obtain⟨e2,e3⟩:=aH e2
     obtain rfl:=Nat.eq_of_beq_eq_true e1
     obtain rfl:=Nat.eq_of_beq_eq_true e2
     obtain rfl:=Nat.eq_of_beq_eq_true e3
     exact R
    |_=>exact nf h
   |_=>exact nf h
  |un i=>
   cases a with
   |nat m=>
    obtain⟨e1,e⟩:=aH (show cW (Nat.beq i 0) (Nat.beq m u)=true from h)
    obtain rfl:=Nat.eq_of_beq_eq_true e1
    obtain rfl:=Nat.eq_of_beq_eq_true e
    obtain⟨t,rfl⟩:=R
    exact⟨t,by rw [hu]⟩
   |o z=>cases z<;>first|(obtain rfl:=Nat.eq_of_beq_eq_true (show Nat.beq _ i=true from h);exact R)|exact nf h
   |_=>exact nf h
  |fF i=>
   refine aI (jV (show rD a _=true from h)) λj r1_ e=>?_;subst r1_
   obtain rfl:=Nat.eq_of_beq_eq_true e
   exact R
  |_=>exact nf h
def Di (u:Nat) (x:Ky):Ky->Bool:=
 Ky.rec (motive:=λ_=>Ky->Bool)
  (λn y=>Ky.rec (motive:=λ_=>Bool) (λm=>Nat.beq n m) (λ_=>false) (λi=>cW (Nat.beq i 0) (Nat.beq n u)) false (λ_ _ _ _=>false) y)
  (λn y=>Ky.rec (motive:=λ_=>Bool) (λ_=>false) (λm=>Nat.beq n m) (λ_=>false) false (λ_ _ _ _=>false) y)
  (λn y=>Ky.rec (motive:=λ_=>Bool) (λ_=>false) (λ_=>false) (λm=>Nat.beq n m) false (λ_ _ _ _=>false) y)
  (λy=>Ky.rec (motive:=λ_=>Bool) (λ_=>false) (λ_=>false) (λ_=>false) true (λ_ _ _ _=>false) y)
  (λ_ _ ih₁ ih₂ y=>Ky.rec (motive:=λ_=>Bool) (λ_=>false) (λ_=>false) (λ_=>false) false (λa b _ _=>cW (ih₁ a) (ih₂ b)) y) x
theorem AH {V:Va}{u:Nat}(hu:V.un 0=u):∀{x y:Ky}{c:CK},Di u x y=true->V.ck x=some c->V.ck y=some c:=by
 intro x
 induction x with
 |n n=>
  intro y c h e
  cases y with
  |n m=>obtain rfl:=Nat.eq_of_beq_eq_true (show Nat.beq n m=true from h);exact e
  |u i=>
   obtain⟨e1,e2⟩:=aH (show cW (Nat.beq i 0) (Nat.beq n u)=true from h)
   obtain rfl:=Nat.eq_of_beq_eq_true e1
   obtain rfl:=Nat.eq_of_beq_eq_true e2
   show some (CK.n (V.un 0))=some c
   rw [hu];exact e
  |_=>exact nf h
 |s i=>
  intro y c h e
  cases y with
  |s m=>obtain rfl:=Nat.eq_of_beq_eq_true (show Nat.beq i m=true from h);exact e
  |_=>exact nf h
 |u i=>
  intro y c h e
  cases y with
  |u m=>obtain rfl:=Nat.eq_of_beq_eq_true (show Nat.beq i m=true from h);exact e
  |_=>exact nf h
 |nil=>intro y c h e;cases y<;>first|exact e|exact nf h
 |cons a b iha ihb=>
  intro y c h e
  cases y with
  |cons a' b'=>
   obtain⟨e1,e2⟩:=aH (show cW (Di u a a') (Di u b b')=true from h)
   refine bindS (show (V.ck a).bind _=some c from e) λc1 h1 e=>?_
   refine mapS e λc2 h2 e=>?_
   show (V.ck a').bind (λx=>(V.ck b').map λy=>CK.cons x y)=some c
   rw [iha e1 h1,ihb e2 h2,<-e];rfl
  |_=>exact nf h
section
variable (u:Nat) (ρ:Tr P4)
def pR (a a':AV):Bool:=
 AV.rec (motive:=λ_=>Bool) (pu u a .none) (λb=>pu u a (.bool b)) (λn=>pu u a (.nat n)) (λp'=>dg a λq=>opt (ρ.get p') λq'=>q'.eqB q) (λy=>pu u a (.o y)) a'
def wkL (l:List AV):List AV->Bool:=
 List.rec (motive:=λ_=>List AV->Bool) (λm=>List.rec (motive:=λ_=>Bool) true (λ_ _ _=>false) m) (λa _ ih m=>List.rec (motive:=λ_=>Bool) false (λb r _=>cW (pR u ρ a b) (ih r)) m) l
def wkD (l:List DE):List DE->Bool:=
 List.rec (motive:=λ_=>List DE->Bool) (λm=>List.rec (motive:=λ_=>Bool) true (λ_ _ _=>false) m)
  (λa _ ih m=>List.rec (motive:=λ_=>Bool) false (λb r _=>DE.rec (motive:=λ_=>Bool) (λq k v=>DE.rec (motive:=λ_=>Bool) (λq' k' v'=>cW (Di u q q') (cW (pR u ρ k k') (cW (pR u ρ v v') (ih r)))) b) a) m) l
def wkI (l:List IE):List IE->Bool:=
 List.rec (motive:=λ_=>List IE->Bool) (λm=>List.rec (motive:=λ_=>Bool) true (λ_ _ _=>false) m)
  (λa _ ih m=>List.rec (motive:=λ_=>Bool) false (λb r _=>IE.rec (motive:=λ_=>Bool) (λk v=>IE.rec (motive:=λ_=>Bool) (λk' v'=>cW (Nat.beq k k') (cW (pR u ρ v v') (ih r))) b) a) m) l
def wkV (v v':Option AV):Bool:=Option.rec (motive:=λ_=>Bool) (Option.rec (motive:=λ_=>Bool) true (λ_=>false) v') (λa=>Option.rec (motive:=λ_=>Bool) false (λa'=>pR u ρ a a') v') v
def AI (f:Tr AV):Tr AV->Bool:=
 Tr.rec (motive:=λ_=>Tr AV->Bool) (λg=>Tr.rec (motive:=λ_=>Bool) true (λ_ _ _ _ _ _ _ _ _=>false) g)
  (λv _ _ _ _ ha hb hc hd g=>Tr.rec (motive:=λ_=>Bool) false (λv' a b c d _ _ _ _=>cW (wkV u ρ v v') (cW (ha a) (cW (hb b) (cW (hc c) (hd d))))) g) f
def Dj (o o':AO):Bool:=
 AO.rec (motive:=λ_=>Bool) (λc f=>jj o' λc' f'=>cW (Nat.beq c c') (AI u ρ f f')) (λl=>bx o' λl'=>wkL u ρ l l') (λl=>dx o' λl'=>wkL u ρ l l')
  (λl=>gc o' λl'=>wkD u ρ l l') (λl=>nL o' λl'=>lT l l') (λ_=>false) (λ_ _=>false) (λl=>gI o' λl'=>wkI u ρ l l') (λ_=>false) (λ_=>false) o
end
section
variable {w:World}{V:Va}{u:Nat}{ρ:Tr P4}{W:Wd}
def Wd.re (ρ:Tr P4) (W:Wd):Wd:=⟨λp=>(ρ.get p).bind W.μ,λp=>(ρ.get p).bind W.δ,λ_=>False⟩
theorem gC (hu:V.un 0=u){a a':AV}(h:pR u ρ a a'=true){v:Value}(R:Rep V W.μ a v):Rep V (W.re ρ).μ a' v:=by
 cases a' with
 |ref p'=>
  refine onRef_k (show dg a _=true from h) λq r1_ e=>?_;subst r1_
  refine opt_k e λq' e1 e2=>?_
  obtain rfl:=P4.pT e2
  refine R.rf λb hb r2_=>?_;clear R;subst r2_
  refine yEA b ?_ rfl
  show (ρ.get p').bind W.μ=some b
  rw [e1];exact hb
 |none=>exact hM (a':=.none) hu h R
 |bool b=>exact hM (a':=.bool b) hu h R
 |nat n=>exact hM (a':=.nat n) hu h R
 |o y=>exact hM (a':=.o y) hu h R
theorem vu (hu:V.un 0=u){l l':List AV}{vs:List Value}(h:wkL u ρ l l'=true) (r:aR V W.μ l vs):aR V (W.re ρ).μ l' vs:=by
 induction r generalizing l' with
 |nil=>cases l' with
  |nil=>exact .nil
  |cons=>exact nf h
 |cons r _ ih=>cases l' with
  |nil=>exact nf h
  |cons=>
   have q:=aH (show cW (pR u ρ _ _) (wkL u ρ _ _)=true from h)
   exact .cons (gC hu q.1 r) (ih q.2)
theorem AJ (hu:V.un 0=u){l l':List DE}{xs:List (CK × Addr × Value)}(h:wkD u ρ l l'=true) (r:cK V W.μ l xs):cK V (W.re ρ).μ l' xs:=by
 induction r generalizing l' with
 |nil=>cases l' with
  |nil=>exact .nil
  |cons=>exact nf h
 |cons c k v _ ih=>cases l' with
  |nil=>exact nf h
  |cons e=>
   cases e
   have q:=aH (show cW (Di u _ _) (cW (pR u ρ _ _) (cW (pR u ρ _ _) (wkD u ρ _ _)))=true from h)
   have q2:=aH q.2
   have q3:=aH q2.2
   exact .cons (AH hu q.1 c) (gC hu q2.1 k) (gC hu q3.1 v) (ih q3.2)
theorem AK (hu:V.un 0=u){l l':List IE}{xs:List (Int × Value)}(h:wkI u ρ l l'=true) (r:cU V W.μ l xs):cU V (W.re ρ).μ l' xs:=by
 induction r generalizing l' with
 |nil=>cases l' with
  |nil=>exact .nil
  |cons=>exact nf h
 |cons v _ ih=>cases l' with
  |nil=>exact nf h
  |cons e=>
   cases e
   have q:=aH (show cW (Nat.beq _ _) (cW (pR u ρ _ _) (wkI u ρ _ _))=true from h)
   have q2:=aH q.2
   obtain rfl:=Nat.eq_of_beq_eq_true q.1
   exact .cons (gC hu q2.1 v) (ih q2.2)
theorem AL {v v':Option AV}(h:wkV u ρ v v'=true):(v=none/\v'=none)∨∃a a',v=some a/\v'=some a'/\pR u ρ a a'=true:=by
 cases v<;>cases v'<;>first|exact .inl ⟨rfl,rfl⟩|exact .inr (yEEAA _ _ rfl rfl h)|exact nf h
theorem vw {q:P4}{f g:Tr AV}(h:AI u ρ f g=true):(f.get q=none/\g.get q=none)∨∃a a',f.get q=some a/\g.get q=some a'/\pR u ρ a a'=true:=by
 induction f generalizing g q with
 |lf=>cases g with
  |lf=>exact .inl ⟨Tr.bF q,Tr.bF q⟩
  |nd=>exact nf h
 |nd v a b c d ia ib ic id=>cases g with
  |lf=>exact nf h
  |nd v' a' b' c' d'=>
   have h0:=aH (show cW (wkV u ρ v v') (cW (AI u ρ a a') (cW (AI u ρ b b') (cW (AI u ρ c c') (AI u ρ d d'))))=true from h)
   have h1:=aH h0.2
   have h2:=aH h1.2
   have h3:=aH h2.2
   cases q with
   |e=>exact AL h0.1
   |a q=>exact ia h1.1
   |b q=>exact ib h2.1
   |c q=>exact ic h3.1
   |d q=>exact id h3.2
theorem AM (hu:V.un 0=u){f g:Tr AV}(h:AI u ρ f g=true){m:Str->Option Value}(R:kz V W.μ f m):kz V (W.re ρ).μ g m:=λq x e=>by
 rcases vw (q:=q) h with ⟨h1,h2⟩|⟨a,a',h1,h2,h3⟩
 ·exact⟨(λav z=>by rw [h2] at z;exact nn z),λ_=>(R q x e).2 h1⟩
 ·refine⟨λav z=>?_,(λz=>by rw [h2] at z;cases z)⟩
  rw [h2] at z;cases z
  refine aI ((R q x e).1 a h1) λv g1 g2=>?_
  exact yEA v g1 (gC hu h3 g2)
theorem m9 {o:AO}{k:Nat->Tr AV->Bool}(e:jj o k=true):∃c f,o = .inst c f/\k c f=true:=by cases o<;>first|exact yEEA _ _ rfl e|exact nf e
theorem nc {o:AO}{k:List AV->Bool}(e:bx o k=true):∃l,o = .list l/\k l=true:=by cases o<;>first|exact yEA _ rfl e|exact nf e
theorem pv {o:AO}{k:List AV->Bool}(e:dx o k=true):∃l,o = .tup l/\k l=true:=by cases o<;>first|exact yEA _ rfl e|exact nf e
theorem ng {o:AO}{k:List DE->Bool}(e:gc o k=true):∃l,o = .dict l/\k l=true:=by cases o<;>first|exact yEA _ rfl e|exact nf e
theorem px {o:AO}{k:List Nat->Bool}(e:nL o k=true):∃l,o = .nC l/\k l=true:=by cases o<;>first|exact yEA _ rfl e|exact nf e
theorem lb {o:AO}{k:List IE->Bool}(e:gI o k=true):∃l,o = .bk l/\k l=true:=by cases o<;>first|exact yEA _ rfl e|exact nf e
theorem AN (hu:V.un 0=u){o o':AO}(h:Dj u ρ o o'=true){hp:Heap}{a:Addr}{p q:P4}(hq:ρ.get p=some q) (r:bV w V W hp a q o):bV w V (W.re ρ) hp a p o':=by
 cases o with
 |inst c f=>
  refine bf (m9 (show jj o' _=true from h)) λc' f' r2_ e=>?_;subst r2_
  obtain⟨e1,e2⟩:=aH e
  obtain rfl:=Nat.eq_of_beq_eq_true e1
  refine bG λ_ kk=>?_
  obtain⟨d,C,m,h1,h2,h3,h4,h5,h6,h7⟩:=r
  refine kk ?_
  refine yEEEAAAAAA d C m ?_ h2 h3 h4 h5 (AM hu e2 h6) λz av k=>?_
  ·show (ρ.get p).bind W.δ=some d
   rw [hq];exact h1
  ·rcases vw (q:=z) e2 with ⟨g1,g2⟩|⟨a,a',g1,g2,g3⟩
   ·rw [g2] at k;exact nn k
   ·exact h7 z a g1
 |list l=>refine aI (nc (show bx o' _=true from h)) λl' r1_ e=>?_;subst r1_;refine bf r λvs n h1 h2=>?_;clear r;exact yEEA vs n h1 (vu hu e h2)
 |tup l=>refine aI (pv (show dx o' _=true from h)) λl' r1_ e=>?_;subst r1_;refine bf r λvs n h1 h2=>?_;clear r;exact yEEA vs n h1 (vu hu e h2)
 |dict l=>refine aI (ng (show gc o' _=true from h)) λl' r1_ e=>?_;subst r1_;refine bf r λS xs h1 h2=>?_;clear r;exact yEEA S xs h1 (AJ hu e h2)
 |nC l=>refine aI (px (show nL o' _=true from h)) λl' r1_ e=>?_;subst r1_;obtain rfl:=j0 e;exact r
 |bk l=>refine aI (lb (show gI o' _=true from h)) λl' r1_ e=>?_;subst r1_;refine aI r λxs h1 h2=>?_;clear r;exact yEA xs h1 (AK hu e h2)
 |_=>exact nf h
end
end
section
set_option maxHeartbeats 4000000
namespace K
def c0:KS:=(ao Z1 (ah C6 (lC (eL .e) (lC (aq 0) lN))))
def c1:KS:=(ao Z2 (aZ 17 Bg (lC (aq 256) (lC (aq 4) (lC (aq 16) (lC (aq 16) (lC (aq 6) (lC (aq 2) (lC (aq 20) (lC (aq 4) (lC (aq 2) (lC (aq 5) lN))))))))))))
def c2:KS:=(ao Z3 (ak qP (lC (cn (.one .e) (.cons Z1 Z1 (.cons Z2 Z2 .nil)) (bt (lC (aq 1) (lC (aq 2) lN))) zM (aJ (lC (eL .e) (lC (aZ 24 CW (lC (eL Z2) (lC (ah xF (lC (eL Z1) (lC (aq 256) lN))) (lC (aq 40) (lC (aq 49) lN))))) lN)))) lN)))
def c3:KS:=(ao Z4 (ag (bU (eL Z3) (aq 2)) Ad (.cons 21 Aq (.cons 24 CX .nil)) (lC (ah C7 (lC (eL Z1) (lC (bt (lC (aq 0) (lC (aq 2) lN))) lN))) (lC (aq 7) (lC (aq 2) lN)))))
def c4:KS:=(bT [Z5,Z6] (ag (bU (eL Z3) (aq 1)) xh (.cons 21 sR (.cons 24 sT .nil)) (lC (aq 1) (lC (aq 2) (lC (aq 7) (lC (aq 0) lN))))))
def c5:KS:=(ao Z7 (ah m8 (lC (eL Z3) (lC (eL Z6) (lC (aq 0) lN)))))
def c6:KS:=(ao Z8 (ag (bU (eL Z3) (aq 2)) sQ (.cons 24 Av .nil) (lC (eL Z4) lN)))
def c7:KS:=(aE (bL (aD (eL Z7) (ai fG bH)) (bL (aD (eL Z8) (ai fG bH)) (bL (aD (ag (bU (eL Z3) (aq 2)) sQ (.cons 24 Av .nil) (lC (eL Z4) lN)) (ai dB bH)) aP))) (bC ar bN) bN)
def c8:KS:=(aE (bL (aD (ew (ag (bU (eL Z3) (aq 1)) tF (.cons 24 k9 .nil) (lC (eL Z5) lN)) (aq 2)) (ai iB (aJ (lC (aO 5) (lC bH lN))))) (bL (aD (ew (ag (bU (eL Z3) (aq 2)) tF (.cons 24 k9 .nil) (lC (eL Z8) lN)) (aq 2)) (ai iB (aJ (lC (aO 5) (lC bH lN))))) aP)) (bC ar bN) bN)
def c9:KS:=(lQ Z9 kY (aJ (lC (ah AA (lC (eL Z1) lN)) (lC (ah AA (lC (eL Z1) lN)) lN))))
def c10:KS:=(bT [fX,Z6] (ag (bU (eL Z3) (aq 1)) Ae (.cons 24 Aw .nil) (lC (eL Z5) (lC (eL Z9) (lC (eL Z7) lN)))))
def c11:KS:=(ao Z7 (ah m8 (lC (eL Z3) (lC (eL Z6) (lC (eL Z7) lN)))))
def c12:KS:=(aE (bL (aD (eL fX) (ai iB (ak cq (lC (eL Z9) lN)))) (bL (aD (eL Z7) (ai fG bH)) (bL (aD (bU (ag (bU (eL Z3) (aq 2)) tF (.cons 24 k9 .nil) (lC (eL Z8) lN)) (aq 2)) (ai iB (eL fX))) (bL (bl (ag (bU (eL Z3) (aq 2)) Cs (.cons 24 vk .nil) (lC (eL Z8) lN))) aP)))) (bC ar bN) bN)
def c13:KS:=(ao Z7 (ah m8 (lC (eL Z3) (lC (ag (bU (eL Z3) (aq 1)) Ah (.cons 24 Ax .nil) (lC (eL Z5) (lC (eL Z7) lN))) (lC (eL Z7) lN)))))
def c14:KS:=(aE (bL (aD (eL Z7) (ai fG bH)) (bL (bz (bl (ah AB (lC (eL Z3) (lC (aq 2) (lC (eL Z8) (lC (eL Z9) (lC (eL Z7) lN)))))))) (bL (bz (bl (ag (bU (eL Z3) (aq 2)) Cs (.cons 24 vk .nil) (lC (eL Z8) lN)))) aP))) (bC ar bN) bN)
def c15:KS:=(aE (bL (aD (ag (bU (eL Z3) (aq 2)) xu (.cons 24 sU .nil) (lC (eL Z8) (lC (aq 5) (lC (eL Z7) lN)))) (ai iB (aJ (lC uW (lC (bt lN) lN))))) (bL (bl (ag (bU (eL Z3) (aq 1)) Cs (.cons 24 vk .nil) (lC (eL Z5) lN))) aP)) (bC ar bN) bN)
def c16:KS:=(bT [fX,Z6] (ag (bU (eL Z3) (aq 2)) Ae (.cons 24 Aw .nil) (lC (eL Z8) (lC (eL kY) (lC (eL Z7) lN)))))
def c17:KS:=(ao Z7 (ah m8 (lC (eL Z3) (lC (eL Z6) (lC (eL Z7) lN)))))
def c18:KS:=(aE (bL (aD (eL fX) (ai iB (ak cq (lC (eL kY) lN)))) (bL (aD (eL Z7) (ai fG bH)) (bL (bz (bl (ah AB (lC (eL Z3) (lC (aq 1) (lC (eL Z5) (lC (eL kY) (lC (eL Z7) lN)))))))) aP))) (bC ar bN) bN)
def c19:KS:=(ao Z7 (ah m8 (lC (eL Z3) (lC (ag (bU (eL Z3) (aq 2)) Ah (.cons 24 Ax .nil) (lC (eL Z8) (lC (eL Z7) lN))) (lC (eL Z7) lN)))))
def c20:KS:=(ao iY (aJ (lC (aO 11) (lC bH (lC (aq 0) (lC (aq 0) lN))))))
def c21:KS:=(aE (bL (aD (eL Z7) (ai fG bH)) (bL (aD (ag (bU (eL Z3) (aq 1)) tF (.cons 24 k9 .nil) (lC (eL Z5) lN)) (ai iB (eL iY))) (bL (aD (ag (bU (eL Z3) (aq 2)) tF (.cons 24 k9 .nil) (lC (eL Z8) lN)) (ai iB (eL iY))) aP))) (bC ar bN) bN)
def xE:KE:=(eX (bU (ag (bU (eL Z3) (aq 2)) tF (.cons 24 k9 .nil) (lC (eL Z4) lN)) (aq 0)) (ai bI (aO 9)))
def xA:KA:=(lC (eL Z3) (lC (eL Z7) lN))
def r1:KT:=(aD (aa Z1 sI) (ai bI (aO 26)))
def r2:KT:=(aD (aa Z1 sI) (ai dB bH))
def r3:KE:=(aB ba (aO 29) (aa Z1 sI))
def q1:KS:=(ao Z4 (cV (ag (eL .e) yz (.cons 24 qF .nil) (lC (eL Z1) lN)) lS))
def q2:KT:=(bL (aD (aa Z4 Z8) (ai fG bH)) (bL (aD (ag (aa Z4 Z8) Bg (.cons 20 o9 .nil) lN) (ai bI (aq 0))) aP))
def q3:KE:=(eL .e)
def q4:KA:=(lC (eL Z4) lN)
def t1:KS:=(bT [Z2,Z3] (ag (bU (eL .e) (aq 1)) xh (.cons 21 sR (.cons 24 sT .nil)) (lC (aq 1) (lC (aq 2) (lC (aq 9) (lC (eL Z1) lN))))))
def t2:KS:=(aE (bL (aD (ah m8 (lC (eL .e) (lC (eL Z3) (lC (eL Z1) lN)))) (ai fG bH)) (bL (aD (ag (bU (eL .e) (aq 1)) tF (.cons 24 k9 .nil) (lC (eL Z2) lN)) (ai iB (aJ (lC (aO 11) (lC (aO 27) (lC (aq 0) (lC (aq 0) lN))))))) aP)) (bC ar bN) bN)
def t3:KE:=(bU (eL .e) (aq 1))
def t4:KA:=(lC (eL Z2) (lC (aq 1) (lC (eL Z1) lN)))
def t5:KE:=(dI (eX (ag (bU (eL .e) (aq 1)) AB (.cons 24 CY .nil) (lC (eL Z2) (lC (eL Z1) lN))) (ai bI (bt lN))) (eX (ag (bU (eL .e) (aq 1)) tF (.cons 24 k9 .nil) (lC (eL Z2) lN)) (ai bI (aJ (lC (aO 11) (lC bH (lC (aq 0) (lC (aq 0) lN))))))))
def lawK:List KS:=[c0,c1,c2,c3,c4,c5,c6,c7,c8,c9,c10,c11,c12,c13,c14,c15,c16,c17,c18,c19,c20,c21]
def allB (x:Fx) (fi:aY) (l:List KS):List Stmt->Bool:=List.rec (motive:=λ_=>List Stmt->Bool) (λes=>es.isEmpty) (λa _ ih es=>List.rec (motive:=λ_=>Bool) false (λu r _=>(a.k x fi u).b&&ih r) es) l
theorem allK {w:World}{V:Va}{oh:Heap}{mg mb:Str->Option Value}(G:Gl w V oh mg mb){x:Fx}{fi:aY}(ok:x.Ok fi){l:List KS}:∀{es:List Stmt},allB x fi l es=true->hJ w V oh false fi (l.map KX.c) es:=by
 induction l with
 |nil=>
  intro es h
  cases es with
  |nil=>exact .nil
  |cons=>exact nf h
 |cons a l ih=>
  intro es h
  cases es with
  |nil=>exact nf h
  |cons u r=>exact .cons (a.s G (λz=>by exact nf z) ok (Bool.and_eq_true_iff.mp h).1) (ih (Bool.and_eq_true_iff.mp h).2)
end K
def eY:List SC:=K.lawK.map KX.c
def AP:EC:=K.xE.c
def AQ:LC:=K.xA.c
def xR (co:CO):XK:=rF sV C9.ps K.r1.c K.r2.c K.r3.c co
def xC (co co':CO):XK:=yh sU C8.ps K.q1.c K.q2.c K.q3.c xx (.cons 24 sV .nil) K.q4.c co (xR co')
def xL (co co' co'' co2:CO):List AV->H->K1->Bool:=Cf Dc.ps K.t1.c K.t2.c K.t3.c xu (.cons 24 sU .nil) K.t4.c co (xC co' co'') K.t5.c co2
theorem rK {b:Bool}(h:false=true):b=true:=by cases h
section
variable {w:World}{V:Va}{G:Addr->Option Obj}{oh:Heap}{mg mb:Str->Option Value}
theorem lawS (G:Gl w V oh mg mb):hJ w V oh false (bR dL.T (aX dL.st) vL) eY ((bodyOf dL.st).take 22):=K.allK G pN (by kernel_rfl)
theorem AR (H:Hd w V G oh mg mb){f:P4}{X:aF}(h:pq.get f=some (.py X)):∃a fd dvals,V.fn f=some a/\fx V oh a fd (bR X.d.T (aX X.d.st) X.v) X.d.ps X.d.names dvals (bodyOf X.d.st):=by
 obtain⟨h1,h2⟩:=at_of h
 refine dH (dAt H h1 X.v) λa fd dvals ha D=>?_
 exact yEEEA a fd dvals (fnV H h2 ha) D
theorem pos_k (H:Hd w V G oh mg mb){f:P4}{X:aF}(h:pq.get f=some (.py X)){P:Prop}(c_:∀a fd dvals,V.fn f=some a->fx V oh a fd (bR X.d.T (aX X.d.st) X.v) X.d.ps X.d.names dvals (bodyOf X.d.st)->P):P:=dH (AR H h) c_
theorem Dk (H:Hd w V G oh mg mb){C:Addr}(XC:uO V (sW G) C):MkX w V oh C:=λA W h s m R I rm hm hq=>by
 refine pos_k H (f:=.e) (X:=K.F0) (by kernel_rfl) λa fd dvals ha D=>?_
 exact zG H.lim XC (λa o e=>H.hG _ _ (qG e)) ha rfl D (by kernel_rfl) (by kernel_rfl) I rm hm hq
theorem Dl (H:Hd w V G oh mg mb){C:Addr}(hC:gv G "ResetError" = some (.ref C)) (XC:uO V (sW G) C){n:Nat}{co:CO}(ok:ti w V oh false n co):Ba w V oh C (n+1) (xR co):=by
 refine pos_k H (f:=sV) (X:=K.De) (by kernel_rfl) λa fd dvals ha D=>?_
 have G:=H.gl
 refine rf_s H.lim XC (λa o e=>H.hG _ _ (qG e)) (Dk H XC) H.gl.hg ((eV H.hG H.gl.hg H.main).symm.trans hC) ha D (by kernel_rfl) (K.r1.s G rK pN (by kernel_rfl)) (K.r2.s G rK pN (by kernel_rfl)) (K.r3.s G rK pN (by kernel_rfl)) (by kernel_rfl) ok
theorem Dm (H:Hd w V G oh mg mb){C:Addr}(hC:gv G "ResetError" = some (.ref C)) (XC:uO V (sW G) C){n:Nat}{co co':CO}(ok:ti w V oh false (n+1) co) (ok':ti w V oh false n co'):Ba w V oh C (n+2) (xC co co'):=by
 refine pos_k H (f:=sU) (X:=K.Dd) (by kernel_rfl) λa fd dvals ha D=>?_
 have G:=H.gl
 refine rc_s H.lim G.CA G.FA ha D (K.q1.s G rK pN (by kernel_rfl)) (K.q2.s G rK pN (by kernel_rfl)) (G.attr _ _ (by kernel_rfl)) (mR G (by kernel_rfl)) (by kernel_rfl) (λ_=>rfl) (K.q3.s G rK pN (by kernel_rfl)) (K.q4.s G rK pN (by kernel_rfl)) ok (Dl H hC XC ok')
theorem xJ (Hh:Hd w V G oh mg mb) (Hm:∀{h₁:Heap},(∀b o,oh.get? b=some o->h₁.get? b=some o)->Hd w V G h₁ mg mb){n:Nat}{T:Tr Fn}(T0:fe w V oh false T) (x:Cx w V oh false (bR dL.T (aX dL.st) vL)) (hn:x.n=n+4) (hx:x.co=call T (n+4)) (hf:x.env.frame=some x.env.locals) (hA:x.A.frames=some [x.env]) (hh:x.A.handled=none)
  {r:Tr AV}{h:H}(e:AP (call T (n+4)) r h (λv h=>dp v λb=>cW b (AQ (call T (n+4)) r h λvs h=>xL (call T (n+3)) (call T (n+2)) (call T (n+1)) (call AF (n+3)) vs h λv _=>dp v λb=>b))=true){W:Wd}{s:Shared}(I:Inv w V oh W h s.heap) (F:aM V oh (bR dL.T (aX dL.st) vL) x.env W s.heap r){Q:Flow->Shared->Prop}
  (p:∀s',(∀b o,oh.get? b=some o->s'.heap.get? b=some o)->s'.gens=s.gens->s'.os=s.os->Q (.ret (.bool true)) s'):WG (model pw w) x.A (execs ((bodyOf dL.st).drop 22) x.env) Q i7 s:=by
 have G:=Hh.gl
 obtain⟨C,hC,XC⟩:=xH (V:=V) (by obtain⟨_,_,_,_,_,_,rfl⟩:=Hh.va;rfl) Hh.exc
 rw [<-hx] at e
 refine Dh G.FA (f:=AD) (c1:=AP) (l:=AQ) (K.xE.s G rK pN (by kernel_rfl)) (K.eKf AD |>.s G rK (x:=.ot) trivial (by kernel_rfl)) (by kernel_rfl) (K.xA.s G rK pN (by kernel_rfl)) x e I F λvs h2 vals a W2 s2 e2 hfa R2 I2 S2=>?_
 refine pos_k Hh (f:=AD) (X:=K.Df) (by kernel_rfl) λa' fd dvals ha D=>?_
 rw [hfa] at ha;cases ha
 have ok:=gS Hh.lim T0
 have F2:=F.step _ _ S2
 have rm:=x.rm
 rw [hn] at rm
 refine Cg Hh.lim G.CA G.FA XC (λa o e=>Hh.hG _ _ (qG e)) G.hg ((eV Hh.hG Hh.gl.hg Hh.main).symm.trans hC) (by kernel_rfl) D (K.t1.s G rK pN (by kernel_rfl)) (K.t2.s G rK pN (by kernel_rfl)) (G.attr _ _ (by kernel_rfl)) (mR G (by kernel_rfl)) (by kernel_rfl) (λ_=>rfl) (K.t3.s G rK pN (by kernel_rfl)) (K.t4.s G rK pN (by kernel_rfl)) (ok (n+3)) (Dm Hh hC XC (ok (n+2)) (ok (n+1))) (λh₁ b1=>⟨gS (Hm b1).lim (xI (Hm b1)) (n+3),K.t5.s (Hm b1).gl (λ_=>by kernel_rfl) pN (by kernel_rfl)⟩) e2 (rm.call (by exact Nat.le_add_right _ _) (by exact Nat.le_add_right _ _)) hh hA I2 (fC.cons (λ_ z=>by cases z) x.fm hf F2) R2 λav h3 v μ s3 e3 R3 st g1 g2=>?_
 refine onBool_k e3 λb r1_ r2_=>?_;subst r1_;subst r2_
 obtain rfl:v = .bool true:=R3
 exact p s3 st (g1.trans S2.gens) (g2.trans S2.os)
end
end
section
set_option maxHeartbeats 4000000
section
variable {w:World}{V:Va}{oh:Heap}{fi:aY}{u:Nat}{ρ:Tr P4}{W:Wd}{h:H}{hp:Heap}
theorem nh {b:Addr}(q:(W.re ρ).own b):W.own b:=by
 rcases q with ⟨p,e⟩|⟨p,e⟩
 ·refine bindS (show (ρ.get p).bind W.μ=some b from e) λq _ e=>?_;exact .inl ⟨q,e⟩
 ·refine bindS (show (ρ.get p).bind W.δ=some b from e) λq _ e=>?_;exact .inr ⟨q,e⟩
theorem Inv.wk (hu:V.un 0=u) (I:Inv w V oh W h hp){T':Tr AO}{nx':P4}(h1:∀p o',T'.get p=some o'->∃q o,ρ.get p=some q/\h.t.get q=some o/\(Dj u ρ o o'=true∨(o=o'/\∃l,o' = .src l)))
  (hinj:∀p p' q,ρ.get p=some q->ρ.get p'=some q->p=p') (hdom:∀p q,ρ.get p=some q->p.rank<nx'.rank):Inv w V oh (W.re ρ) (.mk T' nx') hp:=by
 have un:∀{f:Mu}{p:P4}{a:Addr},(ρ.get p).bind f=some a->∃q,ρ.get p=some q/\f q=some a:=λe=>Option.bind_eq_some_iff.mp e
 refine⟨I.bq,λb q=>I.low b (nh q),λb q=>I.lt b (nh q),λp p' a e e'=>?_,λp p' a e e'=>?_,λp p' a e e'=>?_,λp a e=>?_,λp a e=>?_,λp o' e=>?_,λb q=>q.elim⟩
 ·refine aI (un e) λq z1 z2=>?_;refine aI (un e') λq' z3 z4=>?_
  obtain rfl:=I.fp _ _ _ z2 z4
  exact hinj _ _ _ z1 z3
 ·refine aI (un e) λq z1 z2=>?_;refine aI (un e') λq' z3 z4=>?_
  obtain rfl:=I.fR _ _ _ z2 z4
  exact hinj _ _ _ z1 z3
 ·refine aI (un e) λq z1 z2=>?_;refine aI (un e') λq' z3 z4=>?_
  exact I.apart _ _ _ z2 z4
 ·refine aI (un e) λq z1 z2=>?_;exact hdom _ _ z1
 ·refine aI (un e) λq z1 z2=>?_;exact hdom _ _ z1
 ·refine bj (h1 p o' e) λq o z1 z2 z3=>?_
  refine I.ob q o z2 λa z4 z5=>?_
  refine yEA a ?_ ?_
  ·show (ρ.get p).bind W.μ=some a
   rw [z1];exact z4
  ·rcases z3 with z3|⟨rfl,l,rfl⟩
   ·exact AN hu z3 z1 z5
   ·exact z5
theorem aM.wk (hu:V.un 0=u){env:Env}{r r':Tr AV}(F:aM V oh fi env W hp r) (h1:∀p a',r'.get p=some a'->∃a,r.get p=some a/\pR u ρ a a'=true):aM V oh fi env (W.re ρ) hp r':=by
 refine aI F.loc λm hn hm=>?_
 refine⟨yEA m hn λp x av e1 e2 e3=>?_,λp x e=>(F.me p x e).imp id λ⟨k,c,o,l,g,q⟩=>yAEEAA k c o l g λav e2=>?_,⟨λq=>F.un.1 (nh q),F.un.2⟩,λx c e=>⟨λq=>(F.ej x c e).1 (nh q),(F.ej x c e).2⟩,F.inj⟩
 ·refine aI (h1 p av e2) λa z1 z2=>?_
  refine aI (hm p x a e1 z1 e3) λv z3 z4=>?_
  exact yEA v z3 (gC hu z2 z4)
 ·refine aI (h1 p av e2) λa z1 z2=>?_
  refine aI (q a z1) λv z3 z4=>?_
  exact yEA v z3 (gC hu z2 z4)
theorem hJ.drop {kH:Bool}:∀(n:Nat){cs:List SC}{sts:List Stmt},hJ w V oh kH fi cs sts->hJ w V oh kH fi (cs.drop n) (sts.drop n)
 |0,_,_,a=>a
 |n+1,_,_,.nil=>by rw [List.drop_nil,List.drop_nil];exact .nil
 |n+1,_,_,.cons _ a=>hJ.drop n a
theorem hJ.take {kH:Bool}:∀(n:Nat){cs:List SC}{sts:List Stmt},hJ w V oh kH fi cs sts->hJ w V oh kH fi (cs.take n) (sts.take n)
 |0,_,_,a=>.nil
 |n+1,_,_,.nil=>.nil
 |n+1,_,_,.cons c a=>.cons c (hJ.take n a)
end
def Bh (p:Prop):Bool:=@decide p (Classical.propDecidable p)
theorem ni {p:Prop}(h:p):Bh p=true:=@decide_eq_true p (Classical.propDecidable p) h
theorem nj {p:Prop}(h:Bh p=true):p:=@of_decide_eq_true p (Classical.propDecidable p) h
abbrev fiL:aY:=bR dL.T (aX dL.st) vL
abbrev Dn:List Stmt:=bodyOf dL.st
def Qf (oh:Heap) (g0:Array GenState) (o0:OsState) (f:Flow) (s:Shared):Prop:=f = .ret (.bool true)/\(∀b o,oh.get? b=some o->s.heap.get? b=some o)/\s.gens=g0/\s.os=o0
def Goes (w:World) (V:Va) (oh:Heap) (g0:Array GenState) (o0:OsState) (i:Nat) (r:Tr AV) (h:H):Prop:=
 ∀env A W s,Fm fiL env->env.frame=some env.locals->A.frames=some [env]->A.handled=none->Rm 20 A->Inv w V oh W h s.heap->aM V oh fiL env W s.heap r->(∀b,¬W.lk b)->s.gens=g0->s.os=o0->WG (model pw w) A (execs (Dn.drop i) env) (Qf oh g0 o0) i7 s
section
variable {w:World}{V:Va}{G:Addr->Option Obj}{oh:Heap}{mg mb:Str->Option Value}{g0:Array GenState}{o0:OsState}
theorem hN (GG:Gl w V oh mg mb) (NL:oh.NoLimit){T:Tr Fn}(ok:fe w V oh false T){i j:Nat}(hij:i<=j) (hj:j<=22){r:Tr AV}{h:H}{k:Tr AV->H->Bool}(e:runs ((eY.drop i).take (j - i)) (call T 20) r h k=true) (nxt:∀r' h',k r' h'=true->Goes w V oh g0 o0 j r' h') :
  Goes w V oh g0 o0 i r h:=by
 intro env A W s fm hf hA hh rm I F lk hg ho
 have all:=((lawS GG).drop i).take (j - i)
 have es:Dn.drop i=((Dn.take 22).drop i).take (j - i)++Dn.drop j:=by
  rw [List.drop_take,List.take_take,show min (j - i) (22 - i)=j - i by lia]
  have:=List.take_append_drop (j - i) (Dn.drop i)
  rw [List.drop_drop,show i+(j - i)=j by lia] at this
  exact this.symm
 rw [es]
 refine AG all ⟨20,call T 20,gS NL ok 20,A,rm,.inl hh,env,fm⟩ e I F λr' h' W' s' e1 I1 F1 S1=>?_
 exact nxt r' h' e1 env A W' s' fm hf hA hh rm I1 F1 (λb q=>lk b (S1.le.2.2▸q)) (S1.gens.trans hg) (S1.os.trans ho)
theorem rL {u:Nat}{ρ:Tr P4}(hu:V.un 0=u){i:Nat}{r r':Tr AV}{h:H}{T':Tr AO}{nx':P4}(h1:∀p o',T'.get p=some o'->∃q o,ρ.get p=some q/\h.t.get q=some o/\(Dj u ρ o o'=true∨(o=o'/\∃l,o' = .src l)))
  (hinj:∀p p' q,ρ.get p=some q->ρ.get p'=some q->p=p') (hdom:∀p q,ρ.get p=some q->p.rank<nx'.rank) (h2:∀p a',r'.get p=some a'->∃a,r.get p=some a/\pR u ρ a a'=true) (nxt:Goes w V oh g0 o0 i r' (.mk T' nx')):Goes w V oh g0 o0 i r h:=
 λenv A W s fm hf hA hh rm I F lk hg ho=>nxt env A (W.re ρ) s fm hf hA hh rm (I.wk hu h1 hinj hdom) (F.wk hu h2) (λb q=>q) hg ho
def lst (T:Tr Fn) (r:Tr AV) (h:H):Bool:=AP (call T 20) r h λv h=>dp v λb=>cW b (AQ (call T 20) r h λvs h=>xL (call T 19) (call T 18) (call T 17) (call AF 19) vs h λv _=>dp v λb=>b)
theorem vx (Hh:Hd w V G oh mg mb) (Hm:∀{h₁:Heap},(∀b o,oh.get? b=some o->h₁.get? b=some o)->Hd w V G h₁ mg mb){T:Tr Fn}(ok:fe w V oh false T){r:Tr AV}{h:H}(e:lst T r h=true):Goes w V oh g0 o0 22 r h:=
 λenv A W s fm hf hA hh rm I F lk hg ho=>xJ Hh Hm (n:=16) ok ⟨20,call T 20,gS Hh.lim ok 20,A,rm,.inl hh,env,fm⟩ rfl rfl hf hA hh e I F λs' st a b=>yAAA rfl st (a.trans hg) (b.trans ho)
theorem vz (Hh:Hd w V G oh mg mb){a:Addr}(ha:mg "law" = some (.ref a)){v:Value}(hv:V.fF 0=v) (hi:handedIn v=true){s:Shared}(hs:s.heap=oh) (go:Goes w V oh s.gens s.os 0 (Tr.set (.o (.fF 0)) .e .lf) (.mk .lf .e)){A:Around}(rm:A.depth+100<recursionLimit/\A.units+1000<cLine) (hA:A.frames=some []) (hh:A.handled=none){R:Result->Shared->Prop}
  (p:∀s',(∀b o,oh.get? b=some o->s'.heap.get? b=some o)->s'.gens=s.gens->s'.os=s.os->R (.ok (.ret (.bool true))) s'):CG (model pw w) A (.call (.ref a) ⟨[v],[]⟩) R s:=by
 have hm:dL ∈ i2:=List.mem_cons_self ..
 refine dH (dAt Hh hm vL) λa' fd dvals h1 D=>?_
 have e1:gv G "law" = some (.ref a):=(eV Hh.hG Hh.gl.hg Hh.main).trans ha
 have e2:fnOf G dL.at_=some a:=by
  show mT (gv G "law")=some a
  rw [e1];rfl
 rw [e2] at h1;cases h1
 have I0:Inv w V oh ⟨λ_=>none,λ_=>none,λ_=>False⟩ (.mk .lf .e) s.heap:=by
  subst hs
  refine⟨λb o e=>e,?_,?_,?_,?_,?_,?_,?_,?_,λb q=>q.elim⟩
  ·rintro b (⟨p,e⟩|⟨p,e⟩)<;>exact nn e
  ·rintro b (⟨p,e⟩|⟨p,e⟩)<;>exact nn e
  ·intro p q a e;exact nn e
  ·intro p q a e;exact nn e
  ·intro p q a e;exact nn e
  ·intro p a e;exact nn e
  ·intro p a e;exact nn e
  ·intro p o e;rw [show (H.mk .lf .e).t=(Tr.lf:Tr AO) from rfl,Tr.bF] at e;exact nn e
 refine eE Hh.lim D (by have:=rm.1;lia) (vs:=[.o (.fF 0)]) (k:=λr=>Bh (r=Tr.set (.o (.fF 0)) .e .lf)) (ni rfl) I0 (.cons ⟨hv.symm,hi⟩ .nil) λenv r hp tk e3 fm hf g1 g2 keep ns I1 F1 S1=>?_
 obtain rfl:=nj e3
 refine WG.mono (go env (A.deeper env) _ _ fm hf (Around.frames_deeper hA) hh ?_ I1 F1 (λb q=>q) rfl rfl) (λf s' z=>?_) λ_ _ z=>z.elim
 ·obtain⟨r1,r2⟩:=rm
  refine⟨?_,?_⟩
  ·show A.depth+1+4*20+4<_;lia
  ·show A.units+3+32*20+40<_;lia
 ·obtain⟨rfl,z1,z2,z3⟩:=z
  exact p s' z1 z2 z3
end
end
section
set_option maxRecDepth 1000000
set_option maxHeartbeats 4000000
def dig (n:Nat) (p:P4):P4:=Bool.rec (motive:=λ_=>P4) (Bool.rec (motive:=λ_=>P4) (Bool.rec (motive:=λ_=>P4) (.d p) (.c p) (Nat.beq n 2)) (.b p) (Nat.beq n 1)) (.a p) (Nat.beq n 0)
def ri (n:Nat):P4:=Nat.rec (motive:=λ_=>Nat->P4) (λ_=>.e) (λ_ ih n=>Bool.rec (motive:=λ_=>P4) (dig (Nat.mod n 4) (ih (Nat.div n 4))) .e (Nat.beq n 0)) 6 n
noncomputable def cA:Tr AO:=(.nd (some (.bk [.mk 1 (.ref (ri 1)),.mk 2 (.ref (ri 46))])) (.nd none (.nd none (.nd none .lf (L1 (.list [])) .lf .lf) (.nd (some (.list [.ref (ri 17),.ref (ri 18),.ref (ri 19),.ref (ri 20),.ref (ri 21),.ref (ri 22),.ref (ri 23),.ref (ri 24),.ref (ri 25),.ref (ri 26),.ref (ri 27),.ref (ri 28),.ref (ri 29),.ref (ri 30),.ref (ri 31),.ref (ri 32)])) .lf (L1 (.list [])) .lf .lf) (L1 (.list [])) (L1 (.inst 22 (.nd none (.nd none .lf .lf (.nd none .lf .lf .lf (.nd none .lf .lf (L1 (.nat 2)) .lf)) .lf) (.nd none .lf (.nd none (.nd none (L1 (.o (.un 0))) (L1 (.nat 7)) .lf .lf) .lf .lf .lf) .lf .lf) (.nd none (.nd none .lf .lf .lf (L1 (.ref (ri 50)))) .lf .lf .lf) (.nd none .lf .lf (L1 (.ref (ri 49))) .lf))))) (.nd (some (.bk [.mk 1 (.ref (ri 5))])) (.nd none .lf (L1 (.list [])) .lf .lf) (.nd (some (.list [])) .lf (L1 (.inst 9 (.nd none (.nd none (L1 (.nat 8)) (.nd none .lf (L1 (.nat 20)) .lf .lf) .lf (.nd none (L1 (.nat 0)) .lf .lf .lf)) (.nd none .lf .lf (.nd none .lf .lf .lf (L1 (.nat 20))) (.nd none (L1 (.nat 0)) (L1 (.bool false)) .lf .lf)) .lf (.nd (some (.nat 4)) .lf .lf .lf (.nd none .lf .lf (L1 (.bool false)) .lf))))) .lf .lf) (L1 (.inst 8 (.nd none (.nd none (.nd none .lf .lf .lf (.nd none .lf (L1 (.nat 2)) (L1 (.bool false)) .lf)) .lf .lf .lf) (.nd none (.nd none .lf (L1 (.none)) .lf .lf) .lf (.nd none .lf .lf (L1 (.nat 0)) .lf) .lf) .lf .lf))) (L1 (.inst 23 (.nd none (.nd none .lf (.nd none .lf .lf (.nd none (L1 (.bool false)) (L1 (.bool false)) .lf .lf) .lf) .lf .lf) .lf (.nd none .lf (.nd none (L1 (.none)) .lf .lf .lf) .lf .lf) (.nd none .lf .lf (.nd none (L1 (.none)) .lf .lf .lf) (L1 (.ref (ri 53)))))))) (.nd (some (.inst 12 (.nd none (.nd none .lf (.nd none .lf .lf (L1 (.o (.bytes []))) .lf) .lf .lf) .lf .lf (.nd none (.nd none .lf (L1 (.nat 16)) .lf .lf) .lf .lf .lf)))) (.nd none .lf (L1 (.list [])) .lf .lf) (.nd (some (.list [])) .lf (L1 (.dict [.mk (.cons (.u 0) (.cons (.n 7) .nil)) (.ref (ri 89)) (.nat 1)])) .lf .lf) (L1 (.inst 21 (.nd none .lf (.nd none (L1 (.ref (ri 41))) (.nd none .lf .lf (L1 (.ref (ri 42))) .lf) .lf .lf) .lf .lf))) (L1 (.inst 13 (.nd (some (.nat 256)) (.nd none (L1 (.nat 16)) (.nd none (.nd none .lf (L1 (.o (.sq 21 65 0))) .lf .lf) (L1 (.nat 16)) .lf .lf) .lf .lf) .lf .lf (.nd none .lf .lf .lf (.nd none .lf .lf .lf (L1 (.o (.sq 20 65 0))))))))) (.nd (some (.inst 19 (.nd (some (.nat 256)) .lf .lf (.nd none .lf .lf .lf (L1 (.ref (ri 13)))) .lf))) (.nd none .lf (L1 (.list [])) .lf .lf) (.nd (some (.list [])) .lf (L1 (.inst 7 (.nd none (.nd none (.nd none .lf .lf .lf (.nd none (L1 (.nat 40)) .lf .lf .lf)) .lf .lf .lf) .lf (.nd none .lf (.nd none .lf .lf (L1 (.nat 40)) .lf) .lf (.nd none .lf .lf (L1 (.ref (ri 93))) .lf)) (.nd none .lf .lf .lf (.nd none .lf (L1 (.nat 49)) .lf .lf))))) .lf .lf) (L1 (.inst 7 (.nd none (.nd none (.nd none .lf .lf .lf (.nd none (L1 (.nat 41)) .lf .lf .lf)) .lf .lf .lf) .lf (.nd none .lf (.nd none .lf .lf (L1 (.nat 40)) .lf) .lf (.nd none .lf .lf (L1 (.ref (ri 45))) .lf)) (.nd none .lf .lf .lf (.nd none .lf (L1 (.nat 49)) .lf .lf))))) (L1 (.list [])))) (.nd (some (.inst 24 (.nd none (.nd none .lf .lf (L1 (.ref (ri 2))) (.nd none .lf (L1 (.o (.sq 20 64 0))) .lf .lf)) (.nd none (L1 (.ref (ri 3))) (.nd none (L1 (.nat 1)) .lf .lf (L1 (.ref (ri 40)))) .lf .lf) (.nd none .lf (L1 (.ref (ri 4))) (.nd none .lf .lf (L1 (.ref (ri 44))) .lf) .lf) .lf))) (.nd none (.nd none .lf (L1 (.list [])) .lf .lf) (.nd (some (.list [])) .lf (L1 (.inst 10 (.nd none (.nd none (.nd none .lf .lf .lf (.nd none .lf .lf .lf (L1 (.nat 0)))) .lf .lf .lf) (.nd none (.nd none .lf .lf (L1 (.nat 0)) (L1 (.none))) .lf .lf .lf) (.nd none .lf .lf (.nd none .lf .lf .lf (L1 (.ref (ri 82)))) (.nd none .lf .lf .lf (L1 (.nat 4)))) .lf))) .lf .lf) (L1 (.list [])) (L1 (.list []))) (.nd (some (.inst 23 (.nd none (.nd none .lf (.nd none .lf .lf (.nd none (L1 (.bool false)) (L1 (.bool false)) .lf .lf) .lf) .lf .lf) .lf (.nd none .lf (.nd none (L1 (.none)) .lf .lf .lf) .lf .lf) (.nd none .lf .lf (.nd none (L1 (.nat 40)) .lf .lf .lf) (L1 (.ref (ri 6))))))) (.nd none .lf (L1 (.list [])) .lf .lf) (.nd (some (.list [])) .lf (L1 (.tup [.nat 2,.nat 7])) .lf .lf) (L1 (.inst 9 (.nd none (.nd none (L1 (.nat 8)) (.nd none .lf (L1 (.nat 20)) .lf .lf) .lf (.nd none (L1 (.nat 0)) .lf .lf .lf)) (.nd none .lf .lf (.nd none .lf .lf .lf (L1 (.nat 20))) (.nd none (L1 (.nat 0)) (L1 (.bool false)) .lf .lf)) .lf (.nd (some (.nat 4)) .lf .lf .lf (.nd none .lf .lf (L1 (.bool false)) .lf))))) (L1 (.inst 18 (.nd none (.nd (some (.o (.str 5))) (.nd none .lf (.nd (some (.ref (ri 81))) (L1 (.ref (ri 85))) (L1 (.ref (ri 86))) .lf .lf) (L1 (.ref (ri 83))) .lf) .lf (.nd (some (.ref (ri 2))) .lf .lf .lf (.nd none (L1 (.bool true)) .lf .lf .lf)) (.nd (some (.ref (ri 57))) .lf .lf .lf (L1 (.none)))) (.nd none .lf .lf .lf (L1 (.ref (ri 61)))) (.nd (some (.ref (ri 54))) (.nd none (L1 (.ref (ri 84))) .lf .lf .lf) .lf .lf (.nd none (L1 (.nat 0)) (L1 (.nat 0)) .lf .lf)) .lf)))) (.nd (some (.inst 13 (.nd (some (.nat 256)) (.nd none (L1 (.nat 16)) (.nd none (.nd none .lf (L1 (.o (.sq 20 65 0))) .lf .lf) (L1 (.nat 16)) .lf .lf) .lf .lf) .lf .lf (.nd none .lf .lf .lf (.nd none .lf .lf .lf (L1 (.o (.sq 21 64 0)))))))) (.nd none .lf (L1 (.list [])) .lf .lf) (.nd (some (.list [])) .lf (L1 (.tup [.o (.un 0),.nat 7])) .lf .lf) (L1 (.dict [])) (L1 (.inst 20 (.nd (some (.nat 256)) (.nd none (.nd none .lf (.nd none .lf .lf (L1 (.none)) .lf) .lf .lf) (.nd none (L1 (.bool false)) .lf .lf .lf) .lf .lf) (.nd (some (.o (.sq 20 65 0))) .lf (.nd none .lf (L1 (.o (.sq 20 81 0))) .lf .lf) .lf .lf) (.nd none (.nd none .lf (L1 (.none)) .lf .lf) .lf .lf .lf) (.nd (some (.nat 4)) (.nd none .lf (L1 (.nat 16)) .lf .lf) (.nd none (L1 (.ref (ri 59))) .lf .lf .lf) (L1 (.ref (ri 58))) .lf))))) (.nd (some (.list [])) (.nd none .lf (L1 (.list [])) .lf .lf) (.nd (some (.list [])) .lf (L1 (.bk [])) .lf .lf) (L1 (.bk [.mk 40 (.bool true)])) (L1 (.inst 16 (.nd none (.nd none (.nd (some (.nat 16)) (.nd none .lf .lf (L1 (.ref (ri 63))) (L1 (.ref (ri 80)))) .lf .lf .lf) .lf (.nd none (L1 (.ref (ri 62))) .lf .lf .lf) (.nd none .lf .lf (L1 (.none)) .lf)) (.nd none .lf (.nd none (L1 (.nat 1)) .lf .lf .lf) .lf .lf) .lf .lf))))) (.nd (some (.inst 17 (.nd (some (.nat 256)) (.nd none .lf (.nd none .lf (.nd none (L1 (.nat 16)) (L1 (.nat 16)) .lf .lf) .lf .lf) (.nd none .lf (.nd none .lf .lf .lf (L1 (.nat 6))) (.nd none (L1 (.nat 2)) (L1 (.nat 20)) (L1 (.nat 2)) (L1 (.nat 5))) .lf) .lf) .lf (.nd none .lf .lf .lf (.nd none .lf .lf .lf (L1 (.nat 4)))) (L1 (.nat 4))))) (.nd none (.nd none .lf (L1 (.list [])) .lf .lf) (.nd (some (.list [])) .lf (L1 (.inst 11 (.nd none (.nd none .lf (.nd none (.nd none (L1 (.nat 2)) .lf .lf .lf) (L1 (.nat 20)) .lf .lf) .lf .lf) (.nd none .lf .lf .lf (.nd none .lf .lf (L1 (.nat 0)) .lf)) (.nd none .lf (.nd none .lf .lf (L1 (.nat 6)) (L1 (.nat 0))) .lf .lf) (.nd none (.nd none (L1 (.nat 1)) .lf .lf .lf) .lf .lf .lf)))) .lf .lf) (L1 (.inst 10 (.nd none (.nd none (.nd none .lf .lf .lf (.nd none .lf .lf .lf (L1 (.nat 0)))) .lf .lf .lf) (.nd none (.nd none .lf .lf (L1 (.nat 0)) (L1 (.none))) .lf .lf .lf) (.nd none .lf .lf (.nd none .lf .lf .lf (L1 (.ref (ri 35)))) (.nd none .lf .lf .lf (L1 (.nat 4)))) .lf))) (L1 (.list []))) (.nd (some (.inst 18 (.nd none (.nd (some (.o (.str 5))) (.nd none .lf (.nd (some (.ref (ri 34))) (L1 (.ref (ri 38))) (L1 (.ref (ri 39))) .lf .lf) (L1 (.ref (ri 36))) .lf) .lf (.nd (some (.ref (ri 2))) .lf .lf .lf (.nd none (L1 (.bool true)) .lf .lf .lf)) (.nd (some (.ref (ri 10))) .lf .lf .lf (L1 (.none)))) (.nd none .lf .lf .lf (L1 (.ref (ri 14)))) (.nd (some (.ref (ri 7))) (.nd none (L1 (.ref (ri 37))) .lf .lf .lf) .lf .lf (.nd none (L1 (.nat 0)) (L1 (.nat 0)) .lf .lf)) .lf))) (.nd none .lf (L1 (.list [])) .lf .lf) (.nd (some (.list [])) .lf (L1 (.tup [.nat 1,.nat 40])) .lf .lf) (L1 (.tup [.nat 1,.nat 40])) (L1 (.inst 14 (.nd (some (.nat 256)) (.nd none (.nd none (.nd none (L1 (.ref (ri 56))) .lf .lf .lf) .lf .lf (L1 (.o (.sq 21 65 0)))) (.nd none .lf .lf .lf (L1 (.bool false))) (.nd none .lf .lf .lf (L1 (.bool false))) (.nd none .lf (L1 (.o (.sq 21 64 0))) .lf .lf)) (.nd (some (.o (.sq 21 65 0))) .lf .lf (L1 (.o (.sq 21 65 0))) (.nd none .lf .lf .lf (L1 (.bool false)))) .lf (.nd (some (.nat 4)) (L1 (.ref (ri 55))) .lf .lf .lf))))) (.nd (some (.inst 20 (.nd (some (.nat 256)) (.nd none (.nd none .lf (.nd none .lf .lf (L1 (.none)) .lf) .lf .lf) (.nd none (L1 (.bool false)) .lf .lf .lf) .lf .lf) (.nd (some (.o (.sq 21 65 0))) .lf (.nd none .lf (L1 (.o (.sq 21 81 0))) .lf .lf) .lf .lf) (.nd none (.nd none .lf (L1 (.none)) .lf .lf) .lf .lf .lf) (.nd (some (.nat 4)) (.nd none .lf (L1 (.nat 16)) .lf .lf) (.nd none (L1 (.ref (ri 12))) .lf .lf .lf) (L1 (.ref (ri 11))) .lf)))) (.nd none .lf (L1 (.list [])) .lf .lf) (.nd (some (.list [])) .lf (L1 (.dict [.mk (.cons (.cons (.n 2) (.cons (.n 7) .nil)) (.cons (.cons (.n 1) (.cons (.n 40) .nil)) .nil)) (.ref (ri 91)) (.nat 2)])) .lf .lf) (L1 (.dict [.mk (.cons (.cons (.n 1) (.cons (.n 40) .nil)) (.cons (.cons (.n 2) (.cons (.n 7) .nil)) .nil)) (.ref (ri 43)) (.nat 1)])) (L1 (.nC []))) (.nd (some (.inst 16 (.nd none (.nd none (.nd (some (.nat 16)) (.nd none .lf .lf (L1 (.ref (ri 16))) (L1 (.ref (ri 33)))) .lf .lf .lf) .lf (.nd none (L1 (.ref (ri 15))) .lf .lf .lf) (.nd none .lf .lf (L1 (.none)) .lf)) (.nd none .lf (.nd none (L1 (.nat 1)) .lf .lf .lf) .lf .lf) .lf .lf))) (.nd none .lf (L1 (.list [])) .lf .lf) (L1 (.list [])) (L1 (.inst 24 (.nd none (.nd none .lf .lf (L1 (.ref (ri 2))) (.nd none .lf (L1 (.o (.sq 21 64 0))) .lf .lf)) (.nd none (L1 (.ref (ri 47))) (.nd none (L1 (.nat 2)) .lf .lf (L1 (.ref (ri 87)))) .lf .lf) (.nd none .lf (L1 (.ref (ri 51))) (.nd none .lf .lf (L1 (.ref (ri 92))) .lf) .lf) .lf))) (L1 (.bk [])))) (.nd (some (.bk [])) (.nd none (.nd none .lf (L1 (.list [])) .lf .lf) (.nd (some (.list [])) .lf (L1 (.inst 8 (.nd none (.nd none (.nd none .lf .lf .lf (.nd none .lf (L1 (.nat 2)) (L1 (.bool false)) .lf)) .lf .lf .lf) (.nd none (.nd none .lf (L1 (.none)) .lf .lf) .lf (.nd none .lf .lf (L1 (.nat 0)) .lf) .lf) .lf .lf))) .lf .lf) (L1 (.inst 11 (.nd none (.nd none .lf (.nd none (.nd none (L1 (.nat 2)) .lf .lf .lf) (L1 (.nat 20)) .lf .lf) .lf .lf) (.nd none .lf .lf .lf (.nd none .lf .lf (L1 (.nat 0)) .lf)) (.nd none .lf (.nd none .lf .lf (L1 (.nat 6)) (L1 (.nat 0))) .lf .lf) (.nd none (.nd none (L1 (.nat 1)) .lf .lf .lf) .lf .lf .lf)))) (L1 (.bk [.mk 2 (.ref (ri 52))]))) (.nd (some (.inst 14 (.nd (some (.nat 256)) (.nd none (.nd none (.nd none (L1 (.ref (ri 9))) .lf .lf .lf) .lf .lf (L1 (.o (.sq 20 65 0)))) (.nd none .lf .lf .lf (L1 (.bool false))) (.nd none .lf .lf .lf (L1 (.bool false))) (.nd none .lf (L1 (.o (.sq 20 64 0))) .lf .lf)) (.nd (some (.o (.sq 20 65 0))) .lf .lf (L1 (.o (.sq 20 65 0))) (.nd none .lf .lf .lf (L1 (.bool false)))) .lf (.nd (some (.nat 4)) (L1 (.ref (ri 8))) .lf .lf .lf)))) (.nd none .lf (L1 (.list [])) .lf .lf) (.nd (some (.list [])) .lf (L1 (.inst 21 (.nd none .lf (.nd none (L1 (.ref (ri 88))) (.nd none .lf .lf (L1 (.ref (ri 90))) .lf) .lf .lf) .lf .lf))) .lf .lf) (L1 (.tup [.nat 2,.nat 7])) (L1 (.inst 12 (.nd none (.nd none .lf (.nd none .lf .lf (L1 (.o (.bytes []))) .lf) .lf .lf) .lf .lf (.nd none (.nd none .lf (L1 (.nat 16)) .lf .lf) .lf .lf .lf))))) (.nd (some (.nC [])) (.nd none .lf (L1 (.list [])) .lf .lf) (.nd (some (.list [])) .lf (L1 (.tup [.ref (ri 85),.ref (ri 86)])) .lf .lf) (L1 (.tup [.ref (ri 38),.ref (ri 39)])) (L1 (.inst 19 (.nd (some (.nat 256)) .lf .lf (.nd none .lf .lf .lf (L1 (.ref (ri 60)))) .lf)))) (.nd (some (.bk [])) (.nd none .lf (L1 (.list [])) .lf .lf) (L1 (.list [])) (L1 (.bk [.mk 1 (.ref (ri 48))])) (L1 (.list [.ref (ri 64),.ref (ri 65),.ref (ri 66),.ref (ri 67),.ref (ri 68),.ref (ri 69),.ref (ri 70),.ref (ri 71),.ref (ri 72),.ref (ri 73),.ref (ri 74),.ref (ri 75),.ref (ri 76),.ref (ri 77),.ref (ri 78),.ref (ri 79)])))))
def eZ:Tr AV:=(.nd none (.nd (some (.ref (ri 94))) (L1 (.nat 1)) .lf (L1 (.nat 0)) (L1 (.nat 2))) .lf (L1 (.ref (ri 0))) (L1 (.nat 1)))
def qH:Tr AV:=(.nd none (.nd none (L1 (.nat 1)) .lf (L1 (.nat 0)) (L1 (.nat 2))) .lf (L1 (.ref (ri 0))) (L1 (.nat 1)))
noncomputable def Dp:Tr P4:=(.nd (some (ri 22)) (.nd none (.nd none (.nd none .lf (L1 (ri 108)) .lf .lf) (.nd (some (ri 60)) .lf (L1 (ri 125)) .lf .lf) (L1 (ri 59)) (L1 (ri 26))) (.nd (some (ri 10)) (.nd none .lf (L1 (ri 112)) .lf .lf) (.nd (some (ri 47)) .lf (L1 (ri 104)) .lf .lf) (L1 (ri 41)) (L1 (ri 164))) (.nd (some (ri 37)) (.nd none .lf (L1 (ri 116)) .lf .lf) (.nd (some (ri 51)) .lf (L1 (ri 17)) .lf .lf) (L1 (ri 6)) (L1 (ri 100))) (.nd (some (ri 175)) (.nd none .lf (L1 (ri 120)) .lf .lf) (.nd (some (ri 55)) .lf (L1 (ri 13)) .lf .lf) (L1 (ri 4)) (L1 (ri 140)))) (.nd (some (ri 3)) (.nd none (.nd none .lf (L1 (ri 109)) .lf .lf) (.nd (some (ri 44)) .lf (L1 (ri 103)) .lf .lf) (L1 (ri 61)) (L1 (ri 28))) (.nd (some (ri 65)) (.nd none .lf (L1 (ri 113)) .lf .lf) (.nd (some (ri 48)) .lf (L1 (ri 95)) .lf .lf) (L1 (ri 40)) (L1 (ri 98))) (.nd (some (ri 36)) (.nd none .lf (L1 (ri 117)) .lf .lf) (.nd (some (ri 52)) .lf (L1 (ri 25)) .lf .lf) (L1 (ri 8)) (L1 (ri 137))) (.nd (some (ri 176)) (.nd none .lf (L1 (ri 121)) .lf .lf) (.nd (some (ri 56)) .lf (L1 (ri 14)) .lf .lf) (L1 (ri 5)) (L1 (ri 106)))) (.nd (some (ri 1)) (.nd none (.nd none .lf (L1 (ri 110)) .lf .lf) (.nd (some (ri 45)) .lf (L1 (ri 102)) .lf .lf) (L1 (ri 39)) (L1 (ri 27))) (.nd (some (ri 34)) (.nd none .lf (L1 (ri 114)) .lf .lf) (.nd (some (ri 49)) .lf (L1 (ri 96)) .lf .lf) (L1 (ri 32)) (L1 (ri 99))) (.nd (some (ri 173)) (.nd none .lf (L1 (ri 118)) .lf .lf) (.nd (some (ri 53)) .lf (L1 (ri 16)) .lf .lf) (L1 (ri 7)) (L1 (ri 138))) (.nd (some (ri 42)) (.nd none .lf (L1 (ri 122)) .lf .lf) (.nd (some (ri 57)) .lf (L1 (ri 0)) .lf .lf) (L1 (ri 12)) (L1 (ri 126)))) (.nd (some (ri 9)) (.nd none (.nd none .lf (L1 (ri 111)) .lf .lf) (.nd (some (ri 46)) .lf (L1 (ri 105)) .lf .lf) (L1 (ri 38)) (L1 (ri 19))) (.nd (some (ri 35)) (.nd none .lf (L1 (ri 115)) .lf .lf) (.nd (some (ri 50)) .lf (L1 (ri 15)) .lf .lf) (L1 (ri 33)) (L1 (ri 101))) (.nd (some (ri 174)) (.nd none .lf (L1 (ri 119)) .lf .lf) (.nd (some (ri 54)) .lf (L1 (ri 163)) .lf .lf) (L1 (ri 64)) (L1 (ri 139))) (.nd (some (ri 62)) (.nd none .lf (L1 (ri 123)) .lf .lf) (L1 (ri 58)) (L1 (ri 18)) (L1 (ri 124)))))
noncomputable def Dq:Tr P4:=(.nd (some (ri 22)) (.nd none (.nd none (.nd none .lf (L1 (ri 107)) .lf .lf) (.nd (some (ri 60)) .lf (L1 (ri 124)) .lf .lf) (L1 (ri 59)) (L1 (ri 26))) (.nd (some (ri 10)) (.nd none .lf (L1 (ri 111)) .lf .lf) (.nd (some (ri 47)) .lf (L1 (ri 103)) .lf .lf) (L1 (ri 41)) (L1 (ri 163))) (.nd (some (ri 37)) (.nd none .lf (L1 (ri 115)) .lf .lf) (.nd (some (ri 51)) .lf (L1 (ri 17)) .lf .lf) (L1 (ri 6)) (L1 (ri 99))) (.nd (some (ri 174)) (.nd none .lf (L1 (ri 119)) .lf .lf) (.nd (some (ri 55)) .lf (L1 (ri 13)) .lf .lf) (L1 (ri 4)) (L1 (ri 139)))) (.nd (some (ri 3)) (.nd none (.nd none .lf (L1 (ri 108)) .lf .lf) (.nd (some (ri 44)) .lf (L1 (ri 102)) .lf .lf) (L1 (ri 61)) (L1 (ri 28))) (.nd (some (ri 65)) (.nd none .lf (L1 (ri 112)) .lf .lf) (.nd (some (ri 48)) .lf (L1 (ri 94)) .lf .lf) (L1 (ri 40)) (L1 (ri 97))) (.nd (some (ri 36)) (.nd none .lf (L1 (ri 116)) .lf .lf) (.nd (some (ri 52)) .lf (L1 (ri 25)) .lf .lf) (L1 (ri 8)) (L1 (ri 136))) (.nd (some (ri 175)) (.nd none .lf (L1 (ri 120)) .lf .lf) (.nd (some (ri 56)) .lf (L1 (ri 14)) .lf .lf) (L1 (ri 5)) (L1 (ri 105)))) (.nd (some (ri 1)) (.nd none (.nd none .lf (L1 (ri 109)) .lf .lf) (.nd (some (ri 45)) .lf (L1 (ri 101)) .lf .lf) (L1 (ri 39)) (L1 (ri 27))) (.nd (some (ri 34)) (.nd none .lf (L1 (ri 113)) .lf .lf) (.nd (some (ri 49)) .lf (L1 (ri 95)) .lf .lf) (L1 (ri 32)) (L1 (ri 98))) (.nd (some (ri 172)) (.nd none .lf (L1 (ri 117)) .lf .lf) (.nd (some (ri 53)) .lf (L1 (ri 16)) .lf .lf) (L1 (ri 7)) (L1 (ri 137))) (.nd (some (ri 42)) (.nd none .lf (L1 (ri 121)) .lf .lf) (.nd (some (ri 57)) .lf (L1 (ri 0)) .lf .lf) (L1 (ri 12)) (L1 (ri 125)))) (.nd (some (ri 9)) (.nd none (.nd none .lf (L1 (ri 110)) .lf .lf) (.nd (some (ri 46)) .lf (L1 (ri 104)) .lf .lf) (L1 (ri 38)) (L1 (ri 19))) (.nd (some (ri 35)) (.nd none .lf (L1 (ri 114)) .lf .lf) (.nd (some (ri 50)) .lf (L1 (ri 15)) .lf .lf) (L1 (ri 33)) (L1 (ri 100))) (.nd (some (ri 173)) (.nd none .lf (L1 (ri 118)) .lf .lf) (.nd (some (ri 54)) .lf (L1 (ri 162)) .lf .lf) (L1 (ri 64)) (L1 (ri 138))) (.nd (some (ri 62)) (.nd none .lf (L1 (ri 122)) .lf .lf) (L1 (ri 58)) (L1 (ri 18)) (L1 (ri 123)))))
noncomputable def pz:Tr P4:=(.nd (some (ri 0)) (.nd none (.nd none (.nd none .lf (L1 (ri 64)) .lf .lf) (.nd (some (ri 16)) .lf (L1 (ri 80)) .lf .lf) (L1 (ri 32)) (L1 (ri 48))) (.nd (some (ri 4)) (.nd none .lf (L1 (ri 68)) .lf .lf) (.nd (some (ri 20)) .lf (L1 (ri 84)) .lf .lf) (L1 (ri 36)) (L1 (ri 52))) (.nd (some (ri 8)) (.nd none .lf (L1 (ri 72)) .lf .lf) (.nd (some (ri 24)) .lf (L1 (ri 88)) .lf .lf) (L1 (ri 40)) (L1 (ri 56))) (.nd (some (ri 12)) (.nd none .lf (L1 (ri 76)) .lf .lf) (.nd (some (ri 28)) .lf (L1 (ri 92)) .lf .lf) (L1 (ri 44)) (L1 (ri 60)))) (.nd (some (ri 1)) (.nd none (.nd none .lf (L1 (ri 65)) .lf .lf) (.nd (some (ri 17)) .lf (L1 (ri 81)) .lf .lf) (L1 (ri 33)) (L1 (ri 49))) (.nd (some (ri 5)) (.nd none .lf (L1 (ri 69)) .lf .lf) (.nd (some (ri 21)) .lf (L1 (ri 85)) .lf .lf) (L1 (ri 37)) (L1 (ri 53))) (.nd (some (ri 9)) (.nd none .lf (L1 (ri 73)) .lf .lf) (.nd (some (ri 25)) .lf (L1 (ri 89)) .lf .lf) (L1 (ri 41)) (L1 (ri 57))) (.nd (some (ri 13)) (.nd none .lf (L1 (ri 77)) .lf .lf) (.nd (some (ri 29)) .lf (L1 (ri 93)) .lf .lf) (L1 (ri 45)) (L1 (ri 61)))) (.nd (some (ri 2)) (.nd none (.nd none .lf (L1 (ri 66)) .lf .lf) (.nd (some (ri 18)) .lf (L1 (ri 82)) .lf .lf) (L1 (ri 34)) (L1 (ri 50))) (.nd (some (ri 6)) (.nd none .lf (L1 (ri 70)) .lf .lf) (.nd (some (ri 22)) .lf (L1 (ri 86)) .lf .lf) (L1 (ri 38)) (L1 (ri 54))) (.nd (some (ri 10)) (.nd none .lf (L1 (ri 74)) .lf .lf) (.nd (some (ri 26)) .lf (L1 (ri 90)) .lf .lf) (L1 (ri 42)) (L1 (ri 58))) (.nd (some (ri 14)) (.nd none .lf (L1 (ri 78)) .lf .lf) (L1 (ri 30)) (L1 (ri 46)) (L1 (ri 62)))) (.nd (some (ri 3)) (.nd none (.nd none .lf (L1 (ri 67)) .lf .lf) (.nd (some (ri 19)) .lf (L1 (ri 83)) .lf .lf) (L1 (ri 35)) (L1 (ri 51))) (.nd (some (ri 7)) (.nd none .lf (L1 (ri 71)) .lf .lf) (.nd (some (ri 23)) .lf (L1 (ri 87)) .lf .lf) (L1 (ri 39)) (L1 (ri 55))) (.nd (some (ri 11)) (.nd none .lf (L1 (ri 75)) .lf .lf) (.nd (some (ri 27)) .lf (L1 (ri 91)) .lf .lf) (L1 (ri 43)) (L1 (ri 59))) (.nd (some (ri 15)) (.nd none .lf (L1 (ri 79)) .lf .lf) (L1 (ri 31)) (L1 (ri 47)) (L1 (ri 63)))))
noncomputable abbrev nA:Nat:=94
noncomputable def Dr (l:Nat) (rest:List FT):List FT:=.mk 256 (.o (.sq 4 0 0)) :: .mk 256 (.o (.sq 5 0 0)) :: .mk 2 (.nat l)::rest
def chkA (u:Nat) (ρ:Tr P4) (r:Tr AV) (h:H):Bool:=cW (eZ.iX (λp a'=>opt (r.get p) λa=>pR u ρ a a') id) (cA.iX (λp o'=>opt (ρ.get p) λq=>h.get q λo=>Dj u ρ o o') id)
def kA (u:Nat) (ρ:Tr P4) (cmp:List FT->Bool) (r:Tr AV) (h:H):Bool:=cW (chkA u ρ r h) (opt (ρ.get (ri nA)) λq=>h.get q λo=>tI o cmp)
def nk:Tr AV:=Tr.set (.o (.fF 0)) .e .lf
theorem phA0 (rest:List FT) (cmp:List FT->Bool):runs (eY.take 9) (call (tab (Dr 0 rest)) 20) nk (.mk .lf .e) (kA 0 Dp cmp)=cmp rest:=by kernel_rfl
theorem phA1 (rest:List FT) (cmp:List FT->Bool):runs (eY.take 9) (call (tab (Dr 1 rest)) 20) nk (.mk .lf .e) (kA 2 Dq cmp)=cmp rest:=by kernel_rfl
def xK (n1 n2:Nat):List FT:=.mk 9 (.nat n1)::(A9 (n1+1) 0++(.mk 9 (.nat n2)::(A9 (n2+1) (n1+1)++[])))
noncomputable def Ds (a n:Nat):List Nat:=Nat.rec (motive:=λ_=>Nat->List Nat) (λ_=>[]) (λ_ ih a=>a::ih (Nat.add a 1)) n a
def Dt (n1:Nat):AV:=.o (.bytes (Ds 256 (Nat.add n1 1)))
def yB (n1 n2:Nat):AV:=.o (.bytes (Ds (Nat.add 257 n1) (Nat.add n2 1)))
def ocs (a n:Nat):List AV:=lW (λi=>.o (.oc i)) (Ds a n)
def pA (n1 n2:Nat):Tr AO:=Tr.set (.tup [Dt n1,yB n1 n2]) (ri (nA+5)) (Tr.set (.list (ocs (Nat.add n1 1) (Nat.add n2 1))) (ri (nA+4)) (Tr.set (.ji 0 (Nat.add n2 1)) (ri (nA+3)) (Tr.set (.list (ocs 0 (Nat.add n1 1))) (ri (nA+2)) (Tr.set (.ji 0 (Nat.add n1 1)) (ri (nA+1)) (Tr.set (.src []) (ri nA) cA)))))
theorem f9 {P:Nat->Prop}(a:P 0) (b:P 1) (c:P 2) (d:P 3) (e:P 4) (f:P 5) (g:P 6) (h:P 7) (i:P 8):∀n,n<9->P n
 |0,_=>a|1,_=>b|2,_=>c|3,_=>d|4,_=>e|5,_=>f|6,_=>g|7,_=>h|8,_=>i
 |n+9,q=>absurd q (Nat.not_lt.mpr (Nat.le_add_left 9 n))
def g9 {α:Type}(f:Nat->α):List α:=[f 0,f 1,f 2,f 3,f 4,f 5,f 6,f 7,f 8]
def q9 {α:Type}(f:Nat->α):List α:=[f 0,f 1,f 2,f 3,f 4,f 5,f 6,f 7,f 8]
theorem gq9 {α:Type}{f g:Nat->α}(e:g9 f=q9 g){n:Nat}(h:n<9):f n=g n:=
 (f9 (P:=λn=>(g9 f).getD n (f 0)=f n) rfl rfl rfl rfl rfl rfl rfl rfl rfl n h).symm.trans ((congrArg (λl=>l.getD n (f 0)) e).trans (f9 (P:=λn=>(q9 g).getD n (f 0)=g n) rfl rfl rfl rfl rfl rfl rfl rfl rfl n h))
theorem ph9a (k:Tr AV->H->Bool):g9 (λn1=>g9 λn2=>runs ((eY.drop 9).take 1) (call (tab []) 20) eZ (.mk (Tr.set (.src (xK n1 n2)) (ri nA) cA) (ri (nA+1))) k)=q9 λn1=>q9 λn2=>k (Tr.set (yB n1 n2) kY (Tr.set (Dt n1) Z9 eZ)) (.mk (pA n1 n2) (ri (nA+6))):=by kernel_rfl
theorem ph9 {n1 n2:Nat}(h1:n1<9) (h2:n2<9) (k:Tr AV->H->Bool):runs ((eY.drop 9).take 1) (call (tab []) 20) eZ (.mk (Tr.set (.src (xK n1 n2)) (ri nA) cA) (ri (nA+1))) k=k (Tr.set (yB n1 n2) kY (Tr.set (Dt n1) Z9 eZ)) (.mk (pA n1 n2) (ri (nA+6))):=gq9 (gq9 (ph9a k) h1) h2
def Du (f:Nat->Bool):Bool:=cW (f 0) (cW (f 1) (cW (f 2) (cW (f 3) (cW (f 4) (cW (f 5) (cW (f 6) (cW (f 7) (f 8))))))))
def kB (n1:Nat) (cmp:AV->Bool) (r:Tr AV) (h:H):Bool:=opt (r.get kY) λa=>cW (Du λn2=>runs (eY.drop 16) (call (tab []) 20) (Tr.set (yB n1 n2) kY r) h (lst (tab []))) (cmp a)
def sX (n1:Nat) (a:AV):Tr AV:=Tr.set a kY (Tr.set (Dt n1) Z9 qH)
theorem phB0 (a:AV) (cmp:AV->Bool):runs ((eY.drop 10).take 6) (call (tab []) 20) (sX 0 a) (.mk cA (ri (nA+1))) (kB 0 cmp)=cmp a:=by kernel_rfl
theorem phB1 (a:AV) (cmp:AV->Bool):runs ((eY.drop 10).take 6) (call (tab []) 20) (sX 1 a) (.mk cA (ri (nA+1))) (kB 1 cmp)=cmp a:=by kernel_rfl
theorem phB2 (a:AV) (cmp:AV->Bool):runs ((eY.drop 10).take 6) (call (tab []) 20) (sX 2 a) (.mk cA (ri (nA+1))) (kB 2 cmp)=cmp a:=by kernel_rfl
theorem phB3 (a:AV) (cmp:AV->Bool):runs ((eY.drop 10).take 6) (call (tab []) 20) (sX 3 a) (.mk cA (ri (nA+1))) (kB 3 cmp)=cmp a:=by kernel_rfl
theorem phB4 (a:AV) (cmp:AV->Bool):runs ((eY.drop 10).take 6) (call (tab []) 20) (sX 4 a) (.mk cA (ri (nA+1))) (kB 4 cmp)=cmp a:=by kernel_rfl
theorem phB5 (a:AV) (cmp:AV->Bool):runs ((eY.drop 10).take 6) (call (tab []) 20) (sX 5 a) (.mk cA (ri (nA+1))) (kB 5 cmp)=cmp a:=by kernel_rfl
theorem phB6 (a:AV) (cmp:AV->Bool):runs ((eY.drop 10).take 6) (call (tab []) 20) (sX 6 a) (.mk cA (ri (nA+1))) (kB 6 cmp)=cmp a:=by kernel_rfl
theorem phB7 (a:AV) (cmp:AV->Bool):runs ((eY.drop 10).take 6) (call (tab []) 20) (sX 7 a) (.mk cA (ri (nA+1))) (kB 7 cmp)=cmp a:=by kernel_rfl
theorem phB8 (a:AV) (cmp:AV->Bool):runs ((eY.drop 10).take 6) (call (tab []) 20) (sX 8 a) (.mk cA (ri (nA+1))) (kB 8 cmp)=cmp a:=by kernel_rfl
def apN (l:List Nat):Bool:=List.rec (motive:=λ_=>Bool) true (λn r ih=>cW (List.rec (motive:=λ_=>Bool) true (λm _ ih=>w7 (Nat.beq n m) ih) r) ih) l
theorem vA:∀{l:List Nat},apN l=true->l.Nodup
 | [],_=>List.nodup_nil
 |n::r,h=>by
  obtain⟨a,b⟩:=aH (show cW (List.rec (motive:=λ_=>Bool) true (λm _ ih=>w7 (Nat.beq n m) ih) r) (apN r)=true from h)
  refine List.nodup_cons.mpr ⟨λhm=>?_,vA b⟩
  have key:∀{r:List Nat},(List.rec (motive:=λ_=>Bool) true (λm _ ih=>w7 (Nat.beq n m) ih) r:Bool)=true->n ∉ r:=by
   intro r
   induction r with
   |nil=>intro _ q;cases q
   |cons m r ih=>
    intro e q
    obtain⟨e1,e2⟩:=oZ (show w7 (Nat.beq n m) (List.rec (motive:=λ_=>Bool) true (λm _ ih=>w7 (Nat.beq n m) ih) r)=true from e)
    rcases List.mem_cons.mp q with rfl|q
    ·rw [Nat.beq_refl] at e1;cases e1
    ·exact ih e2 q
  exact key a hm
def vB (ρ:Tr P4) (n:Nat):Bool:=cW (apN (lW P4.rank ρ.vals)) (ρ.iX (λp _=>Nat.blt p.rank n) id)
theorem rM {α β:Type}(f:α->β):∀l:List α,lW f l=l.map f
 | []=>rfl
 |x::l=>by show f x::lW f l=_;rw [rM f l];rfl
theorem rN {ρ:Tr P4}{n:Nat}(h:vB ρ n=true):(∀p p' q,ρ.get p=some q->ρ.get p'=some q->p=p')/\∀p q,ρ.get p=some q->p.rank<n:=by
 obtain⟨a,b⟩:=aH h
 have a:=vA a
 rw [rM] at a
 exact⟨λp p' q e e'=>Tr.jP (List.Pairwise.of_map P4.rank (λx y h e=>h (congrArg _ e)) a) e e',λp q e=>Nat.blt_eq.mp (Tr.bZ p ρ b e)⟩
theorem rk (n:Nat) (h:n<4096):(ri n).rank=n:=by
 have d:∀n p,n<4->(dig n p).rank=4*p.rank+n:=by
  exact λn p h=>f9 (P:=λn=>n<4->(dig n p).rank=4*p.rank+n) (λ_=>rfl) (λ_=>rfl) (λ_=>rfl) (λ_=>rfl) (λh=>absurd h (by decide)) (λh=>absurd h (by decide)) (λh=>absurd h (by decide)) (λh=>absurd h (by decide)) (λh=>absurd h (by decide)) n (Nat.lt_trans h (by decide)) h
 have g:∀f n,n<4 ^ f->(Nat.rec (motive:=λ_=>Nat->P4) (λ_=>.e) (λ_ ih n=>Bool.rec (motive:=λ_=>P4) (dig (Nat.mod n 4) (ih (Nat.div n 4))) .e (Nat.beq n 0)) f n:P4).rank=n:=by
  intro f
  induction f with
  |zero=>
   intro n h
   obtain rfl:n=0:=by simpa using h
   rfl
  |succ f ih=>
   intro n h
   show (Bool.rec (motive:=λ_=>P4) (dig (n % 4) ((Nat.rec (motive:=λ_=>Nat->P4) (λ_=>.e) (λ_ ih n=>Bool.rec (motive:=λ_=>P4) (dig (Nat.mod n 4) (ih (Nat.div n 4))) .e (Nat.beq n 0)) f (n / 4):P4))) .e (Nat.beq n 0):P4).rank=n
   cases q:Nat.beq n 0 with
   |true=>obtain rfl:=Nat.eq_of_beq_eq_true q;rfl
   |false=>
    show (dig (n % 4) _).rank=n
    rw [d _ _ (Nat.mod_lt _ (by decide)),ih (n / 4) (by rw [Nat.pow_succ] at h;omega)]
    omega
 exact g 6 n (by omega)
theorem xM:vB Dp (nA+1)=true:=by kernel_rfl
theorem xN:vB Dq (nA+1)=true:=by kernel_rfl
theorem xO:vB pz nA=true:=by kernel_rfl
theorem AS:pz.iX (λp q=>q.eqB p) id=true:=by kernel_rfl
theorem chkI (u:Nat):cA.iX (λp o'=>opt (pz.get p) λq=>opt (cA.get q) λo=>Dj u pz o o') id=true:=by kernel_rfl
theorem chkF (u:Nat):qH.iX (λp a'=>opt (eZ.get p) λa=>pR u pz a a') id=true:=by kernel_rfl
theorem gD:∀l:List Nat,lT l l=true
 | []=>rfl
 |n::l=>by show cW (Nat.beq n n) (lT l l)=true;rw [Nat.beq_refl,gD l];rfl
theorem vC {V:Va}{oh:Heap}{fi:aY}{env:Env}{W:Wd}{hp:Heap}{r r':Tr AV}(F:aM V oh fi env W hp r) (e:∀p,r'.get p=r.get p):aM V oh fi env W hp r':=by
 obtain⟨m,hn,hm⟩:=F.loc
 exact⟨⟨m,hn,λp x av a b c=>hm p x av a ((e p).symm.trans b) c⟩,λp x a=>(F.me p x a).imp id λ⟨k,c,o,l,g,q⟩=>⟨k,c,o,l,g,λav b=>q av ((e p).symm.trans b)⟩,F.un,F.ej,F.inj⟩
theorem xP {f:Nat->Bool}(h:Du f=true){n:Nat}(hn:n<9):f n=true:=by
 obtain⟨a0,h⟩:=aH h
 obtain⟨a1,h⟩:=aH h
 obtain⟨a2,h⟩:=aH h
 obtain⟨a3,h⟩:=aH h
 obtain⟨a4,h⟩:=aH h
 obtain⟨a5,h⟩:=aH h
 obtain⟨a6,h⟩:=aH h
 obtain⟨a7,a8⟩:=aH h
 exact f9 (P:=λn=>f n=true) a0 a1 a2 a3 a4 a5 a6 a7 a8 n hn
theorem phB {n1:Nat}(h1:n1<9) (a:AV) (cmp:AV->Bool):runs ((eY.drop 10).take 6) (call (tab []) 20) (sX n1 a) (.mk cA (ri (nA+1))) (kB n1 cmp)=cmp a:=
 f9 (P:=λn1=>runs ((eY.drop 10).take 6) (call (tab []) 20) (sX n1 a) (.mk cA (ri (nA+1))) (kB n1 cmp)=cmp a) (phB0 a cmp) (phB1 a cmp) (phB2 a cmp) (phB3 a cmp) (phB4 a cmp) (phB5 a cmp) (phB6 a cmp) (phB7 a cmp) (phB8 a cmp) n1 h1
section
variable {w:World}{V:Va}{G:Addr->Option Obj}{oh:Heap}{mg mb:Str->Option Value}{g0:Array GenState}{o0:OsState}
theorem AU (Hh:Hd w V G oh mg mb) (Hm:∀{h₁:Heap},(∀b o,oh.get? b=some o->h₁.get? b=some o)->Hd w V G h₁ mg mb) (ok:fe w V oh false (tab [])){n1 n2:Nat}(h1:n1<9) (h2:n2<9):Goes w V oh g0 o0 10 (sX n1 (yB n1 n2)) (.mk cA (ri (nA+1))):=by
 refine hN Hh.gl Hh.lim ok (i:=10) (j:=16) (by decide) (by decide) (k:=kB n1 λa=>Bh (a=yB n1 n2)) ((phB h1 _ _).trans (ni rfl)) λr h e=>?_
 obtain⟨a,ha,e⟩:=di e
 obtain⟨e1,e2⟩:=aH e
 obtain rfl:=nj e2
 have e3:=xP e1 h2
 have g:Goes w V oh g0 o0 16 (Tr.set (yB n1 n2) kY r) h:=hN Hh.gl Hh.lim ok (i:=16) (j:=22) (by decide) (by decide) (k:=lst (tab [])) e3 λr' h' e4=>vx Hh Hm ok e4
 intro env A W s fm hf hA hh rm I F lk hg ho
 refine g env A W s fm hf hA hh rm I (vC F λp=>?_) lk hg ho
 by_cases hp:kY=p
 ·subst hp;rw [Tr.au,ha]
 ·exact Tr.aw _ _ _ _ hp
theorem AW (Hh:Hd w V G oh mg mb) (Hm:∀{h₁:Heap},(∀b o,oh.get? b=some o->h₁.get? b=some o)->Hd w V G h₁ mg mb) (ok:fe w V oh false (tab [])){n1 n2:Nat}(h1:n1<9) (h2:n2<9):Goes w V oh g0 o0 9 eZ (.mk (Tr.set (.src (xK n1 n2)) (ri nA) cA) (ri (nA+1))):=by
 refine hN Hh.gl Hh.lim ok (i:=9) (j:=10) (by decide) (by decide) (k:=λr h=>Bh (r=Tr.set (yB n1 n2) kY (Tr.set (Dt n1) Z9 eZ)/\h = .mk (pA n1 n2) (ri (nA+6)))) ((ph9 h1 h2 _).trans (ni ⟨rfl,rfl⟩)) λr h e=>?_
 obtain⟨rfl,rfl⟩:=nj e
 obtain⟨inj,nE⟩:=rN xO
 have idI:∀{p q:P4},pz.get p=some q->q=p:=λe=>P4.pT (Tr.bZ _ pz AS e)
 have far:∀{p:P4}(j:Nat),j<100->p.rank<nA->ri (nA+j) ≠ p:=λj hj hp q=>by
  have:=rk (nA+j) (by unfold nA;omega)
  rw [q] at this;omega
 refine rL (u:=V.un 0) (ρ:=pz) rfl (λp o' e=>?_) inj (λp q e=>?_) (λp a' e=>?_) (AU Hh Hm ok h1 h2)
 ·obtain⟨q,e1,e2⟩:=di (Tr.bZ p cA (chkI (V.un 0)) e)
  obtain⟨o,e3,e4⟩:=di e2
  have hr:=nE p q e1
  obtain rfl:=idI e1
  refine⟨q,o,e1,?_,.inl e4⟩
  show (pA n1 n2).get q=some o
  unfold pA
  rw [Tr.aw _ _ _ _ (far 5 (by decide) hr),Tr.aw _ _ _ _ (far 4 (by decide) hr),Tr.aw _ _ _ _ (far 3 (by decide) hr),Tr.aw _ _ _ _ (far 2 (by decide) hr),Tr.aw _ _ _ _ (far 1 (by decide) hr),Tr.aw _ _ _ _ (far 0 (by decide) hr)]
  exact e3
 ·rw [rk _ (by decide)]
  exact Nat.lt_succ_of_lt (nE p q e)
 ·unfold sX at e
  by_cases p1:kY=p
  ·subst p1
   rw [Tr.au] at e ⊢
   cases e
   exact⟨_,rfl,gD (Ds (Nat.add 257 n1) (Nat.add n2 1))⟩
  ·rw [Tr.aw _ _ _ _ p1] at e ⊢
   by_cases p2:Z9=p
   ·subst p2
    rw [Tr.au] at e ⊢
    cases e
    exact⟨_,rfl,gD (Ds 256 (Nat.add n1 1))⟩
   ·rw [Tr.aw _ _ _ _ p2] at e ⊢
    exact di (Tr.bZ p qH (chkF (V.un 0)) e)
theorem vD (Hh:Hd w V G oh mg mb) (Hm:∀{h₁:Heap},(∀b o,oh.get? b=some o->h₁.get? b=some o)->Hd w V G h₁ mg mb) (ok:fe w V oh false (tab [])){n1 n2 li u:Nat}{ρ:Tr P4}(h1:n1<9) (h2:n2<9) (hu:V.un 0=u) (ok':fe w V oh false (tab (Dr li (xK n1 n2)))) (hρ:vB ρ (nA+1)=true)
  (ph:∀cmp,runs (eY.take 9) (call (tab (Dr li (xK n1 n2))) 20) nk (.mk .lf .e) (kA u ρ cmp)=cmp (xK n1 n2)):Goes w V oh g0 o0 0 nk (.mk .lf .e):=by
 refine hN Hh.gl Hh.lim ok' (i:=0) (j:=9) (by decide) (by decide) (k:=kA u ρ λl=>Bh (l=xK n1 n2)) ((ph _).trans (ni rfl)) λr h e=>?_
 obtain⟨e1,e2⟩:=aH e
 obtain⟨e3,e4⟩:=aH e1
 obtain⟨q0,e5,e6⟩:=di e2
 obtain⟨o0,e7,e8⟩:=tY e6
 have hsrc:o0 = .src (xK n1 n2):=by cases o0<;>first|cases e8|rw [nj e8]
 obtain⟨inj,nE⟩:=rN hρ
 refine rL (u:=u) (ρ:=ρ) hu (λp o' e=>?_) inj (λp q e=>?_) (λp a' e=>di (Tr.bZ p eZ e3 e)) (AW Hh Hm ok h1 h2)
 ·by_cases hp:ri nA=p
  ·subst hp
   rw [Tr.au] at e
   cases e
   exact⟨q0,o0,e5,e7,.inr ⟨hsrc,_,rfl⟩⟩
  ·rw [Tr.aw _ _ _ _ hp] at e
   obtain⟨q,e9,e10⟩:=di (Tr.bZ p cA e4 e)
   obtain⟨o,e11,e12⟩:=tY e10
   exact⟨q,o,e9,e11,.inl e12⟩
 ·rw [rk _ (by decide)]
  exact nE p q e
end
end
section
def xQ (G:Addr->Option Obj):Bool:=(G mainGlobals).isSome&&(G builtinsNs).isSome&&wV G&&uK G (B0 G)&&i2.all (λe=>B8 G e.T e.ps e.names e.at_)&&xG G
def vE (G:Addr->Option Obj):List (Option (Arguments × FuncBody × Scope)):=i2.map λe=>B7 G e.at_
def vF:List (Option (Arguments × FuncBody × Scope)):=i2.map λe=>some (cy e.st,FuncBody.stmts (bodyOf e.st),aX e.st)
def YG (h:Heap):Prop:=∃G:Addr->Option Obj,(∀a o,G a=some o->h.get? a=some o)/\xQ G=true/\vE G=vF
theorem Dv {w:World}{G:Addr->Option Obj}{oh:Heap}{mg mb:Str->Option Value}(hG:∀a o,G a=some o->oh.get? a=some o) (hg:oh.Ns mainGlobals mg) (hb:oh.Ns builtinsNs mb) (c:xQ G=true) (v:vE G=vF)
  {x oct un:Nat->Nat}{fF:Nat->Value}{draws:List FT->Int->Int->Prop}{ho:∀i,oct i<26}:Hd w (jT G x oct un fF draws ho) G oh mg mb:=by
 unfold xQ at c
 simp only [Bool.and_eq_true] at c
 refine bG λ_ kk=>?_
 obtain⟨⟨⟨⟨⟨c1,c2⟩,c3⟩,c4⟩,c5⟩,c6⟩:=c
 refine kk ?_
 refine⟨hG,⟨_,_,_,_,_,_,rfl⟩,B9 hG hg hb c1 c2 c3 c4,c1,v,c5,c6,zD hG ?_⟩
 unfold wV at c3
 simp only [Bool.and_eq_true] at c3
 exact c3.1.2
theorem sY (c:Int):(dz c).natAbs<2 ^ 62:=by unfold dz;lia
theorem vG {w:World}{oh:Heap}{mg mb:Str->Option Value}(Y:YG oh) (hg:oh.Ns mainGlobals mg) (hb:oh.Ns builtinsNs mb){a:Addr}(ha:mg "law" = some (.ref a)){sc:Addr}{items:Array Value}(hi:oh.IsList sc items) (hn:(items.size:Int)<2 ^ 63) (hint:items = #[]∨∃c t,items[0]? = some (.int c t))
  {s:Shared}(hs:s.heap=oh){A:Around}(rm:A.depth+100<recursionLimit/\A.units+1000<cLine) (hA:A.frames=some []) (hh:A.handled=none){R:Result->Shared->Prop}
  (p:∀s',(∀b o,oh.get? b=some o->s'.heap.get? b=some o)->s'.gens=s.gens->s'.os=s.os->R (.ok (.ret (.bool true))) s'):CG (model pw w) A (.call (.ref a) ⟨[.ref sc],[]⟩) R s:=by
 refine cS Y λG hG c v=>?_;clear Y
 obtain⟨c0,hc0⟩:∃c0:Int,(items = #[]/\c0=0)∨∃t,items[0]? = some (.int c0 t):=by
  rcases hint with h|⟨c,t,h⟩
  ·exact⟨0,.inl ⟨h,rfl⟩⟩
  ·exact⟨c,.inr ⟨t,h⟩⟩
 obtain⟨li,n1,n2,x,oct,hli,h1,h2,ho,hd⟩:=sA (srcOf c0,dz c0) (sY c0)
 let V:Va:=jT G x oct (λ_=>if li=0 then 0 else 2) (λ_=>.ref sc) (dr (qA x oct)) ho
 have Hm:∀{h₁:Heap},(∀b o,oh.get? b=some o->h₁.get? b=some o)->Hd w V G h₁ mg mb:=λk=>Dv (λa o e=>k _ _ (hG a o e)) (hg.keeps k) (hb.keeps k) c v
 have Hh:Hd w V G oh mg mb:=Hm λ_ _ e=>e
 have PO:∀{l:List FT},dr (qA x oct) l (srcOf c0) (dz c0)->mV V oh l:=λd=>by
  refine yEEAAA sc items rfl hi hn ?_
  rcases hc0 with ⟨e,e0⟩|⟨t,e⟩
  ·subst e0;exact .inl ⟨e,d⟩
  ·exact .inr (yEEA c0 t e d)
 have ok0:fe w V oh false (tab []):=vt Hh yg (PO trivial)
 have ok1:fe w V oh false (tab (Dr li (xK n1 n2))):=vt Hh yg (PO hd)
 refine vz Hh ha (V:=V) rfl rfl hs ?_ rm hA hh p
 have:li=0∨li=1:=by lia
 rcases this with rfl|rfl
 ·exact vD Hh Hm ok0 h1 h2 rfl ok1 xM (phA0 _)
 ·exact vD Hh Hm ok0 h1 h2 rfl ok1 xN (phA1 _)
end
section
set_option maxHeartbeats 0
def yC (p:Program) (w:World) (n₀:Nat) (ann:Option Value) (s:SharedT) (t:Thread):Option (SharedT × Thread):=Bool.rec none (Fast.tw10156331382660048174 (Fast.tw11892475500146522536 Fast.tw14364793385576792824) p w s t) (Fast.tw6613529449190102663 n₀ ann t)
section
variable {p:Program}{w:World}{n₀:Nat}{ann:Option Value}{s:SharedT}{t:Thread}
theorem pB {r:SharedT × Thread}(h:yC p w n₀ ann s t=some r):stepOk n₀ ann t=true/\step (denote treeTable) p w s.abs t = .go r.1.abs r.2:=by
 unfold yC at h
 rw [<-Fast.te6613529449190102663,<-Fast.te10156331382660048174,<-Fast.te11892475500146522536,<-Fast.te14364793385576792824] at h
 cases hk:stepOk n₀ ann t with
 |false=>rw [hk] at h;exact nn h
 |true=>rw [hk] at h;exact⟨rfl,stepT_spec h⟩
end
def nq (p:Program) (w:World) (n₀:Nat) (ann:Option Value):Nat->SharedT->Thread->Option SharedT:=
 Nat.rec (motive:=λ_=>SharedT->Thread->Option SharedT) (λ_ _=>none) λ_ ih s t=>Bool.rec (Option.rec none (λr=>ih r.1 r.2) (yC p w n₀ ann s t)) (some s) (through t)
theorem ny {p:Program}{w:World}{n₀:Nat}{ann:Option Value}{n:Nat}{s':SharedT}:∀{s:SharedT}{t:Thread},nq p w n₀ ann n s t=some s'->topRun treeTable p w n₀ ann n s.abs t=some s'.abs:=by
 induction n with
 |zero=>intro s t h;exact nn h
 |succ n ih=>
  intro s t h
  have h:(Bool.rec (Option.rec none (λr=>nq p w n₀ ann n r.1 r.2) (yC p w n₀ ann s t)) (some s) (through t):Option SharedT)=some s':=h
  unfold topRun
  cases ht:through t with
  |true=>rw [ht] at h;exact congrArg (Option.map SharedT.abs) h
  |false=>
   rw [ht] at h
   cases hg:yC p w n₀ ann s t with
   |none=>rw [hg] at h;exact nn h
   |some r=>rw [hg] at h;obtain⟨h1,h2⟩:=pB hg;rw [h1,h2];exact ih h
def j7 (P:Params):BT:=
 .node (boot_o_0 P)
  (.node (boot_o_1 P) (.node (boot_o_3 P) (.node (boot_o_7 P) .nil .nil) .nil) (.node (boot_o_5 P) (.node (boot_o_9 P) .nil .nil) .nil))
  (.node (boot_o_2 P) (.node (boot_o_4 P) (.node (boot_o_8 P) .nil .nil) .nil) (.node (boot_o_6 P) (.node (boot_o_10 P) .nil .nil) .nil))
theorem pC (P:Params):absHeap (j7 P) 11 {}=boot_heap P:=by kernel_rfl
def rO (w:World) (os:OsState):SharedT:=⟨j7 w.params,11,{},#[],boot_drawn,boot_toks,os⟩
noncomputable def ann:Option Value:=some (.ref 6)
theorem sz (w:World):((boot_heap w.params).isNs mainGlobals&&(#[]:Array GenState).size==0,(boot_heap w.params).objs.size,(boot_heap w.params).nsMap mainGlobals "__annotations__")=(true,11,ann):=by kernel_rfl
end
section
set_option maxRecDepth 1000000
set_option maxHeartbeats 0
def Dw (l:List Stmt):Nat->Stmt:=List.rec (motive:=λ_=>Nat->Stmt) (λ_=>.Pass default) (λs _ ih n=>Bool.rec (motive:=λ_=>Stmt) (ih (Nat.pred n)) s (Nat.beq n 0)) l
def sS (i:Nat):Stmt:=Dw pw.main.body i
def sM (i j:Nat):Stmt:=match sS i with|.ClassDef _ _ _ b ..=>Dw b j|_=>.Pass default
noncomputable def nmS (s:Stmt):Str:=match s with|.FunctionDef n ..=>n|_=>Str.empty
noncomputable def arS (s:Stmt):Arguments:=match s with|.FunctionDef _ a ..=>a|_=>default
noncomputable def bdS (s:Stmt):List Stmt:=match s with|.FunctionDef _ _ b ..=>b|_=>[]
noncomputable def scS (s:Stmt):Scope:=match s with|.FunctionDef _ _ _ _ _ _ c ..=>c|_=>default
noncomputable def sx (x:String) (t:Nat):Value:=.str (PySem.Str.ofString x) t
noncomputable def vn (n:Nat):Value:=.int (Int.ofNat n) 0
noncomputable def ty (x:String):Value:=.type x
noncomputable def bi (x:String):Value:=.builtin x
noncomputable def en (P:Params) (x:String) (t:Nat) (v:Value):DictEntry:=⟨PyData.keyHash P (PySem.Str.ofString x),.str (PySem.Str.ofString x) t,v⟩
noncomputable def oT (l:List Value):Obj:=⟨.type "tuple",none,.seq ⟨l⟩ 0,⟨[]⟩⟩
noncomputable def oF (l:List Value):Obj:=⟨.none,none,.fields ⟨l⟩,⟨[]⟩⟩
noncomputable def oK (c:String) (l:List Value):Obj:=⟨.type c,none,.fields ⟨l⟩,⟨[]⟩⟩
def oC (l:List Value):Obj:=oK "code" l
noncomputable def oD (l:List DictEntry) (n:Nat):Obj:=⟨.type "dict",none,.dict ⟨l⟩ n,⟨[]⟩⟩
noncomputable def oN (l:List DictEntry) (n:Nat):Obj:=⟨.none,none,.dict ⟨l⟩ n,⟨[]⟩⟩
noncomputable def oR (c n:Nat) (v:Value):Obj:=⟨.type "frame",none,.plain,⟨[some (.ref c),some (.ref 3),some (.ref n),none,some v,none,some (.ref 0)]⟩⟩
def oP (s:Stmt) (q:String):Obj:=⟨.none,none,.func { name:=nmS s,qualname:=PySem.Str.ofString q,params:=arS s,body:=.stmts (bdS s),scope:=scS s,globals:=0,closure:=[],defaults:=.none,kwdefaults:=.none },⟨[]⟩⟩
def oU (s:Stmt) (q:String) (d md:Value) (c:Nat):Obj:=⟨.type "function",none,.func { name:=nmS s,qualname:=PySem.Str.ofString q,params:=arS s,body:=.stmts (bdS s),scope:=scS s,globals:=3,closure:=[],defaults:=d,kwdefaults:=.none,pyModule:=md,code:=.ref c },⟨[]⟩⟩
noncomputable def oA (sl:List (Option Value)) (n:String) (bs mro:List Value) (ns:Nat) (q:String) (hd:Bool) (sn:List String) (sub:List Value):Obj:=⟨.type "type",none,.cls { name:=PySem.Str.ofString n,bases:=bs,mro:=mro,ns:=ns,qualname:=PySem.Str.ofString q,hasDict:=hd,slotNames:=sn.map PySem.Str.ofString,subclasses:=sub },⟨sl⟩⟩
def cdL (s:Stmt) (q:String) (b t ln ac fl nv:Nat) (vs:List Value) (p:Nat):Obj:=oC ([.str (nmS s) t,sx q (t+1),sx "/claim/cut.py" (t+2),vn ln,vn ac,vn 0,vn 0,vn fl,.ref b,.bool true,vn 181,.ref (b+1),.none]++vs++[.ref p,vn (t+3+nv),vn ln,sx "/claim/cut.py" (t+4+nv)])
def nmL (t:Nat) (l:List String):List Value:=List.rec (motive:=λ_=>Nat->List Value) (λ_=>[]) (λx _ ih t=>sx x t::ih (t+1)) l t
noncomputable abbrev N:Value:=.none
def cat (l:List (List Obj)):List Obj:=List.rec (motive:=λ_=>List Obj) [] (λx _ ih=>x++ih) l
def iO (k:Nat) (l:List (Nat × Nat)):List Value:=List.rec (motive:=λ_=>List Value) [] (λx _ ih=>vn x.1::vn k :: .ref x.2::ih) l
def cz (P:Params) (b t ln:Nat) (q:String) (md:Value) (tu:List Value) (z:Option Value) (nw:String) (bs mt:List Value) (ms:List DictEntry) (cs:List Value) (mid:List (List Obj)) (e s0:Nat) (sa:List String) (gs:Nat) (sub:List Value):List Obj:=
 let en:=en P
 let k:=s0+sa.length
 let f:=en "__firstlineno__" (t+9) (.int (Int.ofNat ln) (t+8))
 let m:=en "__module__" (t+5) md
 let r:=ms++[en "__static_attributes__" k (.ref e)]
 let c:Value:=.ref (e+2)
 let wk:=λn=>oK "getset_descriptor" [sx "__weakref__" n,c,bi "ExceptionGroup.__weakref__",N]
 let tl:=match gs with|0=>[en "__doc__" (k+1) N]|1=>[en "__weakref__" (k+2) (.ref (e+3)),en "__doc__" (k+3) N]|_=>[en "__dict__" (k+2) (.ref (e+3)),en "__weakref__" (k+4) (.ref (e+4)),en "__doc__" (k+5) N]
 let gd:=match gs with|0=>[]|1=>[wk (k+1)]|_=>[oK "getset_descriptor" [sx "__dict__" (k+1),c,bi "function.__dict__",bi "function.__dict__#set"],wk (k+3)]
 [oT tu,oK "builtin_function_or_method" [bi "type.__prepare__",ty "type"],oD (m::en "__qualname__" (t+7) (sx q (t+6))::f::r) (ms.length+4),oT [],oF cs,
  oC [sx q t,sx q (t+1),sx "/claim/cut.py" (t+2),vn ln,vn 0,vn 0,vn 0,vn 0,.ref (b+3),.bool false,vn 181,.ref (b+4),N,N,N,N,vn (t+3),vn ln,sx "/claim/cut.py" (t+4)],oR (b+5) (b+2) md]++cat mid ++
 [oT (nmL s0 sa),oD (m::f::r++tl) (1+tl.length),oA [z,none,some (sx q (t - 2)),some (sx q (t+6)),some (bi nw),some (.bool true)] q bs (c::mt) (e+1) q true [] sub]++gd++[oK "super" [c,c,c],oK "builtin_function_or_method" [bi "object.__init_subclass__",c]]
def u7 (s:Stmt) (q:String) (b t ln ac fl:Nat) (d md:Value) (l:List String):List Obj:=[oT [],oF [],oT (nmL (t+3) l),oT [],oP s q,cdL s q b t ln ac fl l.length [.ref (b+2),.ref (b+3)] (b+4),oU s q d md (b+5)]
def u5 (s:Stmt) (q:String) (b t ln ac fl:Nat) (d md:Value):List Obj:=[oT [],oF [],oP s q,cdL s q b t ln ac fl 0 [.none,.none] (b+2),oU s q d md (b+3)]
def mV0:Value:=sx "__main__" 164
def yD:Value:=sx "thinstack.errors" 194
def AX:Value:=sx "thinstack.ports" 321
def AY:Value:=sx "thinstack.acks" 400
def vH:Value:=sx "thinstack.congestion" 476
def Bi:Value:=sx "thinstack.sequence" 590
def vY:Value:=sx "thinstack.retransmit" 648
def AZ:Value:=sx "thinstack.rtt" 751
def A0:Value:=sx "thinstack.send_queue" 827
def gF:Value:=sx "thinstack.sender" 899
def A3:Value:=sx "thinstack.octets" 1195
def pD:Value:=sx "thinstack.tcp_segment" 1221
def qI:Value:=sx "thinstack.tcp_states" 1339
def nz:Value:=sx "thinstack.wheel" 1412
def qJ:Value:=sx "thinstack.tcb" 1505
def iz:Value:=sx "thinstack.assembly" 1638
def fj:Value:=sx "thinstack.receiver" 1796
def dR:Value:=sx "thinstack.tcp_user" 1970
def Dx:Value:=sx "thinstack.windows" 2190
def eg:Value:=sx "thinstack.tcp_input" 2214
def pF:Value:=sx "thinstack.tcp_table" 2423
def cj:Value:=sx "thinstack.tcp_sockets" 2505
def pG:Value:=sx "law_nu0144_01" 2906
noncomputable def Dy (P:Params):List DictEntry:=let en:=en P;[en "__doc__" 166 (.none),en "__package__" 167 (.none),en "__loader__" 168 (bi "__main__.__loader__#opaque"),en "__spec__" 169 (.none),en "__annotations__" 170 (.ref 6),en "__builtins__" 171 (.ref 4),en "__file__" 173 (sx "/claim/cut.py" 172),en "__cached__" 174 (.none),en "_wall" 193 (.ref 21),en "StackError" 224 (.ref 38),en "FormError" 240 (.ref 51),en "SizeError" 256 (.ref 63),en "PortError" 272 (.ref 75),en "StateError" 288 (.ref 87),en "ResetError" 304 (.ref 99),en "TimedOutError" 320 (.ref 111),en "MOST_PORT" 324 (.int 65535 323),en "Ports" 399 (.ref 166),en "EVERY" 403 (.int 2 402),en "AckPolicy" 475 (.ref 223),en "DUPLICATES" 479 (.int 3 478),en "Congestion" 589 (.ref 307),en "plus" 600 (.ref 318),en "distance" 609 (.ref 325),en "is_before" 619 (.ref 332),en "is_at_most" 628 (.ref 339),en "is_within" 638 (.ref 346),en "latest" 647 (.ref 353),en "MOST_SHIFT_retransmit" 651 (.int 7 650),en "RetransmitClock" 750 (.ref 426),en "RttEstimate" 826 (.ref 482),en "SendQueue" 898 (.ref 538),en "PeerWindow" 953 (.ref 573),en "Sender" 1194 (.ref 764),en "put16" 1203 (.ref 775),en "need" 1212 (.ref 782),en "get16" 1220 (.ref 789),en "FIN" 1224 (.int 1 1223),en "SYN" 1226 (.int 2 1225),en "RST" 1228 (.int 4 1227),en "PSH" 1230 (.int 8 1229),en "ACK" 1232 (.int 16 1231),en "URG" 1234 (.int 32 1233),en "OPTIONS_END" 1236 (.int 0 1235),en "OPTION_NOTHING" 1238 (.int 1 1237),en "OPTION_MSS" 1240 (.int 2 1239),en "MSS_SIZE" 1242 (.int 4 1241),en "Segment" 1313 (.ref 828),en "check_number" 1321 (.ref 839),en "mss_option" 1328 (.ref 846),en "mss_of" 1338 (.ref 853),en "CLOSED" 1342 (sx "closed" 1341),en "LISTEN" 1344 (sx "listen" 1343),en "SYN_SENT" 1346 (sx "syn sent" 1345),en "SYN_RECEIVED" 1348 (sx "syn received" 1347),en "ESTABLISHED" 1350 (sx "established" 1349),en "FIN_WAIT_1" 1352 (sx "fin wait 1" 1351),en "FIN_WAIT_2" 1354 (sx "fin wait 2" 1353),en "CLOSE_WAIT" 1356 (sx "close wait" 1355),en "CLOSING" 1358 (sx "closing" 1357),en "LAST_ACK" 1360 (sx "last ack" 1359),en "TIME_WAIT" 1362 (sx "time wait" 1361),en "opening_steps" 1368 (.ref 860),en "closing_steps" 1374 (.ref 867),en "follow" 1383 (.ref 874),en "may_send" 1390 (.ref 881),en "may_receive" 1397 (.ref 888),en "is_synchronized" 1404 (.ref 895),en "is_sending" 1411 (.ref 902),en "Wheel" 1504 (.ref 963),en "RESEND" 1508 (.int 1 1507),en "PERSIST" 1510 (.int 2 1509),en "DELAYED" 1512 (.int 3 1511),en "WAIT" 1514 (.int 4 1513),en "MOST_WINDOW" 1516 (.int 65535 1515),en "Limits" 1563 (.ref 984),en "clock_of" 1571 (.ref 995),en "Tcb" 1637 (.ref 1027),en "Assembly" 1795 (.ref 1123),en "Receiver" 1969 (.ref 1257),en "MOST_SHIFT_tcp_user" 1973 (.int 7 1972),en "change_state" 1982 (.ref 1268),en "closed" 1991 (.ref 1275),en "enter_time_wait" 2000 (.ref 1282),en "check_error" 2007 (.ref 1289),en "open_active" 2015 (.ref 1296),en "open_passive" 2022 (.ref 1303),en "send" 2032 (.ref 1310),en "send_tcp_user" 2033 (.ref 1310),en "receive" 2043 (.ref 1317),en "receive_tcp_user" 2044 (.ref 1317),en "close" 2052 (.ref 1324),en "close_tcp_user" 2053 (.ref 1324),en "abort" 2062 (.ref 1331),en "abort_tcp_user" 2063 (.ref 1331),en "ack_segment" 2070 (.ref 1338),en "syn_segment" 2077 (.ref 1345),en "flags_of" 2086 (.ref 1352),en "take_asked_fin" 2094 (.ref 1359),en "data_segments" 2110 (.ref 1366),en "output" 2119 (.ref 1373),en "set_resend" 2127 (.ref 1380),en "keep_timers" 2135 (.ref 1387),en "probe_wait" 2143 (.ref 1394),en "on_time" 2153 (.ref 1401),en "on_time_tcp_user" 2154 (.ref 1401),en "sent_again" 2164 (.ref 1408),en "segment_again" 2175 (.ref 1415),en "probed" 2189 (.ref 1422),en "is_acceptable" 2202 (.ref 1429),en "is_new_ack" 2213 (.ref 1436),en "WHOLE_RING" 2217 (.int 4294967296 2216),en "PLAIN_MSS" 2219 (.int 536 2218),en "arrive" 2228 (.ref 1443),en "listed" 2235 (.ref 1450),en "reset_for" 2244 (.ref 1458),en "take_syn" 2254 (.ref 1465),en "in_listen" 2263 (.ref 1472),en "in_syn_sent" 2273 (.ref 1479),en "opened_from_both" 2283 (.ref 1486),en "without_syn" 2291 (.ref 1493),en "in_others" 2302 (.ref 1500),en "is_let_in" 2312 (.ref 1507),en "turned_down" 2322 (.ref 1514),en "is_old_acknowledgement" 2330 (.ref 1521),en "take_reset" 2338 (.ref 1528),en "is_too_far" 2348 (.ref 1535),en "take_ack" 2360 (.ref 1542),en "take_acknowledgement" 2373 (.ref 1549),en "take_duplicate" 2384 (.ref 1556),en "end_of_sending" 2392 (.ref 1563),en "take_octets" 2405 (.ref 1570),en "end_of_receiving" 2413 (.ref 1577),en "replies" 2422 (.ref 1584),en "TcpTable" 2504 (.ref 1637),en "ISS_STEP" 2508 (.int 64 2507),en "Listener" 2567 (.ref 1679),en "Link" 2609 (.ref 1707),en "rows_out" 2615 (.ref 1716),en "TcpSockets" 2905 (.ref 1895),en "_law_pool" 2918 (.ref 1906),en "_law_take" 2927 (.ref 1913),en "_law_one" 2935 (.ref 1920),en "_law_settled" 2941 (.ref 1925),en "_law_octets" 2947 (.ref 1930),en "_law_read" 2963 (.ref 1937),en "_law_refused_right" 2973 (.ref 1944),en "law" 2979 (.ref 1949)]
def hCo:List Value:=(iO 0 [(1,20),(5,27),(9,47),(11,59),(13,71),(15,83),(17,95),(19,107),(23,119),(64,176),(99,233),(174,317),(176,324),(178,331),(181,338),(183,345),(185,352),(189,359),(235,436),(273,492),(302,548),(327,583),(483,774),(485,781),(488,788),(502,795),(528,838),(531,845),(534,852),(564,859),(566,866),(568,873),(577,880),(579,887),(581,894),(583,901),(586,908),(646,973),(659,994),(662,1001),(696,1037),(795,1133),(893,1267),(898,1274),(904,1281),(909,1288),(914,1295),(917,1302),(920,1309),(927,1316),(938,1323),(949,1330),(958,1337),(960,1344),(962,1351),(969,1358),(974,1365),(984,1372),(995,1379),(1000,1386),(1012,1393),(1015,1400),(1031,1407),(1043,1414),(1049,1421),(1063,1428),(1071,1435),(1077,1442),(1085,1449),(1087,1457),(1094,1464),(1100,1471),(1111,1478),(1130,1485),(1137,1492),(1141,1499),(1164,1506),(1170,1513),(1182,1520),(1186,1527),(1196,1534),(1200,1541),(1207,1548),(1222,1555),(1231,1562),(1238,1569),(1258,1576),(1264,1583),(1272,1590),(1317,1647),(1338,1689),(1351,1715),(1353,1722),(1546,1905),(1553,1912),(1560,1919),(1562,1924),(1575,1929),(1577,1936),(1587,1943),(1596,1948)])
noncomputable def hB0 (P:Params):List Obj:=let en:=en P;cat [u7 (sS 0) "_wall" 15 187 1 1 3 N mV0 ["k"],cz P 22 198 5 "StackError" yD [ty "Exception"] (some (.ref 22)) "Exception.__new__" [ty "Exception"] [ty "Exception",ty "BaseException",ty "object"] [en "__init__" 215 (.ref 35)] (iO 4 [(7,34)]) [u7 (sM 2 0) "StackError.__init__" 29 208 7 2 3 N yD ["self","message"]] 36 216 ["message"] 1 [.ref 51,.ref 63,.ref 75,.ref 87,.ref 99,.ref 111],cz P 42 227 9 "FormError" yD [.ref 38] (some (.ref 42)) "Exception.__new__" [.ref 38] [.ref 38,ty "Exception",ty "BaseException",ty "object"] [] (iO 0 []) [] 49 237 [] 0 [],cz P 54 243 11 "SizeError" yD [.ref 38] (some (.ref 54)) "Exception.__new__" [.ref 38] [.ref 38,ty "Exception",ty "BaseException",ty "object"] [] (iO 0 []) [] 61 253 [] 0 [],cz P 66 259 13 "PortError" yD [.ref 38] (some (.ref 66)) "Exception.__new__" [.ref 38] [.ref 38,ty "Exception",ty "BaseException",ty "object"] [] (iO 0 []) [] 73 269 [] 0 [],cz P 78 275 15 "StateError" yD [.ref 38] (some (.ref 78)) "Exception.__new__" [.ref 38] [.ref 38,ty "Exception",ty "BaseException",ty "object"] [] (iO 0 []) [] 85 285 [] 0 [],cz P 90 291 17 "ResetError" yD [.ref 38] (some (.ref 90)) "Exception.__new__" [.ref 38] [.ref 38,ty "Exception",ty "BaseException",ty "object"] [] (iO 0 []) [] 97 301 [] 0 [],cz P 102 307 19 "TimedOutError" yD [.ref 38] (some (.ref 102)) "Exception.__new__" [.ref 38] [.ref 38,ty "Exception",ty "BaseException",ty "object"] [] (iO 0 []) [] 109 317 [] 0 [],cz P 114 327 23 "Ports" AX [] none "object.__new__" [ty "object"] [ty "object"] [en "__init__" 345 (.ref 127),en "is_taken" 353 (.ref 134),en "take" 362 (.ref 142),en "next_free" 371 (.ref 149),en "behind" 379 (.ref 156),en "free" 387 (.ref 163)] (iO 4 [(25,126),(33,133),(36,141),(46,148),(55,155),(58,162)]) [u7 (sM 11 0) "Ports.__init__" 121 337 25 3 3 N AX ["self","first","last"],u7 (sM 11 1) "Ports.is_taken" 128 346 33 2 3 N AX ["self","number"],[oT [.int 0 354]],u7 (sM 11 2) "Ports.take" 136 355 36 2 3 (.ref 135) AX ["self","number"],u7 (sM 11 3) "Ports.next_free" 143 363 46 1 3 N AX ["self","number","turn"],u7 (sM 11 4) "Ports.behind" 150 372 55 2 3 N AX ["self","number"],u7 (sM 11 5) "Ports.free" 157 380 58 2 3 N AX ["self","number"]] 164 388 ["first","following","last","taken"] 2 [],cz P 171 406 64 "AckPolicy" AY [] none "object.__new__" [ty "object"] [ty "object"] [en "__init__" 423 (.ref 184),en "on_octets" 434 (.ref 192),en "at_once" 441 (.ref 199),en "is_due" 449 (.ref 206),en "on_sent" 456 (.ref 213),en "due_time" 463 (.ref 220)] (iO 4 [(66,183),(72,191),(83,198),(86,205),(91,212),(95,219)]) [u7 (sM 14 0) "AckPolicy.__init__" 178 416 66 2 3 N AY ["self","delay"],[oT [.bool false]],u7 (sM 14 1) "AckPolicy.on_octets" 186 424 72 4 3 (.ref 185) AY ["self","in_order","now","has_holes","filled"],u7 (sM 14 2) "AckPolicy.at_once" 193 435 83 1 3 N AY ["self"],u7 (sM 14 3) "AckPolicy.is_due" 200 442 86 2 3 N AY ["self","now"],u7 (sM 14 4) "AckPolicy.on_sent" 207 450 91 1 3 N AY ["self"],u7 (sM 14 5) "AckPolicy.due_time" 214 457 95 1 3 N AY ["self"]] 221 464 ["delay","due","has_gap","waiting"] 2 [],cz P 228 482 99 "Congestion" vH [] none "object.__new__" [ty "object"] [ty "object"] [en "__init__" 501 (.ref 241),en "window" 508 (.ref 248),en "grow" 516 (.ref 255),en "halved" 525 (.ref 262),en "acked" 533 (.ref 269),en "slow_start" 542 (.ref 276),en "avoid" 550 (.ref 283),en "duplicate" 558 (.ref 290),en "recovered" 565 (.ref 297),en "timed_out" 573 (.ref 304)] (iO 4 [(101,240),(111,247),(114,254),(119,261),(123,268),(133,275),(139,282),(145,289),(159,296),(166,303)]) [u7 (sM 17 0) "Congestion.__init__" 235 492 101 4 3 N vH ["self","mss","first","most"],u7 (sM 17 1) "Congestion.window" 242 502 111 1 3 N vH ["self"],u7 (sM 17 2) "Congestion.grow" 249 509 114 2 3 N vH ["self","octets"],u7 (sM 17 3) "Congestion.halved" 256 517 119 2 3 N vH ["self","flight","half"],u7 (sM 17 4) "Congestion.acked" 263 526 123 2 3 N vH ["self","octets"],u7 (sM 17 5) "Congestion.slow_start" 270 534 133 2 3 N vH ["self","octets","most"],u7 (sM 17 6) "Congestion.avoid" 277 543 139 2 3 N vH ["self","octets"],u7 (sM 17 7) "Congestion.duplicate" 284 551 145 2 3 N vH ["self","flight"],u7 (sM 17 8) "Congestion.recovered" 291 559 159 1 3 N vH ["self"],u7 (sM 17 9) "Congestion.timed_out" 298 566 166 2 3 N vH ["self","flight"]] 305 574 ["duplicates","gathered","is_cautious","is_recovering","most","mss","size","threshold"] 2 [],u7 (sS 19) "plus" 312 592 174 3 3 N Bi ["a","n","ring"],u7 (sS 20) "distance" 319 601 176 3 3 N Bi ["a","b","ring"],u7 (sS 21) "is_before" 326 610 178 3 3 N Bi ["a","b","ring","gap"],u7 (sS 22) "is_at_most" 333 620 181 3 3 N Bi ["a","b","ring"],u7 (sS 23) "is_within" 340 629 183 4 3 N Bi ["x","low","size","ring"],u7 (sS 24) "latest" 347 639 185 3 3 N Bi ["a","b","ring"],cz P 354 654 189 "RetransmitClock" vY [] none "object.__new__" [ty "object"] [ty "object"] [en "__init__" 672 (.ref 367),en "is_timing" 679 (.ref 374),en "sent" 688 (.ref 381),en "forget" 695 (.ref 388),en "acked" 706 (.ref 395),en "back_off" 713 (.ref 402),en "reset_tries" 720 (.ref 409),en "waited" 729 (.ref 416),en "deadline" 737 (.ref 423)] (iO 4 [(191,366),(198,373),(201,380),(206,387),(209,394),(218,401),(223,408),(226,415),(232,422)]) [u7 (sM 27 0) "RetransmitClock.__init__" 361 664 191 3 3 N vY ["self","estimate","most_tries"],u7 (sM 27 1) "RetransmitClock.is_timing" 368 673 198 1 3 N vY ["self"],u7 (sM 27 2) "RetransmitClock.sent" 375 680 201 3 3 N vY ["self","seq_end","now"],u7 (sM 27 3) "RetransmitClock.forget" 382 689 206 1 3 N vY ["self"],u7 (sM 27 4) "RetransmitClock.acked" 389 696 209 4 3 N vY ["self","ack","now","ring","measured"],u7 (sM 27 5) "RetransmitClock.back_off" 396 707 218 1 3 N vY ["self"],u7 (sM 27 6) "RetransmitClock.reset_tries" 403 714 223 1 3 N vY ["self"],u7 (sM 27 7) "RetransmitClock.waited" 410 721 226 1 3 N vY ["self","ticks","turn"],u7 (sM 27 8) "RetransmitClock.deadline" 417 730 232 2 3 N vY ["self","now"]] 424 738 ["estimate","most_tries","timed_at","timed_end","tries"] 2 [],cz P 431 755 235 "RttEstimate" AZ [] none "object.__new__" [ty "object"] [ty "object"] [en "__init__" 774 (.ref 444),en "sample" 783 (.ref 451),en "mean" 790 (.ref 458),en "plain_timeout" 797 (.ref 465),en "timeout" 804 (.ref 472),en "bounded" 812 (.ref 479)] (iO 4 [(237,443),(245,450),(257,457),(260,464),(265,471),(268,478)]) [u7 (sM 29 0) "RttEstimate.__init__" 438 765 237 4 3 N AZ ["self","first","least","most"],u7 (sM 29 1) "RttEstimate.sample" 445 775 245 2 3 N AZ ["self","measured","apart"],u7 (sM 29 2) "RttEstimate.mean" 452 784 257 1 3 N AZ ["self"],u7 (sM 29 3) "RttEstimate.plain_timeout" 459 791 260 1 3 N AZ ["self"],u7 (sM 29 4) "RttEstimate.timeout" 466 798 265 1 3 N AZ ["self"],u7 (sM 29 5) "RttEstimate.bounded" 473 805 268 2 3 N AZ ["self","ticks"]] 480 813 ["first","least","mean8","measured","most","spread4"] 2 [],cz P 487 831 273 "SendQueue" A0 [] none "object.__new__" [ty "object"] [ty "object"] [en "__init__" 848 (.ref 500),en "size" 855 (.ref 507),en "room_left" 862 (.ref 514),en "put" 871 (.ref 521),en "part" 880 (.ref 528),en "drop" 888 (.ref 535)] (iO 4 [(275,499),(281,506),(284,513),(287,520),(292,527),(297,534)]) [u7 (sM 31 0) "SendQueue.__init__" 494 841 275 2 3 N A0 ["self","room"],u7 (sM 31 1) "SendQueue.size" 501 849 281 1 3 N A0 ["self"],u7 (sM 31 2) "SendQueue.room_left" 508 856 284 1 3 N A0 ["self"],u7 (sM 31 3) "SendQueue.put" 515 863 287 2 3 N A0 ["self","octets","taken"],u7 (sM 31 4) "SendQueue.part" 522 872 292 3 3 N A0 ["self","at","many"],u7 (sM 31 5) "SendQueue.drop" 529 881 297 2 3 N A0 ["self","many"]] 536 889 ["held","room"] 2 [],cz P 543 903 302 "PeerWindow" gF [] none "object.__new__" [ty "object"] [ty "object"] [en "__init__" 920 (.ref 556),en "is_newer" 930 (.ref 563),en "take" 940 (.ref 570)] (iO 4 [(304,555),(311,562),(319,569)]) [u7 (sM 33 0) "PeerWindow.__init__" 550 913 304 2 3 N gF ["self","ring"],u7 (sM 33 1) "PeerWindow.is_newer" 557 921 311 3 3 N gF ["self","seq","ack","ahead"],u7 (sM 33 2) "PeerWindow.take" 564 931 319 4 3 N gF ["self","seq","ack","size"]] 571 941 ["most","ring","size","told_ack","told_seq"] 2 [],cz P 578 956 327 "Sender" gF [] none "object.__new__" [ty "object"] [ty "object"] [en "__init__" 976 (.ref 591),en "window" 984 (.ref 599),en "take_window" 994 (.ref 606),en "put" 1002 (.ref 613),en "ask_fin" 1009 (.ref 620),en "flight" 1016 (.ref 627),en "usable" 1024 (.ref 634),en "data_sent" 1031 (.ref 641),en "unsent" 1038 (.ref 648),en "is_fin_due" 1046 (.ref 655),en "is_fin_acked" 1053 (.ref 662),en "is_all_acked" 1060 (.ref 669),en "go_on" 1068 (.ref 676),en "start" 1075 (.ref 683),en "may_go" 1084 (.ref 690),en "pieces" 1095 (.ref 698),en "piece_of" 1108 (.ref 705),en "ever_sent" 1115 (.ref 712),en "first_piece" 1125 (.ref 719),en "reach" 1133 (.ref 726),en "back_to" 1141 (.ref 733),en "is_idle_with_more" 1148 (.ref 740),en "needs_probe" 1156 (.ref 747),en "probe" 1163 (.ref 754),en "acked" 1175 (.ref 761)] (iO 4 [(329,590),(343,597),(346,605),(349,612),(354,619),(357,626),(360,633),(363,640),(366,647),(369,654),(373,661),(376,668),(379,675),(383,682),(390,689),(397,697),(412,704),(421,711),(424,718),(436,725),(440,732),(445,739),(450,746),(458,753),(469,760)]) [u7 (sM 34 0) "Sender.__init__" 585 966 329 5 3 N gF ["self","iss","ring","mss","room"],u7 (sM 34 1) "Sender.window" 592 977 342 1 3 N gF ["self"],[oK "property" [.ref 598,.none,.none,.none,sx "window" 984,.bool false]],u7 (sM 34 2) "Sender.take_window" 600 985 346 4 3 N gF ["self","seq","ack","window"],u7 (sM 34 3) "Sender.put" 607 995 349 2 3 N gF ["self","octets"],u7 (sM 34 4) "Sender.ask_fin" 614 1003 354 1 3 N gF ["self"],u7 (sM 34 5) "Sender.flight" 621 1010 357 1 3 N gF ["self"],u7 (sM 34 6) "Sender.usable" 628 1017 360 2 3 N gF ["self","congestion_window"],u7 (sM 34 7) "Sender.data_sent" 635 1025 363 1 3 N gF ["self"],u7 (sM 34 8) "Sender.unsent" 642 1032 366 1 3 N gF ["self"],u7 (sM 34 9) "Sender.is_fin_due" 649 1039 369 1 3 N gF ["self","room"],u7 (sM 34 10) "Sender.is_fin_acked" 656 1047 373 1 3 N gF ["self"],u7 (sM 34 11) "Sender.is_all_acked" 663 1054 376 1 3 N gF ["self"],u7 (sM 34 12) "Sender.go_on" 670 1061 379 2 3 N gF ["self","many"],u7 (sM 34 13) "Sender.start" 677 1069 383 1 3 N gF ["self"],u7 (sM 34 14) "Sender.may_go" 684 1076 390 3 3 N gF ["self","many","is_nagle"],[oT [.bool true]],u7 (sM 34 15) "Sender.pieces" 692 1085 397 3 3 (.ref 691) gF ["self","congestion_window","is_nagle","found","many"],u7 (sM 34 16) "Sender.piece_of" 699 1096 412 3 3 N gF ["self","many","congestion_window","seq","octets","is_last","has_fin"],u7 (sM 34 17) "Sender.ever_sent" 706 1109 421 1 3 N gF ["self"],u7 (sM 34 18) "Sender.first_piece" 713 1116 424 1 3 N gF ["self","many","size","has_fin"],u7 (sM 34 19) "Sender.reach" 720 1126 436 2 3 N gF ["self","many"],u7 (sM 34 20) "Sender.back_to" 727 1134 440 2 3 N gF ["self","seq"],u7 (sM 34 21) "Sender.is_idle_with_more" 734 1142 445 1 3 N gF ["self"],u7 (sM 34 22) "Sender.needs_probe" 741 1149 450 1 3 N gF ["self","many"],u7 (sM 34 23) "Sender.probe" 748 1157 458 1 3 N gF ["self"],u7 (sM 34 24) "Sender.acked" 755 1164 469 2 3 N gF ["self","ack","many","ahead","is_syn","octets"]] 762 1176 ["fin_asked","fin_sent","greatest","iss","mss","next","peer","queue","ring","syn_pending","una"] 2 [],u7 (sS 36) "put16" 769 1197 483 1 3 N A3 ["n"],u7 (sS 37) "need" 776 1204 485 3 3 N A3 ["octets","at","size"],u7 (sS 38) "get16" 783 1213 488 2 3 N A3 ["octets","at"],cz P 790 1245 502 "Segment" pD [] none "object.__new__" [ty "object"] [ty "object"] [en "__init__" 1273 (.ref 804),en "has" 1281 (.ref 811),en "length" 1289 (.ref 818),en "row" 1296 (.ref 825)] (iO 4 [(504,803),(515,810),(518,817),(526,824)]) [[oT [.int 0 1255,.bytes ⟨[]⟩ 1256,.bytes ⟨[]⟩ 1257]],u7 (sM 50 0) "Segment.__init__" 798 1258 504 10 3 (.ref 797) pD ["self","source_port","target_port","seq","ack","flags","window","urgent","options","payload"],u7 (sM 50 1) "Segment.has" 805 1274 515 2 3 N pD ["self","flag"],u7 (sM 50 2) "Segment.length" 812 1282 518 1 3 N pD ["self","many"],u7 (sM 50 3) "Segment.row" 819 1290 526 1 3 N pD ["self"]] 826 1297 ["ack","flags","options","payload","seq","source_port","target_port","urgent","window"] 2 [],u7 (sS 51) "check_number" 833 1314 528 2 3 N pD ["number","bits"],u7 (sS 52) "mss_option" 840 1322 531 1 3 N pD ["n"],u7 (sS 53) "mss_of" 847 1329 534 1 3 N pD ["options","at","kind","size"],u7 (sS 66) "opening_steps" 854 1363 564 0 3 N qI [],u7 (sS 67) "closing_steps" 861 1369 566 0 3 N qI [],u7 (sS 68) "follow" 868 1375 568 2 3 N qI ["state","event","found"],u7 (sS 69) "may_send" 875 1384 577 1 3 N qI ["state"],u7 (sS 70) "may_receive" 882 1391 579 1 3 N qI ["state"],u7 (sS 71) "is_synchronized" 889 1398 581 1 3 N qI ["state"],u7 (sS 72) "is_sending" 896 1405 583 1 3 N qI ["state"],cz P 903 1416 586 "Wheel" nz [] none "object.__new__" [ty "object"] [ty "object"] [en "__init__" 1432 (.ref 915),en "put" 1441 (.ref 922),en "list_of" 1449 (.ref 929),en "cancel" 1460 (.ref 936),en "time_of" 1468 (.ref 943),en "next_time" 1474 (.ref 948),en "due" 1480 (.ref 953),en "keys_until" 1490 (.ref 960)] (iO 4 [(588,914),(596,921),(602,928),(607,935),(614,942),(617,947),(621,952),(633,959)]) [[oT [.int 16 1426]],u5 (sM 74 0) "Wheel.__init__" 911 1427 588 2 3 (.ref 910) nz,u7 (sM 74 1) "Wheel.put" 916 1433 596 3 3 N nz ["self","key","time"],u7 (sM 74 2) "Wheel.list_of" 923 1442 602 2 3 N nz ["self","time"],u7 (sM 74 3) "Wheel.cancel" 930 1450 607 2 3 N nz ["self","key","time","order","keys"],u7 (sM 74 4) "Wheel.time_of" 937 1461 614 2 3 N nz ["self","key"],u5 (sM 74 5) "Wheel.next_time" 944 1469 617 1 3 N nz,u5 (sM 74 6) "Wheel.due" 949 1475 621 2 3 N nz,u7 (sM 74 7) "Wheel.keys_until" 954 1481 633 2 3 N nz ["self","now","found","time"]] 961 1491 ["entries","given","late","reached","size","slots"] 2 [],cz P 968 1519 646 "Limits" qJ [] none "object.__new__" [ty "object"] [ty "object"] [en "__init__" 1545 (.ref 981)] (iO 4 [(648,980)]) [u7 (sM 81 0) "Limits.__init__" 975 1529 648 11 3 N qJ ["self","ring","mss","send_room","receive_room","first_timeout","least_timeout","most_timeout","most_tries","ack_delay","time_wait"]] 982 1546 ["ack_delay","first_timeout","least_timeout","most_timeout","most_tries","mss","receive_room","ring","send_room","time_wait"] 2 [],u7 (sS 82) "clock_of" 989 1564 659 1 3 N qJ ["limits","estimate"],cz P 996 1574 662 "Tcb" qJ [] none "object.__new__" [ty "object"] [ty "object"] [en "__init__" 1594 (.ref 1009),en "window_now" 1601 (.ref 1016),en "make" 1615 (.ref 1024)] (iO 4 [(664,1008),(680,1015),(685,1023)]) [u7 (sM 83 0) "Tcb.__init__" 1003 1584 664 5 3 N qJ ["self","limits","local","remote","iss"],u7 (sM 83 1) "Tcb.window_now" 1010 1595 680 1 3 N qJ ["self"],[oT [.bytes ⟨[]⟩ 1602]],u7 (sM 83 2) "Tcb.make" 1018 1603 685 4 3 (.ref 1017) qJ ["self","flags","seq","payload","ack","options","window"]] 1025 1616 ["acks","clock","congestion","error","is_nagle","limits","local","probes","receiver","remote","sender","state","unanswered","wheel"] 2 []]
noncomputable def hB1 (P:Params):List Obj:=let en:=en P;cat [cz P 1032 1642 696 "Assembly" iz [] none "object.__new__" [ty "object"] [ty "object"] [en "__init__" 1659 (.ref 1045),en "size" 1665 (.ref 1050),en "is_empty" 1672 (.ref 1057),en "offset" 1681 (.ref 1064),en "put" 1693 (.ref 1071),en "missing" 1710 (.ref 1078),en "merged" 1724 (.ref 1085),en "joined" 1739 (.ref 1092),en "forget" 1750 (.ref 1099),en "take" 1758 (.ref 1106),en "holes" 1771 (.ref 1113),en "cut_behind" 1785 (.ref 1120)] (iO 4 [(698,1044),(702,1049),(705,1056),(708,1063),(713,1070),(723,1077),(740,1084),(749,1091),(760,1098),(771,1105),(777,1112),(786,1119)]) [u7 (sM 85 0) "Assembly.__init__" 1039 1652 698 2 3 N iz ["self","ring"],u5 (sM 85 1) "Assembly.size" 1046 1660 702 1 3 N iz,u7 (sM 85 2) "Assembly.is_empty" 1051 1666 705 1 3 N iz ["self"],u7 (sM 85 3) "Assembly.offset" 1058 1673 708 3 3 N iz ["self","seq","next"],u7 (sM 85 4) "Assembly.put" 1065 1682 713 4 3 N iz ["self","seq","octets","next","begin","fresh"],u7 (sM 85 5) "Assembly.missing" 1072 1694 723 4 3 N iz ["self","begin","octets","next","end","found","at","seq","kept","first","last"],u7 (sM 85 6) "Assembly.merged" 1079 1711 740 3 3 N iz ["self","fresh","next","found","rest","seq","kept","first"],u7 (sM 85 7) "Assembly.joined" 1086 1725 749 3 3 N iz ["self","pieces","next","found","end","first","octets","seq","ahead"],u7 (sM 85 8) "Assembly.forget" 1093 1740 760 2 3 N iz ["self","next","seq","octets","begin"],u7 (sM 85 9) "Assembly.take" 1100 1751 771 2 3 N iz ["self","next"],u7 (sM 85 10) "Assembly.holes" 1107 1759 777 2 3 N iz ["self","next","found","at","seq","octets","missing"],u7 (sM 85 11) "Assembly.cut_behind" 1114 1772 786 3 3 N iz ["self","edge","next","most","found","seq","octets","left"]] 1121 1786 ["parts","ring"] 2 [],cz P 1128 1800 795 "Receiver" fj [] none "object.__new__" [ty "object"] [ty "object"] [en "__init__" 1821 (.ref 1142),en "free_edge" 1828 (.ref 1149),en "should_tell" 1836 (.ref 1156),en "told_window" 1843 (.ref 1163),en "window" 1850 (.ref 1170),en "arrive" 1863 (.ref 1177),en "let_in" 1873 (.ref 1184),en "note_fin" 1881 (.ref 1191),en "ahead_of_fin" 1890 (.ref 1198),en "gather" 1898 (.ref 1205),en "has_holes" 1905 (.ref 1212),en "available" 1912 (.ref 1219),en "read" 1921 (.ref 1226),en "is_over" 1928 (.ref 1233),en "read_place" 1936 (.ref 1240),en "urgent" 1944 (.ref 1247),en "urgent_left" 1951 (.ref 1254)] (iO 4 [(797,1141),(809,1148),(812,1155),(817,1162),(822,1169),(827,1176),(839,1183),(845,1190),(850,1197),(855,1204),(866,1211),(869,1218),(872,1225),(877,1232),(880,1239),(884,1246),(889,1253)]) [[oT [.int 1 1810]],u7 (sM 87 0) "Receiver.__init__" 1136 1811 797 5 3 (.ref 1135) fj ["self","irs","ring","room","mss"],u7 (sM 87 1) "Receiver.free_edge" 1143 1822 809 1 3 N fj ["self"],u7 (sM 87 2) "Receiver.should_tell" 1150 1829 812 2 3 N fj ["self","mss"],u7 (sM 87 3) "Receiver.told_window" 1157 1837 817 1 3 N fj ["self"],u7 (sM 87 4) "Receiver.window" 1164 1844 822 1 3 N fj ["self"],u7 (sM 87 5) "Receiver.arrive" 1171 1851 827 4 3 N fj ["self","seq","octets","has_fin","is_in_order","kept","fresh"],u7 (sM 87 6) "Receiver.let_in" 1178 1864 839 3 3 N fj ["self","seq","octets","most"],u7 (sM 87 7) "Receiver.note_fin" 1185 1874 845 2 3 N fj ["self","place"],u7 (sM 87 8) "Receiver.ahead_of_fin" 1192 1882 850 3 3 N fj ["self","seq","octets"],u7 (sM 87 9) "Receiver.gather" 1199 1891 855 1 3 N fj ["self","fresh"],u7 (sM 87 10) "Receiver.has_holes" 1206 1899 866 1 3 N fj ["self"],u7 (sM 87 11) "Receiver.available" 1213 1906 869 1 3 N fj ["self"],u7 (sM 87 12) "Receiver.read" 1220 1913 872 2 3 N fj ["self","many","found"],u7 (sM 87 13) "Receiver.is_over" 1227 1922 877 1 3 N fj ["self"],u7 (sM 87 14) "Receiver.read_place" 1234 1929 880 1 3 N fj ["self","behind"],u7 (sM 87 15) "Receiver.urgent" 1241 1937 884 2 3 N fj ["self","pointer"],u7 (sM 87 16) "Receiver.urgent_left" 1248 1945 889 1 3 N fj ["self"]] 1255 1952 ["assembly","fin_at","has_fin","mss","next","ready","ring","room","told_edge","urgent_at"] 2 [],u7 (sS 90) "change_state" 1262 1974 893 2 3 N dR ["tcb","event","state"],u7 (sS 91) "closed" 1269 1983 898 2 3 N dR ["tcb","error","key"],u7 (sS 92) "enter_time_wait" 1276 1992 904 2 3 N dR ["tcb","now","key"],u7 (sS 93) "check_error" 1283 2001 909 1 3 N dR ["tcb"],u7 (sS 94) "open_active" 1290 2008 914 2 3 N dR ["tcb","now"],u7 (sS 95) "open_passive" 1297 2016 917 1 3 N dR ["tcb"],u7 (sS 96) "send" 1304 2023 920 3 3 N dR ["tcb","octets","now","taken"],u7 (sS 98) "receive" 1311 2034 927 3 3 N dR ["tcb","many","now","octets"],u7 (sS 100) "close" 1318 2045 938 2 3 N dR ["tcb","now"],u7 (sS 102) "abort" 1325 2054 949 2 3 N dR ["tcb","now","found"],u7 (sS 104) "ack_segment" 1332 2064 958 1 3 N dR ["tcb"],u7 (sS 105) "syn_segment" 1339 2071 960 1 3 N dR ["tcb"],u7 (sS 106) "flags_of" 1346 2078 962 2 3 N dR ["has_push","has_fin","flags"],u7 (sS 107) "take_asked_fin" 1353 2087 969 1 3 N dR ["tcb","state"],u7 (sS 108) "data_segments" 1360 2095 974 2 3 N dR ["tcb","now","found","ring","ahead","seq","octets","has_push","has_fin","end"],u7 (sS 109) "output" 1367 2111 984 2 3 N dR ["tcb","now","found"],u7 (sS 110) "set_resend" 1374 2120 995 2 3 N dR ["tcb","now"],u7 (sS 111) "keep_timers" 1381 2128 1000 2 3 N dR ["tcb","now"],u7 (sS 112) "probe_wait" 1388 2136 1012 1 3 N dR ["tcb","estimate"],u7 (sS 113) "on_time" 1395 2144 1015 2 3 N dR ["tcb","now","found","key"],u7 (sS 115) "sent_again" 1402 2155 1031 2 3 N dR ["tcb","now","flight","found"],u7 (sS 116) "segment_again" 1409 2165 1043 1 3 N dR ["tcb","seq","octets","has_syn","has_fin"],u7 (sS 117) "probed" 1416 2176 1049 2 3 N dR ["tcb","now","piece","seq","octets","has_push","has_fin","found"],u7 (sS 119) "is_acceptable" 1423 2192 1063 5 3 N Dx ["seq","length","expected","window","ring"],u7 (sS 120) "is_new_ack" 1430 2203 1071 4 3 N Dx ["ack","una","following","ring","gap"],u7 (sS 124) "arrive" 1437 2220 1077 3 3 N eg ["tcb","segment","now"],u7 (sS 125) "listed" 1444 2229 1085 1 3 N eg ["segment"],[oT [.int 4294967296 2216]],u7 (sS 126) "reset_for" 1452 2236 1087 2 3 (.ref 1451) eg ["segment","ring","ack"],u7 (sS 127) "take_syn" 1459 2245 1094 2 3 N eg ["tcb","segment","limits","told"],u7 (sS 128) "in_listen" 1466 2255 1100 3 3 N eg ["tcb","segment","now"],u7 (sS 129) "in_syn_sent" 1473 2264 1111 3 3 N eg ["tcb","segment","now","ring"],u7 (sS 130) "opened_from_both" 1480 2274 1130 3 3 N eg ["tcb","segment","now","found"],u7 (sS 131) "without_syn" 1487 2284 1137 2 3 N eg ["segment","ring"],u7 (sS 132) "in_others" 1494 2292 1141 3 3 N eg ["tcb","segment","now","ring","found"],u7 (sS 133) "is_let_in" 1501 2303 1164 2 3 N eg ["tcb","segment","receiver","window"],u7 (sS 134) "turned_down" 1508 2313 1170 3 3 N eg ["tcb","segment","now","found"],u7 (sS 135) "is_old_acknowledgement" 1515 2323 1182 2 3 N eg ["tcb","segment"]]
noncomputable def hB2 (P:Params):List Obj:=let en:=en P;cat [u7 (sS 136) "take_reset" 1522 2331 1186 2 3 N eg ["tcb","segment"],u7 (sS 137) "is_too_far" 1529 2339 1196 2 3 N eg ["tcb","ack","sender","ring"],u7 (sS 138) "take_ack" 1536 2349 1200 3 3 N eg ["tcb","ack","now","octets","is_syn","is_fin"],u7 (sS 139) "take_acknowledgement" 1543 2361 1207 3 3 N eg ["tcb","segment","now","sender","ring","found","is_fin"],u7 (sS 140) "take_duplicate" 1550 2374 1222 3 3 N eg ["tcb","segment","now","sender","found"],u7 (sS 141) "end_of_sending" 1557 2385 1231 2 3 N eg ["tcb","now"],u7 (sS 142) "take_octets" 1564 2393 1238 3 3 N eg ["tcb","segment","now","receiver","had_fin","fresh","is_in_order"],u7 (sS 143) "end_of_receiving" 1571 2406 1258 2 3 N eg ["tcb","now"],u7 (sS 144) "replies" 1578 2414 1264 2 3 N eg ["tcb","now","found"],cz P 1585 2427 1272 "TcpTable" pF [] none "object.__new__" [ty "object"] [ty "object"] [en "__init__" 2443 (.ref 1598),en "listen" 2453 (.ref 1605),en "connect" 2463 (.ref 1612),en "remove" 2469 (.ref 1617),en "find" 2482 (.ref 1624),en "is_port_used" 2488 (.ref 1629),en "rows" 2494 (.ref 1634)] (iO 4 [(1274,1597),(1278,1604),(1283,1611),(1288,1616),(1296,1623),(1306,1628),(1312,1633)]) [u7 (sM 146 0) "TcpTable.__init__" 1592 2437 1274 1 3 N pF ["self"],u7 (sM 146 1) "TcpTable.listen" 1599 2444 1278 4 3 N pF ["self","address","port","owner"],u7 (sM 146 2) "TcpTable.connect" 1606 2454 1283 4 3 N pF ["self","local","remote","owner"],u5 (sM 146 3) "TcpTable.remove" 1613 2464 1288 2 3 N pF,u7 (sM 146 4) "TcpTable.find" 1618 2470 1296 5 3 N pF ["self","target","target_port","source","source_port","local","owner"],u5 (sM 146 5) "TcpTable.is_port_used" 1625 2483 1306 2 3 N pF,u5 (sM 146 6) "TcpTable.rows" 1630 2489 1312 1 3 N pF] 1635 2495 ["connections","listeners"] 2 [],cz P 1642 2511 1317 "Listener" cj [] none "object.__new__" [ty "object"] [ty "object"] [en "__init__" 2530 (.ref 1655),en "waiting" 2537 (.ref 1662),en "take_open" 2545 (.ref 1669),en "forget" 2554 (.ref 1676)] (iO 4 [(1319,1654),(1326,1661),(1329,1668),(1334,1675)]) [u7 (sM 149 0) "Listener.__init__" 1649 2521 1319 4 3 N cj ["self","address","port","most_waiting"],u7 (sM 149 1) "Listener.waiting" 1656 2531 1326 1 3 N cj ["self"],u7 (sM 149 2) "Listener.take_open" 1663 2538 1329 2 3 N cj ["self","number"],u7 (sM 149 3) "Listener.forget" 1670 2546 1334 2 3 N cj ["self","number","numbers"]] 1677 2555 ["address","most_waiting","opening","port","ready"] 2 [],cz P 1684 2570 1338 "Link" cj [] none "object.__new__" [ty "object"] [ty "object"] [en "__init__" 2589 (.ref 1697),en "is_done" 2596 (.ref 1704)] (iO 4 [(1340,1696),(1347,1703)]) [u7 (sM 150 0) "Link.__init__" 1691 2580 1340 4 3 N cj ["self","tcb","listener","own_port"],u7 (sM 150 1) "Link.is_done" 1698 2590 1347 1 3 N cj ["self"]] 1705 2597 ["is_dropped","is_left","listener","own_port","tcb"] 2 [],u5 (sS 151) "rows_out" 1712 2610 1351 2 3 N cj,cz P 1717 2618 1353 "TcpSockets" cj [] none "object.__new__" [ty "object"] [ty "object"] [en "__init__" 2638 (.ref 1730),en "new_number" 2645 (.ref 1737),en "new_iss" 2653 (.ref 1744),en "link" 2661 (.ref 1751),en "listen" 2672 (.ref 1758),en "connect" 2688 (.ref 1766),en "own_port" 2698 (.ref 1773),en "accept" 2708 (.ref 1780),en "send" 2721 (.ref 1787),en "receive" 2734 (.ref 1794),en "refuse_failed" 2742 (.ref 1801),en "status" 2752 (.ref 1808),en "is_ended" 2761 (.ref 1815),en "close" 2770 (.ref 1822),en "abort" 2779 (.ref 1829),en "leave" 2792 (.ref 1836),en "close_listener" 2804 (.ref 1843),en "look_at" 2814 (.ref 1850),en "end" 2823 (.ref 1857),en "input" 2839 (.ref 1864),en "refused" 2850 (.ref 1871),en "input_new" 2868 (.ref 1878),en "on_time" 2880 (.ref 1885),en "next_time" 2890 (.ref 1892)] (iO 4 [(1355,1729),(1364,1736),(1368,1743),(1372,1750),(1377,1757),(1383,1765),(1391,1772),(1401,1779),(1411,1786),(1417,1793),(1427,1800),(1433,1807),(1442,1814),(1446,1821),(1451,1828),(1457,1835),(1465,1842),(1474,1849),(1482,1856),(1492,1863),(1504,1870),(1508,1877),(1528,1884),(1538,1891)]) [u7 (sM 152 0) "TcpSockets.__init__" 1724 2628 1355 5 3 N cj ["self","limits","seed","first_port","last_port"],u7 (sM 152 1) "TcpSockets.new_number" 1731 2639 1364 1 3 N cj ["self"],u7 (sM 152 2) "TcpSockets.new_iss" 1738 2646 1368 2 3 N cj ["self","now"],u7 (sM 152 3) "TcpSockets.link" 1745 2654 1372 2 3 N cj ["self","number"],u7 (sM 152 4) "TcpSockets.listen" 1752 2662 1377 4 3 N cj ["self","address","port","most_waiting","number"],[oT [.int 0 2673]],u7 (sM 152 5) "TcpSockets.connect" 1760 2674 1383 6 3 (.ref 1759) cj ["self","local","remote","port","now","local_port","own","number","tcb"],u7 (sM 152 6) "TcpSockets.own_port" 1767 2689 1391 2 3 N cj ["self","local_port","turn","found"],u7 (sM 152 7) "TcpSockets.accept" 1774 2699 1401 2 3 N cj ["self","number","ready","found"],u7 (sM 152 8) "TcpSockets.send" 1781 2709 1411 4 3 N cj ["self","number","octets","now","tcb","taken","segments"],u7 (sM 152 9) "TcpSockets.receive" 1788 2722 1417 4 3 N cj ["self","number","many","now","tcb","octets","segments"],u7 (sM 152 10) "TcpSockets.refuse_failed" 1795 2735 1427 2 3 N cj ["self","tcb"],u7 (sM 152 11) "TcpSockets.status" 1802 2743 1433 2 3 N cj ["self","number","tcb","to_read"],u7 (sM 152 12) "TcpSockets.is_ended" 1809 2753 1442 2 3 N cj ["self","number","receiver"],u7 (sM 152 13) "TcpSockets.close" 1816 2762 1446 3 3 N cj ["self","number","now"],u7 (sM 152 14) "TcpSockets.abort" 1823 2771 1451 3 3 N cj ["self","number","now"],u7 (sM 152 15) "TcpSockets.leave" 1830 2780 1457 4 3 N cj ["self","number","call","now","link","segments","found"],u7 (sM 152 16) "TcpSockets.close_listener" 1837 2793 1465 3 3 N cj ["self","number","now","listener","found","child"],u7 (sM 152 17) "TcpSockets.look_at" 1844 2805 1474 2 3 N cj ["self","number","link","state"],u7 (sM 152 18) "TcpSockets.end" 1851 2815 1482 3 3 N cj ["self","number","link"],u7 (sM 152 19) "TcpSockets.input" 1858 2824 1492 5 3 N cj ["self","source","target","segment","now","found","number","is_listener","tcb","rows"],u7 (sM 152 20) "TcpSockets.refused" 1865 2840 1504 4 3 N cj ["self","source","target","segment","answer"],u7 (sM 152 21) "TcpSockets.input_new" 1872 2851 1508 6 3 N cj ["self","number","source","target","segment","now","listener","local","remote","tcb","rows","child"],u7 (sM 152 22) "TcpSockets.on_time" 1879 2869 1528 2 3 N cj ["self","now","found","number","tcb","time"],u7 (sM 152 23) "TcpSockets.next_time" 1886 2881 1538 1 3 N cj ["self","times","number","time"]] 1893 2891 ["given","iss","limits","links","listeners","ports","table"] 2 [],u7 (sS 154) "_law_pool" 1900 2908 1546 2 3 N pG ["script","k","cell","big","mixed"],u7 (sS 155) "_law_take" 1907 2919 1553 2 3 N pG ["source","top","drawn"],u7 (sS 156) "_law_one" 1914 2928 1560 2 3 N pG ["source","things"],u5 (sS 157) "_law_settled" 1921 2936 1562 3 3 N pG,u5 (sS 158) "_law_octets" 1926 2942 1575 1 3 N pG,u7 (sS 159) "_law_read" 1931 2948 1577 5 3 N pG ["sides","address","number","due","now","side","found","turn","octets","rows"],u7 (sS 160) "_law_refused_right" 1938 2964 1587 2 3 N pG ["sides","now","number","rows"],u5 (sS 161) "law" 1945 2974 1596 1 3 N pG]
def hObj (P:Params):List Obj:=cat [hB0 P,hB1 P,hB2 P]
def hO13:Obj:=oC [sx "<module>" 182,sx "<module>" 183,sx "/claim/cut.py" 184,vn 1,vn 0,vn 0,vn 0,vn 0,.ref 11,.bool false,vn 181,.ref 12,.none,.none,.none,.none,vn 185,vn 1,sx "/claim/cut.py" 186]
def hO14:Obj:=oR 13 3 (sx "__main__" 164)
def vI (l:List Obj):List Obj × List Obj:=List.rec (motive:=λ_=>List Obj × List Obj) ([],[]) (λx _ ih=>(x::ih.2,ih.1)) l
def mkT (f:Nat):List Obj->BT:=Nat.rec (motive:=λ_=>List Obj->BT) (λ_=>.nil) (λ_ ih l=>List.rec (motive:=λ_=>BT) .nil (λx r _=>.node x (ih (vI r).1) (ih (vI r).2)) l) f
def yE (P:Params) (n m ep:Nat) (nm:Value) (c:Nat) (o2:Obj) (tk:Nat) (os:OsState):SharedT:=
 ⟨mkT 12 (boot_o_0 P::boot_o_1 P::o2::oD (en P "__name__" 165 nm::(Dy P).take m) ep::boot_o_4 P::boot_o_5 P::boot_o_6 P::boot_o_7 P::boot_o_8 P::boot_o_9 P::boot_o_10 P::oT []::oF (hCo.take c)::hO13::hO14::(hObj P).take (n - 15)),n,{},⟨[]⟩,boot_drawn,tk,os⟩
def st0 (w:World) (os:OsState):SharedT:=yE w.params 15 8 9 (sx "__main__" 164) 0 (boot_o_2 w.params) 187 os
def Dz (w:World) (os:OsState):SharedT:=yE w.params 228 20 21 (sx "thinstack.congestion" 476) 30 (oN [en w.params "type.__subclasses__.Exception.0" 221 (vn 38),en w.params "type.__subclasses__.Exception.n" 222 (vn 1)] 2) 478 os
def DA (w:World) (os:OsState):SharedT:=yE w.params 487 31 32 (sx "thinstack.rtt" 751) 57 (oN [en w.params "type.__subclasses__.Exception.0" 221 (vn 38),en w.params "type.__subclasses__.Exception.n" 222 (vn 1)] 2) 827 os
def DB (w:World) (os:OsState):SharedT:=yE w.params 790 47 48 (sx "thinstack.tcp_segment" 1221) 75 (oN [en w.params "type.__subclasses__.Exception.0" 221 (vn 38),en w.params "type.__subclasses__.Exception.n" 222 (vn 1)] 2) 1243 os
def DD (w:World) (os:OsState):SharedT:=yE w.params 1032 78 79 (sx "thinstack.tcb" 1505) 120 (oN [en w.params "type.__subclasses__.Exception.0" 221 (vn 38),en w.params "type.__subclasses__.Exception.n" 222 (vn 1)] 2) 1638 os
def yF (w:World) (os:OsState):SharedT:=yE w.params 1374 101 102 (sx "thinstack.tcp_user" 1970) 174 (oN [en w.params "type.__subclasses__.Exception.0" 221 (vn 38),en w.params "type.__subclasses__.Exception.n" 222 (vn 1)] 2) 2120 os
def yG (w:World) (os:OsState):SharedT:=yE w.params 1712 138 139 (sx "thinstack.tcp_sockets" 2505) 273 (oN [en w.params "type.__subclasses__.Exception.0" 221 (vn 38),en w.params "type.__subclasses__.Exception.n" 222 (vn 1)] 2) 2610 os
def fY (w:World) (os:OsState):SharedT:=yE w.params 1950 148 149 (sx "law_nu0144_01" 2906) 303 (oN [en w.params "type.__subclasses__.Exception.0" 221 (vn 38),en w.params "type.__subclasses__.Exception.n" 222 (vn 1)] 2) 2980 os
end
section
set_option maxRecDepth 1000000
set_option maxHeartbeats 0
def qK (p:Program) (w:World) (n₀:Nat) (ann:Option Value):Nat->SharedT->Thread->Option (SharedT × Thread):=
 Nat.rec (motive:=λ_=>SharedT->Thread->Option (SharedT × Thread)) (λs t=>some (s,t)) λ_ ih s t=>Bool.rec (Option.rec none (λr=>ih r.1 r.2) (yC p w n₀ ann s t)) none (through t)
theorem pH {p:Program}{w:World}{n₀:Nat}{ann:Option Value}{n:Nat}{r':SharedT × Thread}:∀{s:SharedT}{t:Thread},qK p w n₀ ann n s t=some r'->topGo treeTable p w n₀ ann n s.abs t=some (r'.1.abs,r'.2):=by
 induction n with
 |zero=>intro s t h;exact congrArg (Option.map λr=>(SharedT.abs r.1,r.2)) h
 |succ n ih=>
  intro s t h
  have h:(Bool.rec (Option.rec none (λr=>qK p w n₀ ann n r.1 r.2) (yC p w n₀ ann s t)) none (through t):Option (SharedT × Thread))=some r':=h
  unfold topGo
  cases ht:through t with
  |true=>rw [ht] at h;exact nn h
  |false=>
   rw [ht] at h
   cases hg:yC p w n₀ ann s t with
   |none=>rw [hg] at h;exact nn h
   |some r=>rw [hg] at h;obtain⟨h1,h2⟩:=pB hg;rw [h1,h2];exact ih h
abbrev df:Program->World->Nat->Option Value->Nat->Nat->SharedT->Thread->Option (Flow × SharedT × Code × Pos):=Fast.tw10110043849684766642 Fast.tw14364793385576792824
theorem bD {p:Program}{w:World}{n₀:Nat}{ann:Option Value}{b n:Nat}{s s':SharedT}{t:Thread}{f:Flow}{c:Code}{q:Pos}(h:df p w n₀ ann b n s t=some (f,s',c,q)):segRun treeTable p w n₀ ann b n s.abs t=some (f,s'.abs,c,q):=by
 unfold df at h
 rw [<-Fast.te10110043849684766642,<-Fast.te14364793385576792824] at h
 exact segRun_of h
def nB:Env:={ scope:=pw.main.scope,locals:=mainNs,globals:=mainNs,cells:=[],code:=.ref 13,frame:=some 14 }
def hC:Code:=.body pw.main.body nB
noncomputable def hB:List Frame:=[topFrame default]
noncomputable def hP (a b c d:Nat):Pos:=⟨a,b,c,d⟩
def hS (i n:Nat):List Stmt:=(pw.main.body.drop i).take n
theorem pc0 (w:World) (os:OsState):qK pw w 11 ann 12 (rO w os) (topStub pw)=some (st0 w os,⟨Fast.tw11892475500146522536 Fast.tw14364793385576792824 hC,hC,default,hB⟩):=by kernel_rfl
theorem pcB (w:World) (os:OsState):df pw w 11 ann 1 1 (st0 w os) (blockOf pw.main.body nB hC default hB)=some (.next,st0 w os,hC,default):=by kernel_rfl
theorem pcE (w:World) (os:OsState):nq pw w 11 ann 2 (fY w os) ⟨doneF .next,hC,hP 1596 0 1626 84,hB⟩=some (fY w os):=by kernel_rfl
theorem pc1 (w:World) (os:OsState):df pw w 11 ann 1 2564 (st0 w os) (piecesOf (hS 0 16) nB hC default hB)=some (.next,Dz w os,hC,hP 97 0 97 8):=by kernel_rfl
theorem pc2 (w:World) (os:OsState):df pw w 11 ann 1 1823 (Dz w os) (piecesOf (hS 16 14) nB hC (hP 97 0 97 8) hB)=some (.next,DA w os,hC,hP 235 0 271 56):=by kernel_rfl
theorem pc3 (w:World) (os:OsState):df pw w 11 ann 1 2161 (DA w os) (piecesOf (hS 30 20) nB hC (hP 235 0 271 56) hB)=some (.next,DB w os,hC,hP 501 0 501 8):=by kernel_rfl
theorem pc4 (w:World) (os:OsState):df pw w 11 ann 1 2027 (DB w os) (piecesOf (hS 50 34) nB hC (hP 501 0 501 8) hB)=some (.next,DD w os,hC,hP 662 0 694 99):=by kernel_rfl
theorem pc5 (w:World) (os:OsState):df pw w 11 ann 1 2131 (DD w os) (piecesOf (hS 84 26) nB hC (hP 662 0 694 99) hB)=some (.next,yF w os,hC,hP 984 0 994 16):=by kernel_rfl
theorem pc6 (w:World) (os:OsState):df pw w 11 ann 1 2224 (yF w os) (piecesOf (hS 110 41) nB hC (hP 984 0 994 16) hB)=some (.next,yG w os,hC,hP 1338 0 1350 97):=by kernel_rfl
theorem pc7 (w:World) (os:OsState):df pw w 11 ann 1 1513 (yG w os) (piecesOf (hS 151 11) nB hC (hP 1338 0 1350 97) hB)=some (.next,fY w os,hC,hP 1596 0 1626 84):=by kernel_rfl
theorem A4:pw.main.body=hS 0 16++(hS 16 14++(hS 30 20++(hS 50 34++(hS 84 26++(hS 110 41++(hS 151 11++[])))))):=by kernel_rfl
theorem vJ (w:World) (os:OsState):topRun treeTable pw w 11 ann 14458 (rO w os).abs (topStub pw)=some (fY w os).abs:=by
 have e0:=pH (pc0 w os)
 rw [<-Fast.te11892475500146522536,<-Fast.te14364793385576792824] at e0
 have k7:=piece_app (rest:=[]) (bD (pc7 w os)) (piece_nil (ny (pcE w os)))
 have k:=piece_app (bD (pc1 w os)) (piece_app (bD (pc2 w os)) (piece_app (bD (pc3 w os)) (piece_app (bD (pc4 w os)) (piece_app (bD (pc5 w os)) (piece_app (bD (pc6 w os)) k7)))))
 rw [<-A4] at k
 exact go_top e0 (piece_block (bD (pcB w os)) k)
end
section
set_option maxRecDepth 1000000
set_option maxHeartbeats 0
noncomputable def vK (s:SharedT) (a:Addr):Option Obj:=match Nat.blt a s.n with
 |true=>(s.tree.get a).bind alive
 |false=>none
def qv:Program:={ pw with main:={ pw.main with body:=pw.main.body.filter (isADef "law") } }
def vZ:List Str:=pw.boundNames.filter (· != ("law" : Str))
def vM (w:World) (s:Shared):Bool:=staticsOk (importedModules pw.main.body) (boot_heap w.params) s.heap&&namesBound pw s.heap&&gensDone s&&laidKept (boot_heap w.params) s.heap
theorem lk1 (w:World) (os:OsState):vM w (fY w os).abs=true:=by kernel_rfl
theorem lk2 (w:World) (os:OsState):openSeen qv vZ (importedModules pw.main.body) (λ_=>true) true (fY w os).abs=openGood qv vZ:=by kernel_rfl
theorem lk3 (w:World) (os:OsState):xQ (vK (fY w os))=true:=by kernel_rfl
theorem lk4 (w:World) (os:OsState):vE (vK (fY w os))=vF:=by kernel_rfl
end
section
set_option maxHeartbeats 4000000
noncomputable abbrev fE:OpenRow:=PySem.Challenge.rw_nu0144_01.row
theorem xS:∀{xs:List WData},WShape.hasItems ([]:WRecords) xs .int=true->xs=[]∨∃i r,xs = .int i::r:=by
 intro xs h
 cases xs with
 |nil=>exact .inl rfl
 |cons x r=>
  have:WShape.has ([]:WRecords) x .int=true:=by
   simp only [WShape.hasItems,Bool.and_eq_true] at h
   exact h.1
  obtain⟨i,rfl⟩:=hasW_int this
  exact .inr (yEE i r rfl)
theorem xT {xs:List WData}(h:fE.pre.holds fE.records { args:=[.list xs] }=true):xs.length<=63:=by
 simp [fE,PySem.Challenge.rw_nu0144_01,OpenLaw.row,OpenLaw.pre,WTm.holds,WTm.value,less_int] at h
 by_cases q:(63:Int)<(xs.length:Int)
 ·simp [q] at h
 ·omega
theorem sZ {w:World}{s₀ s₁:Shared}{args:List WData}{vals:List Value}{as:List Addr}(hpre:fE.claim.pre args=true) (L:Laid fE.records w s₀ s₁ args vals as) :
  ∃sc items,vals=[.ref sc]/\s₁.heap.IsList sc items/\(items.size:Int)<2 ^ 63/\(items = #[]∨∃c t,items[0]? = some (.int c t)):=by
 obtain⟨p1,p2⟩:=pre_splitW (r:=fE.toRowW) hpre
 refine bj (hasAllW_cons p1) λd r r2_ q1 q2=>?_;subst r2_
 obtain rfl:=hasAllW_nil q2
 refine aI (hasW_list q1) λxs r1_ q3=>?_;subst r1_
 have rd:=L.reads
 cases rd with
 |cons r1 r2=>
  cases r2
  cases r1 with
  |list ho hc hd hr=>
   rename_i a o vs n as1
   refine yEEAAA a vs rfl ⟨o,ho,hc,n,hd⟩ ?_ ?_
   ·have z:=xT p2
    have:vs.size=xs.length:=by rw [<-Array.length_toList];exact hr.length
    omega
   ·rcases xS q3 with rfl|⟨i,r,rfl⟩
    ·left
     cases hr':vs.toList with
     |nil=>exact Array.toList_eq_nil_iff.mp hr'
     |cons=>rw [hr'] at hr;cases hr
    ·right
     rcases e:vs.toList with _|⟨v0,vr⟩
     ·rw [e] at hr;cases hr
     ·rw [e] at hr
      cases hr with
      |cons g1 g2=>
       cases g1
       exact yEE _ _ (by rw [<-Array.getElem?_toList,e];rfl)
theorem xU (w:World) (s₀ s₁:Shared) (mg mb:Str->Option Value){q:Program}{vZ:List Str}{XP:(Str->Option Value)->Heap->Prop}(G:Ground q vZ fE.records XP w s₀ mg mb s₁.heap) (Y:YG s₁.heap) (a:Addr) (ha:mg fE.name=some (.ref a))
  (args:List WData) (vals:List Value) (as:List Addr) (hpre:fE.claim.pre args=true) (L:Laid fE.records w s₀ s₁ args vals as) :
  WG (model fE.prog w) callerA (PySem.call (.ref a) vals) (λv s'=>GoodWG fE.claim (classAt s₀.heap) (ExcName.means s₀.heap) args s₁ (.ok (.ret v)) s')
   (λe s'=>GoodWG fE.claim (classAt s₀.heap) (ExcName.means s₀.heap) args s₁ (.error e) s') s₁:=by
 obtain⟨sc,items,rfl,h1,h2,h3⟩:=sZ hpre L
 refine WG.call (vG Y G.T.g G.T.b ha h1 h2 h3 rfl (by decide +kernel) rfl rfl λs' k1 k2 k3=>?_)
 refine yAAA (.inl ⟨_,_,[],rfl,λcls=>rfl,.bool true,?_,λ_=>⟨List.nodup_nil,λa h=>by cases h⟩⟩) (.of_keep k1) k3 ?_
 ·simp only [fE,PySem.Challenge.rw_nu0144_01,OpenLaw.row,RowW.claim,WTm.holds,WTm.value,same_self]
  rfl
 ·rw [k2,L.gens];exact .of_eq rfl
end
section
set_option maxRecDepth 1000000
set_option maxHeartbeats 4000000
theorem xV (s:SharedT):∀a o,vK s a=some o->s.abs.heap.get? a=some o:=by
 intro a o h
 unfold vK at h
 split at h
 ·rename_i hb
  obtain⟨o',h1,h2⟩:=Option.bind_eq_some_iff.mp h
  have hlt:a<s.n:=Nat.blt_eq.mp hb
  show (absHeap s.tree s.n s.life).get? a=some o
  rw [abs_get hlt h1,h2]
 ·cases h
theorem A5:∀w:World,(fencedOpening treeTable pw w 15000).map (λs=>(s.heap,s.gens,s.drawn,s.toks))=some (boot_heap w.params,Array.mk [],boot_drawn,boot_toks):=
 boot_open (by kernel_rfl) (by decide) (λs=>by rfl)
theorem s9 (w:World) (os:OsState):∃s:Shared,topRun treeTable pw w 11 ann 14458 (rO w os).abs (topStub pw)=some s/\vM w s=true/\openSeen qv vZ (importedModules pw.main.body) (λ_=>true) true s=openGood qv vZ/\YG s.heap:=
 ⟨(fY w os).abs,vJ w os,lk1 w os,lk2 w os,vK (fY w os),xV _,lk3 w os,lk4 w os⟩
theorem left:LeftO pw qv vZ (λ_=>true) (λs=>YG s.heap) (λ_=>True) 15000:=λw=>by
 obtain⟨⟨h,gs,d,k,os⟩,e,e'⟩:=Option.map_eq_some_iff.mp (A5 w)
 obtain⟨rfl,rfl,rfl,rfl⟩:h=boot_heap w.params/\gs=Array.mk []/\d=boot_drawn/\k=boot_toks:=by simpa using e'
 obtain⟨z1,z2,z3⟩:_/\_/\_:=by simpa only [Prod.mk.injEq] using sz w
 obtain⟨s1,r,l1,l2,y⟩:=s9 w os
 have r:=topRun_mono 542 _ _ _ _ r
 rw [show 14458+542=15000 from rfl] at r
 have hb:(rO w os).abs=⟨boot_heap w.params,Array.mk [],boot_drawn,boot_toks,os⟩:=by
  show (⟨absHeap (j7 w.params) 11 {},_,_,_,_⟩:Shared)=_
  rw [pC];rfl
 rw [hb] at r
 unfold openEnds
 rw [e,Option.bind_some]
 unfold topFrom
 dsimp only
 rw [z1]
 dsimp only
 rw [z2,z3]
 rw [r,Option.bind_some]
 unfold vM at l1
 rw [l1]
 show some (openSeen qv vZ (importedModules pw.main.body) (λ_=>true) true s1,YG s1.heap)=some (openGood qv vZ,True)
 rw [l2,eq_true y]
theorem YG.keeps {h h':Heap}(y:YG h) (k:∀b o,h.get? b=some o->h'.get? b=some o):YG h':=
 let ⟨G,a,b⟩:=y
 ⟨G,λx o e=>k x o (a x o e),b⟩
theorem tf (ud:fE.wellSaid=true):fE.Holds:=
 holds_WG (r:=fE) (q:=qv) (loose:=vZ) (Xt:=λ_=>true) (XP:=λ_ _=>True) (Yf:=λs=>YG s.heap) (Ya:=λ_=>True) (YP:=λ_ h=>YG h) (N:=15000)
  left (λw s e=>of_eq_true e) (λw h h' y k=>y.keeps k) (λ_ _=>trivial) (λ_ _ _ _ _=>trivial) (by rfl) (by rfl) (by rfl) (λs _=>recFacts_of (R:=[]) (s:=s) rfl) (by rfl) ud (by decide +kernel)
  ⟨by kernel_rfl,by kernel_rfl,by kernel_rfl,by kernel_rfl,by kernel_rfl,by kernel_rfl⟩ ⟨[.list []],by decide +kernel,by decide +kernel⟩
  λw s₀ s₁ mg mb G Y a ha args vals as hpre hlay L=>xU w s₀ s₁ mg mb G Y a ha args vals as hpre L
end
section
set_option maxHeartbeats 0
noncomputable abbrev fZ:OpenLaw:=PySem.Challenge.rw_nu0144_01
abbrev bd:List Stmt:=fZ.row.prog.main.body
noncomputable def lkZ:Look:={ strict:=false,foot:=none,bare:=[] }
theorem pJ (lk:Look) (a b:List Stmt):noRoadLSs lk (a++b)=(noRoadLSs lk a&&noRoadLSs lk b):=by
 induction a with
 |nil=>exact (Bool.true_and _).symm
 |cons x a ih=>exact (congrArg (noRoadLS lk x && ·) ih).trans (Bool.and_assoc ..).symm
theorem sd1:noRoadLSs lkZ (bd.take 80)=true:=by rw [Fast.te8326940854005059898];kernel_rfl
theorem sd2:noRoadLSs lkZ ((bd.drop 80).take 40)=true:=by rw [Fast.te8326940854005059898];kernel_rfl
theorem sd3:noRoadLSs lkZ ((bd.drop 80).drop 40)=true:=by rw [Fast.te8326940854005059898];kernel_rfl
theorem sd4:({ strict:=!(importedModules bd).all cThrough.contains,foot:=none,bare:=(["vars","dir","locals"]:List Str).filter (readsOut fZ.row.prog bd) }:Look)=lkZ:=by kernel_rfl
theorem sd0:noRoadLSs { strict:=!(importedModules bd).all cThrough.contains,foot:=none,bare:=(["vars","dir","locals"]:List Str).filter (readsOut fZ.row.prog bd) } bd=true:=by
 rw [sd4,<-List.take_append_drop 80 bd,pJ,<-List.take_append_drop 40 (bd.drop 80),pJ,sd1,sd2,sd3]
 rfl
theorem sd5:namesResolve fZ.row.prog=true:=by rw [Fast.te8377067652309620493];kernel_rfl
theorem sd6:(namesMeet fZ.row.prog bd λ_ n=>attrL n)=true:=by rw [Fast.te17119622794617984870];kernel_rfl
theorem sd7:(namesMeet fZ.prog fZ.above λ_ n=>!fZ.own.contains n)=true:=by rw [Fast.te17119622794617984870];kernel_rfl
theorem ud:fZ.wellSaid=true:=by
 unfold OpenLaw.wellSaid
 with_reducible repeat' (refine look_both ?_ ?_)
 all_goals try (unfold OpenRow.wellSaid;with_reducible repeat' (refine look_both ?_ ?_))
 all_goals try (unfold OpenRow.partSaid;with_reducible repeat' (refine look_both ?_ ?_))
 all_goals try (unfold looksOpen;with_reducible repeat' (refine look_both ?_ ?_))
 all_goals with_reducible first|exact sd0|exact sd5|exact sd6|exact sd7|kernel_rfl
theorem cw:fZ.Holds:=holds_law ud tf
end
end Mine
end
theorem PySem.Challenge.cw_nu0144_01_holds : PySem.Challenge.rw_nu0144_01.Holds :=
  Mine.cw
