import PyProof.Rows.All
import Wide.All
import OpenK.AllK
import Wide.FinOn
import KE.KLam
import ObjForm.Fk.InstStore
import Lean
import PySem.Challenge.RW_nn0167_01
section
set_option Elab.async false
set_option bootstrap.genMatcherCode false
set_option genSizeOf false
set_option linter.all false
set_option maxRecDepth 100000
set_option tactic.hygienic false
set_option backward.match.sparseCases false
namespace Mine.Internal
section
section
set_option backward.match.sparseCases true
set_option tactic.hygienic true
@[elab_as_elim] theorem rwE {α:Sort u} {a b:α} {motive:α->Prop} (e:b=a) (h:motive a):motive b:=e▸h
@[elab_as_elim] theorem rwB {α:Sort u} {a b:α} {motive:α->Prop} (e:a=b) (h:motive a):motive b:=e▸h
theorem al {P0 P1:Prop} {G:Prop} (h:P0/\P1) (k:P0->P1->G):G:=k h.1 h.2
theorem bq {P0 P1 P2:Prop} {G:Prop} (h:P0/\P1/\P2) (k:P0->P1->P2->G):G:=k h.1 h.2.1 h.2.2
theorem xp {P0 P1 P2 P3:Prop} {G:Prop} (h:P0/\P1/\P2/\P3) (k:P0->P1->P2->P3->G):G:=k h.1 h.2.1 h.2.2.1 h.2.2.2
theorem yW {P0 P1 P2 P3 P4:Prop} {G:Prop} (h:P0/\P1/\P2/\P3/\P4) (k:P0->P1->P2->P3->P4->G):G:=k h.1 h.2.1 h.2.2.1 h.2.2.2.1 h.2.2.2.2
theorem zS {P0 P1 P2 P3 P4 P5 P6:Prop} {G:Prop} (h:P0/\P1/\P2/\P3/\P4/\P5/\P6) (k:P0->P1->P2->P3->P4->P5->P6->G):G:=k h.1 h.2.1 h.2.2.1 h.2.2.2.1 h.2.2.2.2.1 h.2.2.2.2.2.1 h.2.2.2.2.2.2
theorem ao {α0:Type} {P0:α0->Prop} {G:Prop} (h:∃ x0,P0 x0) (k:∀ x0,P0 x0->G):G:=h.elim λ x0 h=>k x0 h
theorem au {α0:Type} {P0 P1:α0->Prop} {G:Prop} (h:∃ x0,P0 x0/\P1 x0) (k:∀ x0,P0 x0->P1 x0->G):G:=h.elim λ x0 h=>k x0 h.1 h.2
theorem cu {α0:Type} {P0 P1 P2:α0->Prop} {G:Prop} (h:∃ x0,P0 x0/\P1 x0/\P2 x0) (k:∀ x0,P0 x0->P1 x0->P2 x0->G):G:=h.elim λ x0 h=>k x0 h.1 h.2.1 h.2.2
theorem lJ {α0:Type} {P0 P1 P2 P3:α0->Prop} {G:Prop} (h:∃ x0,P0 x0/\P1 x0/\P2 x0/\P3 x0) (k:∀ x0,P0 x0->P1 x0->P2 x0->P3 x0->G):G:=h.elim λ x0 h=>k x0 h.1 h.2.1 h.2.2.1 h.2.2.2
theorem zT {α0:Type} {P0 P1 P2 P3 P4:α0->Prop} {G:Prop} (h:∃ x0,P0 x0/\P1 x0/\P2 x0/\P3 x0/\P4 x0) (k:∀ x0,P0 x0->P1 x0->P2 x0->P3 x0->P4 x0->G):G:=h.elim λ x0 h=>k x0 h.1 h.2.1 h.2.2.1 h.2.2.2.1 h.2.2.2.2
theorem pI {α0:Type} {α1:Type} {P0:α0->α1->Prop} {G:Prop} (h:∃ x0 x1,P0 x0 x1) (k:∀ x0 x1,P0 x0 x1->G):G:=h.elim λ x0 h=>h.elim λ x1 h=>k x0 x1 h
theorem fX {α0:Type} {α1:Type} {P0 P1:α0->α1->Prop} {G:Prop} (h:∃ x0 x1,P0 x0 x1/\P1 x0 x1) (k:∀ x0 x1,P0 x0 x1->P1 x0 x1->G):G:=h.elim λ x0 h=>h.elim λ x1 h=>k x0 x1 h.1 h.2
theorem gz {α0:Type} {α1:Type} {P0 P1 P2:α0->α1->Prop} {G:Prop} (h:∃ x0 x1,P0 x0 x1/\P1 x0 x1/\P2 x0 x1) (k:∀ x0 x1,P0 x0 x1->P1 x0 x1->P2 x0 x1->G):G:=h.elim λ x0 h=>h.elim λ x1 h=>k x0 x1 h.1 h.2.1 h.2.2
theorem dn {α0:Type} {α1:Type} {P0 P1 P2 P3:α0->α1->Prop} {G:Prop} (h:∃ x0 x1,P0 x0 x1/\P1 x0 x1/\P2 x0 x1/\P3 x0 x1) (k:∀ x0 x1,P0 x0 x1->P1 x0 x1->P2 x0 x1->P3 x0 x1->G):G:=h.elim λ x0 h=>h.elim λ x1 h=>k x0 x1 h.1 h.2.1 h.2.2.1 h.2.2.2
theorem yX {α0:Type} {α1:Type} {P0 P1 P2 P3 P4 P5:α0->α1->Prop} {G:Prop} (h:∃ x0 x1,P0 x0 x1/\P1 x0 x1/\P2 x0 x1/\P3 x0 x1/\P4 x0 x1/\P5 x0 x1) (k:∀ x0 x1,P0 x0 x1->P1 x0 x1->P2 x0 x1->P3 x0 x1->P4 x0 x1->P5 x0 x1->G):G:=h.elim λ x0 h=>h.elim λ x1 h=>k x0 x1 h.1 h.2.1 h.2.2.1 h.2.2.2.1 h.2.2.2.2.1 h.2.2.2.2.2
theorem xq {α0:Type} {α1:Type} {α2:Type} {P0:α0->α1->α2->Prop} {G:Prop} (h:∃ x0 x1 x2,P0 x0 x1 x2) (k:∀ x0 x1 x2,P0 x0 x1 x2->G):G:=h.elim λ x0 h=>h.elim λ x1 h=>h.elim λ x2 h=>k x0 x1 x2 h
theorem sD {α0:Type} {α1:Type} {α2:Type} {P0 P1:α0->α1->α2->Prop} {G:Prop} (h:∃ x0 x1 x2,P0 x0 x1 x2/\P1 x0 x1 x2) (k:∀ x0 x1 x2,P0 x0 x1 x2->P1 x0 x1 x2->G):G:=h.elim λ x0 h=>h.elim λ x1 h=>h.elim λ x2 h=>k x0 x1 x2 h.1 h.2
theorem pJ {α0:Type} {α1:Type} {α2:Type} {P0 P1 P2:α0->α1->α2->Prop} {G:Prop} (h:∃ x0 x1 x2,P0 x0 x1 x2/\P1 x0 x1 x2/\P2 x0 x1 x2) (k:∀ x0 x1 x2,P0 x0 x1 x2->P1 x0 x1 x2->P2 x0 x1 x2->G):G:=h.elim λ x0 h=>h.elim λ x1 h=>h.elim λ x2 h=>k x0 x1 x2 h.1 h.2.1 h.2.2
theorem eT {α0:Type} {α1:Type} {α2:Type} {P0 P1 P2 P3:α0->α1->α2->Prop} {G:Prop} (h:∃ x0 x1 x2,P0 x0 x1 x2/\P1 x0 x1 x2/\P2 x0 x1 x2/\P3 x0 x1 x2) (k:∀ x0 x1 x2,P0 x0 x1 x2->P1 x0 x1 x2->P2 x0 x1 x2->P3 x0 x1 x2->G):G:=h.elim λ x0 h=>h.elim λ x1 h=>h.elim λ x2 h=>k x0 x1 x2 h.1 h.2.1 h.2.2.1 h.2.2.2
theorem rg {α0:Type} {α1:Type} {α2:Type} {P0 P1 P2 P3 P4:α0->α1->α2->Prop} {G:Prop} (h:∃ x0 x1 x2,P0 x0 x1 x2/\P1 x0 x1 x2/\P2 x0 x1 x2/\P3 x0 x1 x2/\P4 x0 x1 x2) (k:∀ x0 x1 x2,P0 x0 x1 x2->P1 x0 x1 x2->P2 x0 x1 x2->P3 x0 x1 x2->P4 x0 x1 x2->G):G:=h.elim λ x0 h=>h.elim λ x1 h=>h.elim λ x2 h=>k x0 x1 x2 h.1 h.2.1 h.2.2.1 h.2.2.2.1 h.2.2.2.2
theorem pK {α0:Type} {α1:Type} {α2:Type} {P0 P1 P2 P3 P4 P5:α0->α1->α2->Prop} {G:Prop} (h:∃ x0 x1 x2,P0 x0 x1 x2/\P1 x0 x1 x2/\P2 x0 x1 x2/\P3 x0 x1 x2/\P4 x0 x1 x2/\P5 x0 x1 x2) (k:∀ x0 x1 x2,P0 x0 x1 x2->P1 x0 x1 x2->P2 x0 x1 x2->P3 x0 x1 x2->P4 x0 x1 x2->P5 x0 x1 x2->G):G:=h.elim λ x0 h=>h.elim λ x1 h=>h.elim λ x2 h=>k x0 x1 x2 h.1 h.2.1 h.2.2.1 h.2.2.2.1 h.2.2.2.2.1 h.2.2.2.2.2
theorem zU {α0:Type} {α1:Type} {α2:Type} {P0 P1 P2 P3 P4 P5 P6:α0->α1->α2->Prop} {G:Prop} (h:∃ x0 x1 x2,P0 x0 x1 x2/\P1 x0 x1 x2/\P2 x0 x1 x2/\P3 x0 x1 x2/\P4 x0 x1 x2/\P5 x0 x1 x2/\P6 x0 x1 x2) (k:∀ x0 x1 x2,P0 x0 x1 x2->P1 x0 x1 x2->P2 x0 x1 x2->P3 x0 x1 x2->P4 x0 x1 x2->P5 x0 x1 x2->P6 x0 x1 x2->G):G:=h.elim λ x0 h=>h.elim λ x1 h=>h.elim λ x2 h=>k x0 x1 x2 h.1 h.2.1 h.2.2.1 h.2.2.2.1 h.2.2.2.2.1 h.2.2.2.2.2.1 h.2.2.2.2.2.2
theorem yY {α0:Type} {α1:Type} {α2:Type} {α3:Type} {P0 P1 P2:α0->α1->α2->α3->Prop} {G:Prop} (h:∃ x0 x1 x2 x3,P0 x0 x1 x2 x3/\P1 x0 x1 x2 x3/\P2 x0 x1 x2 x3) (k:∀ x0 x1 x2 x3,P0 x0 x1 x2 x3->P1 x0 x1 x2 x3->P2 x0 x1 x2 x3->G):G:=h.elim λ x0 h=>h.elim λ x1 h=>h.elim λ x2 h=>h.elim λ x3 h=>k x0 x1 x2 x3 h.1 h.2.1 h.2.2
theorem xr {α0:Type} {α1:Type} {α2:Type} {α3:Type} {P0 P1 P2 P3:α0->α1->α2->α3->Prop} {G:Prop} (h:∃ x0 x1 x2 x3,P0 x0 x1 x2 x3/\P1 x0 x1 x2 x3/\P2 x0 x1 x2 x3/\P3 x0 x1 x2 x3) (k:∀ x0 x1 x2 x3,P0 x0 x1 x2 x3->P1 x0 x1 x2 x3->P2 x0 x1 x2 x3->P3 x0 x1 x2 x3->G):G:=h.elim λ x0 h=>h.elim λ x1 h=>h.elim λ x2 h=>h.elim λ x3 h=>k x0 x1 x2 x3 h.1 h.2.1 h.2.2.1 h.2.2.2
theorem zV {α0:Type} {α1:Type} {α2:Type} {α3:Type} {P0 P1 P2 P3 P4:α0->α1->α2->α3->Prop} {G:Prop} (h:∃ x0 x1 x2 x3,P0 x0 x1 x2 x3/\P1 x0 x1 x2 x3/\P2 x0 x1 x2 x3/\P3 x0 x1 x2 x3/\P4 x0 x1 x2 x3) (k:∀ x0 x1 x2 x3,P0 x0 x1 x2 x3->P1 x0 x1 x2 x3->P2 x0 x1 x2 x3->P3 x0 x1 x2 x3->P4 x0 x1 x2 x3->G):G:=h.elim λ x0 h=>h.elim λ x1 h=>h.elim λ x2 h=>h.elim λ x3 h=>k x0 x1 x2 x3 h.1 h.2.1 h.2.2.1 h.2.2.2.1 h.2.2.2.2
theorem zW {α0:Type} {α1:Type} {α2:Type} {α3:Type} {P0 P1 P2 P3 P4 P5:α0->α1->α2->α3->Prop} {G:Prop} (h:∃ x0 x1 x2 x3,P0 x0 x1 x2 x3/\P1 x0 x1 x2 x3/\P2 x0 x1 x2 x3/\P3 x0 x1 x2 x3/\P4 x0 x1 x2 x3/\P5 x0 x1 x2 x3) (k:∀ x0 x1 x2 x3,P0 x0 x1 x2 x3->P1 x0 x1 x2 x3->P2 x0 x1 x2 x3->P3 x0 x1 x2 x3->P4 x0 x1 x2 x3->P5 x0 x1 x2 x3->G):G:=h.elim λ x0 h=>h.elim λ x1 h=>h.elim λ x2 h=>h.elim λ x3 h=>k x0 x1 x2 x3 h.1 h.2.1 h.2.2.1 h.2.2.2.1 h.2.2.2.2.1 h.2.2.2.2.2
theorem zX {α0:Type} {α1:Type} {α2:Type} {α3:Type} {α4:Type} {P0 P1 P2 P3 P4:α0->α1->α2->α3->α4->Prop} {G:Prop} (h:∃ x0 x1 x2 x3 x4,P0 x0 x1 x2 x3 x4/\P1 x0 x1 x2 x3 x4/\P2 x0 x1 x2 x3 x4/\P3 x0 x1 x2 x3 x4/\P4 x0 x1 x2 x3 x4) (k:∀ x0 x1 x2 x3 x4,P0 x0 x1 x2 x3 x4->P1 x0 x1 x2 x3 x4->P2 x0 x1 x2 x3 x4->P3 x0 x1 x2 x3 x4->P4 x0 x1 x2 x3 x4->G):G:=h.elim λ x0 h=>h.elim λ x1 h=>h.elim λ x2 h=>h.elim λ x3 h=>h.elim λ x4 h=>k x0 x1 x2 x3 x4 h.1 h.2.1 h.2.2.1 h.2.2.2.1 h.2.2.2.2
theorem aq {β α:Type} [BEq β] [LawfulBEq β] {x:β} {k:α} {l:List (β×α)} (h:l.lookup x=some k):(x,k)∈l:=(List.lookup_eq_some_iff.mp h).elim λ _ h=>h.elim λ _ h=>h.1▸List.mem_append_right _ (.head _)
theorem orB {a b:Bool} (h:(a||b)=true):a=true\/b=true:=by
 cases a
 ·exact .inr h
 ·exact .inl rfl
theorem an2 {a b:Bool} (h:(a&&b)=true):a=true/\b=true:=Bool.and_eq_true_iff.mp h
theorem an3 {a b c:Bool} (h:(a&&b&&c)=true):(a=true/\b=true)/\c=true:=⟨an2 (an2 h).1,(an2 h).2⟩
theorem an4 {a b c d:Bool} (h:(a&&b&&c&&d)=true):((a=true/\b=true)/\c=true)/\d=true:=⟨an3 (an2 h).1,(an2 h).2⟩
theorem d1 {a:Bool} {p:Prop} [Decidable p] (h:(a&&decide p)=true):a=true/\p:=⟨(an2 h).1,of_decide_eq_true (an2 h).2⟩
theorem d2 {p q:Prop} [Decidable p] [Decidable q] (h:(decide p&&decide q)=true):p/\q:=⟨of_decide_eq_true (an2 h).1,of_decide_eq_true (an2 h).2⟩
theorem d3 {p q r:Prop} [Decidable p] [Decidable q] [Decidable r] (h:(decide p&&decide q&&decide r)=true):(p/\q)/\r:=⟨d2 (an2 h).1,of_decide_eq_true (an2 h).2⟩
theorem nf {b:Bool} (h:(!b)=true):b=false:=by
 cases b
 ·rfl
 ·exact h.symm
end
theorem J {α:Type} {x:α} {p:Prop} (h:none=some x):p:=nomatch h
theorem ad {p:Prop} (h:false=true):p:=nomatch h
inductive B where
 | len | isinstance | range | max | min | abs | int | str | tuple | dict | list | bool
 deriving DecidableEq
inductive Op where
 | add | sub | mul | fdiv | mod | pow
 deriving DecidableEq
inductive Cm where
 | eq | ne | lt | le | gt | ge | is | isnot | in_ | notin
 deriving DecidableEq
set_option genCtorIdx false
mutual
inductive E where
 | cN | cY | cB (b:Bool) | cI (i:Int) | cS (k:Nat)
 | v (x:Nat)
 | g (x:Nat)
 | at_ (e:E) (a:Nat)
 | call (f:E) (as:List E)
 | meth (o:E) (m:Nat) (as:List E)
 | bin (op:Op) (l r:E)
 | not (e:E)
 | neg (e:E)
 | cmp (l:E) (op:Cm) (r:E)
 | cmp2 (l:E) (o1:Cm) (m:E) (o2:Cm) (r:E)
 | and (es:List E)
 | or (es:List E)
 | ite (t a b:E)
 | tup (es:List E)
 | lst (fresh:Bool) (es:List E)
 | dct (fresh:Bool) (kvs:List E)
 | sub (e i:E)
 | slc (e l u:E)
 | comp (elt:E) (t:T) (it:E)
 | lam (k:Nat) (cap:List Nat)
inductive T where
 | x (n:Nat)
 | c (n:Nat)
 | tup (ts:List T)
 | at_ (o:E) (a:Nat)
 | sub (o i:E)
end
inductive S where
 | ex (e:E)
 | asg (t:T) (e:E)
 | if_ (c:E) (a b:List S)
 | wh (c:E) (b:List S)
 | for_ (t:T) (it:E) (b:List S)
 | ret (e:E)
 | raise (c:Nat) (e:E)
 | try_ (b:List S) (c:Nat) (h:List S)
set_option genCtorIdx true
inductive V where
 | none | bool (b:Bool) | int (i:Int) | str (k:Nat) | msg (n:Nat) | byt
 | fn (k:Nat) | cls (c:Nat) | bi (b:B)
 | clo (k:Nat) (cap:List (Nat×V))
 | tup (l:List V) | lst (l:List V) | dct (l:List (Nat×V)) | dci (l:List (Int×V)) | ob (c:Nat) (fs:List (Nat×V))
 | loc (a:Nat)
 | rng (a b s:Int)
set_option genCtorIdx false
inductive M where
 | lst (l:List V) | dct (l:List (Nat×V)) | dci (l:List (Int×V)) | ob (c:Nat) (fs:List (Nat×V))
noncomputable abbrev Rho:=Nat->Option V
noncomputable abbrev St:=List (Nat×M)
noncomputable def upd (x:Nat) (v:V) (ρ:Rho):Rho:=λ y=>if y=x then some v else ρ y
noncomputable def look (a:Nat):St->Option M
 | []=>none
 | (b,m)::r=>if a=b then some m else look a r
noncomputable def put (a:Nat) (m:M):St->St
 | []=>[]
 | (b,m')::r=>if a=b then (b,m)::r else (b,m')::put a m r
noncomputable def rem (a:Nat):St->St
 | []=>[]
 | (b,m')::r=>if a=b then r else (b,m')::rem a r
noncomputable def aY (x:Nat):List (Nat×V)->Option V
 | []=>none
 | (y,v)::r=>if x=y then some v else aY x r
noncomputable def bN (x:Nat) (v:V):List (Nat×V)->List (Nat×V)
 | []=>[(x,v)]
 | (y,w)::r=>if x=y then (y,v)::r else (y,w)::bN x v r
noncomputable def fB (x:Int):List (Int×V)->Option V
 | []=>none
 | (y,v)::r=>if x=y then some v else fB x r
noncomputable def gF (x:Int) (v:V):List (Int×V)->List (Int×V)
 | []=>[(x,v)]
 | (y,w)::r=>if x=y then (y,v)::r else (y,w)::gF x v r
theorem jM {a b:Nat} {m:M} {r:St}:look a ((b,m)::r)=if a=b then some m else look a r:=rfl
theorem t9 {a b:Nat} {m m':M} {r:St}:put a m ((b,m')::r)=if a=b then (b,m)::r else (b,m')::put a m r:=rfl
theorem mG {x y:Nat} {v:V} {r:List (Nat×V)}:aY x ((y,v)::r)=if x=y then some v else aY x r:=rfl
theorem il {x y:Nat} {v w:V} {r:List (Nat×V)}:bN x v ((y,w)::r)=if x=y then (y,v)::r else (y,w)::bN x v r:=rfl
theorem u4 {x y:Int} {v:V} {r:List (Int×V)}:fB x ((y,v)::r)=if x=y then some v else fB x r:=rfl
theorem mH {x y:Int} {v w:V} {r:List (Int×V)}:gF x v ((y,w)::r)=if x=y then (y,v)::r else (y,w)::gF x v r:=rfl
noncomputable abbrev PV:=V->St->Prop
noncomputable abbrev PX:=St->Prop
noncomputable abbrev ah:=Nat->List (Nat×V)->List V->St->PV->PX->Prop
noncomputable def veq:V->V->Option Bool
 | .none,.none=>some true
 | .bool a,.bool b=>some (a==b)
 | .int a,.int b=>some (a==b)
 | .str a,.str b=>some (a==b)
 | .str _,.int _=>some false
 | .int _,.str _=>some false
 | .tup a,.tup b=>veqs a b
 | .lst a,.lst b=>veqs a b
 | _,_=>none
where veqs:List V->List V->Option Bool
 | [],[]=>some true
 | a::r,b::s=>match veq a b,veqs r s with
  | some x,some y=>some (x&&y)
  | _,_=>none
 | [],_::_=>some false
 | _::_,[]=>some false
mutual
noncomputable def vok:V->Nat->Bool
 | .none,_=>true
 | .bool _,_=>true
 | .int _,_=>true
 | .str k,_=>Nat.blt k 359
 | .tup _,0=>false
 | .tup l,n+1=>im l n
 | .lst _,0=>false
 | .lst l,n+1=>im l n
 | _,_=>false
noncomputable def im:List V->Nat->Bool
 | [],_=>true
 | v::r,n=>vok v n&&im r n
end
noncomputable def eqS (a b:V):Option Bool:=if vok a 20&&vok b 20 then veq a b else none
noncomputable def eqV (a b:V):Option Bool:=match a with
 | .int x=>(match b with | .int y=>some (x==y) | b=>eqS (.int x) b)
 | .str x=>(match b with | .str y=>some (x==y) | b=>eqS (.str x) b)
 | .tup x=>(match b with | .tup []=>some x.isEmpty | b=>eqS (.tup x) b)
 | .lst x=>(match b with | .lst []=>some x.isEmpty | b=>eqS (.lst x) b)
 | a=>eqS a b
noncomputable def lK (v:V) (b:B):Option Bool :=
 match v,b with
 | .bool _,.bool=>some true
 | .bool _,.int=>some true
 | .int _,.int=>some true
 | .str _,.str=>some true
 | .tup _,.tuple=>some true
 | .lst _,.list=>some true
 | .dct _,.dict=>some true
 | .dci _,.dict=>some true
 | .none,_=>some false
 | .bool _,_=>some false
 | .int _,_=>some false
 | .str _,_=>some false
 | .tup _,_=>some false
 | .lst _,_=>some false
 | .dct _,_=>some false
 | .dci _,_=>some false
 | .ob _ _,_=>some false
 | _,_=>none
noncomputable def rh:B->Bool
 | .int | .str | .tuple | .dict | .list | .bool=>true
 | _=>false
set_option genInjectivity false in
structure FnI where
 params:List Nat
 dflts:List V
 body:List S
 gc:Bool
set_option genInjectivity false in
structure kL where
 init:Nat
 frozen:Bool
 meths:List (Nat×Nat)
 bases:List Nat
set_option genInjectivity false in
structure ng where
 glob:Nat->Option V
 fns:Nat->Option FnI
 clss:Nat->Option kL
 lower:Nat->Option Nat
 chars:Nat->Option (List Nat)
 fld:Nat->Nat->Bool
 append:Nat
 pop:Nat
 extend:Nat
 get:Nat
 lowerN:Nat
noncomputable def ck:List Nat->List V->List V->Option Rho
 | ps,ds,vs =>
  if vs.length<=ps.length&&ps.length - vs.length<=ds.length then
   some ((ps.zip (vs++ds.drop (ds.length - (ps.length - vs.length)))).foldl (λ ρ p=>upd p.1 p.2 ρ) λ u'=>Option.none)
  else Option.none
noncomputable def bE (i:Int):Bool:=decide (-(2 ^ 2000)<i)&&decide (i<2 ^ 2000)
noncomputable def eU (vs:List V) (k:V->Prop):Prop:=match vs with
 | [v]=>k v
 | _=>False
noncomputable def ua (vs:List V) (k:V->V->Prop):Prop:=match vs with
 | [v,w]=>k v w
 | _=>False
noncomputable def sE (vs:List V) (k:Prop):Prop:=match vs with
 | []=>k
 | _=>False
noncomputable def cw (v:V) (k:Int->Prop):Prop:=match v with
 | .int i=>k i
 | _=>False
noncomputable def xt (v:V) (k:Nat->Prop):Prop:=match v with
 | .str i=>k i
 | _=>False
noncomputable def jq (v:V) (k:Nat->Prop):Prop:=match v with
 | .loc i=>k i
 | _=>False
noncomputable def xu (v:V) (k:Prop):Prop:=match v with
 | .none=>k
 | _=>False
noncomputable def ub (v:V) (k:List (Nat×V)->Prop):Prop:=match v with
 | .dct l=>k l
 | _=>False
noncomputable def jP (v:V) (k:List V->Prop):Prop:=match v with
 | .lst l=>k l
 | _=>False
noncomputable def mmP (vs:List V) (j:V->Prop) (k:V->V->Prop):Prop:=match vs with
 | [v]=>j v
 | [v,w]=>k v w
 | _=>False
noncomputable def rgP (vs:List V) (j:V->Prop) (k:V->V->V->Prop):Prop:=match vs with
 | [v]=>j v
 | [u,v,w]=>k u v w
 | _=>False
noncomputable def gG (m:M) (k:List V->Prop):Prop:=match m with
 | .lst l=>k l
 | _=>False
noncomputable def obP (m:M) (k:Nat->List (Nat×V)->Prop):Prop:=match m with
 | .ob c l=>k c l
 | _=>False
noncomputable def ri (b:Bool) (k:Prop):Prop:=match b with
 | true=>k
 | false=>False
noncomputable def aW {α:Type} (x:Option α) (k:α->Prop):Prop:=match x with
 | some a=>k a
 | none=>False
section
variable {C:Prop} {vs:List V} {v:V} {m:M}
theorem bC {k:V->Prop} (hk:∀ v,vs=[v]->k v->C) (h:eU vs k):C:=by
 rcases vs with _ | ⟨v,_ | ⟨w,r⟩⟩
 ·exact h.elim
 ·exact hk v rfl h
 ·exact h.elim
theorem nh {k:V->V->Prop} (hk:∀ v w,vs=[v,w]->k v w->C) (h:ua vs k):C:=by
 rcases vs with _ | ⟨v,_ | ⟨w,_ | ⟨x,r⟩⟩⟩
 ·exact h.elim
 ·exact h.elim
 ·exact hk v w rfl h
 ·exact h.elim
theorem gH {k:Prop} (hk:vs=[]->k->C) (h:sE vs k):C:=by
 rcases vs with _ | ⟨v,r⟩
 ·exact hk rfl h
 ·exact h.elim
theorem aP {k:Int->Prop} (hk:∀ i,v=.int i->k i->C) (h:cw v k):C:=by
 induction v using V.casesOn with
 | int i=>exact hk i rfl h
 | _=>exact h.elim
theorem ni {k:Nat->Prop} (hk:∀ i,v=.str i->k i->C) (h:xt v k):C:=by
 induction v using V.casesOn with
 | str i=>exact hk i rfl h
 | _=>exact h.elim
theorem bP {k:Nat->Prop} (hk:∀ i,v=.loc i->k i->C) (h:jq v k):C:=by
 induction v using V.casesOn with
 | loc i=>exact hk i rfl h
 | _=>exact h.elim
theorem nj {k:Prop} (hk:v=.none->k->C) (h:xu v k):C:=by
 induction v using V.casesOn with
 | none=>exact hk rfl h
 | _=>exact h.elim
theorem pT {k:List (Nat×V)->Prop} (hk:∀ l,v=.dct l->k l->C) (h:ub v k):C:=by
 induction v using V.casesOn with
 | dct i=>exact hk i rfl h
 | _=>exact h.elim
theorem hJ {k:List V->Prop} (hk:∀ l,v=.lst l->k l->C) (h:jP v k):C:=by
 induction v using V.casesOn with
 | lst i=>exact hk i rfl h
 | _=>exact h.elim
theorem jQ {j:V->Prop} {k:V->V->Prop} (hj:∀ v,vs=[v]->j v->C) (hk:∀ v w,vs=[v,w]->k v w->C) (h:mmP vs j k):C:=by
 rcases vs with _ | ⟨v,_ | ⟨w,_ | ⟨x,r⟩⟩⟩
 ·exact h.elim
 ·exact hj v rfl h
 ·exact hk v w rfl h
 ·exact h.elim
theorem rj {j:V->Prop} {k:V->V->V->Prop} (hj:∀ v,vs=[v]->j v->C) (hk:∀ u v w,vs=[u,v,w]->k u v w->C) (h:rgP vs j k):C:=by
 rcases vs with _ | ⟨u,_ | ⟨v,_ | ⟨w,_ | ⟨x,r⟩⟩⟩⟩
 ·exact h.elim
 ·exact hj u rfl h
 ·exact h.elim
 ·exact hk u v w rfl h
 ·exact h.elim
theorem cx {k:List V->Prop} (hk:∀ l,m=.lst l->k l->C) (h:gG m k):C:=by
 induction m using M.casesOn with
 | lst i=>exact hk i rfl h
 | _=>exact h.elim
theorem mI {k:Nat->List (Nat×V)->Prop} (hk:∀ c l,m=.ob c l->k c l->C) (h:obP m k):C:=by
 induction m using M.casesOn with
 | ob c i=>exact hk c i rfl h
 | _=>exact h.elim
theorem jr {b:Bool} {k:Prop} (hk:b=true->k->C) (h:ri b k):C:=by
 induction b using Bool.casesOn with
 | true=>exact hk rfl h
 | false=>exact h.elim
theorem aI {α:Type} {x:Option α} {k:α->Prop} (hk:∀ a,x=some a->k a->C) (h:aW x k):C:=by
 induction x using Option.casesOn with
 | some a=>exact hk a rfl h
 | none=>exact h.elim
end
section
variable (tb:ng) (call:ah)
noncomputable def br (v:V) (a:Nat) (σ:St):Option V:=match v with
 | .ob _ fs=>aY a fs
 | .loc l=>match look l σ with
  | some (.ob _ fs)=>aY a fs
  | _=>Option.none
 | _=>Option.none
noncomputable def dY (v:V) (σ:St):Option (Nat×List (Nat×V)):=match v with
 | .ob c fs=>some (c,fs)
 | .loc l=>match look l σ with
  | some (.ob c fs)=>some (c,fs)
  | _=>Option.none
 | _=>Option.none
noncomputable def bg (v:V) (σ:St):Option (List V):=match v with
 | .tup l=>some l
 | .lst l=>some l
 | .loc a=>match look a σ with
  | some (.lst l)=>some l
  | _=>Option.none
 | _=>Option.none
noncomputable def bl (v:V) (σ:St):Option (List (Nat×V)):=match v with
 | .dct l=>some l
 | .loc a=>match look a σ with
  | some (.dct l)=>some l
  | _=>Option.none
 | _=>Option.none
noncomputable def dq (v:V) (σ:St):Option (List (Int×V)):=match v with
 | .dci l=>some l
 | .loc a=>match look a σ with
  | some (.dci l)=>some l
  | some (.dct [])=>some []
  | _=>Option.none
 | _=>Option.none
noncomputable def c0 (v c:V):Option Bool:=match c with
 | .bi b=>if rh b then lK v b else Option.none
 | .cls k=>match v with
  | .ob c _=>(tb.clss c).map λ ci=>ci.bases.contains k
  | .none | .bool _ | .int _ | .str _ | .tup _ | .lst _ | .dct _ | .dci _=>some false
  | _=>Option.none
 | _=>Option.none
noncomputable def aT (v:V) (σ:St):Option Bool:=match v with
 | .none=>some false
 | .bool b=>some b
 | .int i=>some (i != 0)
 | .tup l=>some (!l.isEmpty)
 | .lst l=>some (!l.isEmpty)
 | .loc a=>match look a σ with
  | some (.lst l)=>some (!l.isEmpty)
  | _=>Option.none
 | _=>Option.none
noncomputable def aL (v:V) (σ:St):V:=match v with
 | .loc a=>match look a σ with
  | some (.lst l)=>.lst l
  | _=>.loc a
 | v=>v
noncomputable def bD (i:Int) (n:Nat):Option Nat :=
 if 0<=i then (if i.toNat<n then some i.toNat else Option.none)
 else if 0<=i+n then some (i+n).toNat else Option.none
noncomputable def uc (op:Op) (a b:Int):Option Int:=match op with
 | .add=>some (a+b)
 | .sub=>some (a - b)
 | .mul=>if bE a&&bE b then some (a*b) else Option.none
 | .fdiv=>if decide (0<b)&&decide (b<1000000) then some (Int.fdiv a b) else Option.none
 | .mod=>if b=0 then Option.none else some (Int.fmod a b)
 | .pow=>if decide (a=10)&&decide (0<=b)&&decide (b<=200) then some (a ^ b.toNat) else Option.none
noncomputable def gA (op:Op) (a b:V):Option V:=match a,b with
 | .int x,.int y=>(uc op x y).map .int
 | .tup x,.tup y=>if op=.add&&decide ((x++y).length<=100000) then some (.tup (x++y)) else Option.none
 | .lst x,.lst y=>if op=.add&&decide ((x++y).length<=100000) then some (.lst (x++y)) else Option.none
 | .str _,.str _=>if op=.add then some (.msg 200) else Option.none
 | .msg n,.str _=>if op=.add&&decide (n<5000) then some (.msg (n+100)) else Option.none
 | .str _,.msg n=>if op=.add&&decide (n<5000) then some (.msg (n+100)) else Option.none
 | _,_=>Option.none
noncomputable def gr:List V->Option (List Nat)
 | []=>some []
 | .str k::r=>(gr r).map (k::·)
 | _::_=>Option.none
noncomputable def lL (x c:V) (σ:St):Option Bool:=match x with
 | .str k=>(match c with
  | .tup l=>(gr l).map (·.contains k)
  | c=>(bl c σ).map λ l=>(aY k l).isSome)
 | _=>Option.none
noncomputable def bB (op:Cm) (a b:V) (σ:St):Option Bool:=match op with
 | .eq=>eqV (aL a σ) (aL b σ)
 | .ne=>(eqV (aL a σ) (aL b σ)).map (!·)
 | .lt=>match a,b with | .int x,.int y=>some (decide (x<y)) | _,_=>Option.none
 | .le=>match a,b with | .int x,.int y=>some (decide (x<=y)) | _,_=>Option.none
 | .gt=>match a,b with | .int x,.int y=>some (decide (y<x)) | _,_=>Option.none
 | .ge=>match a,b with | .int x,.int y=>some (decide (y<=x)) | _,_=>Option.none
 | .is=>match b,a with
  | .none,.none=>some true
  | .none,.bool _ | .none,.int _ | .none,.str _ | .none,.tup _ | .none,.lst _ | .none,.dct _ | .none,.dci _ | .none,.ob _ _ | .none,.loc _=>some false
  | _,_=>Option.none
 | .isnot=>match b,a with
  | .none,.none=>some false
  | .none,.bool _ | .none,.int _ | .none,.str _ | .none,.tup _ | .none,.lst _ | .none,.dct _ | .none,.dci _ | .none,.ob _ _ | .none,.loc _=>some true
  | _,_=>Option.none
 | .in_=>lL a b σ
 | .notin=>(lL a b σ).map (!·)
noncomputable def rk (a b s:Int):List V:=if 0<s then (List.range ((b - a+s - 1) / s).toNat).map λ k:Nat=>V.int (a+s*k) else []
noncomputable def aF (v:V) (σ:St):Option (List V×St):=match v with
 | .tup l=>some (l,σ)
 | .lst l=>some (l,σ)
 | .rng a b s=>if decide (a=0)&&decide (0<s)&&decide (s<=1000)&&decide (-100000<=b)&&decide (b<=100000) then some (rk a b s,σ) else Option.none
 | .loc a=>match look a σ with
  | some (.lst l)=>some (l,rem a σ)
  | _=>Option.none
 | _=>Option.none
noncomputable def bV:List V->Option (List Int)
 | []=>some []
 | .int i::r=>(bV r).map (i::·)
 | _::_=>Option.none
noncomputable def pu (b:B) (vs:List V) (σ:St) (Q:PV):Prop:=match b with
 | .len=>eU vs λ v=>aW (bg v σ) λ l=>Q (.int l.length) σ
 | .isinstance=>ua vs λ v c=>aW (c0 tb v c) λ r=>Q (.bool r) σ
 | .range=>rgP vs (λ v=>cw v λ n=>Q (.rng 0 n 1) σ) λ u v w=>cw u λ a=>cw v λ n=>cw w λ s=>(0<s/\s<1000)/\Q (.rng a n s) σ
 | .max=>mmP vs (λ v=>jP v λ l=>aW (bV l) λ ns=>ns≠[]/\∀ M,M∈ns->(∀ a∈ns,a<=M)->Q (.int M) σ) λ v w=>cw v λ a=>cw w λ b=>Q (.int (max a b)) σ
 | .min=>mmP vs (λ v=>jP v λ l=>aW (bV l) λ ns=>ns≠[]/\∀ M,M∈ns->(∀ a∈ns,M<=a)->Q (.int M) σ) λ v w=>cw v λ a=>cw w λ b=>Q (.int (min a b)) σ
 | .abs=>eU vs λ v=>cw v λ a=>Q (.int a.natAbs) σ
 | .int=>eU vs λ v=>cw v λ a=>Q (.int a) σ
 | .str=>eU vs λ v=>cw v λ i=>(0<=i/\i<20)/\Q (.msg 10) σ
 | .tuple=>eU vs λ v=>aW (bg v σ) λ l=>Q (.tup l) σ
 | .dict=>eU vs λ v=>aW (bl v σ) λ l=>l.length<1000/\∀ a,(∀ p∈σ,p.1≠a)->Q (.loc a) ((a,.dct l)::σ)
 | .list=>False
 | .bool=>False
noncomputable def so (ci:kL) (a:Nat) (Q:PV):PV:=λ r σ'=>xu r (if ci.frozen then aW (look a σ') λ m=>obP m λ c' fs=>Q (.ob c' fs) (rem a σ') else Q (.loc a) σ')
noncomputable def bO (c:Nat) (vs:List V) (σ:St) (Q:PV):Prop:=aW (tb.clss c) λ ci=>∀ a,(∀ p∈σ,p.1≠a)->call ci.init [] (.loc a::vs) ((a,.ob c [])::σ) (so ci a Q) λ u'=>False
noncomputable def lM (f:V) (vs:List V) (σ:St) (Q:PV) (X:PX):Prop:=match f with
 | .fn k=>call k [] vs σ Q X
 | .clo k cap=>call k cap vs σ Q X
 | .cls c=>bO tb call c vs σ Q
 | .bi b=>pu tb b vs σ Q
 | _=>False
noncomputable def ip (o k:V) (σ:St):Option (Option V):=match k with
 | .str k=>(bl o σ).map λ l=>aY k l
 | .int i=>(dq o σ).map λ l=>fB i l
 | _=>Option.none
set_option genCtorIdx true
inductive BM where
 | append | pop | extend | get | lower
inductive MK where
 | fn (k:Nat) | b (x:BM)
noncomputable def sF (o:V) (m:Nat) (σ:St):Option BM:=match o with
 | .loc a=>match look a σ with
  | some (.lst _)=>if m=tb.append then some .append else if m=tb.pop then some .pop else if m=tb.extend then some .extend else Option.none
  | some (.dct _)=>if m=tb.get then some .get else Option.none
  | some (.dci _)=>if m=tb.get then some .get else Option.none
  | _=>Option.none
 | .dct _=>if m=tb.get then some .get else Option.none
 | .dci _=>if m=tb.get then some .get else Option.none
 | .str _=>if m=tb.lowerN then some .lower else Option.none
 | _=>Option.none
noncomputable def dX (o:V) (m:Nat) (σ:St):Option MK:=match dY o σ with
 | some (c,fs)=>(match aY m fs with
  | some _=>Option.none
  | Option.none=>(tb.clss c).bind λ ci=>(ci.meths.lookup m).map .fn)
 | Option.none=>(sF tb o m σ).map .b
noncomputable def gI (x:BM) (o:V) (vs:List V) (σ:St) (Q:PV):Prop:=match x with
 | .append=>jq o λ a=>eU vs λ v=>aW (look a σ) λ m=>gG m λ l=>l.length<100000/\Q .none (put a (.lst (l++[v])) σ)
 | .pop=>jq o λ a=>sE vs (aW (look a σ) λ m=>gG m λ l=>aW l.getLast? λ v=>Q v (put a (.lst l.dropLast) σ))
 | .extend=>jq o λ a=>eU vs λ v=>jq v λ b=>aW (look a σ) λ m=>gG m λ l=>aW (look b σ) λ m=>gG m λ l'=>a≠b/\l.length+l'.length<100000/\Q .none (put a (.lst (l++l')) σ)
 | .get=>mmP vs (λ k=>aW (ip o k σ) λ r=>Q (r.getD .none) σ) λ k d=>aW (ip o k σ) λ r=>Q (r.getD d) σ
 | .lower=>xt o λ k=>sE vs (aW (tb.lower k) λ j=>Q (.str j) σ)
noncomputable def ee (mk:MK) (o:V) (vs:List V) (σ:St) (Q:PV) (X:PX):Prop:=match mk with
 | .fn k=>call k [] (o::vs) σ Q X
 | .b x=>gI tb x o vs σ Q
noncomputable def cU (o i:V) (σ:St):Option V:=match i with
 | .int n=>match bg o σ with
  | some l=>(bD n l.length).bind λ k=>l[k]?
  | Option.none=>match o with
   | .str k=>(tb.chars k).bind λ l=>(bD n l.length).bind λ j=>(l[j]?).map .str
   | o=>(dq o σ).bind λ l=>fB n l
 | .str k=>(bl o σ).bind λ l=>aY k l
 | _=>Option.none
noncomputable def dB:List V->Option (List (Nat×V))
 | []=>some []
 | .str k::v::r=>(dB r).map ((k,v)::·)
 | _=>Option.none
noncomputable def rn (o l u:V):Option V:=match o with
 | .tup xs=>(match l with
  | .int a=>(match u with | .none=>if decide (1<=a)&&decide (a<=xs.length) then some (.tup (xs.drop a.toNat)) else Option.none | _=>Option.none)
  | .none=>(match u with | .int b=>if decide (b=-1)&&!xs.isEmpty then some (.tup xs.dropLast) else Option.none | _=>Option.none)
  | _=>Option.none)
 | .lst xs=>(match l with
  | .none=>(match u with | .int b=>if decide (b=-1) then some (.lst xs.dropLast) else if 0<=b then some (.lst (xs.take b.toNat)) else Option.none | _=>Option.none)
  | _=>Option.none)
 | _=>Option.none
noncomputable def bn (o i v:V) (σ:St):Option St:=match o with
 | .loc a=>match look a σ,i with
  | some (.dct l),.str k=>if l.length<1000 then some (put a (.dct (bN k v l)) σ) else Option.none
  | some (.dct []),.int k=>some (put a (.dci [(k,v)]) σ)
  | some (.dci l),.int k=>if l.length<1000 then some (put a (.dci (gF k v l)) σ) else Option.none
  | some (.lst l),.int k=>if decide (0<=k)&&decide (k<l.length) then some (put a (.lst (l.set k.toNat v)) σ) else Option.none
  | _,_=>Option.none
 | _=>Option.none
noncomputable def setAt (o:V) (x:Nat) (v:V) (σ:St):Option St:=match o with
 | .loc a=>match look a σ with
  | some (.ob c fs)=>if decide (fs.length<900)&&tb.fld c x then some (put a (.ob c (bN x v fs)) σ) else Option.none
  | _=>Option.none
 | _=>Option.none
noncomputable def fg (ρ:Rho):List Nat->Option (List (Nat×V))
 | []=>some []
 | x::r=>match ρ x,fg ρ r with
  | some v,some l=>some ((x,v)::l)
  | _,_=>Option.none
noncomputable def xv (fr:Bool) (kvs:List (Nat×V)) (σ:St) (Q:PV):Prop:=match fr with
 | true=>∀ a,(∀ p∈σ,p.1≠a)->Q (.loc a) ((a,.dct kvs)::σ)
 | false=>Q (.dct kvs) σ
noncomputable def aU:T->V->Rho->Option Rho
 | .x n,v,ρ=>some (upd n v ρ)
 | .tup ts,v,ρ=>match v with
  | .tup l=>bindNs ts l ρ
  | .lst l=>bindNs ts l ρ
  | _=>Option.none
 | _,_,_=>Option.none
where bindNs:List T->List V->Rho->Option Rho
 | [],[],ρ=>some ρ
 | t::ts,v::vs,ρ=>(aU t v ρ).bind λ ρ=>bindNs ts vs ρ
 | _,_,_=>Option.none
noncomputable def evC (elt:Rho->St->PV->Prop) (t:T):List V->Rho->St->(List V->St->Prop)->Prop
 | [],_,σ,Q=>Q [] σ
 | v::r,ρ,σ,Q=>match aU t v ρ with
  | some ρ'=>elt ρ' σ (λ w σ=>evC elt t r ρ σ (λ ws σ=>Q (w::ws) σ))
  | Option.none=>False
mutual
noncomputable def evE:E->Rho->St->PV->PX->Prop
 | .cN,_,σ,Q,_=>Q .none σ
 | .cY,_,σ,Q,_=>Q .byt σ
 | .cB b,_,σ,Q,_=>Q (.bool b) σ
 | .cI i,_,σ,Q,_=>Q (.int i) σ
 | .cS k,_,σ,Q,_=>Q (.str k) σ
 | .v x,ρ,σ,Q,_=>match ρ x with | some v=>Q v σ | Option.none=>False
 | .g x,_,σ,Q,_=>match tb.glob x with | some v=>Q v σ | Option.none=>False
 | .at_ e a,ρ,σ,Q,X=>evE e ρ σ (λ v σ=>match br v a σ with | some w=>Q w σ | Option.none=>False) X
 | .call f as,ρ,σ,Q,X=>evE f ρ σ (λ fv σ=>evL as ρ σ (λ vs σ=>lM tb call fv vs σ Q X) X) X
 | .meth o m as,ρ,σ,Q,X=>evE o ρ σ (λ ov σ=>match dX tb ov m σ with | some mk=>evL as ρ σ (λ vs σ=>ee tb call mk ov vs σ Q X) X | Option.none=>False) X
 | .bin op l r,ρ,σ,Q,X=>evE l ρ σ (λ a σ=>evE r ρ σ (λ b σ=>match gA op a b with | some v=>Q v σ | Option.none=>False) X) X
 | .not e,ρ,σ,Q,X=>evE e ρ σ (λ a σ=>match aT a σ with | some b=>Q (.bool (!b)) σ | Option.none=>False) X
 | .neg e,ρ,σ,Q,X=>evE e ρ σ (λ a σ=>match a with | .int i=>Q (.int (-i)) σ | _=>False) X
 | .cmp l op r,ρ,σ,Q,X=>evE l ρ σ (λ a σ=>evE r ρ σ (λ b σ=>match bB op a b σ with | some v=>Q (.bool v) σ | Option.none=>False) X) X
 | .cmp2 l o1 m o2 r,ρ,σ,Q,X=>evE l ρ σ (λ a σ=>evE m ρ σ (λ b σ=>match bB o1 a b σ with
  | some true=>evE r ρ σ (λ c σ=>match bB o2 b c σ with | some v=>Q (.bool v) σ | Option.none=>False) X
  | some false=>Q (.bool false) σ
  | Option.none=>False) X) X
 | .and es,ρ,σ,Q,X=>jR es ρ σ Q X
 | .or es,ρ,σ,Q,X=>ro es ρ σ Q X
 | .ite t a b,ρ,σ,Q,X=>evT t ρ σ (λ c σ=>match c with | true=>evE a ρ σ Q X | false=>evE b ρ σ Q X) X
 | .tup es,ρ,σ,Q,X=>evL es ρ σ (λ vs σ=>Q (.tup vs) σ) X
 | .lst fr es,ρ,σ,Q,X=>evL es ρ σ (λ vs σ=>match fr with
  | true=>∀ a,(∀ p∈σ,p.1≠a)->Q (.loc a) ((a,.lst vs)::σ)
  | false=>Q (.lst vs) σ) X
 | .dct fr es,ρ,σ,Q,X=>evL es ρ σ (λ vs σ=>match dB vs with
  | some kvs=>(kvs.map (λ x=>x.1)).Nodup/\xv fr kvs σ Q
  | Option.none=>False) X
 | .sub e i,ρ,σ,Q,X=>evE e ρ σ (λ o σ=>evE i ρ σ (λ j σ=>match cU tb o j σ with | some v=>Q v σ | Option.none=>False) X) X
 | .slc e l u,ρ,σ,Q,X=>evE e ρ σ (λ o σ=>evE l ρ σ (λ a σ=>evE u ρ σ (λ b σ=>match rn o a b with | some v=>Q v σ | Option.none=>False) X) X) X
 | .comp elt t it,ρ,σ,Q,X=>evE it ρ σ (λ v σ=>match aF v σ with
  | some (items,σ)=>evC (λ ρ σ Q=>evE elt ρ σ Q λ u'=>False) t items ρ σ (λ vs σ=>Q (.lst vs) σ)
  | Option.none=>False) X
 | .lam k cap,ρ,σ,Q,_=>match fg ρ cap with | some l=>Q (.clo k l) σ | Option.none=>False
noncomputable def evL:List E->Rho->St->(List V->St->Prop)->PX->Prop
 | [],_,σ,Q,_=>Q [] σ
 | e::r,ρ,σ,Q,X=>evE e ρ σ (λ v σ=>evL r ρ σ (λ vs σ=>Q (v::vs) σ) X) X
noncomputable def jR:List E->Rho->St->PV->PX->Prop
 | [],_,_,_,_=>False
 | [e],ρ,σ,Q,X=>evE e ρ σ Q X
 | e::r,ρ,σ,Q,X=>evE e ρ σ (λ v σ=>match aT v σ with
  | some true=>jR r ρ σ Q X
  | some false=>Q v σ
  | Option.none=>False) X
noncomputable def ro:List E->Rho->St->PV->PX->Prop
 | [],_,_,_,_=>False
 | [e],ρ,σ,Q,X=>evE e ρ σ Q X
 | e::r,ρ,σ,Q,X=>evE e ρ σ (λ v σ=>match aT v σ with
  | some true=>Q v σ
  | some false=>ro r ρ σ Q X
  | Option.none=>False) X
noncomputable def evT:E->Rho->St->(Bool->St->Prop)->PX->Prop
 | .not e,ρ,σ,Q,X=>evT e ρ σ (λ b σ=>Q (!b) σ) X
 | .and es,ρ,σ,Q,X=>pv es ρ σ Q X
 | .or es,ρ,σ,Q,X=>pw es ρ σ Q X
 | .cmp l op r,ρ,σ,Q,X=>evE l ρ σ (λ a σ=>evE r ρ σ (λ b σ=>match bB op a b σ with | some v=>Q v σ | Option.none=>False) X) X
 | .cmp2 l o1 m o2 r,ρ,σ,Q,X=>evE l ρ σ (λ a σ=>evE m ρ σ (λ b σ=>match bB o1 a b σ with
  | some true=>evE r ρ σ (λ c σ=>match bB o2 b c σ with | some v=>Q v σ | Option.none=>False) X
  | some false=>Q false σ
  | Option.none=>False) X) X
 | .call f as,ρ,σ,Q,X=>evE f ρ σ (λ fv σ=>evL as ρ σ (λ vs σ=>lM tb call fv vs σ (λ v σ=>match aT v σ with | some b=>Q b σ | Option.none=>False) X) X) X
 | .meth o m as,ρ,σ,Q,X=>evE o ρ σ (λ ov σ=>match dX tb ov m σ with | some mk=>evL as ρ σ (λ vs σ=>ee tb call mk ov vs σ (λ v σ=>match aT v σ with | some b=>Q b σ | Option.none=>False) X) X | Option.none=>False) X
 | .v x,ρ,σ,Q,_=>match ρ x with | some v=>(match aT v σ with | some b=>Q b σ | Option.none=>False) | Option.none=>False
 | .cB b,_,σ,Q,_=>Q b σ
 | _,_,_,_,_=>False
noncomputable def pv:List E->Rho->St->(Bool->St->Prop)->PX->Prop
 | [],_,σ,Q,_=>Q true σ
 | e::r,ρ,σ,Q,X=>evT e ρ σ (λ b σ=>match b with | true=>pv r ρ σ Q X | false=>Q false σ) X
noncomputable def pw:List E->Rho->St->(Bool->St->Prop)->PX->Prop
 | [],_,σ,Q,_=>Q false σ
 | e::r,ρ,σ,Q,X=>evT e ρ σ (λ b σ=>match b with | true=>Q true σ | false=>pw r ρ σ Q X) X
end
noncomputable abbrev PN:=Rho->St->Prop
mutual
noncomputable def asT:T->V->Rho->St->PN->PX->Prop
 | .x n,v,ρ,σ,N,_=>N (upd n v ρ) σ
 | .c n,v,ρ,σ,N,_=>match ρ n with | Option.none=>N (upd n v ρ) σ | some _=>False
 | .tup ts,v,ρ,σ,N,X=>match v with
  | .tup l=>ts.length=l.length/\pL ts l ρ σ N X
  | .lst l=>ts.length=l.length/\pL ts l ρ σ N X
  | _=>False
 | .at_ o a,v,ρ,σ,N,X=>evE tb call o ρ σ (λ ov σ=>match setAt tb ov a v σ with | some σ'=>N ρ σ' | Option.none=>False) X
 | .sub o i,v,ρ,σ,N,X=>evE tb call o ρ σ (λ ov σ=>evE tb call i ρ σ (λ iv σ=>match bn ov iv v σ with | some σ'=>N ρ σ' | Option.none=>False) X) X
noncomputable def pL:List T->List V->Rho->St->PN->PX->Prop
 | [],[],ρ,σ,N,_=>N ρ σ
 | t::ts,v::vs,ρ,σ,N,X=>asT t v ρ σ (λ ρ σ=>pL ts vs ρ σ N X) X
 | _,_,_,_,_,_=>False
end
noncomputable def exF (body:Rho->St->PN->PV->PX->Prop) (bind:V->Rho->St->PN->PX->Prop):List V->Rho->St->PN->PV->PX->Prop
 | [],ρ,σ,N,_,_=>N ρ σ
 | v::r,ρ,σ,N,R,X=>bind v ρ σ (λ ρ σ=>body ρ σ (λ ρ σ=>exF body bind r ρ σ N R X) R X) X
noncomputable def exW (test:Rho->St->(Bool->St->Prop)->PX->Prop) (body:Rho->St->PN->PV->PX->Prop):Nat->Rho->St->PN->PV->PX->Prop
 | 0,_,_,_,_,_=>False
 | n+1,ρ,σ,N,R,X=>test ρ σ (λ b σ=>match b with | true=>body ρ σ (λ ρ σ=>exW test body n ρ σ N R X) R X | false=>N ρ σ) X
mutual
noncomputable def exec:S->Rho->St->PN->PV->PX->Prop
 | .ex e,ρ,σ,N,_,X=>evE tb call e ρ σ (λ u' σ=>N ρ σ) X
 | .asg t e,ρ,σ,N,_,X=>evE tb call e ρ σ (λ v σ=>asT tb call t v ρ σ N X) X
 | .if_ c a b,ρ,σ,N,R,X=>evT tb call c ρ σ (λ t σ=>match t with | true=>execs a ρ σ N R X | false=>execs b ρ σ N R X) X
 | .wh c b,ρ,σ,N,R,X=>exW (λ ρ σ Q X=>evT tb call c ρ σ Q X) (λ ρ σ N R X=>execs b ρ σ N R X) 100 ρ σ N R X
 | .for_ t it b,ρ,σ,N,R,X=>evE tb call it ρ σ (λ v σ=>match aF v σ with
  | some (items,σ)=>exF (λ ρ σ N R X=>execs b ρ σ N R X) (λ v ρ σ N X=>asT tb call t v ρ σ N X) items ρ σ N R X
  | Option.none=>False) X
 | .ret e,ρ,σ,_,R,X=>evE tb call e ρ σ (λ v σ=>R v σ) X
 | .raise k e,ρ,σ,_,_,X=>k=12/\evE tb call e ρ σ (λ v σ=>match v with | .str _=>X σ | .msg _=>X σ | _=>False) X
 | .try_ b _ h,ρ,σ,N,R,X=>execs b ρ σ N R (λ σ=>execs h ρ σ N R X)
noncomputable def execs:List S->Rho->St->PN->PV->PX->Prop
 | [],ρ,σ,N,_,_=>N ρ σ
 | s::r,ρ,σ,N,R,X=>exec s ρ σ (λ ρ σ=>execs r ρ σ N R X) R X
end
end
noncomputable def gk (tb:ng) (call:ah):ah:=λ k cap vs σ Q X=>match tb.fns k with
 | some f=>(match ck f.params f.dflts vs with
  | some ρ =>
   let back (v:V) (σ':St):Prop:=if f.gc then Q v (σ'.drop (σ'.length - σ.length)) else Q v σ'
   execs tb call f.body (cap.foldr (λ p ρ=>upd p.1 p.2 ρ) ρ) σ (λ u' σ'=>back .none σ') back X
  | Option.none=>False)
 | Option.none=>False
noncomputable def U (tb:ng):Nat->ah
 | 0=>λ u' u' u' u' u' u'=>False
 | d+1=>gk tb (U tb d)
section
variable {a b:Nat} {σ:St} {m m':M}
theorem am:look a ((a,m)::σ)=some m:=if_pos rfl
theorem aD (h:a≠b):look a ((b,m)::σ)=look a σ:=if_neg h
theorem cC:put a m' ((a,m)::σ)=(a,m')::σ:=if_pos rfl
theorem aG:rem a ((a,m)::σ)=σ:=if_pos rfl
theorem pU (h:a≠b):put a m' ((b,m)::σ)=(b,m)::put a m' σ:=if_neg h
theorem pV (h:a≠b):rem a ((b,m)::σ)=(b,m)::rem a σ:=if_neg h
end
theorem T.ind {P:T->Prop} {Ps:List T->Prop} (h1:∀ n,P (.x n)) (h2:∀ n,P (.c n)) (h3:∀ ts,Ps ts->P (.tup ts)) (h4:∀ o a,P (.at_ o a)) (h5:∀ o i,P (.sub o i)) (h6:Ps []) (h7:∀ t r,P t->Ps r->Ps (t::r)) (t:T):P t :=
 @T.rec (λ u'=>True) P (λ u'=>True) Ps trivial trivial (λ u'=>trivial) (λ u'=>trivial) (λ u'=>trivial) (λ u'=>trivial) (λ u'=>trivial) (λ u' u' u'=>trivial) (λ u' u' u' u'=>trivial) (λ u' u' u' u' u'=>trivial) (λ u' u' u' u' u'=>trivial) (λ u' u'=>trivial) (λ u' u'=>trivial) (λ u' u' u' u' u'=>trivial) (λ u' u' u' u' u' u' u' u'=>trivial) (λ u' u'=>trivial) (λ u' u'=>trivial) (λ u' u' u' u' u' u'=>trivial) (λ u' u'=>trivial) (λ u' u' u'=>trivial) (λ u' u' u'=>trivial) (λ u' u' u' u'=>trivial) (λ u' u' u' u' u' u'=>trivial) (λ u' u' u' u' u' u'=>trivial) (λ u' u'=>trivial) h1 h2 h3 (λ o a u'=>h4 o a) (λ o i u' u'=>h5 o i) trivial (λ u' u' u' u'=>trivial) h6 h7 t
theorem iH {α:Type} {P:List α->Prop} (h0:P []) (h1:∀ a,P [a]) (h2:∀ a b r,P r->P (a::b::r)) (l:List α):P l:=by
 refine (?_:P l/\∀ a,P (a::l)).1
 induction l with
 | nil=>exact ⟨h0,h1⟩
 | cons a r ih=>exact ⟨ih.2 a,λ b=>h2 b a r ih.1⟩
section
set_option backward.match.sparseCases true
noncomputable def cf:List S:=[
 .wh (.and [.cmp (.v 0) .gt (.cI 0),.cmp (.bin .mod (.v 1) (.cI 10)) .eq (.cI 0)]) [
  .asg (.x 1) (.bin .fdiv (.v 1) (.cI 10)),
  .asg (.x 0) (.bin .sub (.v 0) (.cI 1))],
 .asg (.at_ (.v 2) 1) (.v 1),
 .asg (.at_ (.v 2) 0) (.v 0)]
noncomputable def dF:List S:=[
 .asg (.tup [.x 3,.x 4,.x 0]) (.call (.g 5) [.v 2,.v 6]),
 .ret (.call (.g 7) [.bin .add (.v 3) (.v 4),.v 0])]
noncomputable def dt:List S:=[
 .asg (.x 8) (.call (.g 9) [.v 6]),
 .ret (.call (.g 7) [.bin .mul (.at_ (.v 2) 1) (.at_ (.v 8) 1),.bin .add (.at_ (.v 2) 0) (.at_ (.v 8) 0)])]
noncomputable def bj:List S:=[
 .asg (.tup [.x 3,.x 4,.x 0]) (.call (.g 5) [.v 2,.v 6]),
 .ret (.call (.g 10) [.bin .sub (.v 3) (.v 4)])]
noncomputable def bZ:List S:=[
 .ret (.cmp (.at_ (.v 2) 0) .eq (.cI 0))]
noncomputable def aV:List S:=[
 .ret (.bin .fdiv (.at_ (.v 2) 1) (.bin .pow (.cI 10) (.at_ (.v 2) 0)))]
noncomputable def dG:List S:=[
 .ret (.tup [.at_ (.v 2) 1,.at_ (.v 2) 0])]
noncomputable def iI:List S:=[
 .if_ (.cmp (.v 11) .eq (.cI 0)) [
  .ret (.cI 0)] [],
 .ret (.ite (.cmp (.v 11) .gt (.cI 0)) (.cI 1) (.neg (.cI 1)))]
noncomputable def dh:List S:=[
 .if_ (.call (.g 12) [.v 13,.g 7]) [
  .ret (.v 13)] [],
 .if_ (.or [.call (.g 12) [.v 13,.g 14],.not (.call (.g 12) [.v 13,.g 15])]) [
  .raise 11 (.cS 16)] [],
 .ret (.call (.g 7) [.v 13,.cI 0])]
noncomputable def bx:List S:=[
 .asg (.x 17) (.call (.g 9) [.v 3]),
 .asg (.x 18) (.call (.g 9) [.v 6]),
 .asg (.x 0) (.call (.g 19) [.at_ (.v 17) 0,.at_ (.v 18) 0]),
 .ret (.tup [.bin .mul (.at_ (.v 17) 1) (.bin .pow (.cI 10) (.bin .sub (.v 0) (.at_ (.v 17) 0))),.bin .mul (.at_ (.v 18) 1) (.bin .pow (.cI 10) (.bin .sub (.v 0) (.at_ (.v 18) 0))),.v 0])]
noncomputable def fY:List S:=[
 .asg (.at_ (.v 2) 20) (.v 20)]
noncomputable def ej:List S:=[
 .asg (.at_ (.v 2) 21) (.v 21),
 .asg (.at_ (.v 2) 22) (.v 22)]
noncomputable def cO:List S:=[
 .asg (.at_ (.v 2) 11) (.v 11),
 .asg (.at_ (.v 2) 23) (.v 23)]
noncomputable def fK:List S:=[
 .if_ (.cmp (.v 13) .is (.cN)) [
  .ret (.cS 24)] [],
 .if_ (.call (.g 12) [.v 13,.g 14]) [
  .ret (.cS 25)] [],
 .if_ (.call (.g 12) [.v 13,.g 15]) [
  .ret (.cS 15)] [],
 .if_ (.call (.g 12) [.v 13,.g 7]) [
  .ret (.cS 26)] [],
 .if_ (.call (.g 12) [.v 13,.g 27]) [
  .ret (.cS 28)] [],
 .if_ (.call (.g 12) [.v 13,.g 29]) [
  .ret (.cS 30)] [],
 .if_ (.call (.g 12) [.v 13,.g 31]) [
  .ret (.cS 32)] [],
 .if_ (.call (.g 12) [.v 13,.g 33]) [
  .ret (.cS 33)] [],
 .if_ (.call (.g 12) [.v 13,.g 34]) [
  .ret (.cS 35)] [],
 .if_ (.call (.g 12) [.v 13,.g 36]) [
  .ret (.cS 37)] [],
 .raise 11 (.cS 38)]
noncomputable def fZ:List S:=[
 .ret (.cmp (.call (.g 39) [.v 13]) .in_ (.tup [.cS 15,.cS 26]))]
noncomputable def iq:List S:=[
 .asg (.at_ (.v 2) 40) (.ite (.cmp (.v 40) .is (.cN)) (.dct true []) (.v 40)),
 .asg (.at_ (.v 2) 41) (.ite (.cmp (.v 41) .is (.cN)) (.dct true []) (.v 41))]
noncomputable def cg:List S:=[
 .asg (.x 42) (.v 13),
 .for_ (.x 43) (.call (.g 44) [.g 45]) [
  .if_ (.not (.call (.g 12) [.v 42,.g 36])) [
   .ret (.v 42)] [],
  .asg (.tup [.x 23,.x 46]) (.meth (.at_ (.v 2) 40) 47 [.at_ (.v 42) 11,.tup [.neg (.cI 1),.cN]]),
  .if_ (.cmp (.v 23) .ne (.at_ (.v 42) 23)) [
   .ret (.cN)] [],
  .asg (.x 42) (.v 46)],
 .ret (.ite (.call (.g 12) [.v 42,.g 36]) (.cN) (.v 42))]
noncomputable def eW:List S:=[
 .ret (.meth (.v 2) 48 [.meth (.v 49) 47 [.v 50]])]
noncomputable def kw:List S:=[
 .asg (.sub (.at_ (.v 2) 40) (.v 11)) (.tup [.v 23,.v 13])]
noncomputable def cJ:List S:=[
 .asg (.at_ (.v 2) 51) (.call (.g 9) [.v 51]),
 .asg (.at_ (.v 2) 52) (.call (.g 9) [.v 52]),
 .asg (.at_ (.v 2) 53) (.call (.g 9) [.v 53]),
 .asg (.at_ (.v 2) 54) (.call (.g 9) [.v 54]),
 .asg (.at_ (.v 2) 55) (.call (.g 9) [.v 55]),
 .asg (.at_ (.v 2) 56) (.call (.g 9) [.v 56])]
noncomputable def dH:List S:=[
 .asg (.x 51) (.meth (.meth (.at_ (.v 2) 51) 57 [.at_ (.v 6) 51]) 58 [.meth (.at_ (.v 2) 52) 57 [.at_ (.v 6) 53]]),
 .asg (.x 52) (.meth (.meth (.at_ (.v 2) 51) 57 [.at_ (.v 6) 52]) 58 [.meth (.at_ (.v 2) 52) 57 [.at_ (.v 6) 54]]),
 .asg (.x 53) (.meth (.meth (.at_ (.v 2) 53) 57 [.at_ (.v 6) 51]) 58 [.meth (.at_ (.v 2) 54) 57 [.at_ (.v 6) 53]]),
 .asg (.x 54) (.meth (.meth (.at_ (.v 2) 53) 57 [.at_ (.v 6) 52]) 58 [.meth (.at_ (.v 2) 54) 57 [.at_ (.v 6) 54]]),
 .asg (.tup [.x 55,.x 56]) (.meth (.v 6) 59 [.at_ (.v 2) 55,.at_ (.v 2) 56]),
 .ret (.call (.g 60) [.v 51,.v 52,.v 53,.v 54,.v 55,.v 56])]
noncomputable def cP:List S:=[
 .asg (.x 61) (.meth (.meth (.meth (.at_ (.v 2) 51) 57 [.v 62]) 58 [.meth (.at_ (.v 2) 53) 57 [.v 63]]) 58 [.at_ (.v 2) 55]),
 .asg (.x 64) (.meth (.meth (.meth (.at_ (.v 2) 52) 57 [.v 62]) 58 [.meth (.at_ (.v 2) 54) 57 [.v 63]]) 58 [.at_ (.v 2) 56]),
 .ret (.tup [.v 61,.v 64])]
noncomputable def dI:List S:=[
 .ret (.lst false [.at_ (.v 2) 51,.at_ (.v 2) 52,.at_ (.v 2) 53,.at_ (.v 2) 54,.at_ (.v 2) 55,.at_ (.v 2) 56])]
noncomputable def gJ:List S:=[
 .ret (.call (.g 60) [.cI 1,.cI 0,.cI 0,.cI 1,.cI 0,.cI 0])]
noncomputable def cE:List S:=[
 .asg (.at_ (.v 2) 65) (.v 65)]
noncomputable def iJ:List S:=[
 .ret (.tup [.call (.g 9) [.v 62],.call (.g 9) [.v 63]])]
noncomputable def co:List S:=[
 .ret (.cmp (.sub (.sub (.v 66) (.neg (.cI 1))) (.cI 0)) .eq (.cS 67))]
noncomputable def bh:List S:=[
 .if_ (.cmp (.at_ (.v 68) 65) .eq (.tup [])) [
  .ret (.cN)] [],
 .asg (.x 66) (.sub (.at_ (.v 68) 65) (.neg (.cI 1))),
 .if_ (.call (.g 69) [.v 66]) [
  .ret (.sub (.sub (.v 66) (.cI 0)) (.cI 1))] [],
 .ret (.sub (.sub (.v 66) (.neg (.cI 1))) (.neg (.cI 1)))]
noncomputable def bF:List S:=[
 .asg (.x 65) (.at_ (.v 68) 65),
 .ret (.ite (.and [.cmp (.v 65) .ne (.tup []),.cmp (.call (.g 70) [.sub (.v 65) (.neg (.cI 1))]) .eq (.cI 1)]) (.slc (.v 65) (.cN) (.neg (.cI 1))) (.v 65))]
noncomputable def iK:List S:=[
 .ret (.call (.g 71) [.bin .add (.call (.g 72) [.v 68]) (.tup [.tup [.tup [.cS 73,.call (.g 74) [.v 62,.v 63]]]])])]
noncomputable def cF:List S:=[
 .asg (.x 75) (.call (.g 76) [.v 68]),
 .if_ (.cmp (.v 75) .is (.cN)) [
  .raise 12 (.cS 77)] [],
 .asg (.x 66) (.sub (.at_ (.v 68) 65) (.neg (.cI 1))),
 .if_ (.call (.g 69) [.v 66]) [
  .ret (.call (.g 71) [.bin .add (.at_ (.v 68) 65) (.tup [.tup [.tup [.cS 73,.v 75],.v 78]])])] [],
 .ret (.call (.g 71) [.bin .add (.slc (.at_ (.v 68) 65) (.cN) (.neg (.cI 1))) (.tup [.bin .add (.v 66) (.tup [.v 78])])])]
noncomputable def dZ:List S:=[
 .ret (.call (.g 79) [.v 68,.tup [.cS 80,.call (.g 74) [.v 62,.v 63]]])]
noncomputable def di:List S:=[
 .if_ (.cmp (.at_ (.v 68) 65) .eq (.tup [])) [
  .raise 12 (.cS 77)] [],
 .asg (.x 66) (.sub (.at_ (.v 68) 65) (.neg (.cI 1))),
 .if_ (.call (.g 69) [.v 66]) [
  .ret (.v 68)] [],
 .ret (.call (.g 71) [.bin .add (.slc (.at_ (.v 68) 65) (.cN) (.neg (.cI 1))) (.tup [.bin .add (.v 66) (.tup [.tup [.cS 67]])])])]
noncomputable def f0:List S:=[
 .asg (.tup [.x 81,.x 82]) (.call (.g 74) [.v 62,.v 63]),
 .asg (.x 61) (.meth (.v 81) 58 [.v 83]),
 .asg (.x 84) (.meth (.v 82) 58 [.v 85]),
 .asg (.x 68) (.call (.g 86) [.v 68,.v 81,.v 82]),
 .for_ (.x 87) (.tup [.tup [.v 61,.v 82],.tup [.v 61,.v 84],.tup [.v 81,.v 84]]) [
  .asg (.x 68) (.call (.g 88) [.v 68,.sub (.v 87) (.cI 0),.sub (.v 87) (.cI 1)])],
 .ret (.call (.g 89) [.v 68])]
noncomputable def eY:List S:=[
 .asg (.x 65) (.lst true []),
 .for_ (.x 66) (.at_ (.v 68) 65) [
  .ex (.meth (.v 65) 90 [.call (.g 91) [.comp (.bin .add (.tup [.sub (.v 78) (.cI 0)]) (.call (.g 91) [.comp (.call (.v 92) [.v 93]) (.x 93) (.slc (.v 78) (.cI 1) (.cN))])) (.x 78) (.v 66)]])],
 .ret (.call (.g 71) [.call (.g 91) [.v 65]])]
noncomputable def eo:List S:=[
 .ret (.call (.g 94) [.v 68,.lam 80 [95]])]
noncomputable def f4:List S:=[
 .ret (.at_ (.call (.g 94) [.v 68,.lam 81 []]) 65)]
noncomputable def eZ:List S:=[
 .asg (.at_ (.v 2) 95) (.v 95),
 .asg (.at_ (.v 2) 96) (.v 96),
 .asg (.at_ (.v 2) 97) (.v 97),
 .asg (.at_ (.v 2) 98) (.v 98),
 .asg (.at_ (.v 2) 99) (.v 99)]
noncomputable def aZ:List S:=[
 .asg (.x 100) (.call (.g 9) [.cI 0]),
 .if_ (.cmp (.v 101) .eq (.cS 102)) [
  .ret (.tup [.v 101,.tup [.v 100]])] [],
 .if_ (.cmp (.v 101) .eq (.cS 103)) [
  .ret (.tup [.v 101,.tup [.v 100,.v 100,.v 100]])] [],
 .if_ (.cmp (.v 101) .eq (.cS 104)) [
  .ret (.tup [.v 101,.tup [.v 100,.v 100,.v 100,.call (.g 9) [.cI 1]]])] [],
 .ret (.tup [.v 101,.tup []])]
noncomputable def dJ:List S:=[
 .asg (.x 100) (.call (.g 9) [.cI 0]),
 .asg (.x 46) (.dct true [.cS 83,.call (.g 9) [.cI 1],.cS 105,.cI 0,.cS 106,.cI 0,.cS 107,.call (.g 9) [.cI 10],.cS 108,.tup [.tup [],.v 100]]),
 .for_ (.x 109) (.tup [.cS 110,.cS 111,.cS 112,.cS 113,.cS 114]) [
  .asg (.sub (.v 46) (.v 109)) (.v 100)],
 .asg (.sub (.v 46) (.cS 115)) (.call (.g 9) [.cI 100]),
 .asg (.sub (.v 46) (.cS 116)) (.cS 117),
 .asg (.sub (.v 46) (.cS 118)) (.cI 0),
 .ret (.v 46)]
noncomputable def et:List S:=[
 .asg (.x 75) (.ite (.cmp (.v 95) .is (.cN)) (.call (.g 119) []) (.v 95)),
 .ret (.call (.g 120) [.v 75,.tup [],.call (.g 121) [.cS 102],.call (.g 121) [.cS 102],.call (.g 122) []])]
noncomputable def gB:List S:=[
 .ret (.call (.g 120) [.at_ (.v 123) 95,.at_ (.v 123) 96,.at_ (.v 123) 97,.at_ (.v 123) 98,.call (.g 33) [.at_ (.v 123) 99]])]
noncomputable def e8:List S:=[
 .if_ (.cmp (.call (.g 70) [.v 99]) .ne (.v 124)) [
  .raise 12 (.bin .add (.call (.g 125) [.v 124]) (.cS 126))] [],
 .for_ (.x 13) (.v 99) [
  .if_ (.not (.call (.g 127) [.v 13])) [
   .raise 12 (.cS 128)] []],
 .ret (.comp (.call (.g 9) [.v 13]) (.x 13) (.v 99))]
noncomputable def iL:List S:=[
 .if_ (.or [.cmp (.call (.g 70) [.v 99]) .ne (.cI 1),.not (.call (.g 12) [.sub (.v 99) (.cI 0),.g 27])]) [
  .raise 12 (.cS 129)] [],
 .ret (.at_ (.sub (.v 99) (.cI 0)) 20)]
noncomputable def f5:List S:=[
 .asg (.x 11) (.sub (.call (.g 130) [.v 99,.cI 1]) (.cI 0)),
 .if_ (.or [.not (.meth (.v 11) 131 []),.not (.cmp2 (.cI 0) .le (.meth (.v 11) 132 []) .lt (.v 124))]) [
  .raise 12 (.bin .add (.bin .add (.cS 133) (.call (.g 125) [.bin .sub (.v 124) (.cI 1)])) (.cS 134))] [],
 .ret (.meth (.v 11) 132 [])]
noncomputable def dK:List S:=[
 .asg (.x 46) (.lst true []),
 .for_ (.x 11) (.call (.g 130) [.v 99,.v 124]) [
  .if_ (.cmp (.at_ (.v 11) 1) .lt (.cI 0)) [
   .ex (.meth (.v 46) 90 [.call (.g 9) [.cI 0]])] [
   .if_ (.cmp (.meth (.v 11) 135 [.cI 1]) .gt (.cI 0)) [
    .ex (.meth (.v 46) 90 [.call (.g 9) [.cI 1]])] [
    .ex (.meth (.v 46) 90 [.v 11])]]],
 .ret (.call (.g 91) [.v 46])]
noncomputable def ba:List S:=[
 .asg (.x 136) (.dct false [.cS 102,.cI 1,.cS 103,.cI 3,.cS 104,.cI 4]),
 .ret (.meth (.v 136) 47 [.v 101,.neg (.cI 1)])]
noncomputable def bA:List S:=[
 .asg (.x 124) (.call (.g 137) [.v 101]),
 .if_ (.cmp (.v 124) .ge (.cI 0)) [
  .ret (.tup [.v 101,.call (.g 138) [.v 99,.v 124]])] [],
 .if_ (.and [.cmp (.call (.g 70) [.v 99]) .gt (.cI 0),.call (.g 12) [.sub (.v 99) (.neg (.cI 1)),.g 27]]) [
  .ret (.tup [.v 101,.bin .add (.call (.g 91) [.call (.g 130) [.slc (.v 99) (.cN) (.neg (.cI 1)),.bin .sub (.call (.g 70) [.v 99]) (.cI 1)]]) (.tup [.at_ (.sub (.v 99) (.neg (.cI 1))) 20])])] [],
 .ret (.tup [.v 101,.call (.g 91) [.call (.g 130) [.v 99,.call (.g 70) [.v 99]]]])]
noncomputable def jc:List S:=[
 .asg (.x 139) (.cmp (.meth (.v 109) 140 []) .eq (.v 109)),
 .asg (.x 141) (.meth (.v 109) 140 []),
 .asg (.x 142) (.ite (.v 139) (.at_ (.v 123) 97) (.at_ (.v 123) 98)),
 .if_ (.cmp (.v 141) .in_ (.tup [.cS 143,.cS 144,.cS 145])) [
  .asg (.x 101) (.sub (.dct false [.cS 143,.cS 102,.cS 144,.cS 103,.cS 145,.cS 104]) (.v 141)),
  .asg (.x 146) (.call (.g 147) [.v 101,.v 99])] [
  .if_ (.cmp (.v 141) .eq (.cS 148)) [
   .asg (.x 146) (.call (.g 121) [.call (.g 149) [.v 99]])] [
   .asg (.x 146) (.call (.g 147) [.sub (.v 142) (.cI 0),.v 99])]],
 .if_ (.v 139) [
  .asg (.at_ (.v 123) 97) (.v 146)] [
  .asg (.at_ (.v 123) 98) (.v 146)]]
noncomputable def gK:List S:=[
 .if_ (.not (.call (.g 12) [.v 150,.g 31])) [
  .raise 12 (.cS 151)] [],
 .asg (.x 152) (.call (.g 130) [.v 150,.call (.g 70) [.v 150]]),
 .asg (.x 75) (.sub (.call (.g 130) [.lst false [.v 153],.cI 1]) (.cI 0)),
 .if_ (.and [.cmp (.v 152) .ne (.lst false []),.or [.cmp (.call (.g 154) [.comp (.at_ (.v 155) 1) (.x 155) (.v 152)]) .lt (.cI 0),.cmp (.call (.g 19) [.comp (.at_ (.v 155) 1) (.x 155) (.v 152)]) .eq (.cI 0)]]) [
  .raise 12 (.cS 156)] [],
 .asg (.sub (.at_ (.v 123) 99) (.cS 108)) (.tup [.call (.g 91) [.v 152],.v 75])]
noncomputable def bG:List S:=[
 .if_ (.cmp (.v 109) .eq (.cS 54)) [
  .if_ (.cmp (.call (.g 70) [.v 99]) .ne (.cI 2)) [
   .raise 12 (.cS 157)] [],
  .ex (.call (.g 158) [.v 123,.sub (.v 99) (.cI 0),.sub (.v 99) (.cI 1)])] [
  .if_ (.cmp (.v 109) .eq (.cS 159)) [
   .asg (.sub (.at_ (.v 123) 99) (.cS 105)) (.call (.g 160) [.v 99,.cI 3])] [
   .if_ (.cmp (.v 109) .eq (.cS 161)) [
    .asg (.sub (.at_ (.v 123) 99) (.cS 106)) (.call (.g 160) [.v 99,.cI 3])] [
    .asg (.x 11) (.sub (.call (.g 130) [.v 99,.cI 1]) (.cI 0)),
    .if_ (.cmp (.at_ (.v 11) 1) .lt (.cI 0)) [
     .raise 12 (.cS 162)] [],
    .asg (.sub (.at_ (.v 123) 99) (.ite (.cmp (.v 109) .eq (.cS 163)) (.cS 83) (.cS 107))) (.v 11)]]]]
noncomputable def cG:List S:=[
 .asg (.x 164) (.dct false [.cS 165,.cS 163,.cS 166,.cS 159,.cS 167,.cS 161,.cS 168,.cS 169]),
 .for_ (.x 50) (.tup [.cS 165,.cS 166,.cS 167,.cS 168]) [
  .asg (.x 13) (.meth (.v 170) 47 [.v 49,.v 50]),
  .if_ (.cmp (.v 13) .isnot (.cN)) [
   .ex (.call (.g 171) [.v 123,.sub (.v 164) (.v 50),.lst false [.v 13]])] []],
 .asg (.x 172) (.meth (.v 170) 47 [.v 49,.cS 173]),
 .if_ (.cmp (.v 172) .isnot (.cN)) [
  .if_ (.or [.not (.call (.g 12) [.v 172,.g 31]),.cmp (.call (.g 70) [.v 172]) .ne (.cI 2)]) [
   .raise 12 (.cS 174)] [],
  .asg (.x 150) (.meth (.v 170) 48 [.sub (.v 172) (.cI 0)]),
  .if_ (.call (.g 12) [.v 150,.g 31]) [
   .asg (.x 150) (.comp (.meth (.v 170) 48 [.v 66]) (.x 66) (.v 150))] [],
  .ex (.call (.g 158) [.v 123,.v 150,.meth (.v 170) 48 [.sub (.v 172) (.cI 1)]])] []]
noncomputable def dL:List S:=[
 .asg (.at_ (.v 2) 170) (.v 170),
 .asg (.at_ (.v 2) 175) (.v 175),
 .asg (.at_ (.v 2) 176) (.v 176),
 .asg (.at_ (.v 2) 123) (.call (.g 177) [.v 95]),
 .asg (.at_ (.v 2) 178) (.lst true []),
 .asg (.at_ (.v 2) 132) (.cI 0),
 .asg (.at_ (.v 2) 68) (.call (.g 71) []),
 .asg (.at_ (.v 2) 179) (.cS 117),
 .asg (.at_ (.v 2) 20) (.cN),
 .asg (.at_ (.v 2) 180) (.cI 0),
 .asg (.at_ (.v 2) 181) (.lst true []),
 .asg (.at_ (.v 2) 182) (.lst true []),
 .asg (.at_ (.v 2) 96) (.lst true [])]
noncomputable def lN:List S:=[
 .ex (.meth (.at_ (.v 183) 182) 90 [.v 184]),
 .ex (.meth (.at_ (.v 183) 96) 90 [.at_ (.at_ (.v 183) 123) 96])]
noncomputable def ir:List S:=[
 .asg (.x 185) (.or [.cmp (.v 109) .in_ (.g 186),.cmp (.v 109) .in_ (.g 187),.cmp (.v 109) .in_ (.g 188)]),
 .if_ (.and [.cmp (.at_ (.at_ (.v 183) 68) 65) .ne (.tup []),.not (.v 185)]) [
  .raise 12 (.bin .add (.v 109) (.cS 189))] [],
 .if_ (.and [.cmp (.at_ (.v 183) 20) .isnot (.cN),.or [.v 185,.cmp (.v 109) .in_ (.g 190),.cmp (.v 109) .in_ (.tup [.cS 191,.cS 192,.cS 193,.cS 194])]]) [
  .raise 12 (.bin .add (.v 109) (.cS 195))] []]
noncomputable def d0:List S:=[
 .ex (.call (.g 196) [.v 183,.v 109]),
 .if_ (.cmp (.v 109) .in_ (.g 190)) [
  .ex (.call (.g 197) [.v 183,.v 109,.v 99])] [
  .if_ (.cmp (.v 109) .in_ (.g 198)) [
   .ex (.call (.g 199) [.v 183,.v 109,.v 99])] [
   .if_ (.cmp (.v 109) .in_ (.g 186)) [
    .ex (.call (.g 200) [.v 183,.v 109,.v 99])] [
    .if_ (.cmp (.v 109) .in_ (.g 187)) [
     .ex (.call (.g 201) [.v 183,.v 109])] [
     .if_ (.cmp (.v 109) .in_ (.g 188)) [
      .ex (.call (.g 202) [.v 183,.v 109])] [
      .if_ (.cmp (.v 109) .in_ (.g 203)) [
       .ex (.call (.g 204) [.at_ (.v 183) 123,.v 109,.v 99])] [
       .if_ (.cmp (.v 109) .in_ (.g 205)) [
        .ex (.call (.g 206) [.at_ (.v 183) 123,.v 109,.v 99])] [
        .if_ (.cmp (.v 109) .in_ (.g 207)) [
         .ex (.call (.g 208) [.v 183,.v 109,.v 99])] [
         .if_ (.cmp (.v 109) .in_ (.g 209)) [
          .ex (.call (.g 210) [.v 183,.v 109,.v 99])] [
          .ex (.call (.g 211) [.v 183,.v 109,.v 99])]]]]]]]]]]
noncomputable def lO:List S:=[
 .if_ (.cmp (.v 109) .eq (.cS 194)) [
  .asg (.at_ (.v 183) 20) (.tup [.call (.g 119) [],.call (.g 119) []])] [
  .if_ (.cmp (.v 109) .eq (.cS 212)) [
   .if_ (.cmp (.at_ (.v 183) 20) .is (.cN)) [
    .raise 12 (.cS 213)] [],
   .asg (.at_ (.v 183) 20) (.cN)] [
   .if_ (.cmp (.v 109) .eq (.cS 191)) [
    .ex (.call (.g 214) [.v 183,.call (.g 149) [.v 99]])] [
    .if_ (.cmp (.v 109) .eq (.cS 192)) [
     .ex (.call (.g 215) [.v 183,.tup [.cS 216,.cS 117,.at_ (.at_ (.v 183) 123) 95]])] [
     .if_ (.cmp (.v 109) .eq (.cS 217)) [
      .asg (.at_ (.v 183) 180) (.bin .add (.at_ (.v 183) 180) (.cI 1))] [
      .if_ (.cmp (.v 109) .eq (.cS 218)) [
       .if_ (.cmp (.at_ (.v 183) 180) .eq (.cI 0)) [
        .raise 12 (.cS 219)] [],
       .asg (.at_ (.v 183) 180) (.bin .sub (.at_ (.v 183) 180) (.cI 1))] [
       .if_ (.and [.cmp (.v 109) .notin (.g 220),.cmp (.v 109) .notin (.tup [.cS 193,.cS 221,.cS 222]),.cmp (.at_ (.v 183) 180) .eq (.cI 0)]) [
        .raise 12 (.bin .add (.cS 223) (.v 109))] []]]]]]]]
noncomputable def lP:List S:=[
 .if_ (.cmp (.v 109) .eq (.cS 224)) [
  .ex (.meth (.at_ (.v 183) 178) 90 [.call (.g 225) [.at_ (.v 183) 123]])] [
  .if_ (.cmp (.v 109) .eq (.cS 226)) [
   .if_ (.cmp (.call (.g 70) [.at_ (.v 183) 178]) .le (.at_ (.v 183) 132)) [
    .raise 12 (.cS 227)] [],
   .asg (.at_ (.v 183) 123) (.meth (.at_ (.v 183) 178) 228 [])] [
   .asg (.at_ (.at_ (.v 183) 123) 95) (.meth (.call (.g 229) [.v 99]) 57 [.at_ (.at_ (.v 183) 123) 95])]]]
noncomputable def ky:List S:=[
 .asg (.tup [.x 51,.x 52,.x 53,.x 54,.x 55,.x 56]) (.call (.g 130) [.v 99,.cI 6]),
 .ret (.call (.g 60) [.v 51,.v 52,.v 53,.v 54,.v 55,.v 56])]
noncomputable def sG:List S:=[
 .asg (.x 46) (.meth (.at_ (.v 183) 170) 47 [.at_ (.v 183) 175,.v 109]),
 .if_ (.not (.call (.g 12) [.v 46,.g 33])) [
  .ret (.cN)] [],
 .ret (.meth (.v 46) 47 [.v 28])]
noncomputable def n0:List S:=[
 .if_ (.cmp (.v 109) .eq (.cS 230)) [
  .asg (.x 49) (.meth (.at_ (.v 183) 170) 48 [.call (.g 231) [.v 183,.cS 232,.call (.g 149) [.v 99]]]),
  .if_ (.not (.call (.g 12) [.v 49,.g 33])) [
   .raise 12 (.cS 233)] [],
  .ex (.call (.g 234) [.at_ (.v 183) 170,.at_ (.v 183) 123,.v 49])] [
  .if_ (.cmp (.v 109) .eq (.cS 235)) [
   .ex (.call (.g 149) [.v 99])] [
   .if_ (.cmp (.v 109) .eq (.cS 236)) [
    .ex (.call (.g 130) [.v 99,.cI 1])] [
    .ex (.call (.g 171) [.at_ (.v 183) 123,.v 109,.v 99])]]]]
noncomputable def fL:List S:=[
 .if_ (.cmp (.at_ (.v 183) 179) .ne (.cS 117)) [
  .raise 12 (.bin .add (.v 109) (.cS 237))] [],
 .asg (.x 136) (.dct false [.cS 238,.cI 2,.cS 239,.cI 2,.cS 53,.cI 6,.cS 240,.cI 4,.cS 63,.cI 4,.cS 241,.cI 0,.cS 242,.cI 4]),
 .asg (.c 243) (.call (.g 130) [.v 99,.sub (.v 136) (.v 109)]),
 .asg (.c 95) (.at_ (.at_ (.v 183) 123) 95),
 .if_ (.cmp (.v 109) .eq (.cS 242)) [
  .asg (.x 141) (.call (.g 244) [.call (.g 71) [],.sub (.v 243) (.cI 0),.sub (.v 243) (.cI 1),.sub (.v 243) (.cI 2),.sub (.v 243) (.cI 3)]),
  .asg (.at_ (.v 183) 68) (.call (.g 71) [.bin .add (.call (.g 72) [.at_ (.v 183) 68]) (.at_ (.call (.g 245) [.v 141,.v 95]) 65)]),
  .ret (.cN)] [],
 .asg (.x 246) (.comp (.meth (.v 95) 59 [.sub (.v 243) (.v 247),.sub (.v 243) (.bin .add (.v 247) (.cI 1))]) (.x 247) (.call (.g 44) [.cI 0,.call (.g 70) [.v 243],.cI 2])),
 .if_ (.cmp (.v 109) .eq (.cS 238)) [
  .asg (.at_ (.v 183) 68) (.call (.g 86) [.at_ (.v 183) 68,.sub (.sub (.v 246) (.cI 0)) (.cI 0),.sub (.sub (.v 246) (.cI 0)) (.cI 1)])] [
  .if_ (.cmp (.v 109) .eq (.cS 239)) [
   .asg (.at_ (.v 183) 68) (.call (.g 88) [.at_ (.v 183) 68,.sub (.sub (.v 246) (.cI 0)) (.cI 0),.sub (.sub (.v 246) (.cI 0)) (.cI 1)])] [
   .if_ (.cmp (.v 109) .eq (.cS 53)) [
    .asg (.at_ (.v 183) 68) (.call (.g 248) [.at_ (.v 183) 68,.sub (.v 246) (.cI 0),.sub (.v 246) (.cI 1),.sub (.v 246) (.cI 2)])] [
    .if_ (.cmp (.v 109) .eq (.cS 240)) [
     .asg (.at_ (.v 183) 68) (.call (.g 249) [.at_ (.v 183) 68,.sub (.v 246) (.cI 0),.sub (.v 246) (.cI 1)])] [
     .if_ (.cmp (.v 109) .eq (.cS 63)) [
      .asg (.at_ (.v 183) 68) (.call (.g 250) [.at_ (.v 183) 68,.sub (.v 246) (.cI 0),.sub (.v 246) (.cI 1)])] [
      .asg (.at_ (.v 183) 68) (.call (.g 89) [.at_ (.v 183) 68])]]]]]]
noncomputable def n8:List S:=[
 .if_ (.or [.cmp (.at_ (.at_ (.v 183) 68) 65) .eq (.tup []),.cmp (.at_ (.v 183) 179) .ne (.cS 117)]) [
  .raise 12 (.bin .add (.v 109) (.cS 251))] [],
 .asg (.at_ (.v 183) 179) (.ite (.cmp (.v 109) .eq (.cS 252)) (.cS 253) (.cS 254))]
noncomputable def gL:List S:=[
 .if_ (.cmp (.at_ (.at_ (.v 183) 68) 65) .eq (.tup [])) [
  .raise 12 (.bin .add (.v 109) (.cS 255))] [],
 .asg (.x 68) (.ite (.cmp (.v 109) .in_ (.g 256)) (.call (.g 89) [.at_ (.v 183) 68]) (.at_ (.v 183) 68)),
 .asg (.x 123) (.at_ (.v 183) 123),
 .if_ (.cmp (.v 109) .in_ (.g 257)) [
  .ex (.call (.g 215) [.v 183,.tup [.cS 97,.sub (.g 257) (.v 109),.v 68,.at_ (.v 123) 97]])] [],
 .if_ (.cmp (.v 109) .in_ (.g 258)) [
  .ex (.call (.g 215) [.v 183,.tup [.cS 98,.v 68,.at_ (.v 123) 98,.sub (.at_ (.v 123) 99) (.cS 83)]])] [],
 .if_ (.cmp (.at_ (.v 183) 179) .ne (.cS 117)) [
  .ex (.call (.g 259) [.v 183,.at_ (.v 183) 179,.v 68])] [],
 .asg (.at_ (.v 183) 68) (.call (.g 71) []),
 .asg (.at_ (.v 183) 179) (.cS 117)]
noncomputable def kA:List S:=[
 .asg (.x 260) (.call (.g 231) [.v 183,.cS 261,.v 28]),
 .asg (.x 35) (.meth (.at_ (.v 183) 170) 48 [.v 260]),
 .if_ (.not (.call (.g 12) [.v 35,.g 34])) [
  .raise 12 (.bin .add (.cS 262) (.v 28))] [],
 .asg (.x 263) (.meth (.at_ (.v 183) 170) 47 [.at_ (.v 35) 49,.cS 264]),
 .asg (.x 109) (.ite (.call (.g 12) [.v 263,.g 27]) (.at_ (.v 263) 20) (.cS 117)),
 .if_ (.cmp (.v 109) .eq (.cS 265)) [
  .ex (.call (.g 215) [.v 183,.tup [.cS 216,.v 28,.at_ (.at_ (.v 183) 123) 95]])] [
  .if_ (.cmp (.v 109) .eq (.cS 266)) [
   .ex (.call (.g 267) [.v 183,.v 260,.v 35])] [
   .raise 12 (.cS 268)]]]
noncomputable def ez:List S:=[
 .ret (.bin .add (.tup [.sub (.v 146) (.cI 0)]) (.call (.g 91) [.comp (.ite (.call (.g 12) [.v 66,.g 125]) (.v 66) (.meth (.v 66) 269 [])) (.x 66) (.sub (.v 146) (.cI 1))]))]
noncomputable def f6:List S:=[
 .if_ (.cmp (.sub (.v 184) (.cI 0)) .eq (.cS 270)) [
  .ret (.tup [.cS 270,.sub (.v 184) (.cI 1),.call (.g 271) [.sub (.v 184) (.cI 2)]])] [],
 .if_ (.cmp (.sub (.v 184) (.cI 0)) .eq (.cS 97)) [
  .ret (.tup [.cS 97,.sub (.v 184) (.cI 1),.call (.g 271) [.sub (.v 184) (.cI 2)],.call (.g 272) [.sub (.v 184) (.cI 3)]])] [],
 .if_ (.cmp (.sub (.v 184) (.cI 0)) .eq (.cS 98)) [
  .ret (.tup [.cS 98,.call (.g 271) [.sub (.v 184) (.cI 1)],.call (.g 272) [.sub (.v 184) (.cI 2)],.meth (.sub (.v 184) (.cI 3)) 269 []])] [],
 .if_ (.cmp (.sub (.v 184) (.cI 0)) .eq (.cS 20)) [
  .ret (.tup [.cS 20,.sub (.v 184) (.cI 1),.meth (.sub (.v 184) (.cI 2)) 269 [],.sub (.v 184) (.cI 3),.meth (.sub (.v 184) (.cI 4)) 269 []])] [],
 .ret (.tup [.cS 216,.sub (.v 184) (.cI 1),.meth (.sub (.v 184) (.cI 2)) 269 []])]
noncomputable def iM:List S:=[
 .asg (.x 273) (.comp (.call (.g 15) [.v 274]) (.x 274) (.slc (.v 275) (.cN) (.cI 40))),
 .asg (.x 276) (.cI 0),
 .if_ (.and [.v 273,.cmp (.call (.g 277) [.sub (.v 273) (.cI 0)]) .ge (.bin .pow (.cI 10) (.cI 15))]) [
  .asg (.x 276) (.bin .mod (.bin .fdiv (.call (.g 277) [.sub (.v 273) (.cI 0)]) (.cI 2)) (.bin .pow (.cI 10) (.cI 200)))] [],
 .asg (.x 123) (.cI 7),
 .for_ (.x 274) (.v 273) [
  .asg (.x 123) (.bin .mod (.bin .add (.bin .add (.bin .mul (.v 123) (.cI 48271)) (.bin .mod (.v 274) (.cI 2147483647))) (.cI 11)) (.cI 2147483647))],
 .ret (.lst true [.v 273,.v 276,.v 123,.cI 0])]
noncomputable def gM:List S:=[
 .asg (.x 278) (.sub (.v 279) (.cI 3)),
 .asg (.sub (.v 279) (.cI 3)) (.bin .add (.v 278) (.cI 1)),
 .if_ (.cmp (.sub (.v 279) (.cI 1)) .gt (.cI 0)) [
  .asg (.x 280) (.bin .mod (.sub (.v 279) (.cI 1)) (.v 281)),
  .asg (.sub (.v 279) (.cI 1)) (.bin .fdiv (.sub (.v 279) (.cI 1)) (.v 281)),
  .ret (.v 280)] [],
 .asg (.sub (.v 279) (.cI 2)) (.bin .mod (.bin .add (.bin .add (.bin .mul (.sub (.v 279) (.cI 2)) (.cI 16807)) (.bin .mul (.v 278) (.v 278))) (.cI 5)) (.cI 2147483647)),
 .if_ (.cmp (.v 278) .lt (.call (.g 70) [.sub (.v 279) (.cI 0)])) [
  .ret (.bin .mod (.sub (.sub (.v 279) (.cI 0)) (.v 278)) (.v 281))] [],
 .ret (.bin .mod (.bin .fdiv (.sub (.v 279) (.cI 2)) (.cI 5)) (.v 281))]
noncomputable def gN:List S:=[
 .ret (.ite (.cmp (.bin .mod (.v 282) (.cI 10)) .eq (.cI 0)) (.tup [.bin .fdiv (.v 282) (.cI 10),.cI 0]) (.tup [.v 282,.cI 1]))]
noncomputable def kB:List S:=[
 .ret (.dct false [.cS 56,.cS 254,.cS 283,.cS 254,.cS 284,.cS 254,.cS 52,.cS 254,.cS 285,.cS 253,.cS 286,.cS 253,.cS 287,.cS 253])]
noncomputable def jd:List S:=[
 .ret (.dct false [.cS 143,.cS 102,.cS 144,.cS 103,.cS 145,.cS 104])]
noncomputable def kC:List S:=[
 .asg (.x 170) (.call (.g 288) []),
 .ex (.meth (.v 170) 289 [.cI 3,.cI 0,.dct false [.cS 165,.cI 7,.cS 166,.cI 1,.cS 290,.cI 5]]),
 .ex (.meth (.v 170) 289 [.cI 4,.cI 0,.dct false [.cS 167,.cI 2,.cS 168,.call (.g 7) [.cI 35,.cI 1],.cS 173,.lst false [.lst false [.call (.g 36) [.cI 6,.cI 0],.cI 1],.cI 2]]]),
 .ex (.meth (.v 170) 289 [.cI 5,.cI 0,.lst false [.cI 1,.call (.g 7) [.cI 5,.cI 1]]]),
 .asg (.x 291) (.dct false [.cS 292,.call (.g 36) [.cI 3,.cI 0],.cS 284,.dct false [.cS 173,.lst false [.call (.g 36) [.cI 5,.cI 0],.cI 3],.cS 165,.call (.g 36) [.cI 6,.cI 0]],.cS 293,.call (.g 36) [.cI 4,.cI 0]]),
 .ex (.meth (.v 170) 289 [.cI 6,.cI 0,.call (.g 7) [.cI 25,.cI 1]]),
 .ret (.tup [.v 170,.dct false [.cS 232,.v 291]])]
noncomputable def f7:List S:=[
 .asg (.x 100) (.tup [.cI 0,.cI 0]),
 .asg (.x 294) (.tup [.cS 102,.v 100]),
 .ret (.dct true [.cS 95,.lst false [.cI 1,.cI 0,.cI 0,.cI 1,.cI 0,.cI 0],.cS 97,.v 294,.cS 98,.v 294,.cS 83,.tup [.cI 1,.cI 0],.cS 105,.cI 0,.cS 106,.cI 0,.cS 107,.tup [.cI 10,.cI 0],.cS 108,.tup [.tup [],.v 100]])]
noncomputable def dj:List S:=[
 .asg (.x 50) (.ite (.cmp (.v 109) .eq (.meth (.v 109) 140 [])) (.cS 97) (.cS 98)),
 .asg (.x 141) (.meth (.v 109) 140 []),
 .if_ (.cmp (.v 141) .eq (.cS 148)) [
  .asg (.x 101) (.sub (.lst false [.cS 102,.cS 103,.cS 104,.cS 295]) (.call (.g 296) [.v 279,.cI 4])),
  .asg (.x 17) (.sub (.dct false [.cS 102,.lst false [.cI 0],.cS 103,.lst false [.cI 0,.cI 0,.cI 0],.cS 104,.lst false [.cI 0,.cI 0,.cI 0,.cI 1],.cS 295,.lst false []]) (.v 101)),
  .asg (.sub (.v 297) (.v 50)) (.bin .add (.tup [.v 101]) (.call (.g 91) [.comp (.tup [.v 66,.cI 0]) (.x 66) (.v 17)])),
  .ret (.lst false [.call (.g 27) [.v 101]])] [],
 .asg (.x 101) (.meth (.call (.g 298) []) 47 [.v 141,.sub (.sub (.v 297) (.v 50)) (.cI 0)]),
 .asg (.x 124) (.sub (.dct false [.cS 102,.cI 1,.cS 103,.cI 3,.cS 104,.cI 4,.cS 295,.cI 2]) (.v 101)),
 .asg (.x 282) (.comp (.bin .sub (.call (.g 296) [.v 279,.cI 16]) (.cI 3)) (.x 66) (.call (.g 44) [.v 124])),
 .asg (.x 99) (.comp (.call (.g 7) [.v 66,.cI 1]) (.x 66) (.v 282)),
 .if_ (.cmp (.v 101) .eq (.cS 295)) [
  .asg (.sub (.v 297) (.v 50)) (.bin .add (.bin .add (.tup [.v 101]) (.call (.g 91) [.comp (.call (.g 299) [.v 66]) (.x 66) (.v 282)])) (.tup [.cS 300])),
  .ret (.bin .add (.v 99) (.lst false [.call (.g 27) [.cS 300]]))] [],
 .asg (.sub (.v 297) (.v 50)) (.bin .add (.tup [.v 101]) (.call (.g 91) [.comp (.call (.g 299) [.call (.g 154) [.cI 10,.call (.g 19) [.cI 0,.v 66]]]) (.x 66) (.v 282)])),
 .ret (.v 99)]
noncomputable def n9:List S:=[
 .if_ (.or [.cmp (.v 109) .eq (.cS 159),.cmp (.v 109) .eq (.cS 161)]) [
  .asg (.x 11) (.call (.g 296) [.v 279,.cI 3]),
  .asg (.sub (.v 297) (.ite (.cmp (.v 109) .eq (.cS 159)) (.cS 105) (.cS 106))) (.v 11),
  .ret (.lst false [.v 11])] [],
 .if_ (.cmp (.v 109) .eq (.cS 54)) [
  .asg (.x 152) (.comp (.bin .add (.cI 1) (.call (.g 296) [.v 279,.cI 30])) (.x 155) (.call (.g 44) [.call (.g 296) [.v 279,.cI 3]])),
  .asg (.x 153) (.call (.g 296) [.v 279,.cI 50]),
  .asg (.sub (.v 297) (.cS 108)) (.tup [.call (.g 91) [.comp (.call (.g 299) [.v 155]) (.x 155) (.v 152)],.call (.g 299) [.v 153]]),
  .ret (.lst false [.comp (.call (.g 7) [.v 155,.cI 1]) (.x 155) (.v 152),.call (.g 7) [.v 153,.cI 1]])] [],
 .if_ (.cmp (.v 109) .eq (.cS 230)) [
  .asg (.x 28) (.sub (.cS 301) (.call (.g 296) [.v 279,.cI 3])),
  .if_ (.cmp (.v 28) .eq (.cS 292)) [
   .asg (.tup [.sub (.v 297) (.cS 83),.sub (.v 297) (.cS 105)]) (.tup [.tup [.cI 7,.cI 0],.cI 1])] [
   .if_ (.cmp (.v 28) .eq (.cS 284)) [
    .asg (.tup [.sub (.v 297) (.cS 83),.sub (.v 297) (.cS 108)]) (.tup [.tup [.cI 25,.cI 1],.tup [.tup [.tup [.cI 1,.cI 0],.tup [.cI 5,.cI 1]],.tup [.cI 3,.cI 0]]])] [
    .asg (.tup [.sub (.v 297) (.cS 106),.sub (.v 297) (.cS 107),.sub (.v 297) (.cS 108)]) (.tup [.cI 2,.tup [.cI 35,.cI 1],.tup [.tup [.tup [.cI 25,.cI 1],.tup [.cI 1,.cI 0]],.tup [.cI 2,.cI 0]]])]],
  .ret (.lst false [.call (.g 27) [.v 28]])] [],
 .asg (.x 282) (.call (.g 296) [.v 279,.cI 90]),
 .asg (.sub (.v 297) (.ite (.cmp (.v 109) .eq (.cS 163)) (.cS 83) (.cS 107))) (.call (.g 299) [.v 282]),
 .ret (.lst false [.call (.g 7) [.v 282,.cI 1]])]
noncomputable def oa:List S:=[
 .asg (.x 302) (.tup [.tup [.cS 226,.lst false []],.tup [.cS 163,.lst false [.call (.g 7) [.neg (.cI 1),.cI 1]]],.tup [.cS 163,.lst false [.cB true]],.tup [.cS 159,.lst false [.cI 3]],.tup [.cS 161,.lst false [.call (.g 7) [.cI 5,.cI 1]]],.tup [.cS 54,.lst false [.lst false [.cI 1,.neg (.cI 1)],.cI 0]],.tup [.cS 54,.lst false [.lst false [.cI 0,.cI 0],.cI 0]],.tup [.cS 54,.lst false [.lst false [.cI 1]]],.tup [.cS 54,.lst false [.cI 1,.cI 0]],.tup [.cS 144,.lst false [.cI 0,.cI 0]],.tup [.cS 143,.lst false [.call (.g 27) [.cS 51]]],.tup [.cS 303,.lst false [.call (.g 29) [.cY]]],.tup [.cS 148,.lst false [.cI 1]],.tup [.cS 230,.lst false [.call (.g 27) [.cS 304]]],.tup [.cS 305,.lst false [.cI 1,.cI 0,.cI 0,.cI 1,.cI 0]],.tup [.cS 242,.lst false [.cI 1,.cI 2,.cI 3]],.tup [.cS 169,.lst false []],.tup [.cS 306,.lst false []],.tup [.cS 56,.lst false []],.tup [.cS 307,.lst false []],.tup [.cS 239,.lst false [.cI 1,.cI 1]],.tup [.cS 241,.lst false []],.tup [.cS 218,.lst false []],.tup [.cS 212,.lst false []],.tup [.cS 191,.lst false [.call (.g 27) [.cS 304]]],.tup [.cS 235,.lst false [.cI 1]],.tup [.cS 236,.lst false []]]),
 .ret (.sub (.v 302) (.call (.g 296) [.v 279,.call (.g 70) [.v 302]]))]
noncomputable def dM:List S:=[
 .asg (.x 99) (.at_ (.v 123) 99),
 .asg (.x 243) (.comp (.meth (.v 11) 269 []) (.x 11) (.meth (.at_ (.v 123) 95) 65 [])),
 .if_ (.cmp (.v 243) .ne (.comp (.tup [.v 11,.cI 0]) (.x 11) (.sub (.v 297) (.cS 95)))) [
  .ret (.cB false)] [],
 .for_ (.tup [.x 308,.x 50]) (.tup [.tup [.at_ (.v 123) 97,.cS 97],.tup [.at_ (.v 123) 98,.cS 98]]) [
  .if_ (.cmp (.bin .add (.tup [.sub (.v 308) (.cI 0)]) (.call (.g 91) [.comp (.ite (.call (.g 12) [.v 66,.g 125]) (.v 66) (.meth (.v 66) 269 [])) (.x 66) (.sub (.v 308) (.cI 1))])) .ne (.sub (.v 297) (.v 50))) [
   .ret (.cB false)] []],
 .asg (.tup [.x 150,.x 153]) (.sub (.v 99) (.cS 108)),
 .if_ (.cmp (.tup [.call (.g 91) [.comp (.meth (.v 155) 269 []) (.x 155) (.v 150)],.meth (.v 153) 269 []]) .ne (.sub (.v 297) (.cS 108))) [
  .ret (.cB false)] [],
 .ret (.cmp (.tup [.meth (.sub (.v 99) (.cS 83)) 269 [],.sub (.v 99) (.cS 105),.sub (.v 99) (.cS 106),.meth (.sub (.v 99) (.cS 107)) 269 []]) .eq (.tup [.sub (.v 297) (.cS 83),.sub (.v 297) (.cS 105),.sub (.v 297) (.cS 106),.sub (.v 297) (.cS 107)]))]
noncomputable def f8:List S:=[
 .asg (.tup [.c 51,.c 52,.c 53,.c 54,.c 55,.c 56]) (.sub (.v 297) (.cS 95)),
 .asg (.x 309) (.lst false [.tup [.v 62,.v 63],.tup [.bin .add (.v 62) (.v 163),.v 63],.tup [.bin .add (.v 62) (.v 163),.bin .add (.v 63) (.v 241)],.tup [.v 62,.bin .add (.v 63) (.v 241)]]),
 .asg (.x 310) (.comp (.tup [.tup [.bin .add (.bin .add (.bin .mul (.v 51) (.v 93)) (.bin .mul (.v 53) (.v 224))) (.v 55),.cI 0],.tup [.bin .add (.bin .add (.bin .mul (.v 52) (.v 93)) (.bin .mul (.v 54) (.v 224))) (.v 56),.cI 0]]) (.tup [.x 93,.x 224]) (.v 309)),
 .asg (.x 68) (.tup [.tup [.tup [.cS 73,.sub (.v 310) (.cI 0)],.tup [.cS 80,.sub (.v 310) (.cI 1)],.tup [.cS 80,.sub (.v 310) (.cI 2)],.tup [.cS 80,.sub (.v 310) (.cI 3)],.tup [.cS 67]]]),
 .asg (.x 46) (.lst true []),
 .if_ (.cmp (.v 109) .in_ (.call (.g 311) [])) [
  .ex (.meth (.v 46) 90 [.tup [.cS 97,.sub (.call (.g 311) []) (.v 109),.v 68,.sub (.v 297) (.cS 97)]])] [],
 .if_ (.cmp (.v 109) .in_ (.tup [.cS 312,.cS 313,.cS 284,.cS 286,.cS 52,.cS 287])) [
  .ex (.meth (.v 46) 90 [.tup [.cS 98,.v 68,.sub (.v 297) (.cS 98),.sub (.v 297) (.cS 83)]])] [],
 .ret (.v 46)]
noncomputable def jS:List S:=[
 .asg (.c 279) (.call (.g 314) [.v 275]),
 .asg (.tup [.x 170,.x 175]) (.call (.g 315) []),
 .asg (.x 183) (.call (.g 316) [.v 170,.v 175]),
 .asg (.x 297) (.call (.g 317) []),
 .asg (.x 178) (.lst true []),
 .asg (.x 318) (.lst true []),
 .for_ (.x 92) (.call (.g 44) [.bin .add (.cI 1) (.call (.g 296) [.v 279,.cI 16])]) [
  .asg (.x 263) (.call (.g 296) [.v 279,.cI 8]),
  .if_ (.cmp (.v 263) .eq (.cI 0)) [
   .ex (.call (.g 319) [.v 183,.cS 224,.lst false []]),
   .ex (.meth (.v 178) 90 [.call (.g 33) [.v 297]])] [
   .if_ (.and [.cmp (.v 263) .eq (.cI 1),.cmp (.v 178) .ne (.lst false [])]) [
    .ex (.call (.g 319) [.v 183,.cS 226,.lst false []]),
    .asg (.x 297) (.meth (.v 178) 228 [])] [
    .if_ (.cmp (.v 263) .eq (.cI 2)) [
     .asg (.x 243) (.comp (.bin .sub (.call (.g 296) [.v 279,.cI 5]) (.cI 1)) (.x 278) (.call (.g 44) [.cI 6])),
     .asg (.tup [.x 51,.x 52,.x 53,.x 54,.x 55,.x 56]) (.v 243),
     .asg (.tup [.x 145,.x 239,.x 238,.x 320,.x 321,.x 93]) (.sub (.v 297) (.cS 95)),
     .asg (.sub (.v 297) (.cS 95)) (.lst false [.bin .add (.bin .mul (.v 51) (.v 145)) (.bin .mul (.v 52) (.v 238)),.bin .add (.bin .mul (.v 51) (.v 239)) (.bin .mul (.v 52) (.v 320)),.bin .add (.bin .mul (.v 53) (.v 145)) (.bin .mul (.v 54) (.v 238)),.bin .add (.bin .mul (.v 53) (.v 239)) (.bin .mul (.v 54) (.v 320)),.bin .add (.bin .add (.bin .mul (.v 55) (.v 145)) (.bin .mul (.v 56) (.v 238))) (.v 321),.bin .add (.bin .add (.bin .mul (.v 55) (.v 239)) (.bin .mul (.v 56) (.v 320))) (.v 93)]),
     .ex (.call (.g 319) [.v 183,.cS 305,.v 243])] [
     .if_ (.cmp (.v 263) .eq (.cI 3)) [
      .asg (.x 109) (.sub (.tup [.cS 143,.cS 322,.cS 144,.cS 323,.cS 145,.cS 324,.cS 148,.cS 325,.cS 303,.cS 326,.cS 327,.cS 328]) (.call (.g 296) [.v 279,.cI 12])),
      .ex (.call (.g 319) [.v 183,.v 109,.call (.g 329) [.v 279,.v 297,.v 109]])] [
      .if_ (.cmp (.v 263) .eq (.cI 4)) [
       .asg (.x 109) (.sub (.tup [.cS 163,.cS 159,.cS 161,.cS 169,.cS 54,.cS 230]) (.call (.g 296) [.v 279,.cI 6])),
       .ex (.call (.g 319) [.v 183,.v 109,.call (.g 330) [.v 279,.v 297,.v 109]])] [
       .if_ (.cmp (.v 263) .eq (.cI 5)) [
        .asg (.tup [.x 109,.x 99]) (.call (.g 331) [.v 279]),
        .if_ (.or [.cmp (.v 109) .ne (.cS 226),.cmp (.v 178) .eq (.lst false [])]) [
         .asg (.x 332) (.cB true),
         .try_ [
          .ex (.call (.g 319) [.v 183,.v 109,.v 99])] 12 [
          .asg (.x 332) (.cB false)],
         .if_ (.v 332) [
          .ret (.cB false)] []] []] [
        .asg (.tup [.x 62,.x 63,.x 163,.x 241]) (.comp (.bin .sub (.call (.g 296) [.v 279,.cI 9]) (.cI 2)) (.x 278) (.call (.g 44) [.cI 4])),
        .asg (.x 109) (.sub (.g 333) (.call (.g 296) [.v 279,.cI 10])),
        .if_ (.cmp (.call (.g 296) [.v 279,.cI 2]) .eq (.cI 1)) [
         .ex (.call (.g 319) [.v 183,.cS 238,.lst false [.cI 7,.cI 7]])] [],
        .ex (.call (.g 319) [.v 183,.cS 242,.lst false [.v 62,.v 63,.v 163,.v 241]]),
        .ex (.call (.g 319) [.v 183,.v 109,.lst false []]),
        .ex (.meth (.v 318) 334 [.call (.g 335) [.v 297,.v 109,.v 62,.v 63,.v 163,.v 241]])]]]]]],
  .if_ (.not (.call (.g 336) [.at_ (.v 183) 123,.v 297])) [
   .ret (.cB false)] []],
 .ret (.and [.cmp (.comp (.call (.g 337) [.v 184]) (.x 184) (.at_ (.v 183) 182)) .eq (.v 318),.cmp (.call (.g 70) [.at_ (.v 183) 96]) .eq (.call (.g 70) [.v 318])])]
noncomputable def bv:List S:=[.ret (.meth (.v 95) 59 [.sub (.v 93) (.cI 0),.sub (.v 93) (.cI 1)])]
noncomputable def bH:List S:=[.ret (.tup [.meth (.sub (.v 93) (.cI 0)) 269 [],.meth (.sub (.v 93) (.cI 1)) 269 []])]
noncomputable def zY:List FnI:=[
 ⟨[2,1,0],[],cf,false⟩,
 ⟨[2,6],[],dF,false⟩,
 ⟨[2,6],[],dt,false⟩,
 ⟨[2,6],[],bj,false⟩,
 ⟨[2],[],bZ,false⟩,
 ⟨[2],[],aV,false⟩,
 ⟨[2],[],dG,false⟩,
 ⟨[11],[],iI,false⟩,
 ⟨[13],[],dh,false⟩,
 ⟨[3,6],[],bx,false⟩,
 ⟨[2,20],[],fY,false⟩,
 ⟨[2,21,22],[.bool false],ej,false⟩,
 ⟨[2,11,23],[],cO,false⟩,
 ⟨[13],[],fK,false⟩,
 ⟨[13],[],fZ,false⟩,
 ⟨[2,40,41],[.none,.none],iq,false⟩,
 ⟨[2,13],[],cg,false⟩,
 ⟨[2,49,50],[],eW,false⟩,
 ⟨[2,11,23,13],[],kw,false⟩,
 ⟨[2,51,52,53,54,55,56],[],cJ,false⟩,
 ⟨[2,6],[],dH,false⟩,
 ⟨[2,62,63],[],cP,false⟩,
 ⟨[2],[],dI,false⟩,
 ⟨[],[],gJ,false⟩,
 ⟨[2,65],[.tup []],cE,false⟩,
 ⟨[62,63],[],iJ,false⟩,
 ⟨[66],[],co,false⟩,
 ⟨[68],[],bh,false⟩,
 ⟨[68],[],bF,false⟩,
 ⟨[68,62,63],[],iK,false⟩,
 ⟨[68,78],[],cF,false⟩,
 ⟨[68,62,63],[],dZ,false⟩,
 ⟨[68],[],di,false⟩,
 ⟨[68,62,63,83,85],[],f0,false⟩,
 ⟨[68,92],[],eY,true⟩,
 ⟨[68,95],[],eo,false⟩,
 ⟨[68],[],f4,false⟩,
 ⟨[2,95,96,97,98,99],[],eZ,false⟩,
 ⟨[101],[],aZ,false⟩,
 ⟨[],[],dJ,false⟩,
 ⟨[95],[.none],et,false⟩,
 ⟨[123],[],gB,false⟩,
 ⟨[99,124],[],e8,false⟩,
 ⟨[99],[],iL,false⟩,
 ⟨[99,124],[],f5,false⟩,
 ⟨[99,124],[],dK,true⟩,
 ⟨[101],[],ba,false⟩,
 ⟨[101,99],[],bA,false⟩,
 ⟨[123,109,99],[],jc,false⟩,
 ⟨[123,150,153],[],gK,false⟩,
 ⟨[123,109,99],[],bG,false⟩,
 ⟨[170,123,49],[],cG,false⟩,
 ⟨[2,170,175,176,95],[.none,.none],dL,false⟩,
 ⟨[183,184],[],lN,false⟩,
 ⟨[183,109],[],ir,false⟩,
 ⟨[183,109,99],[],d0,false⟩,
 ⟨[183,109,99],[],lO,false⟩,
 ⟨[183,109,99],[],lP,false⟩,
 ⟨[99],[],ky,false⟩,
 ⟨[183,109,28],[],sG,false⟩,
 ⟨[183,109,99],[],n0,false⟩,
 ⟨[183,109,99],[],fL,false⟩,
 ⟨[183,109],[],n8,false⟩,
 ⟨[183,109],[],gL,false⟩,
 ⟨[183,28],[],kA,false⟩,
 ⟨[146],[],ez,false⟩,
 ⟨[184],[],f6,false⟩,
 ⟨[275],[],iM,false⟩,
 ⟨[279,281],[],gM,false⟩,
 ⟨[282],[],gN,false⟩,
 ⟨[],[],kB,false⟩,
 ⟨[],[],jd,false⟩,
 ⟨[],[],kC,false⟩,
 ⟨[],[],f7,false⟩,
 ⟨[279,297,109],[],dj,false⟩,
 ⟨[279,297,109],[],n9,false⟩,
 ⟨[279],[],oa,false⟩,
 ⟨[123,297],[],dM,false⟩,
 ⟨[297,109,62,63,163,241],[],f8,false⟩,
 ⟨[275],[],jS,false⟩,
 ⟨[93],[],bv,false⟩,
 ⟨[93],[],bH,false⟩]
noncomputable def sp:List kL:=[
 ⟨0,true,[(58,1),(57,2),(135,3),(131,4),(132,5),(269,6)],[0]⟩,
 ⟨10,true,[],[1]⟩,
 ⟨11,true,[],[2]⟩,
 ⟨9999,false,[],[3]⟩,
 ⟨12,true,[],[4]⟩,
 ⟨15,false,[(48,16),(47,17)],[5]⟩,
 ⟨15,false,[(48,16),(47,17),(289,18)],[6,5]⟩,
 ⟨19,true,[(57,20),(59,21),(65,22)],[7]⟩,
 ⟨24,true,[],[8]⟩,
 ⟨37,false,[],[9]⟩,
 ⟨52,false,[],[10]⟩]
noncomputable def lQ:List (Nat×V):=[
 (5,.fn 9),
 (7,.cls 0),
 (9,.fn 8),
 (10,.fn 7),
 (12,.bi .isinstance),
 (14,.bi .bool),
 (15,.bi .int),
 (19,.bi .max),
 (27,.cls 1),
 (29,.cls 2),
 (31,.bi .list),
 (33,.bi .dict),
 (34,.cls 3),
 (36,.cls 4),
 (39,.fn 13),
 (44,.bi .range),
 (45,.int 30),
 (60,.cls 7),
 (69,.fn 26),
 (70,.bi .len),
 (71,.cls 8),
 (72,.fn 28),
 (74,.fn 25),
 (76,.fn 27),
 (79,.fn 30),
 (86,.fn 29),
 (88,.fn 31),
 (89,.fn 32),
 (91,.bi .tuple),
 (94,.fn 34),
 (119,.fn 23),
 (120,.cls 9),
 (121,.fn 38),
 (122,.fn 39),
 (125,.bi .str),
 (127,.fn 14),
 (130,.fn 42),
 (137,.fn 46),
 (138,.fn 45),
 (147,.fn 47),
 (149,.fn 43),
 (154,.bi .min),
 (158,.fn 49),
 (160,.fn 44),
 (171,.fn 50),
 (177,.fn 40),
 (186,.tup [.str 238,.str 239,.str 53,.str 240,.str 63,.str 241,.str 242]),
 (187,.tup [.str 307,.str 252]),
 (188,.tup [.str 312,.str 313,.str 56,.str 283,.str 285,.str 284,.str 286,.str 52,.str 287,.str 320]),
 (190,.tup [.str 224,.str 226,.str 305]),
 (196,.fn 54),
 (197,.fn 57),
 (198,.tup [.str 163,.str 159,.str 161,.str 169,.str 54,.str 235,.str 236,.str 230]),
 (199,.fn 60),
 (200,.fn 61),
 (201,.fn 62),
 (202,.fn 63),
 (203,.tup [.str 143,.str 322,.str 144,.str 323,.str 145,.str 324,.str 148,.str 325,.str 303,.str 326,.str 327,.str 328]),
 (204,.fn 48),
 (205,.tup [.str 338,.str 339,.str 340,.str 341,.str 342,.str 343,.str 344]),
 (207,.tup [.str 345,.str 346,.str 347,.str 348]),
 (209,.tup [.str 349,.str 350,.str 351,.str 352]),
 (211,.fn 56),
 (214,.fn 64),
 (215,.fn 53),
 (220,.tup [.str 353,.str 354,.str 355,.str 356,.str 357]),
 (225,.fn 41),
 (229,.fn 58),
 (231,.fn 59),
 (234,.fn 51),
 (244,.fn 33),
 (245,.fn 35),
 (256,.tup [.str 313,.str 52,.str 287]),
 (257,.dct [(56,.str 254),(283,.str 254),(284,.str 254),(52,.str 254),(285,.str 253),(286,.str 253),(287,.str 253)]),
 (258,.tup [.str 312,.str 313,.str 284,.str 286,.str 52,.str 287]),
 (271,.fn 36),
 (272,.fn 65),
 (277,.bi .abs),
 (288,.cls 6),
 (296,.fn 68),
 (298,.fn 71),
 (299,.fn 69),
 (311,.fn 70),
 (314,.fn 67),
 (315,.fn 72),
 (316,.cls 10),
 (317,.fn 73),
 (319,.fn 55),
 (329,.fn 74),
 (330,.fn 75),
 (331,.fn 76),
 (333,.tup [.str 312,.str 313,.str 56,.str 283,.str 285,.str 284,.str 286,.str 52,.str 287,.str 320]),
 (335,.fn 78),
 (336,.fn 77),
 (337,.fn 66)]
noncomputable def ud:List (Nat×Nat):=[(143,143),(322,143),(144,144),(323,144),(145,145),(324,145),(148,148),(325,148),(303,303),(326,303),(327,327),(328,327)]
noncomputable def gO:List (Nat×List Nat):=[(301,[292,284,293])]
noncomputable def pM:List (List Nat):=[[1,0],[20],[21,22],[49,21],[11,23],[40,41],[40,41],[51,52,53,54,55,56],[65],[95,96,97,98,99],[170,175,176,123,178,132,68,179,20,180,181,182,96]]
noncomputable def tb:ng:=⟨λ k=>List.lookup k lQ,λ k=>zY[k]?,λ k=>sp[k]?,λ k=>List.lookup k ud,λ k=>List.lookup k gO,λ c x=>(pM.getD c []).contains x,90,228,334,47,140⟩
noncomputable def nmL:List String:=["places", "top", "self", "one", "two", "at_one_scale", "other", "Decimal", "factor", "decimal_of", "sign_of", "number", "isinstance", "value", "bool", "int", "this is no number", "first", "second", "max", "text", "octets", "is_hex", "generation", "null", "truth", "real", "Name", "name", "String", "string", "list", "array", "dict", "Stream", "stream", "Reference", "ref", "no object", "kind_of", "table", "trailer", "here", "hop", "range", "MOST_HOPS", "found", "get", "fetch", "head", "key", "a", "b", "c", "d", "e", "f", "times", "plus", "applied", "Matrix", "right", "x", "y", "up", "parts", "part", "close", "path", "is_shut", "len", "Path", "drawn_parts", "move", "pair_of", "start", "current_point", "no current point", "segment", "path_with", "line", "left", "low", "width", "high", "height", "move_to", "corner", "line_to", "close_path", "append", "tuple", "turn", "p", "each_point", "matrix", "clips", "fill", "stroke", "values", "zero", "space", "DeviceGray", "DeviceRGB", "DeviceCMYK", "cap", "join", "miter", "dash", "word", "spacing", "word_spacing", "leading", "size", "rise", "scale", "font", "", "mode", "identity", "State", "first_colour", "first_values", "state", "count", "str", " numbers are wanted", "is_number", "no number", "a name is wanted", "numbers_of", "is_whole", "floor", "a number from 0 to ", " is wanted", "compared", "counts", "device_count", "colour_parts", "is_fill", "lower", "plain", "before", "g", "rg", "k", "colour", "own_colour", "cs", "name_of", "lengths", "a dash has an array", "steps", "phase", "min", "step", "no dash array", "an array and a phase are wanted", "set_dash", "J", "choice_of", "j", "a width is not below 0", "w", "words", "LW", "LC", "LJ", "ML", "M", "shelf", "set_line", "pair", "D", "D is an array of two", "resources", "opener", "first_state", "pile", "rule", "skips", "open_forms", "marks", "painter", "mark", "is_path", "PATH_WORDS", "CLIP_WORDS", "PAINT_WORDS", " within a path", "STATE_WORDS", "Do", "BI", "sh", "BT", " within a text", "check_place", "do_state", "LINE_WORDS", "do_line", "do_path", "do_clip", "do_paint", "COLOUR_WORDS", "set_colour", "TEXT_WORDS", "set_text", "PLACE_WORDS", "do_place", "SHOW_WORDS", "do_show", "do_other", "ET", "ET without BT", "do_object", "put_mark", "image", "BX", "EX", "EX without BX", "NOTE_WORDS", "d0", "d1", "unknown word ", "q", "copied_state", "Q", "Q without q", "pop", "matrix_of", "gs", "named", "ExtGState", "no graphics state of this name", "set_named", "ri", "i", " behind W", "m", "l", "v", "h", "re", "numbers", "rectangle", "transformed", "pairs", "at", "curve_to", "curve_from", "curve_into", " without a path of its own", "W*", "evenodd", "nonzero", " without a path", "CLOSERS", "FILLS", "STROKES", "add_clip", "entry", "XObject", "no object of the name ", "sort", "Subtype", "Image", "Form", "do_form", "an object that is no image and no form", "told", "clip", "told_path", "told_colour", "cells", "cell", "script", "great", "abs", "place", "pool", "digit", "most", "tenths", "F", "B", "f*", "B*", "b*", "Shelf", "put", "Font", "states", "A", "C", "black", "Pattern", "_law_draw", "own", "_law_spaces", "_law_told", "P1", "ABC", "cases", "sc", "Z", "cm", "XX", "W", "held", "corners", "moved", "_law_fills", "S", "s", "_law_box", "_law_shelf", "Painter", "_law_first", "due", "perform", "n", "o", "G", "RG", "K", "CS", "SC", "scn", "SCN", "_law_colour", "_law_set", "_law_bad", "is_let", "_law_paints", "extend", "_law_marks", "_law_is_state", "told_mark", "Tc", "Tw", "Tz", "TL", "Ts", "Tr", "Tf", "Td", "TD", "Tm", "T*", "Tj", "TJ", "'", "\"", "MP", "DP", "BMC", "BDC", "EMC", "what"]
noncomputable def faL:List Nat:=[75,82,96,110,117,124,138,173,180,187,201,223,265,286,293,320,327,334,355,407,414,421,435,454,477,491,498,505,512,519,526,533,561,568,573,580,587,601,615,622,630,637,642,649,656,663,670,677,684,689,696,701,736,764,771,778,785,792,799,806,813,818,825,832,874,898,905,910,917,924,939,953,960,967,972,977,984,989,994,999,0,0]
noncomputable def caL:List Nat:=[155,204,226,247,275,337,391,443,480,604,746]
end
end
section
open PySem
section
noncomputable def nm (k:Nat):Str:=match nmL[k]? with
 | some s=>Str.ofString s
 | none=>⟨#[1114112+k]⟩
noncomputable def cd (s:String):Nat:=(Str.ofString s).cps.toList.foldl (λ a c=>a*1114112+c+1) 0
noncomputable def sq:List String->Bool
 | []=>true
 | s::r=>((Str.ofString s).cps.all (λ n=>Nat.blt n 1114112)&&Nat.ble (Str.ofString s).cps.size 100)&&r.all (λ t=>!Nat.beq (cd s) (cd t))&&sq r
noncomputable def fa (k:Nat):Addr:=faL.getD k 0
noncomputable def ca (c:Nat):Addr:=caL.getD c 0
noncomputable abbrev SC:=List (Str×NameKind)
noncomputable def iu (sc:SC) (names:SC):SC:=names.map λ (n,k)=>if k==.free&&sc.lookup n==some .cell then (n,.cell) else (n,k)
noncomputable def opT:Op->Operator
 | .add=>.Add | .sub=>.Sub | .mul=>.Mult | .fdiv=>.FloorDiv | .mod=>.Mod | .pow=>.Pow
noncomputable def yZ (o:Op) (o':Operator):Bool:=decide (opT o=o')
noncomputable def cmT:Cm->CmpOp
 | .eq=>.Eq | .ne=>.NotEq | .lt=>.Lt | .le=>.LtE | .gt=>.Gt | .ge=>.GtE | .is=>.Is | .isnot=>.IsNot | .in_=>.In | .notin=>.NotIn
noncomputable def pN (o:Cm) (o':CmpOp):Bool:=decide (cmT o=o')
theorem bW {p:Prop} [Decidable p] {t:p->Bool} {G:Prop} (h:(if h:p then t h else false)=true) (k:∀ h:p,t h=true->G):G:=by
 by_cases q:p
 ·rw [dif_pos q] at h;exact k q h
 ·rw [dif_neg q] at h;exact Bool.noConfusion h
theorem b2 {a b:Bool} {G:Prop} (h:(a&&b)=true) (k:a=true->b=true->G):G:=k (Bool.and_eq_true_iff.mp h).1 (Bool.and_eq_true_iff.mp h).2
theorem b3 {a b c:Bool} {G:Prop} (h:(a&&b&&c)=true) (k:a=true->b=true->c=true->G):G:=b2 h λ h q=>b2 h λ h r=>k h r q
theorem b4 {a b c d:Bool} {G:Prop} (h:(a&&b&&c&&d)=true) (k:a=true->b=true->c=true->d=true->G):G:=b2 h λ h q=>b3 h λ h i j=>k h i j q
theorem b5 {a b c d e:Bool} {G:Prop} (h:(a&&b&&c&&d&&e)=true) (k:a=true->b=true->c=true->d=true->e=true->G):G:=b2 h λ h q=>b4 h λ h i j l=>k h i j l q
theorem b6 {a b c d e f:Bool} {G:Prop} (h:(a&&b&&c&&d&&e&&f)=true) (k:a=true->b=true->c=true->d=true->e=true->f=true->G):G:=b2 h λ h q=>b5 h λ h i j l m=>k h i j l m q
theorem b7 {a b c d e f g:Bool} {G:Prop} (h:(a&&b&&c&&d&&e&&f&&g)=true) (k:a=true->b=true->c=true->d=true->e=true->f=true->g=true->G):G:=b2 h λ h q=>b6 h λ h i j l m n=>k h i j l m n q
theorem b8 {a b c d e f g z:Bool} {G:Prop} (h:(a&&b&&c&&d&&e&&f&&g&&z)=true) (k:a=true->b=true->c=true->d=true->e=true->f=true->g=true->z=true->G):G:=b2 h λ h q=>b7 h λ h i j l m n o=>k h i j l m n o q
noncomputable def xw (x:PySem.Expr) (f:BoolOp->List PySem.Expr->Pos->Bool):Bool:=if h:x.ctorIdx=0 then PySem.Expr.BoolOp.elim x h f else false
@[elab_as_elim] theorem ue {P:PySem.Expr->Prop} {x:PySem.Expr} {f:BoolOp->List PySem.Expr->Pos->Bool} (h:xw x f=true) (k:∀ a b c,f a b c=true->P (.BoolOp a b c)):P x:=bW h λ i h=>PySem.Expr.BoolOp.elim (motive_1:=λ x=>∀ i:x.ctorIdx=0,PySem.Expr.BoolOp.elim x i f=true->P x) x i (λ a b c i h=>k a b c h) i h
noncomputable def y7 (x:PySem.Expr) (f:PySem.Expr->Operator->PySem.Expr->Pos->Bool):Bool:=if h:x.ctorIdx=2 then PySem.Expr.BinOp.elim x h f else false
@[elab_as_elim] theorem zZ {P:PySem.Expr->Prop} {x:PySem.Expr} {f:PySem.Expr->Operator->PySem.Expr->Pos->Bool} (h:y7 x f=true) (k:∀ a b c d,f a b c d=true->P (.BinOp a b c d)):P x:=bW h λ i h=>PySem.Expr.BinOp.elim (motive_1:=λ x=>∀ i:x.ctorIdx=2,PySem.Expr.BinOp.elim x i f=true->P x) x i (λ a b c d i h=>k a b c d h) i h
noncomputable def aUn (x:PySem.Expr) (f:UnaryOp->PySem.Expr->Pos->Bool):Bool:=if h:x.ctorIdx=3 then PySem.Expr.UnaryOp.elim x h f else false
@[elab_as_elim] theorem iUn {P:PySem.Expr->Prop} {x:PySem.Expr} {f:UnaryOp->PySem.Expr->Pos->Bool} (h:aUn x f=true) (k:∀ a b c,f a b c=true->P (.UnaryOp a b c)):P x:=bW h λ i h=>PySem.Expr.UnaryOp.elim (motive_1:=λ x=>∀ i:x.ctorIdx=3,PySem.Expr.UnaryOp.elim x i f=true->P x) x i (λ a b c i h=>k a b c h) i h
noncomputable def y8 (x:PySem.Expr) (f:Arguments->PySem.Expr->Scope->Pos->Bool):Bool:=if h:x.ctorIdx=4 then PySem.Expr.Lambda.elim x h f else false
@[elab_as_elim] theorem z9 {P:PySem.Expr->Prop} {x:PySem.Expr} {f:Arguments->PySem.Expr->Scope->Pos->Bool} (h:y8 x f=true) (k:∀ a b c d,f a b c d=true->P (.Lambda a b c d)):P x:=bW h λ i h=>PySem.Expr.Lambda.elim (motive_1:=λ x=>∀ i:x.ctorIdx=4,PySem.Expr.Lambda.elim x i f=true->P x) x i (λ a b c d i h=>k a b c d h) i h
noncomputable def aIf (x:PySem.Expr) (f:PySem.Expr->PySem.Expr->PySem.Expr->Pos->Bool):Bool:=if h:x.ctorIdx=5 then PySem.Expr.IfExp.elim x h f else false
@[elab_as_elim] theorem iIf {P:PySem.Expr->Prop} {x:PySem.Expr} {f:PySem.Expr->PySem.Expr->PySem.Expr->Pos->Bool} (h:aIf x f=true) (k:∀ a b c d,f a b c d=true->P (.IfExp a b c d)):P x:=bW h λ i h=>PySem.Expr.IfExp.elim (motive_1:=λ x=>∀ i:x.ctorIdx=5,PySem.Expr.IfExp.elim x i f=true->P x) x i (λ a b c d i h=>k a b c d h) i h
noncomputable def y9 (x:PySem.Expr) (f:List (Option PySem.Expr)->List PySem.Expr->Pos->Bool):Bool:=if h:x.ctorIdx=6 then PySem.Expr.Dict.elim x h f else false
@[elab_as_elim] theorem Aa {P:PySem.Expr->Prop} {x:PySem.Expr} {f:List (Option PySem.Expr)->List PySem.Expr->Pos->Bool} (h:y9 x f=true) (k:∀ a b c,f a b c=true->P (.Dict a b c)):P x:=bW h λ i h=>PySem.Expr.Dict.elim (motive_1:=λ x=>∀ i:x.ctorIdx=6,PySem.Expr.Dict.elim x i f=true->P x) x i (λ a b c i h=>k a b c h) i h
noncomputable def aLC (x:PySem.Expr) (f:PySem.Expr->List Comprehension->Scope->Pos->Bool):Bool:=if h:x.ctorIdx=8 then PySem.Expr.ListComp.elim x h f else false
@[elab_as_elim] theorem iLC {P:PySem.Expr->Prop} {x:PySem.Expr} {f:PySem.Expr->List Comprehension->Scope->Pos->Bool} (h:aLC x f=true) (k:∀ a b c d,f a b c d=true->P (.ListComp a b c d)):P x:=bW h λ i h=>PySem.Expr.ListComp.elim (motive_1:=λ x=>∀ i:x.ctorIdx=8,PySem.Expr.ListComp.elim x i f=true->P x) x i (λ a b c d i h=>k a b c d h) i h
noncomputable def xx (x:PySem.Expr) (f:PySem.Expr->List CmpOp->List PySem.Expr->Pos->Bool):Bool:=if h:x.ctorIdx=15 then PySem.Expr.Compare.elim x h f else false
@[elab_as_elim] theorem za {P:PySem.Expr->Prop} {x:PySem.Expr} {f:PySem.Expr->List CmpOp->List PySem.Expr->Pos->Bool} (h:xx x f=true) (k:∀ a b c d,f a b c d=true->P (.Compare a b c d)):P x:=bW h λ i h=>PySem.Expr.Compare.elim (motive_1:=λ x=>∀ i:x.ctorIdx=15,PySem.Expr.Compare.elim x i f=true->P x) x i (λ a b c d i h=>k a b c d h) i h
noncomputable def aCal (x:PySem.Expr) (f:PySem.Expr->List PySem.Expr->List Keyword->Pos->Bool):Bool:=if h:x.ctorIdx=16 then PySem.Expr.Call.elim x h f else false
@[elab_as_elim] theorem pO {P:PySem.Expr->Prop} {x:PySem.Expr} {f:PySem.Expr->List PySem.Expr->List Keyword->Pos->Bool} (h:aCal x f=true) (k:∀ a b c d,f a b c d=true->P (.Call a b c d)):P x:=bW h λ i h=>PySem.Expr.Call.elim (motive_1:=λ x=>∀ i:x.ctorIdx=16,PySem.Expr.Call.elim x i f=true->P x) x i (λ a b c d i h=>k a b c d h) i h
noncomputable def pP (x:PySem.Expr) (f:Const->Nat->Pos->Bool):Bool:=if h:x.ctorIdx=19 then PySem.Expr.Constant.elim x h f else false
@[elab_as_elim] theorem pQ {P:PySem.Expr->Prop} {x:PySem.Expr} {f:Const->Nat->Pos->Bool} (h:pP x f=true) (k:∀ a b c,f a b c=true->P (.Constant a b c)):P x:=bW h λ i h=>PySem.Expr.Constant.elim (motive_1:=λ x=>∀ i:x.ctorIdx=19,PySem.Expr.Constant.elim x i f=true->P x) x i (λ a b c i h=>k a b c h) i h
noncomputable def rp (x:PySem.Expr) (f:PySem.Expr->Str->Pos->Bool):Bool:=if h:x.ctorIdx=20 then PySem.Expr.Attribute.elim x h f else false
@[elab_as_elim] theorem sH {P:PySem.Expr->Prop} {x:PySem.Expr} {f:PySem.Expr->Str->Pos->Bool} (h:rp x f=true) (k:∀ a b c,f a b c=true->P (.Attribute a b c)):P x:=bW h λ i h=>PySem.Expr.Attribute.elim (motive_1:=λ x=>∀ i:x.ctorIdx=20,PySem.Expr.Attribute.elim x i f=true->P x) x i (λ a b c i h=>k a b c h) i h
noncomputable def uf (x:PySem.Expr) (f:PySem.Expr->PySem.Expr->Pos->Bool):Bool:=if h:x.ctorIdx=21 then PySem.Expr.Subscript.elim x h f else false
@[elab_as_elim] theorem xB {P:PySem.Expr->Prop} {x:PySem.Expr} {f:PySem.Expr->PySem.Expr->Pos->Bool} (h:uf x f=true) (k:∀ a b c,f a b c=true->P (.Subscript a b c)):P x:=bW h λ i h=>PySem.Expr.Subscript.elim (motive_1:=λ x=>∀ i:x.ctorIdx=21,PySem.Expr.Subscript.elim x i f=true->P x) x i (λ a b c i h=>k a b c h) i h
noncomputable def aNam (x:PySem.Expr) (f:Str->Pos->Bool):Bool:=if h:x.ctorIdx=23 then PySem.Expr.Name.elim x h f else false
@[elab_as_elim] theorem iN {P:PySem.Expr->Prop} {x:PySem.Expr} {f:Str->Pos->Bool} (h:aNam x f=true) (k:∀ a b,f a b=true->P (.Name a b)):P x:=bW h λ i h=>PySem.Expr.Name.elim (motive_1:=λ x=>∀ i:x.ctorIdx=23,PySem.Expr.Name.elim x i f=true->P x) x i (λ a b i h=>k a b h) i h
noncomputable def zb (x:PySem.Expr) (f:List PySem.Expr->Pos->Bool):Bool:=if h:x.ctorIdx=24 then PySem.Expr.List.elim x h f else false
@[elab_as_elim] theorem Ab {P:PySem.Expr->Prop} {x:PySem.Expr} {f:List PySem.Expr->Pos->Bool} (h:zb x f=true) (k:∀ a b,f a b=true->P (.List a b)):P x:=bW h λ i h=>PySem.Expr.List.elim (motive_1:=λ x=>∀ i:x.ctorIdx=24,PySem.Expr.List.elim x i f=true->P x) x i (λ a b i h=>k a b h) i h
noncomputable def aTup (x:PySem.Expr) (f:List PySem.Expr->Nat->Pos->Bool):Bool:=if h:x.ctorIdx=25 then PySem.Expr.Tuple.elim x h f else false
@[elab_as_elim] theorem xD {P:PySem.Expr->Prop} {x:PySem.Expr} {f:List PySem.Expr->Nat->Pos->Bool} (h:aTup x f=true) (k:∀ a b c,f a b c=true->P (.Tuple a b c)):P x:=bW h λ i h=>PySem.Expr.Tuple.elim (motive_1:=λ x=>∀ i:x.ctorIdx=25,PySem.Expr.Tuple.elim x i f=true->P x) x i (λ a b c i h=>k a b c h) i h
noncomputable def zc (x:PySem.Expr) (f:Option PySem.Expr->Option PySem.Expr->Option PySem.Expr->Pos->Bool):Bool:=if h:x.ctorIdx=26 then PySem.Expr.Slice.elim x h f else false
@[elab_as_elim] theorem Ac {P:PySem.Expr->Prop} {x:PySem.Expr} {f:Option PySem.Expr->Option PySem.Expr->Option PySem.Expr->Pos->Bool} (h:zc x f=true) (k:∀ a b c d,f a b c d=true->P (.Slice a b c d)):P x:=bW h λ i h=>PySem.Expr.Slice.elim (motive_1:=λ x=>∀ i:x.ctorIdx=26,PySem.Expr.Slice.elim x i f=true->P x) x i (λ a b c d i h=>k a b c d h) i h
noncomputable def zd (x:Stmt) (f:Option PySem.Expr->Pos->Bool):Bool:=if h:x.ctorIdx=3 then PySem.Stmt.Return.elim x h f else false
@[elab_as_elim] theorem Ae {P:Stmt->Prop} {x:Stmt} {f:Option PySem.Expr->Pos->Bool} (h:zd x f=true) (k:∀ a b,f a b=true->P (.Return a b)):P x:=bW h λ i h=>PySem.Stmt.Return.elim (motive_2:=λ x=>∀ i:x.ctorIdx=3,PySem.Stmt.Return.elim x i f=true->P x) x i (λ a b i h=>k a b h) i h
noncomputable def ug (x:Stmt) (f:List PySem.Expr->PySem.Expr->Pos->Bool):Bool:=if h:x.ctorIdx=5 then PySem.Stmt.Assign.elim x h f else false
@[elab_as_elim] theorem xG {P:Stmt->Prop} {x:Stmt} {f:List PySem.Expr->PySem.Expr->Pos->Bool} (h:ug x f=true) (k:∀ a b c,f a b c=true->P (.Assign a b c)):P x:=bW h λ i h=>PySem.Stmt.Assign.elim (motive_2:=λ x=>∀ i:x.ctorIdx=5,PySem.Stmt.Assign.elim x i f=true->P x) x i (λ a b c i h=>k a b c h) i h
noncomputable def ze (x:Stmt) (f:PySem.Expr->PySem.Expr->List Stmt->List Stmt->Pos->Bool):Bool:=if h:x.ctorIdx=9 then PySem.Stmt.For.elim x h f else false
@[elab_as_elim] theorem Af {P:Stmt->Prop} {x:Stmt} {f:PySem.Expr->PySem.Expr->List Stmt->List Stmt->Pos->Bool} (h:ze x f=true) (k:∀ a b c d e,f a b c d e=true->P (.For a b c d e)):P x:=bW h λ i h=>PySem.Stmt.For.elim (motive_2:=λ x=>∀ i:x.ctorIdx=9,PySem.Stmt.For.elim x i f=true->P x) x i (λ a b c d e i h=>k a b c d e h) i h
noncomputable def zf (x:Stmt) (f:PySem.Expr->List Stmt->List Stmt->Pos->Bool):Bool:=if h:x.ctorIdx=11 then PySem.Stmt.While.elim x h f else false
@[elab_as_elim] theorem Ag {P:Stmt->Prop} {x:Stmt} {f:PySem.Expr->List Stmt->List Stmt->Pos->Bool} (h:zf x f=true) (k:∀ a b c d,f a b c d=true->P (.While a b c d)):P x:=bW h λ i h=>PySem.Stmt.While.elim (motive_2:=λ x=>∀ i:x.ctorIdx=11,PySem.Stmt.While.elim x i f=true->P x) x i (λ a b c d i h=>k a b c d h) i h
noncomputable def zg (x:Stmt) (f:PySem.Expr->List Stmt->List Stmt->Pos->Bool):Bool:=if h:x.ctorIdx=12 then PySem.Stmt.If.elim x h f else false
@[elab_as_elim] theorem Ah {P:Stmt->Prop} {x:Stmt} {f:PySem.Expr->List Stmt->List Stmt->Pos->Bool} (h:zg x f=true) (k:∀ a b c d,f a b c d=true->P (.If a b c d)):P x:=bW h λ i h=>PySem.Stmt.If.elim (motive_2:=λ x=>∀ i:x.ctorIdx=12,PySem.Stmt.If.elim x i f=true->P x) x i (λ a b c d i h=>k a b c d h) i h
noncomputable def zh (x:Stmt) (f:Option PySem.Expr->Option PySem.Expr->Pos->Bool):Bool:=if h:x.ctorIdx=16 then PySem.Stmt.Raise.elim x h f else false
@[elab_as_elim] theorem Ai {P:Stmt->Prop} {x:Stmt} {f:Option PySem.Expr->Option PySem.Expr->Pos->Bool} (h:zh x f=true) (k:∀ a b c,f a b c=true->P (.Raise a b c)):P x:=bW h λ i h=>PySem.Stmt.Raise.elim (motive_2:=λ x=>∀ i:x.ctorIdx=16,PySem.Stmt.Raise.elim x i f=true->P x) x i (λ a b c i h=>k a b c h) i h
noncomputable def zi (x:Stmt) (f:List Stmt->List ExceptHandler->List Stmt->List Stmt->Pos->Bool):Bool:=if h:x.ctorIdx=17 then PySem.Stmt.Try.elim x h f else false
@[elab_as_elim] theorem Aj {P:Stmt->Prop} {x:Stmt} {f:List Stmt->List ExceptHandler->List Stmt->List Stmt->Pos->Bool} (h:zi x f=true) (k:∀ a b c d e,f a b c d e=true->P (.Try a b c d e)):P x:=bW h λ i h=>PySem.Stmt.Try.elim (motive_2:=λ x=>∀ i:x.ctorIdx=17,PySem.Stmt.Try.elim x i f=true->P x) x i (λ a b c d e i h=>k a b c d e h) i h
noncomputable def uh (x:Stmt) (f:PySem.Expr->Pos->Bool):Bool:=if h:x.ctorIdx=24 then PySem.Stmt.Expr.elim x h f else false
@[elab_as_elim] theorem xH {P:Stmt->Prop} {x:Stmt} {f:PySem.Expr->Pos->Bool} (h:uh x f=true) (k:∀ a b,f a b=true->P (.Expr a b)):P x:=bW h λ i h=>PySem.Stmt.Expr.elim (motive_2:=λ x=>∀ i:x.ctorIdx=24,PySem.Stmt.Expr.elim x i f=true->P x) x i (λ a b i h=>k a b h) i h
theorem lR {a:Bool} (h:(!a)=true):a=false:=by
 induction a using Bool.casesOn with
 | false=>rfl
 | true=>exact ad h
noncomputable def on1 {α:Type} (l:List α) (f:α->Bool):Bool:=match l with | []=>false | a::r=>r.isEmpty&&f a
noncomputable def on2 {α:Type} (l:List α) (f:α->α->Bool):Bool:=match l with | []=>false | a::r=>on1 r (f a)
noncomputable def onC {α:Type} (l:List α) (f:α->List α->Bool):Bool:=match l with | []=>false | a::r=>f a r
noncomputable def onH (x:ExceptHandler) (f:Option PySem.Expr->Option Str->List Stmt->Pos->Bool):Bool:=match x with | .ExceptHandler a b c d=>f a b c d
@[elab_as_elim] theorem jH {P:ExceptHandler->Prop} {x:ExceptHandler} {f:Option PySem.Expr->Option Str->List Stmt->Pos->Bool} (h:onH x f=true) (k:∀ a b c d,f a b c d=true->P (.ExceptHandler a b c d)):P x:=by
 induction x using ExceptHandler.casesOn with
 | ExceptHandler a b c d=>exact k a b c d h
noncomputable def onO {α:Type} (l:Option α) (f:α->Bool):Bool:=match l with | none=>false | some a=>f a
@[elab_as_elim] theorem j0 {α:Type} {P:List α->Prop} {l:List α} (h:l.isEmpty=true) (k:P []):P l:=by
 induction l using List.casesOn with
 | nil=>exact k
 | cons _ _=>exact Bool.noConfusion h
@[elab_as_elim] theorem jN {α:Type} {P:Option α->Prop} {l:Option α} (h:l.isNone=true) (k:P none):P l:=by
 induction l using Option.casesOn with
 | none=>exact k
 | some _=>exact Bool.noConfusion h
@[elab_as_elim] theorem jO {α:Type} {P:Option α->Prop} {l:Option α} {f:α->Bool} (h:onO l f=true) (k:∀ a,f a=true->P (some a)):P l:=by
 induction l using Option.casesOn with
 | none=>exact Bool.noConfusion h
 | some a=>exact k a h
@[elab_as_elim] theorem j1 {α:Type} {P:List α->Prop} {l:List α} {f:α->Bool} (h:on1 l f=true) (k:∀ a,f a=true->P [a]):P l:=by
 induction l using List.casesOn with
 | nil=>exact Bool.noConfusion h
 | cons a r=>exact b2 h λ q h=>j0 (P:=λ r=>P (a::r)) q (k a h)
@[elab_as_elim] theorem j2 {α:Type} {P:List α->Prop} {l:List α} {f:α->α->Bool} (h:on2 l f=true) (k:∀ a b,f a b=true->P [a,b]):P l:=by
 induction l using List.casesOn with
 | nil=>exact Bool.noConfusion h
 | cons a r=>exact j1 (P:=λ r=>P (a::r)) h (k a)
@[elab_as_elim] theorem jC {α:Type} {P:List α->Prop} {l:List α} {f:α->List α->Bool} (h:onC l f=true) (k:∀ a b,f a b=true->P (a::b)):P l:=by
 induction l using List.casesOn with
 | nil=>exact Bool.noConfusion h
 | cons a r=>exact k a r h
noncomputable def mJ (x:PySem.Expr):Bool:=Nat.blt x.ctorIdx 16||Nat.blt 16 x.ctorIdx||aCal x λ f as _ _=>!as.isEmpty||aNam f λ id _=>!(id==("super":Str))
noncomputable def px (x:PySem.Expr):Bool:=Nat.blt x.ctorIdx 26
noncomputable def av (x:PySem.Expr):Bool:=Nat.blt x.ctorIdx 22||Nat.blt 22 x.ctorIdx
noncomputable def cq (x:PySem.Expr):Bool:=Nat.blt x.ctorIdx 7||Nat.blt 7 x.ctorIdx
noncomputable def iw (x:PySem.Expr):Bool:=Nat.beq x.ctorIdx 23
noncomputable def tgt:T->List Nat
 | .x n=>[n]
 | .tup ts=>tgts ts
 | .c _=>[]
 | .at_ _ _=>[]
 | .sub _ _=>[]
where tgts:List T->List Nat
 | []=>[]
 | t::r=>tgt t++tgts r
noncomputable def zj (x:E):Bool:=E.casesOn (motive_1:=λ _=>Bool) x false false (λ _=>false) (λ _=>false) (λ _=>true) (λ _=>false) (λ _=>false) (λ _ _=>false) (λ _ _=>false) (λ _ _ _=>false) (λ _ _ _=>false) (λ _=>false) (λ _=>false) (λ _ _ _=>false) (λ _ _ _ _ _=>false) (λ _=>false) (λ _=>false) (λ _ _ _=>false) (λ _=>false) (λ _ _=>false) (λ _ _=>false) (λ _ _=>false) (λ _ _ _=>false) (λ _ _ _=>false) (λ _ _=>false)
noncomputable def isN (x:E):Bool:=E.casesOn (motive_1:=λ _=>Bool) x true false (λ _=>false) (λ _=>false) (λ _=>false) (λ _=>false) (λ _=>false) (λ _ _=>false) (λ _ _=>false) (λ _ _ _=>false) (λ _ _ _=>false) (λ _=>false) (λ _=>false) (λ _ _ _=>false) (λ _ _ _ _ _=>false) (λ _=>false) (λ _=>false) (λ _ _ _=>false) (λ _=>false) (λ _ _=>false) (λ _ _=>false) (λ _ _=>false) (λ _ _ _=>false) (λ _ _ _=>false) (λ _ _=>false)
theorem rq {e:E} (h:isN e=true):e=.cN:=by
 induction e using E.casesOn with
 | cN=>rfl
 | _=>exact ad h
mutual
noncomputable def iF (sc:SC):T->PySem.Expr->Bool
 | .x n,x=>aNam x λ id _=>id==nm n&&sc.lookup id==some .local
 | .tup ts,x=>aTup x λ ts' _ _=>gu sc ts ts'
 | _,_=>false
termination_by structural x=>x
noncomputable def gu (sc:SC):List T->List PySem.Expr->Bool
 | [],xs=>xs.isEmpty
 | t::r,xs=>onC xs λ e s=>av e&&iF sc t e&&gu sc r s
termination_by structural x=>x
end
section
variable (lm:Nat->List Nat->Arguments->PySem.Expr->Scope->Bool)
mutual
noncomputable def aE (sc:SC):E->PySem.Expr->Bool
 | .cN,x=>pP x λ c _ _=>decide (c=.none)
 | .cY,x=>pP x λ c _ _=>Nat.beq c.ctorIdx 6
 | .cB b,x=>pP x λ c _ _=>decide (c=.bool b)
 | .cI i,x=>pP x λ c _ _=>decide (c=.int i)
 | .cS k,x=>pP x λ c _ _=>decide (c=.str (nm k))
 | .v y,x=>aNam x λ id _=>id==nm y&&!(id==("__debug__":Str))&&!(id==("__classdict__":Str))&&(sc.lookup id==some .local||sc.lookup id==some .cell||sc.lookup id==some .free)
 | .g y,x=>aNam x λ id _=>id==nm y&&!(id==("__debug__":Str))&&sc.lookup id==some .globalImplicit
 | .at_ e a,x=>rp x λ e' s _=>s==nm a&&mJ e'&&aE sc e e'
 | .call f as,x=>aCal x λ f' as' ks _=>ks.isEmpty&&aNam f' λ id p=>aE sc f (.Name id p)&&eL sc as as'&&decide (as'.length<=15)
 | .meth o m as,x=>aCal x λ f' as' ks p=>ks.isEmpty&&rp f' λ o' s ap=>s==nm m&&mJ o'&&decide (ap.endLine=p.line)&&decide (as'.length<=15)&&aE sc o o'&&eL sc as as'
 | .bin op l r,x=>y7 x λ l' op' r' _=>yZ op op'&&aE sc l l'&&aE sc r r'
 | .not e,x=>aUn x λ o e' _=>decide (o=.Not)&&aE sc e e'
 | .neg e,x=>aUn x λ o e' _=>decide (o=.USub)&&aE sc e e'
 | .cmp l op r,x=>xx x λ l' os rs _=>on1 os λ op'=>on1 rs λ r'=>cq r'&&pN op op'&&aE sc l l'&&aE sc r r'
 | .cmp2 l o1 m o2 r,x=>xx x λ l' os rs _=>on2 os λ o1' o2'=>on2 rs λ m' r'=>cq r'&&pN o1 o1'&&pN o2 o2'&&aE sc l l'&&aE sc m m'&&aE sc r r'
 | .and es,x=>xw x λ o es' _=>decide (o=.And)&&eL sc es es'
 | .or es,x=>xw x λ o es' _=>decide (o=.Or)&&eL sc es es'
 | .ite t a b,x=>aIf x λ t' a' b' _=>aE sc t t'&&aE sc a a'&&aE sc b b'
 | .tup es,x=>aTup x λ es' _ _=>decide (es.length<=100)&&eL sc es es'
 | .lst _ es,x=>zb x λ es' _=>decide (es.length<=100)&&eL sc es es'
 | .dct _ kvs,x=>y9 x λ ks vs _=>decide (vs.length<=15)&&rr sc kvs ks vs
 | .sub e i,x=>uf x λ e' i' _=>px i'&&aE sc e e'&&aE sc i i'
 | .slc e l u,x=>uf x λ e' i' _=>zc i' λ l' u' st _=>st.isNone&&aE sc e e'&&(match l' with | none=>isN l | some x=>aE sc l x)&&(match u' with | none=>isN u | some x=>aE sc u x)
 | .comp elt t it,x=>aLC x λ elt' gs scope _=>on1 gs λ g=>g.ifs.isEmpty&&decide (g.is_async=0)&&(
  aE sc it g.iter&&cq g.iter&&av g.target&&iF (iu sc scope.names) t g.target&&aE (iu sc scope.names) elt elt'
  && scope.kind==.function&&!scope.isGenerator&&!scope.isCoroutine
  && scope.names.all (λ p=>p.2 != .cell&&p.2 != .globalExplicit&&(p.2 != .local||p.1==(".0" : Str)||(tgt t).any λ n=>p.1==nm n)&&(p.2 != .free||sc.lookup p.1==some .cell||sc.lookup p.1==some .free))
  && decide ((scope.names.map (λ x=>x.1)).Nodup))
 | .lam k cap,x=>y8 x λ args body scope pos=>lm k cap args body scope&&decide (pos.line<2 ^ 60)&&decide (pos.col<2 ^ 60)
  && scope.names.all (λ p=>p.2 != .free||sc.lookup p.1==some .cell)
termination_by structural x=>x
noncomputable def eL (sc:SC):List E->List PySem.Expr->Bool
 | [],xs=>xs.isEmpty
 | e::r,xs=>onC xs λ e' s=>av e'&&aE sc e e'&&eL sc r s
termination_by structural x=>x
noncomputable def rr (sc:SC):List E->List (Option PySem.Expr)->List PySem.Expr->Bool
 | [],ks,vs=>ks.isEmpty&&vs.isEmpty
 | [_],_,_=>false
 | k::v::r,ks,vs=>onC ks λ k' ks=>onO k' λ k'=>onC vs λ v' vs=>zj k&&aE sc k k'&&aE sc v v'&&rr sc r ks vs
termination_by structural x=>x
end
mutual
noncomputable def rt (sc:SC):T->PySem.Expr->Bool
 | .x n,x=>aNam x λ id _=>id==nm n&&sc.lookup id==some .local
 | .c n,x=>aNam x λ id _=>id==nm n&&sc.lookup id==some .cell
 | .tup ts,x=>aTup x λ ts' _ _=>jT sc ts ts'
 | .at_ o a,x=>rp x λ o' s _=>s==nm a&&aE lm sc o o'
 | .sub o i,x=>uf x λ o' i' _=>px i'&&aE lm sc o o'&&aE lm sc i i'
termination_by structural x=>x
noncomputable def jT (sc:SC):List T->List PySem.Expr->Bool
 | [],xs=>xs.isEmpty
 | t::r,xs=>onC xs λ e s=>av e&&rt sc t e&&jT sc r s
termination_by structural x=>x
end
noncomputable def mK (t e:PySem.Expr):Bool:=(Nat.blt t.ctorIdx 24||Nat.blt 24 t.ctorIdx)&&(Nat.blt t.ctorIdx 25||Nat.blt 25 t.ctorIdx||Nat.blt e.ctorIdx 25||Nat.blt 25 e.ctorIdx||aTup t λ ts _ _=>ts.any λ t=>!iw t)
noncomputable def fC (x:PySem.Expr):Bool:=aCal x λ _ _ _ _=>true
noncomputable def zk (f:PySem.Expr->Bool) (st:Stmt):Bool:=uh st λ e' _=>fC e'&&f e'
noncomputable def ui (f:PySem.Expr->PySem.Expr->Bool) (st:Stmt):Bool:=ug st λ ts e' _=>on1 ts λ t'=>av t'&&mK t' e'&&(Nat.blt e'.ctorIdx 9||Nat.blt 10 e'.ctorIdx)&&f t' e'
noncomputable def zm (f:PySem.Expr->Bool) (g g':List Stmt->Bool) (st:Stmt):Bool:=zg st λ c' a' b' _=>f c'&&g a'&&g' b'
noncomputable def zn (f:PySem.Expr->Bool) (g:List Stmt->Bool) (st:Stmt):Bool:=zf st λ c' b' o _=>o.isEmpty&&f c'&&g b'
noncomputable def uj (f f':PySem.Expr->Bool) (g:List Stmt->Bool) (st:Stmt):Bool:=ze st λ t' it' b' o _=>o.isEmpty&&cq it'&&av t'&&f t'&&f' it'&&g b'
noncomputable def uk (e:E) (f:PySem.Expr->Bool) (st:Stmt):Bool:=zd st λ r _=>match r with | none=>isN e | some e'=>f e'
noncomputable def nk (sc:SC) (k:Nat) (f:PySem.Expr->Bool) (st:Stmt):Bool :=
 if k=12 then zh st λ r c _=>c.isNone&&onO r λ r=>aCal r λ n as ks _=>ks.isEmpty&&on1 as λ e'=>aNam n λ id _=>id==("PaintFault":Str)&&sc.lookup id==some .globalImplicit&&av e'&&f e'
 else decide (k=11)&&Nat.beq st.ctorIdx 16
noncomputable def eEx (x:S) (f:E->Bool):Bool:=S.casesOn (motive_1:=λ _=>Bool) x f (λ _ _=>false) (λ _ _ _=>false) (λ _ _=>false) (λ _ _ _=>false) (λ _=>false) (λ _ _=>false) (λ _ _ _=>false)
@[elab_as_elim] theorem kEx {P:S->Prop} {x:S} {f:E->Bool} (h:eEx x f=true) (k:∀ a,f a=true->P (.ex a)):P x:=by
 induction x using S.casesOn with
 | ex a=>exact k a h
 | _=>exact ad h
noncomputable def eAs (x:S) (f:T->E->Bool):Bool:=S.casesOn (motive_1:=λ _=>Bool) x (λ _=>false) f (λ _ _ _=>false) (λ _ _=>false) (λ _ _ _=>false) (λ _=>false) (λ _ _=>false) (λ _ _ _=>false)
@[elab_as_elim] theorem kAs {P:S->Prop} {x:S} {f:T->E->Bool} (h:eAs x f=true) (k:∀ a b,f a b=true->P (.asg a b)):P x:=by
 induction x using S.casesOn with
 | asg a b=>exact k a b h
 | _=>exact ad h
noncomputable def zo (x:S) (f:E->Bool):Bool:=S.casesOn (motive_1:=λ _=>Bool) x (λ _=>false) (λ _ _=>false) (λ _ _ _=>false) (λ _ _=>false) (λ _ _ _=>false) f (λ _ _=>false) (λ _ _ _=>false)
@[elab_as_elim] theorem Ak {P:S->Prop} {x:S} {f:E->Bool} (h:zo x f=true) (k:∀ a,f a=true->P (.ret a)):P x:=by
 induction x using S.casesOn with
 | ret a=>exact k a h
 | _=>exact ad h
noncomputable def eX (x:T) (f:Nat->Bool):Bool:=T.casesOn (motive_2:=λ _=>Bool) x f (λ _=>false) (λ _=>false) (λ _ _=>false) (λ _ _=>false)
@[elab_as_elim] theorem kX {P:T->Prop} {x:T} {f:Nat->Bool} (h:eX x f=true) (k:∀ a,f a=true->P (.x a)):P x:=by
 induction x using T.casesOn with
 | x a=>exact k a h
 | _=>exact ad h
noncomputable def eCB (x:E) (f:Bool->Bool):Bool:=E.casesOn (motive_1:=λ _=>Bool) x false false f (λ _=>false) (λ _=>false) (λ _=>false) (λ _=>false) (λ _ _=>false) (λ _ _=>false) (λ _ _ _=>false) (λ _ _ _=>false) (λ _=>false) (λ _=>false) (λ _ _ _=>false) (λ _ _ _ _ _=>false) (λ _=>false) (λ _=>false) (λ _ _ _=>false) (λ _=>false) (λ _ _=>false) (λ _ _=>false) (λ _ _=>false) (λ _ _ _=>false) (λ _ _ _=>false) (λ _ _=>false)
@[elab_as_elim] theorem kCB {P:E->Prop} {x:E} {f:Bool->Bool} (h:eCB x f=true) (k:∀ a,f a=true->P (.cB a)):P x:=by
 induction x using E.casesOn with
 | cB a=>exact k a h
 | _=>exact ad h
noncomputable def ul (sc:SC) (f:E->PySem.Expr->Bool) (b:List S) (k:Nat) (h:List S) (st:Stmt):Bool:=on1 b λ s=>eEx s λ e=>on1 h λ s=>eAs s λ t v=>eX t λ n=>eCB v λ v=>decide (k=12)&&zi st λ b' hs o fi _=>o.isEmpty&&fi.isEmpty &&
 on1 hs λ hd=>onH hd λ ty na h' _=>na.isNone&&onO ty λ ty=>aNam ty λ id _=>id==("PaintFault":Str)&&sc.lookup id==some .globalImplicit &&
  on1 b' λ s=>uh s λ e' _=>fC e'&&f e e'&&on1 h' λ s=>ug s λ ts x _=>on1 ts λ t=>aNam t λ n' _=>n'==nm n&&sc.lookup n'==some .local&&pP x λ c _ _=>decide (c=.bool v)
mutual
noncomputable def xI (sc:SC):S->Stmt->Bool
 | .ex e,st=>zk (aE lm sc e) st
 | .asg t e,st=>ui (λ t' e'=>rt lm sc t t'&&aE lm sc e e') st
 | .if_ c a b,st=>zm (aE lm sc c) (gm sc a) (gm sc b) st
 | .wh c b,st=>zn (aE lm sc c) (gm sc b) st
 | .for_ t it b,st=>uj (rt lm sc t) (aE lm sc it) (gm sc b) st
 | .ret e,st=>uk e (aE lm sc e) st
 | .raise k e,st=>nk sc k (aE lm sc e) st
 | .try_ b k h,st=>ul sc (aE lm sc) b k h st
termination_by structural x=>x
noncomputable def gm (sc:SC):List S->List Stmt->Bool
 | [],xs=>xs.isEmpty
 | s::r,xs=>onC xs λ s' r'=>xI sc s s'&&gm sc r r'
termination_by structural x=>x
end
end
noncomputable def um (ps:List Nat) (e:E) (cap:List Nat) (as:List Arg) (body:PySem.Expr) (scope:Scope):Bool:=decide (as.map (λ x=>x.arg)=ps.map nm)&&decide ps.Nodup&&ps.all (λ p=>scope.names.lookup (nm p)==some .local)
 && scope.kind==.function&&!scope.isGenerator&&!scope.isCoroutine&&scope.names.all (λ p=>p.2 != .cell)&&decide ((scope.names.map (λ x=>x.1)).Nodup)
 && cap.all (λ x=>scope.names.lookup (nm x)==some .free&&!(ps.contains x))&&scope.names.all (λ p=>p.2 != .free||cap.any λ x=>p.1==nm x)
 && aE (λ u' u' u' u' u'=>false) scope.names e body
noncomputable def py (k:Nat) (cap:List Nat) (args:Arguments) (body:PySem.Expr) (scope:Scope):Bool:=onO (tb.fns k) λ fi=>fi.dflts.isEmpty&&!fi.gc&&on1 fi.body λ s=>zo s λ e =>
 args.posonlyargs.isEmpty&&args.vararg.isNone&&args.kwonlyargs.isEmpty&&args.kw_defaults.isEmpty&&args.kwarg.isNone&&args.defaults.isEmpty&&um fi.params e cap args.args body scope
theorem iO {k:Nat} {cap:List Nat} {args:Arguments} {body:PySem.Expr} {scope:Scope} {G:Prop} (h:py k cap args body scope=true) (K:∀ ps e as,tb.fns k=some ⟨ps,[],[.ret e],false⟩->args=⟨[],as,none,[],[],none,[]⟩->um ps e cap as body scope=true->G):G:=by
 unfold py at h
 revert h K
 refine λ h=>jO h λ fi h=>?_
 obtain ⟨ps,ds,b,gc⟩:=fi
 obtain ⟨po,as,va,ko,kd,ka,df⟩:=args
 refine b3 h λ h1 h2 h=>j0 (l:=ds) h1 ?_
 rw [show gc=false from lR h2]
 refine j1 (l:=b) h λ s h=>Ak h λ e h=>b7 h λ x1 x2 x3 x4 x5 x6 h=>?_
 exact j0 (l:=po) x1 (jN (l:=va) x2 (j0 (l:=ko) x3 (j0 (l:=kd) x4 (jN (l:=ka) x5 (j0 (l:=df) x6 λ K=>K ps e as rfl rfl h)))))
end
end
section
open PySem PySem.W PySem.Calls PySem.Spec PyProof.Rows
set_option genCtorIdx false
noncomputable def d5:B->Value
 | .len=>.builtin "len" | .isinstance=>.builtin "isinstance" | .range=>.type "range" | .max=>.builtin "max" | .min=>.builtin "min" | .abs=>.builtin "abs"
 | .int=>.type "int" | .str=>.type "str" | .tuple=>.type "tuple" | .dict=>.type "dict" | .list=>.type "list" | .bool=>.type "bool"
set_option genInjectivity false in
structure Gl where
 prog:Program
 w:World
 K:Frag
 p:Program
 loose:List Str
 mean:ExcName->Option Value
 mg:Str->Option Value
 mb:Str->Option Value
 tabs:List (Addr×Addr)
 tq:Addr->Str
 os:OsState
 x0:Addr×Obj
noncomputable abbrev Gl.kx (G:Gl):Frag×(Addr×Obj):=(G.K,G.x0)
noncomputable def vRef (x:Value) (f:Addr->Bool):Bool:=if h:x.ctorIdx=10 then Value.ref.elim x h f else false
@[elab_as_elim] theorem ru {P:Value->Prop} {x:Value} {f:Addr->Bool} (h:vRef x f=true) (k:∀ a,f a=true->P (.ref a)):P x:=bW h λ i h=>Value.ref.elim (motive:=λ x=>∀ i:x.ctorIdx=10,Value.ref.elim x i f=true->P x) x i (λ a i h=>k a h) i h
noncomputable def rv (tabs:List (Addr×Addr)) (tq:Addr->Str) (cd:Value) (q:Str) (k:Nat) (cap:List Nat) (args:Arguments) (body:PySem.Expr) (scope:Scope):Bool :=
 py k cap args body scope&&tabs.any λ p=>vRef cd (λ a=>a==p.1)&&(q ++ "<lambda>" == tq p.2)
noncomputable def pfA:Addr:=59
mutual
noncomputable def xJ:S->Bool
 | .try_ _ _ _=>true
 | .if_ _ a b=>hasTs a||hasTs b
 | .wh _ b=>hasTs b
 | .for_ _ _ b=>hasTs b
 | _=>false
noncomputable def hasTs:List S->Bool
 | []=>false
 | s::r=>xJ s||hasTs r
end
noncomputable def mL (p:Arguments):Bool:=p.posonlyargs.isEmpty&&p.vararg.isNone&&p.kwonlyargs.isEmpty&&p.kwarg.isNone
noncomputable def uo (tabs:List (Addr×Addr)) (tq:Addr->Str) (fi:FnI) (qual:Str) (params:Arguments) (body:List Stmt) (scope:Scope) (cdv:Value):Bool :=
 mL params&&decide (params.args.map (λ x=>x.arg)=fi.params.map nm)&&decide fi.params.Nodup&&(scope.kind==.function)&&!scope.isGenerator&&!scope.isCoroutine
 && gm (rv tabs tq cdv (qual ++ ".<locals>.")) scope.names fi.body body&&!hasTs fi.body&&decide (scope.names.map (λ x=>x.1)).Nodup
 && fi.params.all (λ n=>scope.names.lookup (nm n)==some .local||scope.names.lookup (nm n)==some .cell)&&scope.names.all (λ p=>p.2 != .free)&&decide (fi.dflts.length<=fi.params.length)
noncomputable def gv (x:Str) (e:PySem.Expr):Bool:=aNam e λ id _=>id==x
noncomputable def js (a:Str) (st:Stmt):Bool:=ug st λ ts v _=>on1 ts λ t=>rp t λ o s _=>gv "self" o&&s==a&&gv a v
noncomputable def iP (st:Stmt):Bool:=uh st λ e _=>aCal e λ f as ks cp=>ks.isEmpty&&on2 as λ s1 w1=>rp f λ o ini ap=>gv "Exception" o&&ini==("__init__":Str)&&gv "self" s1&&gv "what" w1&&decide (ap.endLine=cp.line)
noncomputable def fh (l:List Stmt):Bool:=onC l λ a l=>on2 l λ b c=>iP a&&js "what" b&&js "at" c
noncomputable def fM (params:Arguments) (scope:Scope):Bool :=
 mL params&&decide (params.args.map (λ x=>x.arg)=[("self":Str),("what":Str),("at":Str)])&&(scope.kind==.function)&&!scope.isGenerator&&!scope.isCoroutine&&scope.names.all (λ p=>p.2 != .cell)
 && (scope.names.lookup ("self":Str)==some .local)&&(scope.names.lookup ("what":Str)==some .local)&&(scope.names.lookup ("at":Str)==some .local)&&(scope.names.lookup ("Exception":Str)==some .globalImplicit)
noncomputable def xM (x:Value) (f:Int->Bool):Bool:=if h:x.ctorIdx=4 then Value.int.elim x h (λ i _=>f i) else false
@[elab_as_elim] theorem zp {P:Value->Prop} {x:Value} {f:Int->Bool} (h:xM x f=true) (k:∀ a t,f a=true->P (.int a t)):P x:=bW h λ i h=>Value.int.elim (motive:=λ x=>∀ i:x.ctorIdx=4,Value.int.elim x i (λ i _=>f i)=true->P x) x i (λ a t i h=>k a t h) i h
noncomputable def zq (x:Value) (f:Str->Bool):Bool:=if h:x.ctorIdx=6 then Value.str.elim x h (λ i _=>f i) else false
@[elab_as_elim] theorem Al {P:Value->Prop} {x:Value} {f:Str->Bool} (h:zq x f=true) (k:∀ a t,f a=true->P (.str a t)):P x:=bW h λ i h=>Value.str.elim (motive:=λ x=>∀ i:x.ctorIdx=6,Value.str.elim x i (λ i _=>f i)=true->P x) x i (λ a t i h=>k a t h) i h
noncomputable def sr (x:FuncBody) (f:List Stmt->Bool):Bool:=if h:x.ctorIdx=0 then FuncBody.stmts.elim x h f else false
@[elab_as_elim] theorem zr {P:FuncBody->Prop} {x:FuncBody} {f:List Stmt->Bool} (h:sr x f=true) (k:∀ a,f a=true->P (.stmts a)):P x:=bW h λ i h=>FuncBody.stmts.elim (motive:=λ x=>∀ i:x.ctorIdx=0,FuncBody.stmts.elim x i f=true->P x) x i (λ a i h=>k a h) i h
noncomputable def su (x:Option Obj) (f:Obj->FuncData->Bool):Bool:=onO x λ o=>if h:o.data.ctorIdx=7 then Data.func.elim o.data h (λ d=>f o d) else false
theorem zt {x:Option Obj} {f:Obj->FuncData->Bool} {G:Prop} (h:su x f=true) (k:∀ c e d sl,x=some ⟨c,e,.func d,sl⟩->f ⟨c,e,.func d,sl⟩ d=true->G):G :=
 jO (P:=λ x=>(∀ c e d sl,x=some ⟨c,e,.func d,sl⟩->f ⟨c,e,.func d,sl⟩ d=true->G)->G) h (λ o h k=>let ⟨c,e,da,sl⟩:=o;bW h λ i h=>Data.func.elim (motive:=λ da=>∀ i:da.ctorIdx=7,(f ⟨c,e,da,sl⟩ |> λ o=>Data.func.elim (motive:=λ _=>Bool) da i (λ d=>o d))=true->(∀ c' e' d sl',some (⟨c,e,da,sl⟩:Obj)=some ⟨c',e',.func d,sl'⟩->f ⟨c',e',.func d,sl'⟩ d=true->G)->G) da i (λ d i h k=>k c e d sl rfl h) i h k) k
noncomputable def uq (x:Option Obj) (f:Obj->ClassData->Bool):Bool:=onO x λ o=>if h:o.data.ctorIdx=8 then Data.cls.elim o.data h (λ d=>f o d) else false
theorem Am {x:Option Obj} {f:Obj->ClassData->Bool} {G:Prop} (h:uq x f=true) (k:∀ c e d sl,x=some ⟨c,e,.cls d,sl⟩->f ⟨c,e,.cls d,sl⟩ d=true->G):G :=
 jO (P:=λ x=>(∀ c e d sl,x=some ⟨c,e,.cls d,sl⟩->f ⟨c,e,.cls d,sl⟩ d=true->G)->G) h (λ o h k=>let ⟨c,e,da,sl⟩:=o;bW h λ i h=>Data.cls.elim (motive:=λ da=>∀ i:da.ctorIdx=8,(f ⟨c,e,da,sl⟩ |> λ o=>Data.cls.elim (motive:=λ _=>Bool) da i (λ d=>o d))=true->(∀ c' e' d sl',some (⟨c,e,da,sl⟩:Obj)=some ⟨c',e',.cls d,sl'⟩->f ⟨c',e',.cls d,sl'⟩ d=true->G)->G) da i (λ d i h k=>k c e d sl rfl h) i h k) k
noncomputable def pz (x:Option Obj) (f:Obj->Array Value->Bool):Bool:=onO x λ o=>if h:o.data.ctorIdx=2 then Data.seq.elim o.data h (λ d _=>f o d) else false
theorem xN {x:Option Obj} {f:Obj->Array Value->Bool} {G:Prop} (h:pz x f=true) (k:∀ c e d n sl,x=some ⟨c,e,.seq d n,sl⟩->f ⟨c,e,.seq d n,sl⟩ d=true->G):G :=
 jO (P:=λ x=>(∀ c e d n sl,x=some ⟨c,e,.seq d n,sl⟩->f ⟨c,e,.seq d n,sl⟩ d=true->G)->G) h (λ o h k=>let ⟨c,e,da,sl⟩:=o;bW h λ i h=>Data.seq.elim (motive:=λ da=>∀ i:da.ctorIdx=2,(f ⟨c,e,da,sl⟩ |> λ o=>Data.seq.elim (motive:=λ _=>Bool) da i (λ d _=>o d))=true->(∀ c' e' d n sl',some (⟨c,e,da,sl⟩:Obj)=some ⟨c',e',.seq d n,sl'⟩->f ⟨c',e',.seq d n,sl'⟩ d=true->G)->G) da i (λ d n i h k=>k c e d n sl rfl h) i h k) k
noncomputable def ur (x:Option (Option Value)) (f:Addr->Bool):Bool:=onO x λ y=>onO y λ v=>vRef v f
theorem An {x:Option (Option Value)} {f:Addr->Bool} {G:Prop} (h:ur x f=true) (k:∀ a,x=some (some (.ref a))->f a=true->G):G :=
 jO (P:=λ x=>(∀ a,x=some (some (.ref a))->f a=true->G)->G) h (λ y h=>jO (P:=λ y=>(∀ a,some y=some (some (.ref a))->f a=true->G)->G) h λ v h=>ru (P:=λ v=>(∀ a,some (some v)=some (some (.ref a))->f a=true->G)->G) h λ a h k=>k a rfl h) k
noncomputable def pA (K:Frag) (v:V) (x:Value):Bool:=match v with
 | .none=>x==.none
 | .bool b=>x==.bool b
 | .int i=>xM x λ j=>decide (i=j)
 | .str k=>zq x λ s=>s==nm k
 | .fn k=>x==.ref (fa k)&&(tb.fns k).isSome&&decide (k<79)
 | .cls k=>x==.ref (ca k)&&(tb.clss k).isSome
 | _=>false
noncomputable def mM (K:Frag):List V->List Value->Bool
 | [],xs=>xs.isEmpty
 | v::r,xs=>onC xs λ x s=>pA K v x&&mM K r s
noncomputable def us (K:Frag) (v:V) (x:Value):Bool:=match v with
 | .tup l=>vRef x λ a=>pz (K.lookup a) λ o xs=>o.cls==.type "tuple" && mM K l xs.toList&&decide (l.length<=100000)
 | v=>pA K v x
noncomputable def sv (K:Frag):List V->List Value->Bool
 | [],xs=>xs.isEmpty
 | v::r,xs=>onC xs λ x s=>us K v x&&sv K r s
noncomputable def ut (K:Frag) (x:Nat) (v:V):Bool:=match v with
 | .bi b=>nsIn K mainGlobals (nm x)==some none&&bootBuiltins (nm x)==some (d5 b)&&!(nm x==("__name__":Str))
 | .dct _=>true
 | v=>onO (nsIn K mainGlobals (nm x)) λ y=>onO y λ w=>us K v w
noncomputable def uu (K:Frag):Bool:=lQ.all λ p=>ut K p.1 p.2
noncomputable def xO (K:Frag) (c:Nat) (ci:kL):Bool :=
 plainGet K (ca c) Str.empty&&hasDictIn K (ca c)&&(pM.getD c []).all (λ x=>findIn K (.ref (ca c)) (nm x)==some none&&takerIn K (ca c) (nm x)==some none)
 && ci.meths.all (λ p=>findIn K (.ref (ca c)) (nm p.1)==some (some (.ref (fa p.2)))&&isFn K (.ref (fa p.2))&&(tb.fns p.2).isSome&&decide (p.2<79))
 && findIn K (.ref (ca c)) "__setattr__" == some (some (.builtin "object.__setattr__"))&&plainOver K (ca c)
 && ["int", "bool", "str", "list", "dict", "tuple", "NoneType"].all (λ T=>isNotIn K T (ca c))
 && (List.range 11).all (λ k=>if ci.bases.contains k then isIn K (.ref (ca c)) (ca k) else kin_not K (ca c) (ca k))
 && ["int", "bool", "str", "list", "dict", "tuple"].all (λ T=>kin_notT K (ca c) T)
 && findIn K (.ref (ca c)) "__class__" == some (some (.builtin "object.__class__"))&&mroIn K (ca c) (.type "object")==some true&&keepIn K (.ref (ca c))
 && (!(tb.fns ci.init).isSome||(decide (ci.init<79)&&makesIn K (ca c)&&findIn K (.ref (ca c)) "__init__" == some (some (.ref (fa ci.init)))&&typeIn K (.ref (fa ci.init))==some (.type "function")))
noncomputable def uv (K:Frag) (l:List V) (v:Value):Bool:=(v==.none&&l.isEmpty)||vRef v λ T=>pz (K.lookup T) λ _ xs=>sv K l xs.toList
noncomputable def fnB (K:Frag) (tabs:List (Addr×Addr)) (tq:Addr->Str) (k:Nat) (fi:FnI):Bool:=su (K.lookup (fa k)) λ _ d=>sr d.body λ body =>
 d.closure.isEmpty&&d.globals==mainGlobals&&d.builtins==builtinsNs&&codeIn K d.code d.qualname&&uo tabs tq fi d.qualname d.params body d.scope d.code&&uv K fi.dflts d.defaults
noncomputable def zv (l:List Value):Bool:=onC l λ a l=>onC l λ b l=>onC l λ c l=>onC l λ d l=>on1 l λ e=>a==.ref pfA&&c==.type "Exception" && d==.type "BaseException" && e==.type "object" && vRef b λ _=>true
noncomputable def uw (l:List (Option Value)):Bool:=onC l λ _ l=>onC l λ _ l=>onC l λ _ l=>onC l λ _ l=>onC l λ k l=>on1 l λ _=>k==some (.builtin "Exception.__new__")
noncomputable def zw (K:Frag):Bool:=uq (K.lookup pfA) λ o d=>o.cls==.type "type" && d.hasDict&&!d.hasDel&&zv d.mro&&uw o.slots.toList
noncomputable def ux (K:Frag) (f:Addr):Bool:=su (K.lookup f) λ o d=>sr d.body λ body=>vRef d.defaults λ T =>
 o.cls==.type "function" && d.closure.isEmpty&&d.globals==mainGlobals&&d.builtins==builtinsNs&&codeIn K d.code d.qualname&&fM d.params d.scope&&fh body&&pz (K.lookup T) λ _ xs=>on1 xs.toList λ v=>xM v λ i=>decide (i=-1)
noncomputable def eiB (x:Option CFound):Bool:=onO x λ y=>match y with | .val v=>v==.builtin "Exception.__init__" | .get _ _ _ _=>false
noncomputable def u5 (K:Frag):Bool:=zw K&&ur (findIn K (.ref pfA) "__init__") (ux K)
 && findIn K (.ref pfA) "__setattr__" == some (some (.builtin "object.__setattr__"))&&findIn K (.ref pfA) "what" == some none&&findIn K (.ref pfA) "at" == some none
 && nsIn K mainGlobals "Exception" == some none&&bootBuiltins "Exception" == some (.type "Exception")&&nsIn K mainGlobals "PaintFault" == some (some (.ref pfA))
 && eiB (findCls K (.type "Exception") (.type "type") "__init__")
noncomputable def u6 (K:Frag):Bool:=specialIn K (.builtin "object.__class__") "__get__" == some (some (.builtin "getset_descriptor.__get__"))&&takesIn K (.builtin "object.__class__")==some true
noncomputable def ye (K:Frag) (tabs:List (Addr×Addr)) (tq:Addr->Str):Bool:=tabs.all λ p=>codeHdIn K p.1 p.2&&Nat.ble 20 (tq p.2).cps.size&&Nat.ble (tq p.2).cps.size 35
noncomputable def kM (K:Frag):Bool:=(List.range 11).all λ c=>match tb.clss c with
 | some ci=>xO K c ci
 | none=>false
noncomputable def lS (K:Frag) (tabs:List (Addr×Addr)) (tq:Addr->Str) (l:List Nat):Bool:=l.all λ k=>match tb.fns k with
 | some fi=>fnB K tabs tq k fi&&keepIn K (.ref (fa k))
 | none=>false
noncomputable def rx (P:Params):List (Nat×Nat)->Nat->List DictEntry
 | [],_=>[]
 | (k,j)::r,t=>⟨PyData.keyHash P (nm k),.str (nm k) t,.str (nm j) (t+1)⟩::rx P r (t+2)
noncomputable def fD (K:Frag) (P:Params) (a:Addr):Prop:=nsIn K mainGlobals (nm 257)=some (some (.ref a))/\(a==sysModules)=false/\K.lookup a=some (dictOf (rx P [(56,254),(283,254),(284,254),(52,254),(285,253),(286,253),(287,253)] 1196) 7)
noncomputable def sw (K:Frag) (tabs:List (Addr×Addr)) (tq:Addr->Str):Bool:=kM K&&lS K tabs tq (List.range 79)&&u5 K&&u6 K&&ye K tabs tq&&uu K
noncomputable def tq0 (a:Addr):Str:=if a=582 then "told_path.<locals>.<lambda>" else "transformed.<locals>.<lambda>"
noncomputable abbrev jU:List (Addr×Addr):=[(586,582),(579,575)]
noncomputable def zx (tabs:List (Addr×Addr)) (tq:Addr->Str) (body:List Stmt) (qual:Str) (scope:Scope) (cdv:Value):Bool :=
 (scope.kind==.function)&&!scope.isGenerator&&!scope.isCoroutine&&gm (rv tabs tq cdv (qual ++ ".<locals>.")) scope.names jS body&&decide (scope.names.map (λ x=>x.1)).Nodup&&scope.names.all (λ p=>p.2 != .free)
noncomputable def yf:Prop:=∀ ns:List Int,ns.length<=63->Mine.Internal.execs tb (U tb 40) jS (λ x=>if x=275 then some (.lst (ns.map .int)) else none) [] (λ u' u'=>False) (λ v u'=>v=.bool true) (λ u'=>False)
noncomputable def fE (g:Gl):Prop:=∀ (gh h₁:Heap) (L f:Addr) (m:Str->Option Value) (qual:Str) (scope:Scope) (body:List Stmt) (cdv:Value) (oP:Obj) (vs:List Value) (ns:List Int) (n:Nat) (d:Drawn) (tk:Tok) (Q:Flow->Shared->Prop) (E:Value->Shared->Prop),
 yf->g.tabs=jU->sw g.K g.tabs g.tq=true->fD g.K g.w.params 719->zx g.tabs g.tq body qual scope cdv=true->m ("script":Str)=some (.ref g.x0.1)->scope.names.lookup ("script":Str)=some .local->cellsFrom (L+1) scope.names []=[(("pool":Str),L+1)]->oP.data=.cell none ->
 g.K.In gh->Top g.p g.loose g.mean g.mg g.mb gh->Below callerA gh [] gh->Fr gh L h₁ m->News gh L h₁ [(L+1,oP),(582,tabObj #[]),(575,tabObj #[])]->gh.get? g.x0.1=some g.x0.2->g.x0.2.cls=.type "list" -> g.x0.2.data=.seq vs.toArray n->IntsAre vs ns->ns.length<=63->582<L/\575<L ->
 (∀ s':Shared,(∀ b o,gh.get? b=some o->s'.heap.get? b=some o)->s'.gens=#[]->s'.os=g.os->GrownAll jU s'.heap->Q (.ret (.bool true)) s') ->
 wpAny (model g.prog g.w) (callerA.deeper (envOfC qual scope L f cdv)) (PySem.execs body (envOfC qual scope L f cdv)) Q E ⟨h₁,#[],d,tk,g.os⟩
theorem yg:Nonempty Gl:=⟨⟨default,⟨λ u' u'=>0,{ strHash:=λ u'=>0,shareClass:=λ u'=>0,mergeTok:=λ t=>t,idOf:=λ u'=>0,idOfShared:=λ u' u'=>0,followText:=λ u'=>false,idOfImm:=λ u'=>0 }⟩,[],default,[],λ u'=>none,λ u'=>none,λ u'=>none,[],λ u'=>default,default,default⟩⟩
noncomputable def G:Gl:=@Classical.epsilon Gl yg λ g=>¬ fE g
theorem sI (h:fE G) (g:Gl):fE g:=Classical.byContradiction λ k=>@Classical.epsilon_spec Gl (λ g=>¬ fE g) ⟨g,k⟩ h
end
section
open PySem
theorem mO:sq nmL=true:=by decide +kernel
theorem eM {l:List String}:sq l=true->(∀ s∈l,∀ n∈(Str.ofString s).cps.toList,n<1114112)/\l.Nodup/\∀ s∈l,(Str.ofString s).cps.size<=100:=by
 induction l with
 | nil=>exact λ _=>⟨λ u' h=>(nomatch h),List.nodup_nil,λ u' h=>(nomatch h)⟩
 | cons s r ih =>
  intro h
  change (_&&_&&_&&_)=true at h
  have h:=an4 h
  refine al h ?_;clear h;intro z0 h3;refine al z0 ?_;clear z0;intro z0 h2;(refine al z0 ?_;clear z0;intro h1 h4)
  refine bq (ih h3) ?_;intro a b d
  refine ⟨λ t ht n hn=>?_,List.nodup_cons.mpr ⟨λ q=>ad ((nf (List.all_eq_true.mp h2 s q)).symm.trans (Nat.beq_refl _)),b⟩,λ t ht=>?_⟩
  ·rcases List.mem_cons.mp ht with rfl | ht
   ·rw [← Array.all_toList,List.all_eq_true] at h1
    exact Nat.ble_eq.mp (h1 n hn)
   ·exact a t ht n hn
  ·rcases List.mem_cons.mp ht with rfl | ht
   ·exact Nat.ble_eq.mp h4
   ·exact d t ht
theorem e9 {s t:String} (h:Str.ofString s=Str.ofString t):s=t:=by
 have h1:cpsOfBytes 0 0 s.toByteArray.data.toList=cpsOfBytes 0 0 t.toByteArray.data.toList:=by
  have:=congrArg (λ x:Str=>x.cps.toList) h
  simpa [Str.ofString] using this
 rw [cpsOfBytes_string,cpsOfBytes_string] at h1
 have h2:s.toList=t.toList:=by
  have inj:∀ {l r:List Char},l.map Char.toNat=r.map Char.toNat->l=r:=by
   intro l
   induction l with
   | nil=>intro r h;cases r with | nil=>rfl | cons=>cases h
   | cons a l ih =>
    intro r h
    cases r with
    | nil=>cases h
    | cons b r =>
     rw [List.map_cons,List.map_cons,List.cons.injEq] at h
     refine rwE (ih h.2) ?_;refine rwE (Char.ext (UInt32.toNat_inj.mp h.1)) ?_;rfl
  exact inj h1
 exact String.toList_inj.mp h2
theorem bI {x y:Nat} (h:nm x=nm y):x=y:=by
 refine bq (eM mO) ?_;intro hs hn z2
 unfold nm at h
 cases hx:nmL[x]? with
 | some s =>
  cases hy:nmL[y]? with
  | some t =>
   rw [hx,hy] at h
   have e:=e9 h
   subst e
   obtain ⟨h1,e1⟩:=List.getElem?_eq_some_iff.mp hx
   obtain ⟨h2,e2⟩:=List.getElem?_eq_some_iff.mp hy
   by_cases q:x=y
   ·exact q
   ·exfalso
    rcases Nat.lt_or_gt_of_ne q with q | q
    ·exact List.pairwise_iff_getElem.mp hn x y h1 h2 q (e1.trans e2.symm)
    ·exact List.pairwise_iff_getElem.mp hn y x h2 h1 q (e2.trans e1.symm)
  | none =>
   rw [hx,hy] at h
   have:=hs s (List.mem_of_getElem? hx) (1114112+y) (by have h':Str.ofString s=⟨#[1114112+y]⟩:=h;refine rwE h' ?_;simp)
   lia
 | none =>
  cases hy:nmL[y]? with
  | some t =>
   rw [hx,hy] at h
   have:=hs t (List.mem_of_getElem? hy) (1114112+x) (by have h':(⟨#[1114112+x]⟩:Str)=Str.ofString t:=h;refine rwB h' ?_;simp)
   lia
  | none =>
   rw [hx,hy] at h
   have:=congrArg (λ s:Str=>s.cps.toList) h
   simp at this
   lia
theorem eA (x:Nat):(nm x).cps.size<=100:=by
 refine bq (eM mO) ?_;intro z0 z1 h
 unfold nm
 cases hx:nmL[x]? with
 | some s=>exact h s (List.mem_of_getElem? hx)
 | none=>show 1<=100;lia
section
variable {P:Stmt->Prop} {st:Stmt} {f f':PySem.Expr->Bool} {g g':List Stmt->Bool}
@[elab_as_elim] theorem kN {P:PySem.Expr->Prop} {e:PySem.Expr} (k:∀ f as ks p,P (.Call f as ks p)) (h:fC e=true):P e :=
 pO (P:=P) h λ a b c d _=>k a b c d
theorem u7 (k:∀ e' p,fC e'=true->f e'=true->P (.Expr e' p)) (h:zk f st=true):P st :=
 xH (P:=P) h λ a b h=>b2 h (k a b)
theorem sJ {f:PySem.Expr->PySem.Expr->Bool} (k:∀ t' e' p,av t'=true->mK t' e'=true->(Nat.blt e'.ctorIdx 9||Nat.blt 10 e'.ctorIdx)=true->f t' e'=true->P (.Assign [t'] e' p)) (h:ui f st=true):P st :=
 xG (P:=P) h λ ts e p h=>j1 (P:=λ ts=>P (.Assign ts e p)) h λ t h=>b4 h (k t e p)
theorem u8 (k:∀ c' a' b' p,f c'=true->g a'=true->g' b'=true->P (.If c' a' b' p)) (h:zm f g g' st=true):P st :=
 Ah (P:=P) h λ a b c d h=>b3 h (k a b c d)
theorem u9 (k:∀ c' b' p,f c'=true->g b'=true->P (.While c' b' [] p)) (h:zn f g st=true):P st :=
 Ag (P:=P) h λ a b o d h=>b3 h λ h=>j0 (P:=λ o=>_->_->P (.While a b o d)) h (k a b d)
theorem sK (k:∀ t' it' b' p,cq it'=true->av t'=true->f t'=true->f' it'=true->g b'=true->P (.For t' it' b' [] p)) (h:uj f f' g st=true):P st :=
 Af (P:=P) h λ a b c o d h=>b6 h λ h h1 h2 h3 h4 h5=>j0 (P:=λ o=>P (.For a b c o d)) h (k a b c d h1 h2 h3 h4 h5)
theorem sL {e:E} (k:∀ p,e=.cN->P (.Return none p)) (k':∀ e' p,f e'=true->P (.Return (some e') p)) (h:uk e f st=true):P st :=
 Ae (P:=P) h λ r p h=>by
  induction r using Option.casesOn with
  | none=>exact k p (rq h)
  | some e'=>exact k' _ _ h
theorem og {sc:SC} (k:∀ e' np cp p,sc.lookup ("PaintFault":Str)=some .globalImplicit->av e'=true->f e'=true->P (.Raise (some (.Call (.Name ("PaintFault":Str) np) [e'] [] cp)) none p)) (h:nk sc 12 f st=true):P st:=by
 refine Ai h λ r c p h=>b2 h λ h1 h=>jN h1 (jO h λ r h=>pO h λ n as ks q h=>b2 h λ h1 h=>j0 h1 (j1 h λ e h=>iN h λ id q h=>b4 h λ h1 h2 h3 h4=>?_))
 rw [beq_iff_eq.mp h1] at h2 ⊢
 exact k _ _ _ _ (beq_iff_eq.mp h2) h3 h4
theorem sM {P:List S->Nat->List S->Stmt->Prop} {sc:SC} {f:E->PySem.Expr->Bool} {b h:List S} {k:Nat} (hh:ul sc f b k h st=true)
 (K:∀ e n v e' ep np np' kd cp ap hp p,fC e'=true->f e e'=true->sc.lookup ("PaintFault":Str)=some .globalImplicit->sc.lookup (nm n)=some .local ->
  P [.ex e] 12 [.asg (.x n) (.cB v)] (.Try [.Expr e' ep] [.ExceptHandler (some (.Name ("PaintFault":Str) np)) none [.Assign [.Name (nm n) np'] (.Constant (.bool v) kd cp) ap] hp] [] [] p)):P b k h st:=by
 refine j1 hh λ s hh=>kEx hh λ e hh=>j1 hh λ s hh=>kAs hh λ t v hh=>kX hh λ n hh=>kCB hh λ v hh=>b2 hh λ hk hh=>?_
 rw [of_decide_eq_true hk]
 refine Aj hh λ b' hs o fi p hh=>b3 hh λ h1 h2 hh=>j0 h1 (j0 h2 (j1 hh λ hd hh=>jH hh λ ty na h' hp hh=>b2 hh λ h1 hh=>jN h1 (jO hh λ ty hh=>iN hh λ id np hh=>b3 hh λ h1 h2 hh=>?_)))
 rw [beq_iff_eq.mp h1] at h2 ⊢
 refine j1 hh λ s hh=>xH hh λ e' ep hh=>b3 hh λ h3 h4 hh=>j1 hh λ s hh=>xG hh λ ts x ap hh=>j1 hh λ t hh=>iN hh λ n' np' hh=>b3 hh λ h5 h6 hh=>pQ hh λ c kd cp hh=>?_
 rw [beq_iff_eq.mp h5] at h6 ⊢
 rw [of_decide_eq_true hh]
 exact K _ _ _ _ _ _ _ _ _ _ _ _ h3 h4 (beq_iff_eq.mp h2) (beq_iff_eq.mp h6)
end
end
section
open PySem PySem.W PySem.Calls PySem.Spec PyProof.Rows
section
noncomputable abbrev Hp:=Addr->Obj->Prop
noncomputable abbrev mP (a b c:Int) (t u v:Tok):Obj:={ cls:=.type "range",dict:=none,data:=.fields #[.int a t,.int b u,.int c v],slots:=#[] }
noncomputable abbrev zy (v:Value):Obj:={ cls:=.type "cell",data:=.cell (some v) }
inductive lT (H:Hp) (k:Nat) (xs:List Nat) (o:Obj) (clos:List (Str×Addr)):Prop
 | mk (name qual:Str) (params:Arguments) (body:PySem.Expr) (scope:Scope) (pm:Value) (c':Addr) (ctv:Value) (oc:Obj) (vs:Array Value) (t:Tok) (h1:o=kla_obj name qual params body scope clos pm c' ctv) (h2:py k xs params body scope=true)
  (h3:H c' oc) (h4:oc.data=.fields vs) (h5:vs[1]?=some (.str qual t)) (h6:20<=qual.cps.size):lT H k xs o clos
inductive xP (T:String) (H:Hp) (l:List V) (R:List Value->Prop) (v:Value):Prop
 | mk (a:Addr) (o:Obj) (xs:Array Value) (n:Nat) (h1:v=.ref a) (h2:H a o) (h3:o.cls=.type T) (h4:o.data=.seq xs n) (h5:R xs.toList) (h6:l.length<=100000):xP T H l R v
inductive xQ {α:Type} (H:Hp) (l:List (α×V)) (R:List DictEntry->Prop) (v:Value):Prop
 | mk (a:Addr) (es:List DictEntry) (n:Nat) (h1:v=.ref a) (h2:H a (dictOf es n)) (h3:R es) (h4:(l.map (λ x=>x.1)).Nodup) (h5:l.length<=1000) (h6:(a==sysModules)=false):xQ H l R v
inductive ObR (H:Hp) (c:Nat) (fs:List (Nat×V)) (R:List DictEntry->Prop) (v:Value):Prop
 | mk (a dx:Addr) (es:List DictEntry) (n:Nat) (h1:v=.ref a) (h2:H a (instObj (ca c) dx)) (h3:H dx (dictOf es n)) (h4:R es) (h5:(fs.all λ p=>tb.fld c p.1)=true) (h6:(fs.map (λ x=>x.1)).Nodup) (h7:(tb.clss c).isSome=true):ObR H c fs R v
inductive zA (H:Hp) (a b c:Int) (v:Value):Prop
 | mk (r:Addr) (t u w:Tok) (h1:v=.ref r) (h2:H r (mP a b c t u w)):zA H a b c v
inductive zB (H:Hp) (k:Nat) (xs:List Nat) (R:List (Str×Addr)->Prop) (v:Value):Prop
 | mk (a:Addr) (o:Obj) (cl:List (Str×Addr)) (h1:v=.ref a) (h2:H a o) (h3:lT H k xs o cl) (h4:R cl):zB H k xs R v
inductive uy (p:Value->Prop) (q:List Value->Prop) (xs:List Value):Prop
 | mk (x:Value) (ys:List Value) (h1:xs=x::ys) (h2:p x) (h3:q ys):uy p q xs
inductive zC (P:Params) (k:Nat) (p:Value->Prop) (q:List DictEntry->Prop) (es:List DictEntry):Prop
 | mk (t:Tok) (x:Value) (ys:List DictEntry) (h1:es=⟨PyData.keyHash P (nm k),.str (nm k) t,x⟩::ys) (h2:p x) (h3:q ys):zC P k p q es
inductive zD (i:Int) (p:Value->Prop) (q:List DictEntry->Prop) (es:List DictEntry):Prop
 | mk (t:Tok) (x:Value) (ys:List DictEntry) (h1:es=⟨hashInt i,.int i t,x⟩::ys) (h2:p x) (h3:q ys):zD i p q es
inductive xR (H:Hp) (k:Nat) (p:Value->Prop) (cl:List (Str×Addr)):Prop
 | mk (c:Addr) (o:Obj) (x:Value) (h1:cl.lookup (nm k)=some c) (h2:H c o) (h3:o.data=.cell (some x)) (h4:p x):xR H k p cl
section
variable (P:Params) (H:Hp)
mutual
noncomputable def VR:V->Value->Prop
 | .none,v=>v=.none
 | .bool b,v=>v=.bool b
 | .int i,v=>∃ t,v=.int i t
 | .str k,v=>∃ t,v=.str (nm k) t
 | .msg n,v=>∃ s t,v=.str s t/\s.cps.size<=n
 | .byt,v=>∃ b t,v=.bytes b t
 | .fn k,v=>v=.ref (fa k)/\(tb.fns k).isSome=true/\k<79
 | .cls c,v=>v=.ref (ca c)/\(tb.clss c).isSome=true
 | .bi b,v=>v=d5 b
 | .clo k cap,v=>zB H k (cap.map (λ x=>x.1)) (λ cl=>VRc cap cl) v
 | .tup l,v=>xP "tuple" H l (λ xs=>VRs l xs) v
 | .lst l,v=>xP "list" H l (λ xs=>VRs l xs) v
 | .dct l,v=>xQ H l (λ es=>VRd l es) v
 | .dci l,v=>xQ H l (λ es=>VRi l es) v
 | .ob c fs,v=>ObR H c fs (λ es=>VRd fs es) v
 | .loc a,v=>v=.ref a
 | .rng a b c,v=>zA H a b c v
noncomputable def VRs:List V->List Value->Prop
 | [],xs=>xs=[]
 | v::r,xs=>uy (λ x=>VR v x) (λ ys=>VRs r ys) xs
noncomputable def VRd:List (Nat×V)->List DictEntry->Prop
 | [],es=>es=[]
 | p::r,es=>zC P p.1 (λ x=>VRp p x) (λ ys=>VRd r ys) es
noncomputable def VRp:Nat×V->Value->Prop
 | (_,v),x=>VR v x
noncomputable def VRi:List (Int×V)->List DictEntry->Prop
 | [],es=>es=[]
 | p::r,es=>zD p.1 (λ x=>VRq p x) (λ ys=>VRi r ys) es
noncomputable def VRq:Int×V->Value->Prop
 | (_,v),x=>VR v x
noncomputable def VRc:List (Nat×V)->List (Str×Addr)->Prop
 | [],_=>True
 | p::r,cl=>xR H p.1 (λ x=>VRp p x) cl/\VRc r cl
end
end
section
variable {P:Params} {H H':Hp} (k:∀ a o,H a o->H' a o)
include k
theorem lT.mono {n xs o cl} (x:lT H n xs o cl):lT H' n xs o cl:=by
 obtain ⟨name,qual,params,body,scope,pm,c',ctv,oc,vs,t,h1,h2,h3,h4,h5,h6⟩:=x
 exact ⟨name,qual,params,body,scope,pm,c',ctv,oc,vs,t,h1,h2,k _ _ h3,h4,h5,h6⟩
mutual
theorem VR.mono:∀ {V:V} {v:Value},VR P H V v->VR P H' V v
 | .none,_,h | .bool _,_,h | .int _,_,h | .str _,_,h | .msg _,_,h | .byt,_,h | .fn _,_,h | .cls _,_,h | .bi _,_,h | .loc _,_,h=>h
 | .clo _ _,_,h=>by obtain ⟨a,o,cl,h1,h2,h3,h4⟩:=h;exact ⟨a,o,cl,h1,k _ _ h2,h3.mono k,VRc.mono h4⟩
 | .tup _,_,h=>by obtain ⟨a,o,xs,n,h1,h2,h3,h4,h5,h6⟩:=h;exact ⟨a,o,xs,n,h1,k _ _ h2,h3,h4,VRs.mono h5,h6⟩
 | .lst _,_,h=>by obtain ⟨a,o,xs,n,h1,h2,h3,h4,h5,h6⟩:=h;exact ⟨a,o,xs,n,h1,k _ _ h2,h3,h4,VRs.mono h5,h6⟩
 | .dct _,_,h=>by obtain ⟨a,es,n,h1,h2,h3,h4,h5,h6⟩:=h;exact ⟨a,es,n,h1,k _ _ h2,VRd.mono h3,h4,h5,h6⟩
 | .dci _,_,h=>by obtain ⟨a,es,n,h1,h2,h3,h4,h5,h6⟩:=h;exact ⟨a,es,n,h1,k _ _ h2,VRi.mono h3,h4,h5,h6⟩
 | .ob _ _,_,h=>by obtain ⟨a,dx,es,n,h1,h2,h3,h4,h5,h6,h7⟩:=h;exact ⟨a,dx,es,n,h1,k _ _ h2,k _ _ h3,VRd.mono h4,h5,h6,h7⟩
 | .rng _ _ _,_,h=>by obtain ⟨r,t,u,w,h1,h2⟩:=h;exact ⟨r,t,u,w,h1,k _ _ h2⟩
theorem VRs.mono:∀ {l:List V} {xs:List Value},VRs P H l xs->VRs P H' l xs
 | [],_,h=>h
 | _::_,_,h=>by obtain ⟨x,ys,h1,h2,h3⟩:=h;exact ⟨x,ys,h1,VR.mono h2,VRs.mono h3⟩
theorem VRd.mono:∀ {l:List (Nat×V)} {es:List DictEntry},VRd P H l es->VRd P H' l es
 | [],_,h=>h
 | _::_,_,h=>by obtain ⟨t,x,ys,h1,h2,h3⟩:=h;exact ⟨t,x,ys,h1,VRp.mono h2,VRd.mono h3⟩
theorem VRp.mono:∀ {p:Nat×V} {x:Value},VRp P H p x->VRp P H' p x
 | (_,_),_,h=>VR.mono (show VR P H _ _ from h)
theorem VRi.mono:∀ {l:List (Int×V)} {es:List DictEntry},VRi P H l es->VRi P H' l es
 | [],_,h=>h
 | _::_,_,h=>by obtain ⟨t,x,ys,h1,h2,h3⟩:=h;exact ⟨t,x,ys,h1,VRq.mono h2,VRi.mono h3⟩
theorem VRq.mono:∀ {p:Int×V} {x:Value},VRq P H p x->VRq P H' p x
 | (_,_),_,h=>VR.mono (show VR P H _ _ from h)
theorem VRc.mono:∀ {l:List (Nat×V)} {cl:List (Str×Addr)},VRc P H l cl->VRc P H' l cl
 | [],_,h=>h
 | _::_,_,h=>by (refine al h ?_;clear h;intro z0 h4;obtain ⟨c,o,x,h1,h2,h5,h3⟩:=z0);exact ⟨⟨c,o,x,h1,k _ _ h2,h5,VRp.mono h3⟩,VRc.mono h4⟩
end
end
end
set_option genCtorIdx false
set_option genInjectivity false in
structure Cx where
 fenv:Env
 env:Env
 outer:List Env
 g:Heap
 base:Heap
 L:Addr
 Ex:List (Addr×Obj)
 mF:Option (Str->Option Value)
 Fk:List (Addr×Obj)
noncomputable def Hf (K:Frag×(Addr×Obj)) (Fz:List (Addr×Obj)):Hp:=λ a o=>(K.1.lookup a=some o\/K.2=(a,o))\/(a,o)∈Fz
theorem Hf.mono {K:Frag×(Addr×Obj)} {Fz Fz':List (Addr×Obj)} (k:∀ x∈Fz,x∈Fz'):∀ a o,Hf K Fz a o->Hf K Fz' a o:=λ u' u' h=>h.imp id (k _)
noncomputable abbrev yd:Obj:={ cls:=.type "cell",data:=.cell none }
inductive FpL (R:List Value->Prop) (a:Addr) (l:List V) (f:List (Addr×Obj)):Prop
 | mk (xs:Array Value) (n:Nat) (h1:f=[(a,listOf xs n)]) (h2:R xs.toList) (h3:l.length<=100000):FpL R a l f
inductive FpD {α:Type} (R:List DictEntry->Prop) (a:Addr) (l:List (α×V)) (f:List (Addr×Obj)):Prop
 | mk (es:List DictEntry) (n:Nat) (h1:f=[(a,dictOf es n)]) (h2:R es) (h3:(l.map (λ x=>x.1)).Nodup) (h4:l.length<=1000) (h5:(a==sysModules)=false):FpD R a l f
inductive FpO (R:List DictEntry->Prop) (a:Addr) (c:Nat) (fs:List (Nat×V)) (f:List (Addr×Obj)):Prop
 | mk (dx:Addr) (es:List DictEntry) (n:Nat) (h1:f=[(a,instObj (ca c) dx),(dx,dictOf es n)]) (h2:R es) (h3:(fs.all λ p=>tb.fld c p.1)=true) (h4:(fs.map (λ x=>x.1)).Nodup) (h5:(tb.clss c).isSome=true):FpO R a c fs f
inductive MtC (p q:List (Addr×Obj)->Prop) (Mt:List (Addr×Obj)):Prop
 | mk (f r:List (Addr×Obj)) (h1:Mt=f++r) (h2:p f) (h3:q r):MtC p q Mt
section
variable (P:Params) (H:Hp)
noncomputable def Fp (a:Addr):M->List (Addr×Obj)->Prop
 | .lst l,f=>FpL (VRs P H l) a l f
 | .dct l,f=>FpD (VRd P H l) a l f
 | .dci l,f=>FpD (VRi P H l) a l f
 | .ob c fs,f=>FpO (VRd P H fs) a c fs f
noncomputable def MtR:St->List (Addr×Obj)->Prop
 | [],Mt=>Mt=[]
 | (a,m)::σ,Mt=>MtC (λ f=>Fp P H a m f) (λ r=>MtR σ r) Mt
end
theorem Fp.mono {P:Params} {H H':Hp} (k:∀ a o,H a o->H' a o) {a:Addr}:∀ {m:M} {f:List (Addr×Obj)},Fp P H a m f->Fp P H' a m f
 | .lst _,_,h=>by obtain ⟨xs,n,h1,h2,h3⟩:=h;exact ⟨xs,n,h1,VRs.mono k h2,h3⟩
 | .dct _,_,h=>by obtain ⟨xs,n,h1,h2,h3,h4,h5⟩:=h;exact ⟨xs,n,h1,VRd.mono k h2,h3,h4,h5⟩
 | .dci _,_,h=>by obtain ⟨xs,n,h1,h2,h3,h4,h5⟩:=h;exact ⟨xs,n,h1,VRi.mono k h2,h3,h4,h5⟩
 | .ob _ _,_,h=>by obtain ⟨dx,es,n,h1,h2,h3,h4,h5⟩:=h;exact ⟨dx,es,n,h1,VRd.mono k h2,h3,h4,h5⟩
theorem MtR.mono {P:Params} {H H':Hp} (k:∀ a o,H a o->H' a o):∀ {σ:St} {Mt:List (Addr×Obj)},MtR P H σ Mt->MtR P H' σ Mt
 | [],_,h=>h
 | _::_,_,h=>by obtain ⟨f,r,h1,h2,h3⟩:=h;exact ⟨f,r,h1,Fp.mono k h2,MtR.mono k h3⟩
inductive uz (P:Params) (H:Hp) (a:Addr) (σ:St) (Mt:List (Addr×Obj)) (m:M):Prop
 | mk (pre f post:List (Addr×Obj)) (h1:Mt=pre++(f++post)) (h2:Fp P H a m f) (h3:∀ m' f',Fp P H a m' f'->MtR P H (put a m' σ) (pre++(f'++post))) (h4:MtR P H (rem a σ) (pre++post)):uz P H a σ Mt m
theorem MtR.look {P:Params} {H:Hp} {a:Addr} {σ:St}:∀ {Mt:List (Addr×Obj)} {m:M},MtR P H σ Mt->look a σ=some m->uz P H a σ Mt m:=by
 induction σ with
 | nil=>exact λ _ e=>J e
 | cons p σ ih =>
  intro Mt m h e
  obtain ⟨b,m₀⟩:=p
  obtain ⟨f,r,rfl,h2,h3⟩:=h
  by_cases q:a=b
  ·subst q
   cases am.symm.trans e
   exact ⟨[],f,r,rfl,h2,λ m' f' h=>by refine rwE cC ?_;exact ⟨f',r,rfl,h,h3⟩,by refine rwE aG ?_;exact h3⟩
  ·obtain ⟨pre,g,post,e1,e2,e3,e4⟩:=ih h3 ((aD q).symm.trans e)
   subst e1
   refine ⟨f++pre,g,post,(List.append_assoc ..).symm,e2,λ m' f' h=>?_,?_⟩
   ·refine rwE (pU q) ?_;refine rwE (List.append_assoc ..) ?_;exact ⟨f,_,rfl,h2,e3 m' f' h⟩
   ·refine rwE (pV q) ?_;refine rwE (List.append_assoc ..) ?_;exact ⟨f,_,rfl,h2,e4⟩
theorem Fp.head {P:Params} {H:Hp} {a:Addr} {m:M} {f:List (Addr×Obj)} (h:Fp P H a m f):∃ o,(a,o)∈f:=by
 induction m using M.casesOn with
 | lst _=>obtain ⟨_,_,rfl,_,_⟩:=h;exact ⟨_,.head _⟩
 | dct _=>obtain ⟨_,_,rfl,_,_,_,_⟩:=h;exact ⟨_,.head _⟩
 | dci _=>obtain ⟨_,_,rfl,_,_,_,_⟩:=h;exact ⟨_,.head _⟩
 | ob _ _=>obtain ⟨_,_,_,rfl,_,_,_,_⟩:=h;exact ⟨_,.head _⟩
theorem MtR.mem {P:Params} {H:Hp}:∀ {σ:St} {Mt:List (Addr×Obj)},MtR P H σ Mt->∀ p∈σ,∃ o,(p.1,o)∈Mt
 | [],_,_,_,hp=>absurd hp List.not_mem_nil
 | (a,m)::σ,_,h,p,hp=>by
  obtain ⟨f,r,rfl,h2,h3⟩:=h
  rcases List.mem_cons.mp hp with e | hp
  ·(refine ao (Fp.head h2) ?_;intro o ho);exact ⟨o,List.mem_append_left _ (by refine rwE e ?_;exact ho)⟩
  ·(refine ao (MtR.mem h3 p hp) ?_;intro o ho);exact ⟨o,List.mem_append_right _ ho⟩
noncomputable def jV (G:Gl) (H:Hp) (P:Addr) (o:Obj):Prop:=∃ ps,o=tabObj ps/\TriplesOk ps.toList/\∀ pos cv,codeAmong pos ps.toList=some cv->∃ c' oc vs t,cv=.ref c'/\H c' oc/\oc.data=.fields vs/\vs[1]?=some (.str (G.tq P) t)
theorem jV.mono {H H':Hp} (k:∀ a o,H a o->H' a o) {P:Addr} {o:Obj} (h:jV G H P o):jV G H' P o:=by
 refine cu h ?_;clear h;intro ps h1 h2 h3
 exact ⟨ps,h1,h2,λ pos cv e=>by (refine yY (h3 pos cv e) ?_;intro c' oc vs t a1 a2 a3);exact ⟨c',oc,vs,t,a1,k _ _ a2,a3⟩⟩
noncomputable def TbR (G:Gl) (H:Hp) (Tb:List (Addr×Obj)):Prop:=Tb.map (λ x=>x.1)=G.tabs.map (λ x=>x.2)/\∀ p∈Tb,jV G H p.1 p.2
theorem TbR.mono {H H':Hp} (k:∀ a o,H a o->H' a o) {Tb:List (Addr×Obj)} (h:TbR G H Tb):TbR G H' Tb:=⟨h.1,λ p hp=>(h.2 p hp).mono k⟩
noncomputable abbrev b9 (G:Gl) (env:Env):Nat->List Nat->Arguments->PySem.Expr->Scope->Bool:=rv G.tabs G.tq env.code env.qual
noncomputable def sub (Fz Fz':List (Addr×Obj)):Prop:=∀ x∈Fz,x∈Fz'
theorem sub.refl {Fz}:sub Fz Fz:=λ u' h=>h
theorem sub.trans {a b c} (h:sub a b) (k:sub b c):sub a c:=λ x hx=>k x (h x hx)
theorem sub.cons {a b:List (Addr×Obj)} {x:Addr×Obj} (h:sub a b):sub a (x::b):=λ y hy=>.tail _ (h y hy)
theorem sub.app {a b l:List (Addr×Obj)} (h:sub a b):sub a (l++b):=λ y hy=>List.mem_append_right _ (h y hy)
noncomputable def ER (P:Params) (H:Hp) (env:Env) (m:Str->Option Value) (ρ:Rho):Prop :=
 ∀ x V,ρ x=some V->match env.kindOf (nm x) with
  | some .local=>∃ v,m (nm x)=some v/\VR P H V v
  | some .cell | some .free=>∃ a o v,env.cells.lookup (nm x)=some a/\H a o/\o.data=.cell (some v)/\VR P H V v
  | _=>True
noncomputable def CeR (c:Cx) (ρ:Rho) (Ce:List (Addr×Obj)):Prop :=
 (c.mF.isSome=true->Ce=[])/\(c.mF=none->∀ x,ρ x=none->c.env.kindOf (nm x)=some .cell->∃ a o,c.env.cells.lookup (nm x)=some a/\(a,o)∈Ce/\o.data=.cell none)
noncomputable def jt (c:Cx) (m mf:Str->Option Value) (lo:List (Addr×Obj)):Prop:=match c.mF with
 | none=>m=mf/\lo=[]
 | some m0=>mf=m0/\∃ oC es ep,lo=[(c.env.locals,oC)]/\oC.data=.dict es ep/\StrKeys es/\∀ x,nsFind es x=m x
structure SRp (G:Gl) (c:Cx) (ρ:Rho) (σ:St) (Fz:List (Addr×Obj)) (h:Heap) (m mf:Str->Option Value) (lo Mt Tb Ce led:List (Addr×Obj)):Prop where
 F:Fr c.g c.L h mf
 N:News c.g c.L h led
 nd:(led.map (λ x=>x.1)).Nodup
 pm:led.Perm (lo++(Mt++(Tb++(Ce++(c.Ex++Fz)))))
 loc:jt c m mf lo
 mt:MtR G.w.params (Hf G.kx Fz) σ Mt
 tbr:TbR G (Hf G.kx Fz) Tb
 er:ER G.w.params (Hf G.kx Fz) c.env m ρ
 ce:CeR c ρ Ce
 fk:sub c.Fk Fz
inductive SR0 (G:Gl) (c:Cx) (ρ:Rho) (σ:St) (Fz:List (Addr×Obj)) (gs:Array GenState) (os:OsState) (h:Heap):Prop
 | mk (g:gs=#[]/\os=G.os) (m mf:Str->Option Value) (lo Mt Tb Ce led:List (Addr×Obj)) (S:SRp G c ρ σ Fz h m mf lo Mt Tb Ce led)
noncomputable def SR (G:Gl) (c:Cx) (ρ:Rho) (σ:St) (Fz:List (Addr×Obj)) (s:Shared):Prop:=SR0 G c ρ σ Fz s.gens s.os s.heap
structure COK (G:Gl) (c:Cx):Prop where
 X:G.K.In c.g
 T:Top G.p G.loose G.mean G.mg G.mb c.g
 x0:c.g.get? G.x0.1=some G.x0.2
 hf:c.fenv.frame=some c.L
 hke:c.fenv.scope.kind=.function
 ef:c.env.frame=some c.L
 ek:c.env.scope.kind=.function
 eg:c.env.globals=mainGlobals
 eb:c.env.builtins=builtinsNs
 B:∃ A₀,Below A₀ c.base c.outer c.g
 loc:c.mF=none->c.env.locals=c.L
 locne:c.mF.isSome=true->c.env.locals≠c.L
 cells:c.mF=none->(∃ x,c.env.scope.names.lookup x=some .cell)->(c.env.cells.map (λ x=>x.2)).Nodup
 same:c.mF=none->c.env=c.fenv
 fr:∀ x,c.env.scope.names.lookup x=some .cell\/c.env.scope.names.lookup x=some .free->(c.env.cells.lookup x).isSome=true
structure AOK (c:Cx) (A:Around) (n:Nat):Prop where
 fr:A.frames=some (c.fenv::c.outer)
 ha:A.handled=none
 dp:A.depth+2*n<=900
 un:A.units+20*n<=9000
inductive PV0 (G:Gl) (c:Cx) (ρ:Rho) (Fz:List (Addr×Obj)) (Q:PV) (v:Value) (gs:Array GenState) (os:OsState) (h:Heap):Prop
 | mk (V:V) (σ:St) (Fz':List (Addr×Obj)) (sb:sub Fz Fz') (hv:VR G.w.params (Hf G.kx Fz') V v) (S:SR0 G c ρ σ Fz' gs os h) (q:Q V σ)
noncomputable def PV' (G:Gl) (c:Cx) (ρ:Rho) (Fz:List (Addr×Obj)) (Q:PV) (v:Value) (s:Shared):Prop:=PV0 G c ρ Fz Q v s.gens s.os s.heap
inductive PL0 (G:Gl) (c:Cx) (ρ:Rho) (Fz:List (Addr×Obj)) (Q:List V->St->Prop) (vs:List Value) (gs:Array GenState) (os:OsState) (h:Heap):Prop
 | mk (Vs:List V) (σ:St) (Fz':List (Addr×Obj)) (sb:sub Fz Fz') (hv:VRs G.w.params (Hf G.kx Fz') Vs vs) (S:SR0 G c ρ σ Fz' gs os h) (q:Q Vs σ)
noncomputable def PL' (G:Gl) (c:Cx) (ρ:Rho) (Fz:List (Addr×Obj)) (Q:List V->St->Prop) (vs:List Value) (s:Shared):Prop:=PL0 G c ρ Fz Q vs s.gens s.os s.heap
inductive PT0 (G:Gl) (c:Cx) (ρ:Rho) (Fz:List (Addr×Obj)) (Q:Bool->St->Prop) (b:Bool) (gs:Array GenState) (os:OsState) (h:Heap):Prop
 | mk (σ:St) (Fz':List (Addr×Obj)) (sb:sub Fz Fz') (S:SR0 G c ρ σ Fz' gs os h) (q:Q b σ)
noncomputable def PT' (G:Gl) (c:Cx) (ρ:Rho) (Fz:List (Addr×Obj)) (Q:Bool->St->Prop) (b:Bool) (s:Shared):Prop:=PT0 G c ρ Fz Q b s.gens s.os s.heap
inductive PU0 (G:Gl) (c:Cx) (Fz:List (Addr×Obj)) (N:PN) (gs:Array GenState) (os:OsState) (h:Heap):Prop
 | mk (ρ:Rho) (σ:St) (Fz':List (Addr×Obj)) (sb:sub Fz Fz') (S:SR0 G c ρ σ Fz' gs os h) (q:N ρ σ)
noncomputable def PU' (G:Gl) (c:Cx) (Fz:List (Addr×Obj)) (N:PN) (s:Shared):Prop:=PU0 G c Fz N s.gens s.os s.heap
theorem hR {pre post:List (Addr×Obj)} {a:Addr} {o:Obj} (h:((pre++(a,o)::post).map (λ x=>x.1)).Nodup):(∀ p∈pre,p.1≠a)/\∀ p∈post,p.1≠a:=by
 rw [List.map_append,List.map_cons,List.nodup_append] at h
 refine bq h ?_;clear h;intro z0 h2 h3
 refine ⟨λ p hp=>h3 _ (List.mem_map_of_mem hp) _ (.head _),λ p hp e=>?_⟩
 exact (List.nodup_cons.mp h2).1 (by show a∈_;refine rwB e ?_;exact List.mem_map_of_mem hp)
theorem fj {g h h':Heap} {L:Addr} {m:Str->Option Value} {pre post:List (Addr×Obj)} {a:Addr} {o o':Obj} (F:Fr g L h m) (N:News g L h (pre++(a,o)::post))
 (nd:((pre++(a,o)::post).map (λ x=>x.1)).Nodup) (hs:Heap.SameBut a h h') (ho:h'.get? a=some o'):Fr g L h' m/\News g L h' (pre++(a,o')::post):=by
 refine al (hR nd) ?_;intro h1 h2
 have D:=N (a,o) (by simp)
 refine ⟨⟨F.ns.sameBut hs (Ne.symm D.2.1),λ b ob e=>(hs.2 b λ q=>?_).trans (F.keep b ob e),F.above⟩,N.setAt h1 h2 hs ho⟩
 have:=D.2.2
 rw [← q,e] at this;cases this
theorem nl {g h:Heap} {L:Addr} {led:List (Addr×Obj)} (N:News g L h led):∀ p∈led,p.1<h.objs.size:=λ p hp=>Heap.lt_size (N p hp).1
theorem pW {g h:Heap} {L:Addr} {m:Str->Option Value} {led:List (Addr×Obj)} {o:Obj} (F:Fr g L h m) (N:News g L h led) (nd:(led.map (λ x=>x.1)).Nodup) (ho:o.isFreed=false) :
 Fr g L (h.push o) m/\News g L (h.push o) ((h.objs.size,o)::led)/\(((h.objs.size,o)::led).map (λ x=>x.1)).Nodup:=by
 refine ⟨F.push o,N.push F o ho,?_⟩
 refine rwE List.map_cons ?_;rewrite [List.nodup_cons]
 refine ⟨λ q=>?_,nd⟩
 refine au (List.mem_map.mp q) ?_;intro p hp e
 exact absurd (nl N p hp) (by refine rwE e ?_;exact Nat.lt_irrefl _)
theorem SRp.frz {c ρ σ Fz h m mf lo Mt Tb Ce led} (S:SRp G c ρ σ Fz h m mf lo Mt Tb Ce led) {o:Obj} (ho:o.isFreed=false) :
 SRp G c ρ σ ((h.objs.size,o)::Fz) (h.push o) m mf lo Mt Tb Ce ((h.objs.size,o)::led):=by
 refine bq (pW S.F S.N S.nd ho) ?_;intro F N nd
 have k:∀ a b,Hf G.kx Fz a b->Hf G.kx ((h.objs.size,o)::Fz) a b:=Hf.mono λ u' h=>.tail _ h
 refine ⟨F,N,nd,?_,S.loc,S.mt.mono k,S.tbr.mono k,?_,S.ce,S.fk.cons⟩
 ·refine (List.Perm.cons _ S.pm).trans ?_
  simp only [← List.append_assoc]
  exact List.perm_middle.symm
 ·intro x V hx
  have:=S.er x V hx
  induction e:c.env.kindOf (nm x) using Option.casesOn with
  | none=>trivial
  | some kd =>
   rw [e] at this
   induction kd using PySem.NameKind.casesOn with
   | «local»=>(refine au this ?_;clear this;intro v h1 h2);exact ⟨v,h1,h2.mono k⟩
   | cell=>(refine eT this ?_;clear this;intro a o v h1 h2 h4 h3);exact ⟨a,o,v,h1,k _ _ h2,h4,h3.mono k⟩
   | free=>(refine eT this ?_;clear this;intro a o v h1 h2 h4 h3);exact ⟨a,o,v,h1,k _ _ h2,h4,h3.mono k⟩
   | _=>trivial
section
variable {P:Params} {H:Hp}
theorem VRs.len:∀ {l:List V} {xs:List Value},VRs P H l xs->xs.length=l.length
 | [],_,h=>by cases h;rfl
 | _::_,_,⟨x,ys,h1,_,h3⟩=>by subst h1;exact congrArg (·+1) h3.len
theorem VRs.get {l:List V}:∀ {xs:List Value} {i:Nat} {v:V},VRs P H l xs->l[i]?=some v->∃ x,xs[i]?=some x/\VR P H v x:=by
 induction l with
 | nil=>intro xs i v h e;exact J e
 | cons a l ih =>
  intro xs i v h e
  obtain ⟨x,ys,h1,h2,h3⟩:=h
  subst h1
  induction i using Nat.casesOn with
  | zero=>exact ⟨x,rfl,Option.some.inj e▸h2⟩
  | succ i=>have:=ih (i:=i) h3 e;exact this
theorem VRs.append:∀ {l l':List V} {xs xs':List Value},VRs P H l xs->VRs P H l' xs'->VRs P H (l++l') (xs++xs')
 | [],_,_,_,h,k=>by cases h;exact k
 | _::_,_,_,_,⟨x,ys,h1,h2,h3⟩,k=>by subst h1;exact ⟨x,_,rfl,h2,h3.append k⟩
theorem VRs.one {v:V} {x:Value} (h:VR P H v x):VRs P H [v] [x]:=⟨x,[],rfl,h,rfl⟩
theorem VRs.take:∀ {l:List V} {xs:List Value} (n:Nat),VRs P H l xs->VRs P H (l.take n) (xs.take n)
 | [],_,_,h=>by cases h;simp;rfl
 | _::_,_,0,_=>rfl
 | _::_,_,n+1,⟨x,ys,h1,h2,h3⟩=>by subst h1;exact ⟨x,_,rfl,h2,h3.take n⟩
theorem VRs.drop:∀ {l:List V} {xs:List Value} (n:Nat),VRs P H l xs->VRs P H (l.drop n) (xs.drop n)
 | [],_,_,h=>by cases h;simp;rfl
 | _::_,_,0,h=>h
 | _::_,_,n+1,⟨x,ys,h1,h2,h3⟩=>by subst h1;exact h3.drop n
theorem VRs.set {v:V} {x:Value} (k:VR P H v x) {l:List V}:∀ {xs:List Value} (n:Nat),VRs P H l xs->VRs P H (l.set n v) (xs.set n x):=by
 induction l with
 | nil=>intro xs n h;obtain rfl:xs=[]:=h;rfl
 | cons a l ih =>
  intro xs n h
  obtain ⟨x,ys,h1,h2,h3⟩:=h
  subst h1
  induction n using Nat.casesOn with
  | zero=>exact ⟨_,_,rfl,k,h3⟩
  | succ n=>exact ⟨x,_,rfl,h2,ih n h3⟩
theorem VRd.len:∀ {l:List (Nat×V)} {xs:List DictEntry},VRd P H l xs->xs.length=l.length
 | [],_,h=>by cases h;rfl
 | _::_,_,⟨t,x,ys,h1,_,h3⟩=>by subst h1;exact congrArg (·+1) h3.len
theorem hU {x y:Nat} {t:Tok}:(Value.str (nm x) t).isStr (nm y)=decide (y=x):=by
 show (nm x==nm y)=_
 by_cases h:y=x
 ·subst h;simp
 ·refine rwE (decide_eq_false h) ?_
  exact beq_eq_false_iff_ne.mpr λ e=>h (bI e).symm
theorem VRd.find {k:Nat} {l:List (Nat×V)}:∀ {es:List DictEntry},VRd P H l es->match aY k l with
 | some v=>∃ e,es.find? (·.key.isStr (nm k))=some e/\VR P H v e.val
 | none=>es.find? (·.key.isStr (nm k))=none:=by
 induction l with
 | nil=>intro es h;obtain rfl:es=[]:=h;rfl
 | cons p r ih =>
  intro es h
  obtain ⟨y,v⟩:=p
  obtain ⟨t,x,ys,h1,h2,h3⟩:=h
  subst h1
  refine rwE mG ?_
  by_cases q:k=y
  ·subst q
   refine rwE (if_pos rfl) ?_
   exact ⟨⟨PyData.keyHash P (nm k),.str (nm k) t,x⟩,by refine rwE (List.find?_cons) ?_;simp only [hU,decide_true],h2⟩
  ·refine rwE (if_neg q) ?_
   have e:(⟨PyData.keyHash P (nm y),.str (nm y) t,x⟩::ys:List DictEntry).find? (·.key.isStr (nm k))=ys.find? (·.key.isStr (nm k)):=by
    refine rwE (List.find?_cons) ?_
    simp only [hU,decide_eq_false q]
   replace ih:=ih h3
   revert ih
   induction aY k r using Option.casesOn with
   | some w=>intro ih;simpa only [e] using ih
   | none=>intro ih;simpa only [e] using ih
theorem VRd.noref:∀ {l:List (Nat×V)} {es:List DictEntry},VRd P H l es->es.any (·.refKey)=false
 | [],_,h=>by cases h;rfl
 | _::_,_,⟨t,x,ys,h1,h2,h3⟩=>by subst h1;(refine rwE List.any_cons ?_;refine rwE h3.noref ?_);rfl
theorem VRd.getL {k:Nat} {l:List (Nat×V)} {es:List DictEntry} (h:VRd P H l es):match aY k l with
 | some v=>∃ x,W.getL (nm k) es=some (some x)/\VR P H v x
 | none=>W.getL (nm k) es=some none:=by
 have:=h.find (k:=k)
 unfold W.getL
 revert this
 induction aY k l using Option.casesOn with
 | some v=>rintro ⟨e,h1,h2⟩;exact ⟨e.val,by (refine rwE h1 ?_;rfl),h2⟩
 | none=>intro h1;refine rwE h1 ?_;simp only [h.noref];rfl
theorem VRd.pairs {prog:Program} {w:World} {l:List (Nat×V)}:∀ {es:List DictEntry},VRd w.params H l es->∃ kvs:List (Str×Value),Pairs (PySem.strKind prog w) es kvs/\kvs.map (λ x=>x.1)=l.map (λ p=>nm p.1) /\
 ∀ k,match aY k l with | some v=>∃ x,valueAt kvs (nm k)=some x/\VR w.params H v x | none=>valueAt kvs (nm k)=none:=by
 induction l with
 | nil=>intro es h;obtain rfl:es=[]:=h;exact ⟨[],.nil,rfl,λ k=>rfl⟩
 | cons p r ih =>
  intro es h
  obtain ⟨y,v⟩:=p
  obtain ⟨t,x,ys,h1,h2,h3⟩:=h
  subst h1
  refine cu (ih h3) ?_;intro kvs h4 h5 h6
  refine ⟨(nm y,x)::kvs,.cons (strKind_is prog w _ _) rfl h4,by (refine rwE List.map_cons ?_;refine rwE List.map_cons ?_;refine rwE h5 ?_;rfl),λ k=>?_⟩
  refine rwE mG ?_
  by_cases q:k=y
  ·subst q
   refine rwE (if_pos rfl) ?_
   exact ⟨x,by simp [valueAt],h2⟩
  ·refine rwE (if_neg q) ?_
   have e:valueAt ((nm y,x)::kvs) (nm k)=valueAt kvs (nm k):=by
    have:¬ nm y=nm k:=λ e=>q (bI e).symm
    simp [valueAt,this]
   replace ih:=h6 k
   revert ih
   refine rwE e ?_
   exact id
theorem fm {l:List (Nat×V)} (h:(l.map (λ x=>x.1)).Nodup):(l.map (λ p=>nm p.1)).Nodup:=by
 have:l.map (λ p=>nm p.1)=(l.map (λ x=>x.1)).map nm:=by simp [List.map_map,Function.comp_def]
 refine rwE this ?_
 exact List.Pairwise.map _ (λ a b (hab:a≠b) (e:nm a=nm b)=>hab (bI e)) h
theorem VRd.keys {prog:Program} {w:World}:∀ {l:List (Nat×V)} {es:List DictEntry},VRd w.params H l es->∀ e∈es,∃ k,(PySem.strKind prog w).is k e.key=true/\e.hash=(PySem.strKind prog w).hash k
 | [],_,h=>by cases h;exact λ u' h=>(nomatch h)
 | _::_,_,⟨t,x,ys,h1,h2,h3⟩=>by
  subst h1
  intro e he
  rcases List.mem_cons.mp he with rfl | he
  ·exact ⟨_,strKind_is prog w _ _,rfl⟩
  ·exact h3.keys e he
inductive D2 (P:Params) (H:Hp):List (Nat×V)->List (Str×Value)->Prop
 | nil:D2 P H [] []
 | cons {p q l r}:q.1=nm p.1/\VRp P H p q.2->D2 P H l r->D2 P H (p::l) (q::r)
theorem VRd.of_pairs {prog:Program} {w:World} {l:List (Nat×V)} {kvs:List (Str×Value)} (d:D2 w.params H l kvs):∀ {es:List DictEntry},Pairs (PySem.strKind prog w) es kvs ->
 (∀ e∈es,∃ k,(PySem.strKind prog w).is k e.key=true/\e.hash=(PySem.strKind prog w).hash k)->VRd w.params H l es:=by
 induction d with
 | nil=>intro es h _;cases h;rfl
 | @cons p q l r h4 h5 ih =>
  intro es h k
  cases h with
  | @cons e _ es _ h1 h2 h3 =>
  refine ao (Value.isStrOf_shape h1) ?_;intro t ht
  refine au (k e (.head _)) ?_;intro kk h6 h7
  have e1:kk=q.1:=(PySem.strKind prog w).inj _ _ _ h6 h1
  refine ⟨t,e.val,es,?_,h2▸h4.2,ih h3 λ e' he'=>k e' (.tail _ he')⟩
  obtain ⟨eh,ek,ev⟩:=e
  dsimp only at *
  refine rwE ht ?_;refine rwE h7 ?_;refine rwE e1 ?_;refine rwE h4.1 ?_
  rfl
end
structure Ao (K:Frag) (c:Nat) (ci:kL):Prop where
 pg:∀ n,plainGet K (ca c) n=true
 hd:hasDictIn K (ca c)=true
 fld:∀ x,tb.fld c x=true->findIn K (.ref (ca c)) (nm x)=some none/\takerIn K (ca c) (nm x)=some none
 meth:∀ m k,ci.meths.lookup m=some k->findIn K (.ref (ca c)) (nm m)=some (some (.ref (fa k)))/\isFn K (.ref (fa k))=true
 sa:findIn K (.ref (ca c)) "__setattr__" = some (some (.builtin "object.__setattr__"))
 po:plainOver K (ca c)=true
section
variable {c:Cx} {ρ:Rho} {σ:St} {Fz:List (Addr×Obj)} {A:Around} {E:Value->Shared->Prop} {s:Shared} {h:Heap} {m mf:Str->Option Value} {lo Mt Tb Ce led:List (Addr×Obj)}
theorem SRp.mem (S:SRp G c ρ σ Fz h m mf lo Mt Tb Ce led) {a:Addr} {o:Obj} (hm:(a,o)∈Fz):(a,o)∈led :=
 S.pm.mem_iff.mpr (by simp [hm])
theorem SRp.memM (S:SRp G c ρ σ Fz h m mf lo Mt Tb Ce led) {a:Addr} {o:Obj} (hm:(a,o)∈Mt):(a,o)∈led :=
 S.pm.mem_iff.mpr (by simp [hm])
theorem SRp.get (C:COK G c) (S:SRp G c ρ σ Fz h m mf lo Mt Tb Ce led) {a:Addr} {o:Obj} (hm:Hf G.kx Fz a o):h.get? a=some o :=
 hm.elim (λ e=>e.elim (λ e=>(C.X.keeps S.F.keep) _ _ e) λ e=>by have:=S.F.keep _ _ C.x0;rw [show G.x0=(a,o) from e] at this;exact this) λ e=>S.N.get (S.mem e)
theorem SRp.getM (S:SRp G c ρ σ Fz h m mf lo Mt Tb Ce led) {a:Addr} {o:Obj} (hm:(a,o)∈Mt):h.get? a=some o:=S.N.get (S.memM hm)
theorem SRp.kin (C:COK G c) (S:SRp G c ρ σ Fz h m mf lo Mt Tb Ce led):G.K.In h:=C.X.keeps S.F.keep
theorem ER.mono {P:Params} {H H':Hp} (k:∀ a o,H a o->H' a o) {env:Env} {m:Str->Option Value} {ρ:Rho} (h:ER P H env m ρ):ER P H' env m ρ:=by
 intro x V hx
 have:=h x V hx
 induction e:env.kindOf (nm x) using Option.casesOn with
 | none=>trivial
 | some kd =>
  rw [e] at this
  induction kd using PySem.NameKind.casesOn with
  | «local»=>(refine au this ?_;clear this;intro v h1 h2);exact ⟨v,h1,h2.mono k⟩
  | cell=>(refine eT this ?_;clear this;intro a o v h1 h2 h4 h3);exact ⟨a,o,v,h1,k _ _ h2,h4,h3.mono k⟩
  | free=>(refine eT this ?_;clear this;intro a o v h1 h2 h4 h3);exact ⟨a,o,v,h1,k _ _ h2,h4,h3.mono k⟩
  | _=>trivial
theorem SRp.grow (S:SRp G c ρ σ Fz h m mf lo Mt Tb Ce led) {h':Heap} (k:∀ b o,h.get? b=some o->h'.get? b=some o):SRp G c ρ σ Fz h' m mf lo Mt Tb Ce led :=
 ⟨S.F.keeps k,S.N.grown k,S.nd,S.pm,S.loc,S.mt,S.tbr,S.er,S.ce,S.fk⟩
theorem SRp.fz (S:SRp G c ρ σ Fz h m mf lo Mt Tb Ce led) {h':Heap} {o:Obj} (k:∀ b o,h.get? b=some o->h'.get? b=some o) (ho:h'.get? a=some o) (hn:h.get? a=none) :
 SRp G c ρ σ ((a,o)::Fz) h' m mf lo Mt Tb Ce ((a,o)::led):=by
 have S':=S.grow k
 have fr:∀ p∈led,p.1≠a:=λ p hp e=>by have:=(S.N p hp).1;rw [e,hn] at this;exact J this
 have k':∀ a' b,Hf G.kx Fz a' b->Hf G.kx ((a,o)::Fz) a' b:=Hf.mono λ u' h=>.tail _ h
 refine ⟨S'.F,λ p hp=>?_,?_,?_,S.loc,S.mt.mono k',S.tbr.mono k',S.er.mono k',S.ce,S.fk.cons⟩
 ·rcases List.mem_cons.mp hp with rfl | hp
  ·refine ⟨ho,λ e=>?_,?_⟩
   ·refine sD (S.F.ns) ?_;intro oL z1 z2 hL z4
    dsimp only at e
    rw [← e,hn] at hL;exact J hL
   ·induction q:c.g.get? a using Option.casesOn with
    | none=>rfl
    | some o'=>have:=S.F.keep _ _ q;rw [hn] at this;exact J this
  ·exact S'.N p hp
 ·refine rwE List.map_cons ?_;rewrite [List.nodup_cons]
  refine ⟨λ q=>?_,S.nd⟩
  refine au (List.mem_map.mp q) ?_;intro p hp e
  exact fr p hp e
 ·refine (List.Perm.cons _ S.pm).trans ?_
  simp only [← List.append_assoc]
  exact List.perm_middle.symm
open Classical in
theorem ar {l l':List (Addr×Obj)} (h:∀ x,l.count x=l'.count x):l.Perm l':=List.perm_iff_count.mpr h
theorem SRp.nw (S:SRp G c ρ σ Fz h m mf lo Mt Tb Ce led) {h':Heap} {f:List (Addr×Obj)} {mm:M} (k:∀ b o,h.get? b=some o->h'.get? b=some o)
 (hf:∀ p∈f,h'.get? p.1=some p.2/\h.get? p.1=none) (nd:(f.map (λ x=>x.1)).Nodup) (hp:Fp G.w.params (Hf G.kx Fz) a mm f) :
 SRp G c ρ ((a,mm)::σ) Fz h' m mf lo (f++Mt) Tb Ce (f++led):=by
 have S':=S.grow k
 refine ⟨S'.F,λ p hp=>?_,?_,?_,S.loc,⟨f,Mt,rfl,hp,S.mt⟩,S.tbr,S.er,S.ce,S.fk⟩
 ·rcases List.mem_append.mp hp with hp | hp
  ·refine al (hf p hp) ?_;intro h1 h2
   refine ⟨h1,λ e=>?_,?_⟩
   ·refine sD (S.F.ns) ?_;intro oL z1 z2 hL z4
    rw [← e,h2] at hL;exact J hL
   ·induction q:c.g.get? p.1 using Option.casesOn with
    | none=>rfl
    | some o'=>have:=S.F.keep _ _ q;rw [h2] at this;exact J this
  ·exact S'.N p hp
 ·refine rwE List.map_append ?_;rewrite [List.nodup_append]
  refine ⟨nd,S.nd,λ x hx y hy e=>?_⟩
  refine au (List.mem_map.mp hx) ?_;intro p hp z2;obtain rfl:=z2
  refine au (List.mem_map.mp hy) ?_;intro q hq z2;obtain rfl:=z2
  have h1:=(hf p hp).2
  have h2:=(S.N q hq).1
  rw [e,h2] at h1;cases h1
 ·classical
  refine ar λ x=>?_
  have:=List.perm_iff_count.mp S.pm x
  simp only [List.count_append] at this ⊢
  lia
theorem SRp.fresh (S:SRp G c ρ σ Fz h m mf lo Mt Tb Ce led):∀ p∈σ,p.1≠h.objs.size:=λ p hp=>by
 refine ao (S.mt.mem p hp) ?_;intro o ho
 exact Nat.ne_of_lt (Heap.lt_size (S.getM ho))
theorem SRp.up (S:SRp G c ρ σ Fz h m mf lo Mt Tb Ce led) {σ':St} {h':Heap} {pre post:List (Addr×Obj)} {a:Addr} {o o':Obj} (e:Mt=pre++(a,o)::post)
 (hs:Heap.SameBut a h h') (ho:h'.get? a=some o') (hmt:MtR G.w.params (Hf G.kx Fz) σ' (pre++(a,o')::post)) :
 ∃ led',SRp G c ρ σ' Fz h' m mf lo (pre++(a,o')::post) Tb Ce led':=by
 have pm:led.Perm ((lo++pre)++(a,o)::(post++(Tb++(Ce++(c.Ex++Fz))))):=by
  refine S.pm.trans (List.Perm.of_eq ?_)
  refine rwE e ?_;simp
 have N:News c.g c.L h ((lo++pre)++(a,o)::(post++(Tb++(Ce++(c.Ex++Fz))))):=λ p hp=>S.N p (pm.mem_iff.mpr hp)
 have nd:=(pm.map (λ x=>x.1)).nodup_iff.mp S.nd
 refine al (fj S.F N nd hs ho) ?_;intro F' N'
 refine ⟨_,F',N',?_,List.Perm.of_eq (by simp),S.loc,hmt,S.tbr,S.er,S.ce,S.fk⟩
 have:((lo++pre)++(a,o')::(post++(Tb++(Ce++(c.Ex++Fz))))).map (λ x=>x.1)=((lo++pre)++(a,o)::(post++(Tb++(Ce++(c.Ex++Fz))))).map (λ x=>x.1):=by simp
 refine rwE this ?_;exact nd
theorem SRp.rm (S:SRp G c ρ σ Fz h m mf lo Mt Tb Ce led) {σ':St} {pre f post:List (Addr×Obj)} (e:Mt=pre++(f++post)) (hmt:MtR G.w.params (Hf G.kx Fz) σ' (pre++post)) :
 SRp G c ρ σ' (f++Fz) h m mf lo (pre++post) Tb Ce led:=by
 have k:∀ a' b,Hf G.kx Fz a' b->Hf G.kx (f++Fz) a' b:=Hf.mono λ u' h=>List.mem_append_right _ h
 refine ⟨S.F,S.N,S.nd,?_,S.loc,hmt.mono k,S.tbr.mono k,S.er.mono k,S.ce,S.fk.app⟩
 classical
 refine ar λ x=>?_
 have:=List.perm_iff_count.mp S.pm x
 rw [e] at this
 simp only [List.count_append] at this ⊢
 lia
theorem pY {V:V} {k:Nat} {fs:List (Nat×Mine.Internal.V)} {P:Mine.Internal.V->Prop} (e:dY V σ=some (k,fs)) (h1:P (.ob k fs)) (h2:∀ a,look a σ=some (.ob k fs)->P (.loc a)):P V:=by
 induction V using Mine.Internal.V.casesOn with
 | ob k' fs'=>(refine al (Prod.mk.inj (Option.some.inj e)) ?_;intro z0 z1);exact rwE z0 (rwE z1 h1)
 | loc a =>
  have e:(match look a σ with | some (.ob c fs)=>some (c,fs) | _=>none)=some (k,fs):=e
  generalize hl:look a σ=mm at e
  induction mm using Option.casesOn with
  | none=>exact J e
  | some mm =>
   induction mm using Mine.Internal.M.casesOn with
   | ob k' fs'=>(refine al (Prod.mk.inj (Option.some.inj e)) ?_;intro z0 z1);exact h2 a (rwB z0 (rwB z1 hl))
   | _=>exact J e
 | _=>exact J e
theorem ju (C:COK G c) (S:SRp G c ρ σ Fz h m mf lo Mt Tb Ce led) {V:V} {v:Value} {k:Nat} {fs:List (Nat×Mine.Internal.V)} (hv:VR G.w.params (Hf G.kx Fz) V v) (e:dY V σ=some (k,fs)) :
 ∃ x dx es n,v=.ref x/\InstAt h x (instObj (ca k) dx) (ca k) (some (dictOf es n))/\VRd G.w.params (Hf G.kx Fz) fs es/\(fs.all λ p=>tb.fld k p.1)=true/\(fs.map (λ x=>x.1)).Nodup/\(tb.clss k).isSome=true:=by
 refine pY (P:=λ V=>VR G.w.params (Hf G.kx Fz) V v->_) e (λ hv=>?_) (λ a hl hv=>?_) hv
 ·obtain ⟨a,dx,es,n,rfl,h1,h2,h3,h4,h5,h6⟩:=hv
  exact ⟨a,dx,es,n,rfl,⟨S.get C h1,rfl,rfl,S.get C h2⟩,h3,h4,h5,h6⟩
 ·obtain rfl:v=.ref a:=hv
  obtain ⟨pre,f,post,e1,⟨dx,es,n,e2,h3,h4,h5,h6⟩,_,_⟩:=S.mt.look hl
  subst e2
  exact ⟨a,dx,es,n,rfl,⟨S.getM (by refine rwE e1 ?_;simp),rfl,rfl,S.getM (by refine rwE e1 ?_;simp)⟩,h3,h4,h5,h6⟩
theorem VR.handed {P:Params} {H:Hp} {V:V} {v:Value} (h:VR P H V v):handedIn v=true:=by
 induction V using Mine.Internal.V.casesOn with
 | none=>obtain rfl:=h;rfl
 | bool _=>obtain rfl:=h;rfl
 | int _=>(refine ao h ?_;clear h;intro t z1;obtain rfl:=z1);rfl
 | str _=>(refine ao h ?_;clear h;intro t z1;obtain rfl:=z1);rfl
 | msg _=>(refine fX h ?_;clear h;intro x t z2 z3;obtain rfl:=z2);rfl
 | byt=>(refine pI h ?_;clear h;intro x t z2;obtain rfl:=z2);rfl
 | fn _=>(refine al h ?_;clear h;intro z0 z1;obtain rfl:=z0);rfl
 | cls _=>(refine al h ?_;clear h;intro z0 z1;obtain rfl:=z0);rfl
 | bi b=>obtain rfl:=h;induction b using B.casesOn with | _=>decide
 | loc _=>obtain rfl:=h;rfl
 | clo _ _=>obtain ⟨_,_,_,rfl,_,_,_⟩:=h;rfl
 | tup _=>obtain ⟨_,_,_,_,rfl,_,_,_,_,_⟩:=h;rfl
 | lst _=>obtain ⟨_,_,_,_,rfl,_,_,_,_,_⟩:=h;rfl
 | dct _=>obtain ⟨_,_,_,rfl,_,_,_,_,_⟩:=h;rfl
 | dci _=>obtain ⟨_,_,_,rfl,_,_,_,_,_⟩:=h;rfl
 | ob _ _=>obtain ⟨_,_,_,_,rfl,_,_,_,_,_,_⟩:=h;rfl
 | rng _ _ _=>obtain ⟨_,_,_,_,rfl,_⟩:=h;rfl
theorem SR.same {s':Shared} (S:SRp G c ρ σ Fz s.heap m mf lo Mt Tb Ce led) (g:s.gens=#[]/\s.os=G.os) (e:s'.heap=s.heap) (e1:s'.gens=s.gens) (e2:s'.os=s.os):SR G c ρ σ Fz s' :=
 ⟨⟨e1.trans g.1,e2.trans g.2⟩,m,mf,lo,Mt,Tb,Ce,led,e▸S⟩
noncomputable def KC (K:Frag):Prop:=∀ c ci,tb.clss c=some ci->Ao K c ci
theorem kO {x:Nat} {v:V} {k:Nat}:∀ {fs:List (Nat×V)},aY x fs=some v->(fs.all λ p=>tb.fld k p.1)=true->tb.fld k x=true
 | (y,w)::r,e,h=>by
  have h:=an2 h
  replace e:=mG.symm.trans e
  by_cases q:x=y
  ·subst q;exact h.1
  ·rw [if_neg q] at e;exact kO e h.2
 | [],e,_=>by exact J e
theorem sN {k x:Nat} (h:tb.fld k x=true):∃ ci,tb.clss k=some ci:=by
 by_cases q:k<11
 ·have:∀ k<11,∃ ci,tb.clss k=some ci:=by
   intro k hk
   have e:sp.length=11:=rfl
   exact ⟨sp[k]'(by refine rwE e ?_;exact hk),List.getElem?_eq_getElem _⟩
  exact this k q
 ·have e:pM.getD k []=[]:=by
   (refine rwE (List.getD_eq_getElem?_getD) ?_;refine rwE (List.getElem?_eq_none (by show pM.length<=k;have:pM.length=11:=rfl;lia)) ?_);rfl
  have:tb.fld k x=(pM.getD k []).contains x:=rfl
  rw [this,e] at h
  exact ad h
theorem lU (KF:KC G.K) (C:COK G c) (S:SR G c ρ σ Fz s) {V:Mine.Internal.V} {W:Mine.Internal.V} {v:Value} {a:Nat} (hv:VR G.w.params (Hf G.kx Fz) V v) (hf:br V a σ=some W) {Q:PV} (q:Q W σ) :
 wpAny (model G.prog G.w) A (getAttr v (nm a) true) (PV' G c ρ Fz Q) E s:=by
 obtain ⟨g,m,mf,lo,Mt,Tb,Ce,led,S⟩:=S
 have hc:∃ k fs,dY V σ=some (k,fs)/\aY a fs=some W:=by
  induction V using Mine.Internal.V.casesOn with
  | ob k fs=>exact ⟨k,fs,rfl,hf⟩
  | loc l =>
   have hf:(match look l σ with | some (.ob _ fs)=>aY a fs | _=>none)=some W:=hf
   show ∃ k fs,(match look l σ with | some (.ob c fs)=>some (c,fs) | _=>none)=some (k,fs)/\aY a fs=some W
   revert hf
   induction look l σ using Option.casesOn with
   | none=>exact λ h=>J h
   | some mm =>
    induction mm using Mine.Internal.M.casesOn with
    | ob k fs=>exact λ hf=>⟨k,fs,rfl,hf⟩
    | _=>exact λ h=>J h
  | _=>exact J hf
 refine fX hc ?_;clear hc;intro k fs e hg
 refine zV (ju C S hv e) ?_;intro x dx es n z4 I h3 h4 z8;obtain rfl:=z4
 have hfl:=kO hg h4
 refine ao (sN hfl) ?_;intro ci hci
 have KK:=KF k ci hci
 have hl:=h3.getL (k:=a)
 rw [hg] at hl
 refine au hl ?_;clear hl;intro y hl hy
 exact get_own S.F C.X I (KK.pg _) KK.hd (KK.fld a hfl).1 rfl hl hy.handed ⟨W,σ,Fz,sub.refl,hy,SR.same S g rfl rfl rfl,q⟩
end
section
variable {c:Cx} {ρ:Rho} {σ:St} {Fz:List (Addr×Obj)} {A:Around} {E:Value->Shared->Prop} {s:Shared} {h:Heap} {m mf:Str->Option Value} {lo Mt Tb Ce led:List (Addr×Obj)}
theorem SRp.fzN (S:SRp G c ρ σ Fz h m mf lo Mt Tb Ce led) {h':Heap} {a:Addr} {o:Obj} (F':Fr c.g c.L h' mf) (N':News c.g c.L h' ((a,o)::led)) (fr:h.objs.size<=a) :
 SRp G c ρ σ ((a,o)::Fz) h' m mf lo Mt Tb Ce ((a,o)::led):=by
 have k':∀ a' b,Hf G.kx Fz a' b->Hf G.kx ((a,o)::Fz) a' b:=Hf.mono λ u' h=>.tail _ h
 refine ⟨F',N',?_,?_,S.loc,S.mt.mono k',S.tbr.mono k',S.er.mono k',S.ce,S.fk.cons⟩
 ·refine rwE List.map_cons ?_;rewrite [List.nodup_cons]
  refine ⟨λ q=>?_,S.nd⟩
  refine au (List.mem_map.mp q) ?_;intro p hp e
  have:=nl S.N p hp
  have e':p.1=a:=e
  rw [e'] at this
  exact absurd this (Nat.not_lt.mpr fr)
 ·refine (List.Perm.cons _ S.pm).trans ?_
  simp only [← List.append_assoc]
  exact List.perm_middle.symm
theorem SRp.up' (S:SRp G c ρ σ Fz h m mf lo Mt Tb Ce led) {h':Heap} (F':Fr c.g c.L h' mf) (N':News c.g c.L h' led):SRp G c ρ σ Fz h' m mf lo Mt Tb Ce led :=
 ⟨F',N',S.nd,S.pm,S.loc,S.mt,S.tbr,S.er,S.ce,S.fk⟩
theorem c6 (C:COK G c) (S:SRp G c ρ σ Fz h m mf lo Mt Tb Ce led) {l:List V} {v:Value} (hv:VR G.w.params (Hf G.kx Fz) (.tup l) v) :
 ∃ a vs,v=.ref a/\IsTup h a (List.toArray vs)/\VRs G.w.params (Hf G.kx Fz) l vs/\vs.length<=100000:=by
 obtain ⟨a,o,xs,n,rfl,h1,h2,h3,h4,h5⟩:=hv
 exact ⟨a,xs.toList,rfl,⟨o,S.get C h1,h2,n,h3⟩,h4,by refine rwE h4.len ?_;exact h5⟩
theorem c7 (C:COK G c) (S:SRp G c ρ σ Fz h m mf lo Mt Tb Ce led) {l:List V} {v:Value} (hv:VR G.w.params (Hf G.kx Fz) (.lst l) v) :
 ∃ a vs,v=.ref a/\h.IsList a (List.toArray vs)/\VRs G.w.params (Hf G.kx Fz) l vs/\vs.length<=100000:=by
 obtain ⟨a,o,xs,n,rfl,h1,h2,h3,h4,h5⟩:=hv
 exact ⟨a,xs.toList,rfl,⟨o,S.get C h1,h2,n,h3⟩,h4,by refine rwE h4.len ?_;exact h5⟩
theorem gP (S:SRp G c ρ σ Fz h m mf lo Mt Tb Ce led) {a:Nat} {l:List V} (hl:look a σ=some (.lst l)) :
 ∃ vs,h.IsList a (List.toArray vs)/\VRs G.w.params (Hf G.kx Fz) l vs/\vs.length<=100000:=by
 obtain ⟨pre,f,post,e1,⟨xs,n,e2,h3,h4⟩,_,_⟩:=S.mt.look hl
 subst e2
 have:h.get? a=some (listOf xs n):=S.getM (by refine rwE e1 ?_;exact List.mem_append_right _ (.head _))
 exact ⟨xs.toList,⟨_,this,rfl,n,rfl⟩,h3,by refine rwE h3.len ?_;exact h4⟩
theorem aK {n:Nat} (h:n<=300000):n<=sizeLine:=Nat.le_trans h (by decide)
theorem f9 {i:Int} (h:bE i=true):Builtin.Int.intBits i<=2 ^ 20:=by
 delta bE at h
 have h:=d2 h
 have hn:i.natAbs<2 ^ 2000:=by lia
 delta Builtin.Int.intBits
 split
 ·exact Nat.zero_le _
 ·rename_i h0
  have:i.natAbs≠0:=by intro e;apply h0;simp;lia
  have:=(Nat.log2_lt this).mpr hn
  have e:(2:Nat) ^ 20=1048576:=by decide
  lia
theorem cK (S:SR G c ρ σ Fz s) {i:Int} {t:Tok} {tk:Tok} {Q:PV} (q:Q (.int i) σ):PV' G c ρ Fz Q (.int i t) { s with toks:=tk } :=
 ⟨.int i,σ,Fz,sub.refl,⟨t,rfl⟩,S,q⟩
theorem bQ {α:Type} {c:Prop} [Decidable c] {x r:α} (h:(if c then some x else none)=some r):c/\x=r:=by
 by_cases q:c
 ·rw [if_pos q] at h;exact ⟨q,Option.some.inj h⟩
 ·rw [if_neg q] at h;exact J h
inductive lV:Op->V->V->V->Prop
 | int {op:Op} {x y z:Int} (h:uc op x y=some z):lV op (.int x) (.int y) (.int z)
 | tup {x y:List V} (h:(x++y).length<=100000):lV .add (.tup x) (.tup y) (.tup (x++y))
 | lst {x y:List V} (h:(x++y).length<=100000):lV .add (.lst x) (.lst y) (.lst (x++y))
 | ss (k l:Nat):lV .add (.str k) (.str l) (.msg 200)
 | ms {n:Nat} (l:Nat) (h:n<5000):lV .add (.msg n) (.str l) (.msg (n+100))
 | sm {n:Nat} (l:Nat) (h:n<5000):lV .add (.str l) (.msg n) (.msg (n+100))
theorem jW {p:Prop} [Decidable p] {op:Op} (h:(decide (op=.add)&&decide p)=true):op=.add/\p:=by
 have h:=d2 h;exact h
theorem lV.of {op:Op} {a b r:V} (e:gA op a b=some r):lV op a b r:=by
 induction a using V.casesOn with
 | int x =>
  induction b using V.casesOn with
  | int y=>(refine au (Option.map_eq_some_iff.mp (show (uc op x y).map V.int=some r from e)) ?_;intro z h z2;obtain rfl:=z2);exact .int h
  | _=>exact J e
 | tup x =>
  induction b using V.casesOn with
  | tup y=>(refine al (bQ (show (if (decide (op=.add)&&decide ((x++y).length<=100000))=true then some (V.tup (x++y)) else none)=some r from e)) ?_;intro h z1;obtain rfl:=z1);(refine al (jW h) ?_;intro z0 h2;obtain rfl:=z0);exact .tup h2
  | _=>exact J e
 | lst x =>
  induction b using V.casesOn with
  | lst y=>(refine al (bQ (show (if (decide (op=.add)&&decide ((x++y).length<=100000))=true then some (V.lst (x++y)) else none)=some r from e)) ?_;intro h z1;obtain rfl:=z1);(refine al (jW h) ?_;intro z0 h2;obtain rfl:=z0);exact .lst h2
  | _=>exact J e
 | str x =>
  induction b using V.casesOn with
  | str y=>(refine al (bQ (show (if op=.add then some (V.msg 200) else none)=some r from e)) ?_;intro h z1;obtain rfl:=z1);subst h;exact .ss x y
  | msg y=>(refine al (bQ (show (if (decide (op=.add)&&decide (y<5000))=true then some (V.msg (y+100)) else none)=some r from e)) ?_;intro h z1;obtain rfl:=z1);(refine al (jW h) ?_;intro z0 h2;obtain rfl:=z0);exact .sm x h2
  | _=>exact J e
 | msg x =>
  induction b using V.casesOn with
  | str y=>(refine al (bQ (show (if (decide (op=.add)&&decide (x<5000))=true then some (V.msg (x+100)) else none)=some r from e)) ?_;intro h z1;obtain rfl:=z1);(refine al (jW h) ?_;intro z0 h2;obtain rfl:=z0);exact .ms y h2
  | _=>exact J e
 | _=>exact J e
theorem sO (S:SR G c ρ σ Fz s) {op:Op} {x y z:Int} {t t':Tok} (hi:uc op x y=some z) {Q:PV} (q:Q (.int z) σ):wpAny (model G.prog G.w) A (binaryOp (opT op) (.int x t) (.int y t')) (PV' G c ρ Fz Q) E s:=by
 induction op using Op.casesOn with
 | add=>obtain rfl:=Option.some.inj hi;exact PyProof.Rows.add_int (cK S q)
 | sub=>obtain rfl:=Option.some.inj hi;exact PyProof.Rows.sub_int (cK S q)
 | mul =>
  refine al (bQ (show (if (bE x&&bE y)=true then some (x*y) else none)=some z from hi)) ?_;intro hb z1;obtain rfl:=z1
  have hb:=an2 hb
  exact PyProof.Rows.mul_int (cK S q) (IntMulOk.of_bits (f9 hb.1) (f9 hb.2))
 | fdiv =>
  refine al (bQ (show (if (decide (0<y)&&decide (y<1000000))=true then some (Int.fdiv x y) else none)=some z from hi)) ?_;intro hb z1;obtain rfl:=z1
  have hb:=d2 hb
  exact PyProof.Rows.floordiv_int (by lia) (cK S q) (.inl (PyProof.noPylong_small (by lia)))
 | mod =>
  by_cases hb:y=0
  ·exact J ((if_pos hb).symm.trans (show (if y=0 then none else some (Int.fmod x y))=some z from hi))
  ·obtain rfl:=Option.some.inj ((if_neg hb).symm.trans (show (if y=0 then none else some (Int.fmod x y))=some z from hi))
   exact PyProof.Rows.mod_int' hb (cK S q)
 | pow =>
  refine al (bQ (show (if (decide (x=10)&&decide (0<=y)&&decide (y<=200))=true then some (x ^ y.toNat) else none)=some z from hi)) ?_;intro hb z1;obtain rfl:=z1
  have hb:=d3 hb
  refine al hb ?_;clear hb;intro z0 h2;refine al z0 ?_;clear z0;intro z0 h1;obtain rfl:=z0
  refine PyProof.Rows.pow_int h1 ?_ (cK S q)
  have e:Builtin.Int.intBits 10=4:=by decide
  refine rwE e ?_
  lia
theorem sP (C:COK G c) (hh:A.handled=none) (S:SR G c ρ σ Fz s) {a:V} {b:V} {r:V} {v u:Value} {op:Op} {op':Operator} (o:yZ op op'=true) (ha:VR G.w.params (Hf G.kx Fz) a v) (hb:VR G.w.params (Hf G.kx Fz) b u)
 (e:gA op a b=some r) {Q:PV} (q:Q r σ):wpAny (model G.prog G.w) A (binaryOp op' v u) (PV' G c ρ Fz Q) E s:=by
 obtain rfl:=of_decide_eq_true o
 have hstr:∀ {x y:Str} {t t':Tok} {n:Nat},x.cps.size+y.cps.size<=100000->x.cps.size+y.cps.size<=n->Q (.msg n) σ->wpAny (model G.prog G.w) A (binaryOp .Add (.str x t) (.str y t')) (PV' G c ρ Fz Q) E s:=by
  intro x y t t' n h1 h2 h3
  refine PyProof.Rows.add_str (λ t'' tk=>⟨.msg n,σ,Fz,sub.refl,⟨x++y,t'',rfl,?_⟩,S,h3⟩) (aK (by show x.cps.size+y.cps.size<=_;lia))
  have:=strLen_append x y
  show (x++y).length<=n
  refine rwE this ?_;exact h2
 induction lV.of e with
 | int hi =>
  refine ao ha ?_;clear ha;intro t z1;obtain rfl:=z1
  refine ao hb ?_;clear hb;intro t' z1;obtain rfl:=z1
  exact sO S hi q
 | @tup x y hz =>
  obtain ⟨g,m,mf,lo,Mt,Tb,Ce,led,S⟩:=S
  refine dn (c6 C S ha) ?_;intro a1 vs z2 t1 r1 z1;obtain rfl:=z2
  refine ao (c6 C S hb) ?_;intro a2 zz;refine lJ zz ?_;clear zz;intro ws z1 t2 r2 z2;obtain rfl:=z1
  have hz':(vs++ws).length<=100000:=by (refine rwE List.length_append ?_;refine rwE r1.len ?_;refine rwE r2.len ?_;refine rwB List.length_append ?_);exact hz
  refine add_tuples S.F S.N t1 t2 (λ e=>?_) (λ u' e=>?_) (λ u' u' h' F' N'=>?_) (by refine rwB List.length_append ?_;exact aK (by lia))
  ·subst e
   induction x using List.casesOn with
   | nil=>exact ⟨_,σ,Fz,sub.refl,hb,⟨g,m,mf,lo,Mt,Tb,Ce,led,S⟩,q⟩
   | cons _ _=>exact absurd r1.len (Nat.succ_ne_zero _).symm
  ·subst e
   induction y using List.casesOn with
   | nil=>rw [List.append_nil] at q;exact ⟨_,σ,Fz,sub.refl,ha,⟨g,m,mf,lo,Mt,Tb,Ce,led,S⟩,q⟩
   | cons _ _=>exact absurd r2.len (Nat.succ_ne_zero _).symm
  ·have S':=S.fzN F' N' (Nat.le_refl _)
   have k:∀ a o,Hf G.kx Fz a o->Hf G.kx ((s.heap.objs.size,({ cls:=.type "tuple",data:=.seq (vs++ws).toArray }:Obj))::Fz) a o:=Hf.mono λ u' h=>.tail _ h
   refine ⟨.tup (x++y),σ,_,λ u' h=>.tail _ h,?_,⟨g,m,mf,lo,Mt,Tb,Ce,_,S'⟩,q⟩
   exact ⟨_,_,_,_,rfl,.inr (.head _),rfl,rfl,(r1.mono k).append (r2.mono k),hz⟩
 | @lst x y hz =>
  obtain ⟨g,m,mf,lo,Mt,Tb,Ce,led,S⟩:=S
  refine dn (c7 C S ha) ?_;intro a1 vs z2 t1 r1 z1;obtain rfl:=z2
  refine ao (c7 C S hb) ?_;intro a2 zz;refine lJ zz ?_;clear zz;intro ws z1 t2 r2 z2;obtain rfl:=z1
  have hz':(vs++ws).length<=100000:=by (refine rwE List.length_append ?_;refine rwE r1.len ?_;refine rwE r2.len ?_;refine rwB List.length_append ?_);exact hz
  refine add_lists S.F S.N t1 t2 (λ h' F' N'=>?_) (by refine rwB List.length_append ?_;exact aK (by lia))
  have S':=S.fzN F' N' (Nat.le_refl _)
  have k:∀ a o,Hf G.kx Fz a o->Hf G.kx ((s.heap.objs.size,({ cls:=.type "list",data:=.seq (vs++ws).toArray }:Obj))::Fz) a o:=Hf.mono λ u' h=>.tail _ h
  refine ⟨.lst (x++y),σ,_,λ u' h=>.tail _ h,?_,⟨g,m,mf,lo,Mt,Tb,Ce,_,S'⟩,q⟩
  exact ⟨_,_,_,_,rfl,.inr (.head _),rfl,rfl,(r1.mono k).append (r2.mono k),hz⟩
 | ss k l =>
  refine ao ha ?_;clear ha;intro t z1;obtain rfl:=z1
  refine ao hb ?_;clear hb;intro t' z1;obtain rfl:=z1
  have h1:=eA k
  have h2:=eA l
  exact hstr (by lia) (by lia) q
 | ms l hz =>
  refine fX ha ?_;clear ha;intro x t z2 hx;obtain rfl:=z2
  refine ao hb ?_;clear hb;intro t' z1;obtain rfl:=z1
  have h2:=eA l
  exact hstr (by lia) (by lia) q
 | sm l hz =>
  refine fX hb ?_;clear hb;intro x t z2 hx;obtain rfl:=z2
  refine ao ha ?_;clear ha;intro t' z1;obtain rfl:=z1
  have h2:=eA l
  exact hstr (by lia) (by lia) q
end
section
variable {c:Cx} {ρ:Rho} {σ:St} {Fz:List (Addr×Obj)} {A:Around} {E:Value->Shared->Prop} {s:Shared} {h:Heap} {m mf:Str->Option Value} {lo Mt Tb Ce led:List (Addr×Obj)}
theorem dk {l:List V} {P:Params} {H:Hp} {vs:List Value} (r:VRs P H l vs):(!(List.toArray vs).isEmpty)=!l.isEmpty:=by
 induction l using List.casesOn with
 | nil=>exact rwE (show vs=[] from r) rfl
 | cons v l=>obtain ⟨x,ys,rfl,_,_⟩:=r;rfl
theorem pZ {V:V} {l:List (Nat×Mine.Internal.V)} {P:Mine.Internal.V->Prop} (e:bl V σ=some l) (h1:P (.dct l)) (h2:∀ a,look a σ=some (.dct l)->P (.loc a)):P V:=by
 induction V using Mine.Internal.V.casesOn with
 | dct l'=>exact Option.some.inj e▸h1
 | loc a =>
  have e:(match look a σ with | some (.dct l)=>some l | _=>none)=some l:=e
  have h2:=h2 a
  revert e h2
  induction look a σ using Option.casesOn with
  | none=>exact λ e _=>J e
  | some mm =>
   induction mm using Mine.Internal.M.casesOn with
   | dct l'=>exact λ e h=>h (congrArg (λ l=>some (M.dct l)) (Option.some.inj e))
   | _=>exact λ e _=>J e
 | _=>exact J e
theorem hY {V:V} {P:Mine.Internal.V->Mine.Internal.V->Prop} (h1:(∀ a,V≠.loc a)->P V V) (h2:∀ a l,look a σ=some (.lst l)->P (.loc a) (.lst l)) (h3:∀ a,P (.loc a) (.loc a)):P V (aL V σ):=by
 induction V using Mine.Internal.V.casesOn with
 | loc a =>
  show P (.loc a) (match look a σ with | some (.lst l)=>.lst l | _=>.loc a)
  have h2:=h2 a
  revert h2
  induction look a σ using Option.casesOn with
  | none=>exact λ _=>h3 a
  | some mm =>
   induction mm using Mine.Internal.M.casesOn with
   | lst l=>exact λ h=>h l rfl
   | _=>exact λ _=>h3 a
 | _=>exact h1 λ _ q=>nomatch q
theorem d6 (C:COK G c) (S:SR G c ρ σ Fz s) {V:V} {v:Value} {b:Bool} (hv:VR G.w.params (Hf G.kx Fz) V v) (e:aT V σ=some b) {Q:Bool->St->Prop} (q:Q b σ) :
 wpAny (model G.prog G.w) A (truthy v) (PT' G c ρ Fz Q) E s:=by
 have fin:∀ {tk},PT' G c ρ Fz Q b { s with toks:=tk }:=⟨σ,Fz,sub.refl,S,q⟩
 obtain ⟨g,m,mf,lo,Mt,Tb,Ce,led,S⟩:=S
 induction V using Mine.Internal.V.casesOn with
 | none=>(first | exact J hv | exact ad hv | exact False.elim hv | cases hv);cases e;exact PyProof.Rows.truthy_none fin
 | bool b'=>(first | exact J hv | exact ad hv | exact False.elim hv | cases hv);cases e;exact wpAny_truthy_bool fin
 | int i=>(refine ao hv ?_;clear hv;intro t z1;obtain rfl:=z1);cases e;exact PySem.P.truthy_int fin
 | tup l =>
  refine dn (c6 C S hv) ?_;intro a vs z2 t r z;obtain rfl:=z2
  cases e
  refine truthy_tuple t (by refine rwE List.size_toArray ?_;lia) ?_
  refine rwE (dk r) ?_;exact fin
 | lst l =>
  refine dn (c7 C S hv) ?_;intro a vs z2 t r z;obtain rfl:=z2
  cases e
  refine wpAny_truthy_list t (by refine rwE List.size_toArray ?_;lia) ?_
  refine rwE (dk r) ?_;exact fin
 | loc a =>
  obtain rfl:v=.ref a:=hv
  have e:(match look a σ with | some (.lst l)=>some (!l.isEmpty) | _=>none)=some b:=e
  induction hl:look a σ using Option.casesOn with
  | none=>rw [hl] at e;exact J e
  | some mm =>
   rw [hl] at e
   induction mm using Mine.Internal.M.casesOn with
   | lst l =>
    refine cu (gP S hl) ?_;intro vs t r z
    refine wpAny_truthy_list t (by refine rwE List.size_toArray ?_;lia) ?_
    refine rwE (dk r) ?_;rw [Option.some.inj e];exact fin
   | _=>exact J e
 | _=>exact J e
theorem vb (S:SR G c ρ σ Fz s) {i:Int} {v:Value} (hv:VR G.w.params (Hf G.kx Fz) (.int i) v) {Q:PV} (q:Q (.int (-i)) σ):wpAny (model G.prog G.w) A (unaryOp .USub v) (PV' G c ρ Fz Q) E s:=by
 refine ao hv ?_;clear hv;intro t z1;obtain rfl:=z1
 exact PyProof.Rows.neg_int (cK S q)
theorem vc (C:COK G c) (S:SR G c ρ σ Fz s) {V:V} {v:Value} {b:Bool} (hv:VR G.w.params (Hf G.kx Fz) V v) (e:aT V σ=some b) {Q:PV} (q:Q (.bool (!b)) σ) :
 wpAny (model G.prog G.w) A (unaryOp .Not v) (PV' G c ρ Fz Q) E s :=
 PyProof.Rows.not_of (wpAny_mono (d6 (Q:=λ b σ=>Q (.bool (!b)) σ) C S hv e q) (λ b' s' ⟨σ',Fz',h1,h2,h3⟩=>⟨.bool (!b'),σ',Fz',h1,rfl,h2,h3⟩) λ u' u' x=>x)
noncomputable def toD:V->PyData
 | .none=>.none
 | .bool b=>.bool b
 | .int i=>.int i
 | .str k=>.str (nm k)
 | .tup l=>.tuple (toDs l)
 | .lst l=>.list (toDs l)
 | _=>.none
where toDs:List V->List PyData
 | []=>[]
 | v::r=>toD v::toDs r
theorem uA {k:Nat} (h:Nat.blt k 359=true):PyData.strOk (nm k)=true:=by
 refine al (eM mO) ?_;intro hs z1
 have hl:nmL.length=359:=by decide +kernel
 have hk:k<nmL.length:=by refine rwE hl ?_;exact Nat.ble_eq.mp (by simpa [Nat.blt] using h)
 delta nm
 refine rwE (List.getElem?_eq_getElem hk) ?_
 delta PyData.strOk
 refine rwB Array.all_toList ?_;rewrite [List.all_eq_true]
 intro n hn
 exact decide_eq_true (hs _ (List.getElem_mem hk) n hn)
theorem gQ {n:Nat} (ih:∀ {v:V},vok v n=true->(toD v).canLay0=true/\(toD v).depth<=n+1) {l:List V} (h:im l n=true):PyData.canLayAll0 (toD.toDs l)=true/\PyData.depthAll (toD.toDs l)<=n+1:=by
 induction l with
 | nil=>exact ⟨rfl,Nat.zero_le _⟩
 | cons v r ihl =>
  refine b2 h λ h1 h2=>?_
  have a:=ih h1
  have b:=ihl h2
  exact ⟨Bool.and_eq_true_iff.mpr ⟨a.1,b.1⟩,Nat.max_le.mpr ⟨a.2,b.2⟩⟩
theorem ve {n:Nat}:∀ {v:V},vok v n=true->(toD v).canLay0=true/\(toD v).depth<=n+1:=by
 induction n with
 | zero =>
  intro v h
  induction v using V.casesOn with
  | none=>exact ⟨rfl,Nat.zero_le _⟩
  | bool b=>exact ⟨rfl,Nat.zero_le _⟩
  | int b=>exact ⟨rfl,Nat.zero_le _⟩
  | str b=>exact ⟨uA h,Nat.zero_le _⟩
  | _=>exact ad h
 | succ n ih =>
  intro v h
  induction v using V.casesOn with
  | none=>exact ⟨rfl,Nat.zero_le _⟩
  | bool b=>exact ⟨rfl,Nat.zero_le _⟩
  | int b=>exact ⟨rfl,Nat.zero_le _⟩
  | str b=>exact ⟨uA h,Nat.zero_le _⟩
  | tup l=>exact ⟨(gQ ih h).1,Nat.succ_le_succ (gQ ih h).2⟩
  | lst l=>exact ⟨(gQ ih h).1,Nat.succ_le_succ (gQ ih h).2⟩
  | _=>exact ad h
theorem fN {n:Nat} (ih:∀ {V:V} {v:Value},VR G.w.params (Hf G.kx Fz) V v->vok V n=true->∃ as,Reads h v (toD V) as) {l:List V}:∀ {vs:List Value},VRs G.w.params (Hf G.kx Fz) l vs->im l n=true->∃ as,ReadsAll h vs (toD.toDs l) as:=by
 induction l with
 | nil=>intro vs hv _;exact ⟨_,rwE (show vs=[] from hv) .nil⟩
 | cons V r ihl =>
  intro vs hv e
  obtain ⟨x,ys,rfl,h2,h3⟩:=hv
  refine b2 e λ e1 e2=>?_
  refine ao (ih h2 e1) ?_;intro as ra
  refine ao (ihl h3 e2) ?_;intro bs rb
  exact ⟨_,.cons ra rb⟩
theorem kP (C:COK G c) (S:SRp G c ρ σ Fz h m mf lo Mt Tb Ce led) {n:Nat}:∀ {V:V} {v:Value},VR G.w.params (Hf G.kx Fz) V v->vok V n=true->∃ as,Reads h v (toD V) as:=by
 induction n with
 | zero =>
  intro V v hv e
  induction V using Mine.Internal.V.casesOn with
  | none=>exact ⟨_,rwE (show v=.none from hv) .none⟩
  | bool b=>exact ⟨_,rwE (show v=.bool b from hv) (.bool _)⟩
  | int b=>(refine ao hv ?_;intro t z1);exact ⟨_,rwE z1 (.int _ _)⟩
  | str b=>(refine ao hv ?_;intro t z1);exact ⟨_,rwE z1 (.str _ _)⟩
  | _=>exact ad e
 | succ n ih =>
  intro V v hv e
  induction V using Mine.Internal.V.casesOn with
  | none=>exact ⟨_,rwE (show v=.none from hv) .none⟩
  | bool b=>exact ⟨_,rwE (show v=.bool b from hv) (.bool _)⟩
  | int b=>(refine ao hv ?_;intro t z1);exact ⟨_,rwE z1 (.int _ _)⟩
  | str b=>(refine ao hv ?_;intro t z1);exact ⟨_,rwE z1 (.str _ _)⟩
  | tup l =>
   obtain ⟨a,o,xs,k,rfl,h2,h3,h4,h5,_⟩:=hv
   refine ao (fN ih h5 e) ?_;intro as r
   exact ⟨_,.tuple (S.get C h2) h3 h4 r⟩
  | lst l =>
   obtain ⟨a,o,xs,k,rfl,h2,h3,h4,h5,_⟩:=hv
   refine ao (fN ih h5 e) ?_;intro as r
   exact ⟨_,.list (S.get C h2) h3 h4 r⟩
  | _=>exact ad e
theorem vf {k j:Nat}:(nm k==nm j)=(k==j):=by
 by_cases q:k=j
 ·subst q;refine rwE (beq_self_eq_true ..) ?_;refine rwE (beq_self_eq_true ..) ?_;rfl
 ·refine rwE (beq_eq_false_iff_ne.mpr q) ?_;refine rwE (beq_eq_false_iff_ne.mpr λ e=>q (bI e)) ?_;rfl
theorem Ap {x y:Option Bool} {r:Bool} (h:(match x,y with | some x,some y=>some (x&&y) | _,_=>none)=some r):∃ p q,x=some p/\y=some q/\(p&&q)=r:=by
 induction x using Option.casesOn with
 | none=>exact J h
 | some p =>
  induction y using Option.casesOn with
  | none=>exact J h
  | some q=>exact ⟨p,q,rfl,rfl,Option.some.inj h⟩
mutual
theorem nq:∀ (a:V) {b:V} {r:Bool},veq a b=some r->PyData.eqv (toD a) (toD b)=r
 | .none,b,r,e=>by
  induction b using V.casesOn with
  | none=>exact Option.some.inj e
  | _=>exact J e
 | .bool x,b,r,e=>by
  induction b using V.casesOn with
  | bool y=>exact Option.some.inj e
  | _=>exact J e
 | .int x,b,r,e=>by
  induction b using V.casesOn with
  | int y=>exact Option.some.inj e
  | str y=>exact Option.some.inj e
  | _=>exact J e
 | .str k,b,r,e=>by
  induction b using V.casesOn with
  | int y=>exact Option.some.inj e
  | str y=>exact vf.trans (Option.some.inj e)
  | _=>exact J e
 | .tup x,b,r,e=>by
  induction b using V.casesOn with
  | tup y=>exact hZ x (b:=y) e
  | _=>exact J e
 | .lst x,b,r,e=>by
  induction b using V.casesOn with
  | lst y=>exact hZ x (b:=y) e
  | _=>exact J e
 | .msg _,b,r,e | .byt,b,r,e | .fn _,b,r,e | .cls _,b,r,e | .bi _,b,r,e | .clo _ _,b,r,e | .dct _,b,r,e | .dci _,b,r,e | .ob _ _,b,r,e | .loc _,b,r,e | .rng _ _ _,b,r,e=>J e
theorem hZ:∀ (a:List V) {b:List V} {r:Bool},veq.veqs a b=some r->PyData.eqvAll (toD.toDs a) (toD.toDs b)=r
 | [],[],r,e=>Option.some.inj e
 | [],_::_,r,e=>Option.some.inj e
 | _::_,[],r,e=>Option.some.inj e
 | x::a,y::b,r,e=>by
  refine gz (Ap e) ?_;intro p q h1 h2 z4;obtain rfl:=z4
  show (PyData.eqv (toD x) (toD y)&&PyData.eqvAll (toD.toDs a) (toD.toDs b))=_
  refine rwE (nq x h1) ?_;refine rwE (hZ a h2) ?_;rfl
end
theorem ry {k j:Nat}:(nm k==nm j)=(k==j):=by
 by_cases q:k=j
 ·subst q;simp
 ·refine rwE (beq_eq_false_iff_ne.mpr q) ?_;refine rwE (beq_eq_false_iff_ne.mpr λ e=>q (bI e)) ?_;rfl
theorem rz (C:COK G c) (S:SRp G c ρ σ Fz h m mf lo Mt Tb Ce led) {V:V} {v:Value} {l:List Mine.Internal.V} (hv:VR G.w.params (Hf G.kx Fz) V v) (e:aL V σ=.lst l) :
 ∃ a vs,v=.ref a/\h.IsList a (List.toArray vs)/\VRs G.w.params (Hf G.kx Fz) l vs/\vs.length<=100000:=by
 revert hv e
 refine hY (P:=λ V W=>VR G.w.params (Hf G.kx Fz) V v->W=.lst l->_) (λ _ hv e=>c7 C S (show VR G.w.params (Hf G.kx Fz) (.lst l) v from e▸hv)) (λ a l' hl hv e=>?_) λ a _ e=>nomatch e
 refine ao (gP S hl) ?_;intro vs h1
 exact ⟨a,vs,hv,Mine.Internal.V.lst.inj e▸h1⟩
theorem jX {V:V} {W:Mine.Internal.V} (e:aL V σ=W) (hn:∀ l,W≠.lst l):V=W:=by
 revert e
 exact hY (P:=λ V X=>X=W->V=W) (λ _ e=>e) (λ a l _ e=>absurd e.symm (hn l)) λ a e=>e
theorem uB (C:COK G c) (S:SRp G c ρ σ Fz h m mf lo Mt Tb Ce led) {V:V} {v:Value} {n:Nat} (hv:VR G.w.params (Hf G.kx Fz) V v) (e:vok (aL V σ) n=true):∃ as,Reads h v (toD (aL V σ)) as:=by
 revert hv e
 refine hY (P:=λ V W=>VR G.w.params (Hf G.kx Fz) V v->vok W n=true->∃ as,Reads h v (toD W) as) (λ _ hv e=>kP C S hv e) (λ a l hl hv e=>?_) λ a _ e=>ad e
 refine cu (gP S hl) ?_;intro vs t r z
 induction n using Nat.casesOn with
 | zero=>exact ad e
 | succ n =>
  refine cu t ?_;intro o ho hc zz;obtain ⟨k,hdt⟩:=zz
  refine ao (fN (kP C S) r e) ?_;intro as ra
  exact ⟨_,rwE (show v=.ref a from hv) (.list ho hc hdt (by simpa using ra))⟩
inductive EqR:V->V->Bool->Prop
 | int (a b:Int):EqR (.int a) (.int b) (a==b)
 | str (a b:Nat):EqR (.str a) (.str b) (a==b)
 | tup (a:List V):EqR (.tup a) (.tup []) a.isEmpty
 | lst (a:List V):EqR (.lst a) (.lst []) a.isEmpty
 | deep {a b:V} {r:Bool} (h1:vok a 20=true) (h2:vok b 20=true) (e:veq a b=some r):EqR a b r
theorem EqR.of {a b:V} {r:Bool} (e:eqV a b=some r):EqR a b r:=by
 have deep:eqS a b=some r->EqR a b r:=λ e=>by
  obtain ⟨h,e⟩:=Option.ite_none_right_eq_some.mp e
  exact .deep (Bool.and_eq_true_iff.mp h).1 (Bool.and_eq_true_iff.mp h).2 e
 induction a using V.casesOn with
 | int x=>induction b using V.casesOn with | int y=>exact Option.some.inj e▸.int x y | _=>exact deep e
 | str x=>induction b using V.casesOn with | str y=>exact Option.some.inj e▸.str x y | _=>exact deep e
 | tup x=>induction b using V.casesOn with | tup y=>(induction y using List.casesOn with | nil=>exact Option.some.inj e▸.tup x | cons _ _=>exact deep e) | _=>exact deep e
 | lst x=>induction b using V.casesOn with | lst y=>(induction y using List.casesOn with | nil=>exact Option.some.inj e▸.lst x | cons _ _=>exact deep e) | _=>exact deep e
 | _=>exact deep e
theorem uC (C:COK G c) (hu:A.units<=9000) (S:SR G c ρ σ Fz s) {a:V} {b:V} {r:Bool} {v u:Value} (ha:VR G.w.params (Hf G.kx Fz) a v) (hb:VR G.w.params (Hf G.kx Fz) b u)
 (e:eqV (aL a σ) (aL b σ)=some r):(∀ {Q:Value->Shared->Prop},(∀ tk,Q (.bool r) { s with toks:=tk })->wpAny (model G.prog G.w) A (compareOp .Eq v u) Q E s) /\
  ∀ {Q:Value->Shared->Prop},(∀ tk,Q (.bool (!r)) { s with toks:=tk })->wpAny (model G.prog G.w) A (compareOp .NotEq v u) Q E s:=by
 have hc:A.units<cLine:=Nat.lt_of_le_of_lt hu (by decide)
 have hc2:A.units+64<cLine:=Nat.lt_of_le_of_lt (Nat.add_le_add_right hu 64) (by decide)
 obtain ⟨g,m,mf,lo,Mt,Tb,Ce,led,S⟩:=S
 replace e:=EqR.of e
 generalize h1:aL a σ=da at e
 generalize h2:aL b σ=db at e
 induction e with
 | int x y =>
  obtain rfl:=jX h1 (λ l q=>by cases q)
  obtain rfl:=jX h2 (λ l q=>by cases q)
  refine ao ha ?_;clear ha;intro t z1;obtain rfl:=z1
  refine ao hb ?_;clear hb;intro t' z1;obtain rfl:=z1
  refine ⟨λ q=>PyProof.Rows.eq_int (q s.toks),λ q=>PyProof.Rows.ne_int ?_⟩
  have:=q s.toks
  rwa [show (!(x==y))=(x != y) from rfl] at this
 | str x y =>
  obtain rfl:=jX h1 (λ l q=>by cases q)
  obtain rfl:=jX h2 (λ l q=>by cases q)
  refine ao ha ?_;clear ha;intro t z1;obtain rfl:=z1
  refine ao hb ?_;clear hb;intro t' z1;obtain rfl:=z1
  refine ⟨λ q=>PyProof.Rows.eq_str ?_,λ q=>PyProof.Rows.ne_str ?_⟩
  ·refine rwE ry ?_;exact q s.toks
  ·have:=q s.toks
   rw [← ry] at this
   exact this
 | tup x =>
  obtain rfl:=jX h1 (λ l q=>by cases q)
  obtain rfl:=jX h2 (λ l q=>by cases q)
  refine dn (c6 C S ha) ?_;intro a1 vs z2 t1 r1 z5;obtain rfl:=z2
  refine dn (c6 C S hb) ?_;intro a2 ws z2 t2 r2 z5;obtain rfl:=z2
  cases r2
  have hs:(vs.toArray.size==(#[]:Array Value).size)=x.isEmpty:=by
   have:=r1.len
   cases x<;>cases vs<;>first | rfl | cases this
  refine ⟨λ q=>SeqAt.eq_tupleAt (e:=λ u'=>true) t1 t2 hc (λ j u' h2=>absurd h2 (Nat.not_lt_zero j)) ?_,λ q=>?_⟩
  ·simp only [List.size_toArray,List.length_nil,Nat.min_zero,List.range_zero,List.all_nil,Bool.true_and]
   have:=q s.toks
   rw [← hs] at this
   simpa using this
  ·refine SeqAt.RcNeAt.tuples (e:=λ u'=>true) t1 t2 hc (λ j u' h2=>absurd h2 (Nat.not_lt_zero j)) G.prog G.w E _ ?_
   have:=q s.toks
   rw [← hs] at this
   simpa using this
 | lst x =>
  refine dn (rz C S ha h1) ?_;intro a1 vs z2 t1 r1 z5;obtain rfl:=z2
  refine dn (rz C S hb h2) ?_;intro a2 ws z2 t2 r2 z5;obtain rfl:=z2
  cases r2
  induction x using List.casesOn with
  | nil =>
   cases r1
   refine ⟨λ q=>SeqAt.eq_listAt (e:=λ u'=>true) t1 t2 rfl hc (λ j u' h2=>absurd h2 (Nat.not_lt_zero j)) (by simpa using q s.toks),λ q=>SeqAt.RcNeAt.lists (e:=λ u'=>true) t1 t2 rfl hc (λ j u' h2=>absurd h2 (Nat.not_lt_zero j)) G.prog G.w E _ (by simpa using q s.toks)⟩
  | cons y l =>
   obtain ⟨z,zs,rfl,_,_⟩:=r1
   refine ⟨λ q=>SeqAt.eq_list_lengthsAt t1 t2 (by simp) hc (by simpa using q s.toks),λ q=>SeqAt.RcNeAt.lists_lengths t1 t2 (by simp) hc G.prog G.w E _ (by simpa using q s.toks)⟩
 | deep k1 k2 e =>
  subst h1 h2
  refine ao (uB C S ha k1) ?_;intro as ra
  refine ao (uB C S hb k2) ?_;intro bs rb
  have sh:∀ {W:V},vok W 20=true->SeqAt.shaped (toD W)=true:=λ h=>by
   refine al (ve h) ?_;intro x y
   delta SeqAt.shaped
   refine rwE x ?_;refine rwE (Bool.true_and ..) ?_
   exact decide_eq_true (by lia)
  have ev:=nq _ e
  exact ⟨λ q=>eq_dataH ra rb (sh k1) (sh k2) hc2 (by refine rwE ev ?_;exact q s.toks),λ q=>ne_dataH ra rb (sh k1) (sh k2) hc2 (by refine rwE ev ?_;exact q s.toks)⟩
theorem VRs.mapd {P:Params} {H:Hp} {l:List V}:∀ {vs:List Value} {ks:List Nat},VRs P H l vs->gr l=some ks->∃ ts:List Tok,vs=(ks.zip ts).map (λ p=>Value.str (nm p.1) p.2)/\ts.length=ks.length:=by
 induction l with
 | nil=>intro vs ks h e;exact ⟨[],rwE (show vs=[] from h) (rwB (Option.some.inj e) rfl),rwB (Option.some.inj e) rfl⟩
 | cons v r ih =>
  intro vs ks h e
  obtain ⟨x,ys,rfl,h2,h3⟩:=h
  induction v using V.casesOn with
  | str k =>
   refine ao h2 ?_;intro t z
   refine au (Option.map_eq_some_iff.mp (show (gr r).map (k::·)=some ks from e)) ?_;intro ks' h4 z'
   refine au (ih h3 h4) ?_;intro ts e1 e2
   exact ⟨t::ts,rwE z (rwB z' (rwE e1 rfl)),rwB z' (congrArg Nat.succ e2)⟩
  | _=>exact J e
theorem jY (C:COK G c) (S:SRp G c ρ σ Fz h m mf lo Mt Tb Ce led) {V:V} {v:Value} {l:List (Nat×Mine.Internal.V)} (hv:VR G.w.params (Hf G.kx Fz) V v) (e:bl V σ=some l) :
 ∃ a es n,v=.ref a/\h.get? a=some (dictOf es n)/\VRd G.w.params (Hf G.kx Fz) l es/\(l.map (λ x=>x.1)).Nodup/\l.length<=1000/\(a==sysModules)=false:=by
 revert hv
 refine pZ (P:=λ V=>VR G.w.params (Hf G.kx Fz) V v->_) e (λ hv=>?_) λ a hl hv=>?_
 ·obtain ⟨a,es,n,ea,h1,h2,h3,h4,h5⟩:=hv
  exact ⟨a,es,n,ea,S.get C h1,h2,h3,h4,h5⟩
 ·obtain ⟨pre,f,post,e1,⟨es,n,e2,h3,h4,h5,h6⟩,_,_⟩:=S.mt.look hl
  subst e2
  exact ⟨a,es,n,hv,S.getM (by refine rwE e1 ?_;exact List.mem_append_right _ (.head _)),h3,h4,h5,h6⟩
theorem fO {prog:Program} {a:Addr} {es:List DictEntry} {n:Nat} {l:List (Nat×V)} {w:World} {H:Hp} (hg:h.get? a=some (dictOf es n)) (r:VRd w.params H l es) (nd:(l.map (λ x=>x.1)).Nodup) :
 ∃ kvs,h.DictOf (PySem.strKind prog w) a kvs/\kvs.map (λ x=>x.1)=l.map (λ p=>nm p.1)/\∀ k,match aY k l with | some v=>∃ x,valueAt kvs (nm k)=some x/\VR w.params H v x | none=>valueAt kvs (nm k)=none:=by
 refine cu (r.pairs (prog:=prog)) ?_;intro kvs h1 h2 h3
 exact ⟨kvs,⟨_,es.toArray,n,hg,⟨rfl,rfl,rfl⟩,rfl,λ e he=>r.keys e (Array.mem_toList_iff.mpr he),h1,by refine rwE h2 ?_;exact fm nd⟩,h2,h3⟩
inductive rA (σ:St):V->V->Bool->Prop
 | tup (k:Nat) (l:List V) (ks:List Nat) (h:gr l=some ks):rA σ (.str k) (.tup l) (ks.contains k)
 | dct (k:Nat) (b:V) (l:List (Nat×V)) (h:bl b σ=some l):rA σ (.str k) b (aY k l).isSome
theorem rA.of {a b:V} {r:Bool} (e:lL a b σ=some r):rA σ a b r:=by
 induction a using V.casesOn with
 | str k =>
  have dct:(bl b σ).map (λ l=>(aY k l).isSome)=some r->rA σ (.str k) b r:=λ e=>by
   refine au (Option.map_eq_some_iff.mp e) ?_;intro l h z
   exact z▸.dct k b l h
  induction b using V.casesOn with
  | tup l=>(refine au (Option.map_eq_some_iff.mp (show (gr l).map (·.contains k)=some r from e)) ?_;intro ks h z);exact z▸.tup k l ks h
  | _=>exact dct e
 | _=>exact J e
theorem rB (C:COK G c) (S:SR G c ρ σ Fz s) {a:V} {b:V} {r:Bool} {v u:Value} (ha:VR G.w.params (Hf G.kx Fz) a v) (hb:VR G.w.params (Hf G.kx Fz) b u)
 (e:lL a b σ=some r):(∀ {Q:Value->Shared->Prop},(∀ tk,Q (.bool r) { s with toks:=tk })->wpAny (model G.prog G.w) A (compareOp .In v u) Q E s) /\
  ∀ {Q:Value->Shared->Prop},(∀ tk,Q (.bool (!r)) { s with toks:=tk })->wpAny (model G.prog G.w) A (compareOp .NotIn v u) Q E s:=by
 obtain ⟨g,m,mf,lo,Mt,Tb,Ce,led,S⟩:=S
 have dict:∀ {k l},a=.str k->bl b σ=some l->(aY k l).isSome=r->(∀ {Q:Value->Shared->Prop},(∀ tk,Q (.bool r) { s with toks:=tk })->wpAny (model G.prog G.w) A (compareOp .In v u) Q E s) /\
  ∀ {Q:Value->Shared->Prop},(∀ tk,Q (.bool (!r)) { s with toks:=tk })->wpAny (model G.prog G.w) A (compareOp .NotIn v u) Q E s:=by
  intro k l e1 e2 e3
  subst e1
  refine ao ha ?_;clear ha;intro t z1;obtain rfl:=z1
  refine pK (jY C S hb e2) ?_;intro d es n z3 hg h1 h2 z7 h3;obtain rfl:=z3
  refine cu (fO (prog:=G.prog) hg h1 h2) ?_;intro kvs hd z2 hf
  have hs:(valueAt kvs (nm k)).isSome=r:=by
   have:=hf k
   refine rwB e3 ?_
   induction q:aY k l using Option.casesOn with
   | some v=>rw [q] at this;(refine au this ?_;clear this;intro x hx z2);refine rwE hx ?_;rfl
   | none=>rw [q] at this;refine rwE this ?_;rfl
  exact ⟨λ q=>wpAny_in_of (strKind_is G.prog G.w _ t) h3 hd.mapOf (by refine rwE hs ?_;exact q _),λ q=>wpAny_notIn_of (strKind_is G.prog G.w _ t) h3 hd.mapOf (by refine rwE hs ?_;exact q _)⟩
 replace e:=rA.of e
 induction e with
 | dct k b l hk=>exact dict rfl hk rfl
 | tup k l ks hk =>
  refine ao ha ?_;clear ha;intro t z1;obtain rfl:=z1
  refine dn (c6 C S hb) ?_;intro a2 ws z2 t2 r2 z5;obtain rfl:=z2
  refine au (r2.mapd hk) ?_;intro ts e1 e2
  let f:Value->Bool:=λ y=>match y with | .str x _=>decide (x=nm k) | _=>false
  have he:∀ y,y∈ws.toArray->SeqAt.EqAt A.in1 s y (.str (nm k) t) (f y):=by
   intro y hy
   rw [List.mem_toArray,e1] at hy
   refine au (List.mem_map.mp hy) ?_;intro p z1 z2;obtain rfl:=z2
   exact λ prog w E Q hq=>wpAny_eqBool_str hq
  have ha:ws.toArray.any f=ks.contains k:=by
   refine rwE List.any_toArray ?_;refine rwE e1 ?_;refine rwE List.any_map ?_
   have:∀ (ks:List Nat) (ts:List Tok),ts.length=ks.length->(ks.zip ts).any (f ∘ λ p=>Value.str (nm p.1) p.2)=ks.contains k:=by
    intro ks
    induction ks with
    | nil=>intro ts _;rfl
    | cons j r ih =>
     intro ts h
     induction ts using List.casesOn with
     | nil=>cases h
     | cons t0 ts =>
      refine rwE List.zip_cons_cons ?_;refine rwE List.any_cons ?_;refine rwE List.contains_cons ?_;refine rwE (ih ts (Nat.succ.inj h)) ?_
      congr 1
      show decide (nm j=nm k)=(k==j)
      by_cases q:k=j
      ·subst q;simp
      ·refine rwE (decide_eq_false λ e=>q (bI e).symm) ?_;refine rwE (beq_eq_false_iff_ne.mpr q) ?_;rfl
   exact this ks ts e2
  exact ⟨λ q=>SeqAt.in_tupleAt f t2 he (by refine rwE ha ?_;exact q s.toks),λ q=>SeqAt.notIn_tupleAt f t2 he (by refine rwE ha ?_;exact q s.toks)⟩
theorem iQ {P:Params} {H:Hp} {V:V} {v:Value} {r:Bool} (hv:VR P H V v) (e:bB .is V .none σ=some r):r=(v==.none):=by
 induction V using Mine.Internal.V.casesOn with
 | none=>obtain rfl:v=.none:=hv;exact (Option.some.inj e).symm
 | bool b=>obtain rfl:v=.bool b:=hv;exact (Option.some.inj e).symm
 | int i=>(refine ao hv ?_;clear hv;intro t z1;obtain rfl:=z1);exact (Option.some.inj e).symm
 | str i=>(refine ao hv ?_;clear hv;intro t z1;obtain rfl:=z1);exact (Option.some.inj e).symm
 | tup l=>obtain ⟨a,o,xs,n,rfl,_⟩:=hv;exact (Option.some.inj e).symm
 | lst l=>obtain ⟨a,o,xs,n,rfl,_⟩:=hv;exact (Option.some.inj e).symm
 | dct l=>obtain ⟨a,es,n,rfl,_⟩:=hv;exact (Option.some.inj e).symm
 | dci l=>obtain ⟨a,es,n,rfl,_⟩:=hv;exact (Option.some.inj e).symm
 | ob c l=>obtain ⟨a,dx,es,n,rfl,_⟩:=hv;exact (Option.some.inj e).symm
 | loc a=>obtain rfl:v=.ref a:=hv;exact (Option.some.inj e).symm
 | _=>exact J e
theorem kQ {a b:V} {r:Bool} (e:bB .is a b σ=some r):b=.none:=by
 induction b using V.casesOn with
 | none=>rfl
 | _=>exact J e
theorem qa {a b:V}:bB .isnot a b σ=(bB .is a b σ).map (!·):=by
 induction b using V.casesOn with
 | none=>induction a using V.casesOn with | _=>rfl
 | _=>rfl
theorem fo {P:Params} {H:Hp} {f:Int->Int->Bool} {a b:V} {r:Bool} {v u:Value} {K:Value->Value->Bool->Prop} (e:(match a,b with | .int x,.int y=>some (f x y) | _,_=>none)=some r) (ha:VR P H a v) (hb:VR P H b u) (k:∀ x y t t',K (.int x t) (.int y t') (f x y)):K v u r:=by
 induction a using V.casesOn with
 | int x =>
  induction b using V.casesOn with
  | int y=>exact ao ha λ t z=>ao hb λ t' z'=>rwE z (rwE z' (rwB (Option.some.inj e) (k x y t t')))
  | _=>exact J e
 | _=>exact J e
theorem eB (C:COK G c) (hu:A.units<=9000) (S:SR G c ρ σ Fz s) {a:V} {b:V} {r:Bool} {v u:Value} {op:Cm} {op':CmpOp} (o:pN op op'=true) (ha:VR G.w.params (Hf G.kx Fz) a v) (hb:VR G.w.params (Hf G.kx Fz) b u)
 (e:bB op a b σ=some r) {Q:Value->Shared->Prop} (q:∀ tk,Q (.bool r) { s with toks:=tk }):wpAny (model G.prog G.w) A (compareOp op' v u) Q E s:=by
 obtain rfl:=of_decide_eq_true o
 induction op using Cm.casesOn with
 | eq=>exact (uC C hu S ha hb e).1 q
 | ne=>(refine au (Option.map_eq_some_iff.mp (show (eqV (aL a σ) (aL b σ)).map (!·)=some r from e)) ?_;intro r' h z2;obtain rfl:=z2);exact (uC C hu S ha hb h).2 q
 | lt=>exact fo (f:=λ x y=>decide (x<y)) (K:=λ v u r=>(∀ tk,Q (.bool r) { s with toks:=tk })->wpAny (model G.prog G.w) A (compareOp .Lt v u) Q E s) e ha hb (λ x y t t' q=>PyProof.Rows.lt_int (q s.toks)) q
 | le=>exact fo (f:=λ x y=>decide (x<=y)) (K:=λ v u r=>(∀ tk,Q (.bool r) { s with toks:=tk })->wpAny (model G.prog G.w) A (compareOp .LtE v u) Q E s) e ha hb (λ x y t t' q=>PyProof.Rows.le_int (q s.toks)) q
 | gt=>exact fo (f:=λ x y=>decide (y<x)) (K:=λ v u r=>(∀ tk,Q (.bool r) { s with toks:=tk })->wpAny (model G.prog G.w) A (compareOp .Gt v u) Q E s) e ha hb (λ x y t t' q=>PyProof.Rows.gt_int (q s.toks)) q
 | ge=>exact fo (f:=λ x y=>decide (y<=x)) (K:=λ v u r=>(∀ tk,Q (.bool r) { s with toks:=tk })->wpAny (model G.prog G.w) A (compareOp .GtE v u) Q E s) e ha hb (λ x y t t' q=>PyProof.Rows.ge_int (q s.toks)) q
 | is =>
  obtain rfl:=kQ e
  obtain rfl:u=.none:=hb
  obtain rfl:=iQ ha e
  exact is_none (q s.toks)
 | isnot =>
  rw [qa] at e
  refine au (Option.map_eq_some_iff.mp e) ?_;intro r' e1 z2;obtain rfl:=z2
  obtain rfl:=kQ e1
  obtain rfl:u=.none:=hb
  obtain rfl:=iQ ha e1
  exact isNot_none (q s.toks)
 | in_=>exact (rB C S ha hb e).1 q
 | notin=>(refine au (Option.map_eq_some_iff.mp (show (lL a b σ).map (!·)=some r from e)) ?_;intro r' h z2;obtain rfl:=z2);exact (rB C S ha hb h).2 q
end
section
variable {c:Cx} {ρ:Rho} {σ:St} {Fz:List (Addr×Obj)} {A:Around} {E:Value->Shared->Prop} {s:Shared} {h:Heap} {m mf:Str->Option Value} {lo Mt Tb Ce led:List (Addr×Obj)}
theorem eR {slice:PySem.Expr} (hi:px slice=true) (o i:Value):subscripted slice false o i=operate [o,i] (getItem o i):=by
 induction slice using PySem.Expr.casesOn with
 | Slice _ _ _ _=>exact ad hi
 | _=>rfl
theorem kD (i:Int) (n:Nat):seqIndex? i n=(if (decide (0<=(if i<0 then i+n else i))&&decide ((if i<0 then i+n else i)<n))=true then some (if i<0 then i+n else i).toNat else none):=rfl
theorem ga {i:Int} {n k:Nat} (h:bD i n=some k) (hn:n<=100000):-(2 ^ 63)<=i/\i<2 ^ 63/\seqIndex? i n=some k/\k<n/\((0<=i/\i.toNat=k)\/(i<0/\-(n:Int)<=i/\(i+n).toNat=k)):=by
 delta bD at h
 refine rwE (kD ..) ?_
 split at h
 ·rename_i h0
  split at h
  ·rename_i h1
   cases h
   refine ⟨by lia,by lia,?_,h1,.inl ⟨h0,rfl⟩⟩
   refine rwE (if_neg (show ¬ i<0 by lia)) ?_;refine rwE (if_pos (by (refine rwE (Bool.and_eq_true ..) ?_;refine rwE decide_eq_true_eq ?_;refine rwE decide_eq_true_eq ?_);lia)) ?_;rfl
  ·exact J h
 ·rename_i h0
  split at h
  ·rename_i h1
   cases h
   refine ⟨by lia,by lia,?_,by lia,.inr ⟨by lia,by lia,rfl⟩⟩
   refine rwE (if_pos (show i<0 by lia)) ?_;refine rwE (if_pos (by (refine rwE (Bool.and_eq_true ..) ?_;refine rwE decide_eq_true_eq ?_;refine rwE decide_eq_true_eq ?_);lia)) ?_;rfl
  ·exact J h
theorem qb {V:V} {l:List Mine.Internal.V} {P:Mine.Internal.V->Prop} (e:bg V σ=some l) (h0:P (.tup l)) (h1:P (.lst l)) (h2:∀ a,look a σ=some (.lst l)->P (.loc a)):P V:=by
 induction V using Mine.Internal.V.casesOn with
 | tup l'=>exact Option.some.inj e▸h0
 | lst l'=>exact Option.some.inj e▸h1
 | loc a =>
  have e:(match look a σ with | some (.lst l)=>some l | _=>none)=some l:=e
  have h2:=h2 a
  revert e h2
  induction look a σ using Option.casesOn with
  | none=>exact λ e _=>J e
  | some mm =>
   induction mm using Mine.Internal.M.casesOn with
   | lst l'=>exact λ e h=>h (congrArg (λ l=>some (M.lst l)) (Option.some.inj e))
   | _=>exact λ e _=>J e
 | _=>exact J e
theorem qc {V:V} {l:List (Int×Mine.Internal.V)} {P:Mine.Internal.V->Prop} (e:dq V σ=some l) (h1:P (.dci l)) (h2:∀ a,look a σ=some (.dci l)->P (.loc a)) (h3:l=[]->∀ a,look a σ=some (.dct [])->P (.loc a)):P V:=by
 induction V using Mine.Internal.V.casesOn with
 | dci l'=>exact Option.some.inj e▸h1
 | loc a =>
  have e:(match look a σ with | some (.dci l)=>some l | some (.dct [])=>some [] | _=>none)=some l:=e
  have h2:=h2 a
  have h3:=λ q=>h3 q a
  revert e h2 h3
  induction look a σ using Option.casesOn with
  | none=>exact λ e _ _=>J e
  | some mm =>
   induction mm using Mine.Internal.M.casesOn with
   | dci l'=>exact λ e h _=>h (congrArg (λ l=>some (M.dci l)) (Option.some.inj e))
   | dct l'=>induction l' using List.casesOn with | nil=>exact λ e _ h=>h (Option.some.inj e).symm rfl | cons _ _=>exact λ e _ _=>J e
   | _=>exact λ e _ _=>J e
 | _=>exact J e
theorem mQ (C:COK G c) (S:SRp G c ρ σ Fz h m mf lo Mt Tb Ce led) {V:V} {v:Value} {l:List Mine.Internal.V} (hv:VR G.w.params (Hf G.kx Fz) V v) (e:bg V σ=some l) :
 ∃ a vs,v=.ref a/\(IsTup h a (List.toArray vs)\/h.IsList a (List.toArray vs))/\VRs G.w.params (Hf G.kx Fz) l vs/\vs.length<=100000:=by
 revert hv
 refine qb (P:=λ V=>VR G.w.params (Hf G.kx Fz) V v->_) e (λ hv=>?_) (λ hv=>?_) λ a hl hv=>?_
 ·(refine gz (c6 C S hv) ?_;intro a vs h1 h2 h3);exact ⟨a,vs,h1,.inl h2,h3⟩
 ·(refine gz (c7 C S hv) ?_;intro a vs h1 h2 h3);exact ⟨a,vs,h1,.inr h2,h3⟩
 ·(refine au (gP S hl) ?_;intro vs h2 h3);exact ⟨a,vs,hv,.inr h2,h3⟩
theorem rC (C:COK G c) (S:SRp G c ρ σ Fz h m mf lo Mt Tb Ce led) {V:V} {v:Value} {l:List (Int×Mine.Internal.V)} (hv:VR G.w.params (Hf G.kx Fz) V v) (e:dq V σ=some l) :
 ∃ a es n,v=.ref a/\h.get? a=some (dictOf es n)/\VRi G.w.params (Hf G.kx Fz) l es/\(l.map (λ x=>x.1)).Nodup/\l.length<=1000/\(a==sysModules)=false:=by
 revert hv
 refine qc (P:=λ V=>VR G.w.params (Hf G.kx Fz) V v->_) e (λ hv=>?_) (λ a hl hv=>?_) λ el a hl hv=>?_
 ·obtain ⟨a,es,n,ea,h1,h2,h3,h4,h5⟩:=hv
  exact ⟨a,es,n,ea,S.get C h1,h2,h3,h4,h5⟩
 ·obtain ⟨pre,f,post,e1,⟨es,n,e2,h3,h4,h5,h6⟩,_,_⟩:=S.mt.look hl
  subst e2
  exact ⟨a,es,n,hv,S.getM (by refine rwE e1 ?_;exact List.mem_append_right _ (.head _)),h3,h4,h5,h6⟩
 ·obtain ⟨pre,f,post,e1,⟨es,n,e2,h3,h4,h5,h6⟩,_,_⟩:=S.mt.look hl
  subst e2
  exact ⟨a,es,n,hv,S.getM (by refine rwE e1 ?_;exact List.mem_append_right _ (.head _)),rwE el h3,rwE el List.nodup_nil,rwE el (Nat.zero_le _),h6⟩
theorem VRi.pairs {prog:Program} {w:World} {H:Hp}:∀ {l:List (Int×V)} {es:List DictEntry},VRi w.params H l es->∃ kvs:List (Int×Value),Pairs (PySem.intKind prog w) es kvs/\kvs.map (λ x=>x.1)=l.map (λ p=>p.1) /\
 (∀ e∈es,∃ k,(PySem.intKind prog w).is k e.key=true/\e.hash=(PySem.intKind prog w).hash k) /\
 ∀ k,match fB k l with | some v=>∃ x,valueAt kvs k=some x/\VR w.params H v x | none=>valueAt kvs k=none
 | [],_,h=>by cases h;exact ⟨[],.nil,rfl,λ u' h=>(nomatch h),λ k=>rfl⟩
 | (y,v)::r,_,h=>by
  obtain ⟨t,x,ys,rfl,h2,h3⟩:=h
  refine lJ (h3.pairs (prog:=prog)) ?_;intro kvs h4 h5 h7 h6
  refine ⟨(y,x)::kvs,.cons (intKind_is prog w _ _) rfl h4,by (refine rwE List.map_cons ?_;refine rwE List.map_cons ?_;refine rwE h5 ?_;rfl),λ e he=>?_,λ k=>?_⟩
  ·rcases List.mem_cons.mp he with rfl | he
   ·exact ⟨_,intKind_is prog w _ _,rfl⟩
   ·exact h7 e he
  refine rwE u4 ?_
  by_cases q:k=y
  ·subst q
   refine rwE (if_pos rfl) ?_
   exact ⟨x,by simp [valueAt],h2⟩
  ·refine rwE (if_neg q) ?_
   have e:valueAt ((y,x)::kvs) k=valueAt kvs k:=by
    have:¬ y=k:=λ e=>q e.symm
    simp [valueAt,this]
   have ih:=h6 k
   revert ih
   refine rwE e ?_
   exact id
theorem kR {prog:Program} {a:Addr} {es:List DictEntry} {n:Nat} {l:List (Int×V)} {w:World} {H:Hp} (hg:h.get? a=some (dictOf es n)) (r:VRi w.params H l es) (nd:(l.map (λ x=>x.1)).Nodup) :
 ∃ kvs,h.DictOf (PySem.intKind prog w) a kvs/\kvs.map (λ x=>x.1)=l.map (λ p=>p.1)/\∀ k,match fB k l with | some v=>∃ x,valueAt kvs k=some x/\VR w.params H v x | none=>valueAt kvs k=none:=by
 refine lJ (r.pairs (prog:=prog)) ?_;intro kvs h1 h2 h4 h3
 exact ⟨kvs,⟨_,es.toArray,n,hg,⟨rfl,rfl,rfl⟩,rfl,λ e he=>h4 e (Array.mem_toList_iff.mpr he),h1,by refine rwE h2 ?_;exact nd⟩,h2,h3⟩
theorem qd {k:Nat} {l:List Nat} (h:tb.chars k=some l):(nm k).length=l.length/\∀ (j:Nat) (x:Nat),l[j]?=some x->∃ c,(nm k).cps[j]?=some c/\(⟨#[c]⟩:Str)=nm x:=by
 have hk:tb.chars k=List.lookup k gO:=rfl
 rw [hk] at h
 have e:gO=[(gO.head!.1,gO.head!.2)]:=rfl
 rw [e,List.lookup_cons] at h
 split at h
 ·rename_i q
  cases h
  have q:=beq_iff_eq.mp q
  subst q
  refine ⟨by decide +kernel,?_⟩
  intro j x hj
  have:∀ j:Nat,j<3->∃ c,(nm gO.head!.1).cps[j]?=some c/\(⟨#[c]⟩:Str)=nm (gO.head!.2.getD j 0):=by
   intro j hj
   have:j=0\/j=1\/j=2:=by lia
   rcases this with rfl | rfl | rfl
   ·exact ⟨65,by decide +kernel,by decide +kernel⟩
   ·exact ⟨66,by decide +kernel,by decide +kernel⟩
   ·exact ⟨67,by decide +kernel,by decide +kernel⟩
  have hl:gO.head!.2.length=3:=rfl
  obtain ⟨hlt,he⟩:=List.getElem?_eq_some_iff.mp hj
  refine au (this j (by lia)) ?_;intro c h1 h2
  refine ⟨c,h1,h2.trans ?_⟩
  (refine rwE (List.getD_eq_getElem?_getD) ?_;refine rwE hj ?_);rfl
 ·exact J h
inductive nr (σ:St):V->V->V->Prop
 | seq (o:V) (n:Int) (l:List V) (k:Nat) (W:V) (hs:bg o σ=some l) (hk:bD n l.length=some k) (hx:l[k]?=some W):nr σ o (.int n) W
 | str (k:Nat) (n:Int) (l:List Nat) (j x:Nat) (hl:tb.chars k=some l) (hj:bD n l.length=some j) (hx:l[j]?=some x):nr σ (.str k) (.int n) (.str x)
 | dci (o:V) (n:Int) (l:List (Int×V)) (W:V) (hl:dq o σ=some l) (hx:fB n l=some W):nr σ o (.int n) W
 | dct (o:V) (k:Nat) (l:List (Nat×V)) (W:V) (hl:bl o σ=some l) (hx:aY k l=some W):nr σ o (.str k) W
theorem nr.of {o i W:V} (e:cU tb o i σ=some W):nr σ o i W:=by
 induction i using Mine.Internal.V.casesOn with
 | int n =>
  have dci:((dq o σ).bind λ l=>fB n l)=some W->nr σ o (.int n) W:=λ e=>by
   refine au (Option.bind_eq_some_iff.mp e) ?_;intro l h1 h2
   exact .dci o n l W h1 h2
  delta cU at e
  dsimp only at e
  induction hs:bg o σ using Option.casesOn with
  | some l =>
   rw [hs] at e
   refine au (Option.bind_eq_some_iff.mp e) ?_;intro k h1 h2
   exact .seq o n l k W hs h1 h2
  | none =>
   rw [hs] at e
   induction o using Mine.Internal.V.casesOn with
   | str k =>
    refine au (Option.bind_eq_some_iff.mp e) ?_;intro l hl e
    refine au (Option.bind_eq_some_iff.mp e) ?_;intro j hj e
    refine au (Option.map_eq_some_iff.mp e) ?_;intro x hx z
    exact rwB z (.str k n l j x hl hj hx)
   | _=>exact dci e
 | str k =>
  refine au (Option.bind_eq_some_iff.mp e) ?_;intro l h1 h2
  exact .dct o k l W h1 h2
 | _=>exact J e
theorem lW (C:COK G c) (S:SR G c ρ σ Fz s) {o:V} {i:V} {W:V} {v u:Value} (ho:VR G.w.params (Hf G.kx Fz) o v) (hi:VR G.w.params (Hf G.kx Fz) i u) (e:cU tb o i σ=some W) {Q:PV} (q:Q W σ) :
 wpAny (model G.prog G.w) A (getItem v u) (PV' G c ρ Fz Q) E s/\∃ T id,s.TypeIs v T/\typeLookup (.type T) "__getitem__" = pure (some (.builtin id)):=by
 have S0:=S
 obtain ⟨g,m,mf,lo,Mt,Tb,Ce,led,S⟩:=S
 have fin:∀ {x tk},VR G.w.params (Hf G.kx Fz) W x->PV' G c ρ Fz Q x { s with toks:=tk }:=λ hx=>⟨W,σ,Fz,sub.refl,hx,S0,q⟩
 replace e:=nr.of e
 induction e with
 | seq o n l k W hs hk hx =>
  refine ao hi ?_;clear hi;intro t z1;obtain rfl:=z1
  refine dn (mQ C S ho hs) ?_;intro a vs z2 ha r z;obtain rfl:=z2
  refine au (r.get hx) ?_;intro x hx hr
  rw [← r.len] at hk
  refine yW (ga hk z) ?_;intro b1 b2 b3 b4 b5
  rcases ha with ha | ha
  ·refine ⟨PyProof.Rows.getItem_tuple ha b1 b2 (by simpa using b3) (by simpa using hx) (fin hr), "tuple",_,?_,PySem.F.slot_tuple_getitem.lookup⟩
   refine cu ha ?_;clear ha;intro ob h1 h2 z3
   exact ⟨ob,h1,h2⟩
  ·refine ⟨?_, "list",_,ha.typeIs,slot_list_getitem.lookup⟩
   rcases b5 with ⟨c1,c2⟩ | ⟨c1,c2,c3⟩
   ·exact wpAny_getItem_list ha c1 b2 (by refine rwE c2 ?_;simpa using hx) (fin hr)
   ·exact wpAny_getItem_list_neg ha c1 (by simpa using c2) b1 (by refine rwE (show (n+(vs.toArray.size:Int)).toNat=k by simpa using c3) ?_;simpa using hx) (fin hr)
 | str k n l j x hl hj hx =>
  refine ao hi ?_;clear hi;intro t z1;obtain rfl:=z1
  refine ao ho ?_;clear ho;intro t' z1;obtain rfl:=z1
  refine al (qd hl) ?_;intro c1 c2
  have hz:=eA k
  rw [← c1] at hj
  refine yW (ga hj (by show (nm k).cps.size<=_;lia)) ?_;intro b1 b2 b3 b4 b5
  refine au (c2 j x hx) ?_;intro ch h1 h2
  refine ⟨PySem.P.getItem_str (by simp;lia) (by refine rwE b3 ?_;exact h1) (fin ⟨_,by (refine rwE h2 ?_;rfl)⟩), "str",_,typeIs_str _ _ _,PySem.F.slot_str_getitem.lookup⟩
 | dci o n l W hl hx =>
  refine ao hi ?_;clear hi;intro t z1;obtain rfl:=z1
  refine pK (rC C S ho hl) ?_;intro a es k z3 h1 h2 h3 h4 h5;obtain rfl:=z3
  refine cu (kR (prog:=G.prog) h1 h2 h3) ?_;intro kvs hd z2 hf
  have:=hf n
  rw [hx] at this
  refine au this ?_;clear this;intro x hx hr
  exact ⟨wpAny_getItem_of (intKind_is G.prog G.w n t) hd.mapOf hx (fin hr), "dict",_,hd.mapOf.typeIs,slot_dict_getitem.lookup⟩
 | dct o k l W hl hx =>
  refine ao hi ?_;clear hi;intro t z1;obtain rfl:=z1
  refine pK (jY C S ho hl) ?_;intro a es n z3 h1 h2 h3 h4 h5;obtain rfl:=z3
  refine cu (fO (prog:=G.prog) h1 h2 h3) ?_;intro kvs hd z2 hf
  have:=hf k
  rw [hx] at this
  refine au this ?_;clear this;intro x hx hr
  exact ⟨wpAny_getItem_of (strKind_is G.prog G.w (nm k) t) hd.mapOf hx (fin hr), "dict",_,hd.mapOf.typeIs,slot_dict_getitem.lookup⟩
theorem vg (C:COK G c) (S:SR G c ρ σ Fz s) {o:V} {i:V} {W:V} {v u:Value} {value slice:PySem.Expr} (hsl:px slice=true) (ho:VR G.w.params (Hf G.kx Fz) o v) (hi:VR G.w.params (Hf G.kx Fz) i u) (e:cU tb o i σ=some W) {Q:PV} (q:Q W σ) :
 wpAny (model G.prog G.w) A (subscriptTail value slice v u) (PV' G c ρ Fz Q) E s:=by
 refine al (lW (A:=A) (E:=E) C S ho hi e q) ?_;intro h1 zz;refine fX zz ?_;clear zz;intro T id h2 h3
 exact tail_any h2 h3 h1 (eR hsl v u)
end
section
variable {prog:Program} {w:World} {A:Around} {E:Value->Shared->Prop} {s:Shared}
theorem eS {sl:Addr} {n:Nat} {u:Tok} {Q:Int×Int×Nat->Shared->Prop} (hs:s.heap.IsSliceOf sl .none (.int (-1) u) .none) (hn:1<=n) (h:Q ((0:Int),1,n - 1) s) :
 wpAny (model prog w) A (Builtin.Slice.sliceApplied (.ref sl) (pure (n:Int))) Q E s:=by
 refine cu (id hs) ?_;intro os hos hcs hds
 delta Builtin.Slice.sliceApplied Builtin.Slice.sliceFields
 refine wpAny_bind (wpAny_bind (wpAny_field hos hds (x:=.none) rfl (wpAny_bind (wpAny_field hos hds (x:=.int (-1) u) rfl (wpAny_bind (wpAny_field hos hds (x:=.none) rfl (wpAny_pure ?_)))))))
 refine wpAny_bind (slicePart_none ?_)
 show wpAny _ _ (if ((1:Int)==0)=true then _ else _) _ _ s
 refine rwE (if_neg (by decide)) ?_
 refine wpAny_bind (slicePart_none (wpAny_bind (slicePart_int (wpAny_bind (wpAny_pure ?_)))))
 show wpAny _ _ (match Builtin.Slice.sliceAdjust none (some (-1)) 1 (n:Int) with | (lo,hi)=>pure (lo,(1:Int),Builtin.Slice.slicePlaces lo hi 1)) _ _ s
 have e1:Builtin.Slice.sliceAdjust none (some (-1)) 1 (n:Int)=((0:Int),((n - 1:Nat):Int)):=by
  delta Builtin.Slice.sliceAdjust
  have h1:¬ ((1:Int)<0):=by lia
  have h2:((-1:Int)<0):=by lia
  simp only [h1,h2,if_false,if_true]
  congr 1
  lia
 refine rwE e1 ?_
 show wpAny _ _ (pure ((0:Int),(1:Int),Builtin.Slice.slicePlaces 0 ((n - 1:Nat):Int) 1)) _ _ s
 have e2:Builtin.Slice.slicePlaces 0 ((n - 1:Nat):Int) 1=n - 1:=by
  delta Builtin.Slice.slicePlaces
  have h1:(1:Int)>0:=by lia
  simp only [h1,if_true,Int.ediv_one]
  split<;>lia
 refine rwE e2 ?_
 exact wpAny_pure h
theorem oh (xs:Array Value) (n:Nat):((List.range n).filterMap λ (k:Nat)=>xs[((0:Int)+(k:Int)*1).toNat]?).toArray=(xs.toList.take n).toArray:=by
 have e:(λ (k:Nat)=>xs[((0:Int)+(k:Int)*1).toNat]?)=λ k=>xs[0+k]?:=by
  funext k
  have:((0:Int)+(k:Int)*1).toNat=0+k:=by lia
  refine rwE this ?_;rfl
 refine rwE e ?_
 have:=pick_run xs 0 n
 rw [List.filterMap_map] at this
 have e2:((λ x=>xs[x]?) ∘ λ x=>0+x)=λ k=>xs[0+k]?:=rfl
 rw [e2] at this
 refine rwE this ?_;refine rwE List.drop_zero ?_;rfl
theorem eK {t sl:Addr} {items:Array Value} {u:Tok} {Q:Value->Shared->Prop} (ht:IsTup s.heap t items) (hs:s.heap.IsSliceOf sl .none (.int (-1) u) .none) (h1:1<=items.size)
 (h:Q (.ref s.heap.objs.size) { s with heap:=s.heap.push { cls:=.type "tuple",data:=.seq (items.toList.take (items.size - 1)).toArray } })
 (hsz:items.size<=sizeLine):wpAny (model prog w) A (getItem (.ref t) (.ref sl)) Q E s:=by
 have hdrop:sizeOk (.seq (items.toList.take (items.size - 1)).toArray):=by
  show (items.toList.take (items.size - 1)).toArray.size<=sizeLine
  refine rwE List.size_toArray ?_;refine rwE List.length_take ?_;refine rwE Array.length_toList ?_
  lia
 refine cu (id hs) ?_;intro os hos hcs hds
 have hTs:s.TypeIs (.ref sl) "slice" := ⟨os,hos,hcs⟩
 delta getItem
 try with_reducible refine wpAny_holding ?_
 first | refine wpAny_bind (wpAny_pure ?_) | skip
 refine wpAny_bind (wpAny_sequenceKey ht.typeIs (by decide) ?_)
 refine wpAny_bind (wpAny_callSpecial?_slot (name:=Str.ofString "__getitem__") ht.typeIs slot_tuple_getitem
  (wpAny_call_entry slot_tuple_getitem ht.typeIs entry_tuple_getitem ?_ (args_tuple_getitem _ _)))
 show wpAny _ _ (Builtin.Tuple.tupleItemsOf (.ref t) >>= _) _ _ s
 refine wpAny_bind (tupleItemsOf_ ht ?_)
 refine wpAny_bind (wpAny_typeOf hTs ?_)
 refine rwE (if_pos (by decide)) ?_
 refine wpAny_bind (eS hs h1 ?_)
 have hno:¬ (((0:Int)==0&&(1:Int)==1&&(items.size - 1)==items.size)=true):=by
  have:((items.size - 1)==items.size)=false:=by rw [beq_eq_false_iff_ne];lia
  refine rwE this ?_;simp
 show wpAny _ _ (if ((0:Int)==0&&(1:Int)==1&&(items.size - 1)==items.size)=true then _ else _) _ _ s
 refine rwE (if_neg hno) ?_;refine rwE (oh items (items.size - 1)) ?_
 first
  | exact wpAny_bind (m:=Builtin.Tuple.tupleExact _) (wpAny_newObj_type (wpAny_pure ⟨_,rfl,wpAny_pure h⟩) hdrop)
  | exact wpAny_bind (m:=Builtin.Tuple.tupleExact _) (wpAny_newObj_type (wpAny_bind (wpAny_pure (wpAny_pure ⟨_,rfl,wpAny_pure h⟩))) hdrop)
  | exact wpAny_bind (wpAny_bind (m:=Builtin.Tuple.tupleExact _) (wpAny_newObj_type (wpAny_pure (wpAny_pure ⟨_,rfl,wpAny_pure h⟩)) hdrop))
  | exact wpAny_bind (wpAny_bind (m:=Builtin.Tuple.tupleExact _) (wpAny_newObj_type (wpAny_pure ⟨_,rfl,wpAny_pure h⟩) hdrop))
end
section
variable {c:Cx} {ρ:Rho} {σ:St} {Fz:List (Addr×Obj)} {A:Around} {E:Value->Shared->Prop} {s:Shared} {h:Heap} {m mf:Str->Option Value} {lo Mt Tb Ce led:List (Addr×Obj)}
theorem jZ (S:SR G c ρ σ Fz s) {h':Heap} {a:Addr} {o:Obj} {tk:Tok} (k:∀ b o,s.heap.get? b=some o->h'.get? b=some o) (ho:h'.get? a=some o) (hn:s.heap.get? a=none) :
 SR G c ρ σ ((a,o)::Fz) { s with heap:=h',toks:=tk }:=by
 obtain ⟨g,m,mf,lo,Mt,Tb,Ce,led,S⟩:=S
 exact ⟨g,m,mf,lo,Mt,Tb,Ce,_,S.fz k ho hn⟩
theorem aM (h:Heap) {a:Addr} (ha:h.objs.size<=a):h.get? a=none:=by
 induction e:h.get? a using Option.casesOn with
 | none=>rfl
 | some o=>exact absurd (Heap.lt_size e) (Nat.not_lt.mpr ha)
inductive pR:V->V->V->V->Prop
 | frm (xs:List V) (a:Int) (h1:1<=a) (h2:a<=xs.length):pR (.tup xs) (.int a) .none (.tup (xs.drop a.toNat))
 | upto (xs:List V) (h:xs.isEmpty=false):pR (.tup xs) .none (.int (-1)) (.tup xs.dropLast)
 | but (xs:List V):pR (.lst xs) .none (.int (-1)) (.lst xs.dropLast)
 | to (xs:List V) (b:Int) (h:0<=b):pR (.lst xs) .none (.int b) (.lst (xs.take b.toNat))
theorem pR.of {o l u W:V} (e:rn o l u=some W):pR o l u W:=by
 induction o using Mine.Internal.V.casesOn with
 | tup xs =>
  induction l using Mine.Internal.V.casesOn with
  | int a =>
   induction u using Mine.Internal.V.casesOn with
   | none =>
    obtain ⟨h,e⟩:=Option.ite_none_right_eq_some.mp e
    exact b2 h λ h1 h2=>Option.some.inj e▸.frm xs a (of_decide_eq_true h1) (of_decide_eq_true h2)
   | _=>exact J e
  | none =>
   induction u using Mine.Internal.V.casesOn with
   | int b =>
    obtain ⟨h,e⟩:=Option.ite_none_right_eq_some.mp e
    exact b2 h λ h1 h2=>rwE (of_decide_eq_true h1) (Option.some.inj e▸.upto xs (lR h2))
   | _=>exact J e
  | _=>exact J e
 | lst xs =>
  induction l using Mine.Internal.V.casesOn with
  | none =>
   induction u using Mine.Internal.V.casesOn with
   | int b =>
    have e:(if decide (b=-1)=true then some (V.lst xs.dropLast) else if 0<=b then some (V.lst (xs.take b.toNat)) else none)=some W:=e
    by_cases hb:decide (b=-1)=true
    ·rw [if_pos hb] at e
     exact rwE (of_decide_eq_true hb) (Option.some.inj e▸.but xs)
    ·rw [if_neg hb] at e
     obtain ⟨h,e⟩:=Option.ite_none_right_eq_some.mp e
     exact Option.some.inj e▸.to xs b h
   | _=>exact J e
  | _=>exact J e
 | _=>exact J e
theorem jv (S:SR G c ρ σ Fz s) {W:V} {Q:PV} (q:Q W σ) {o1 o2:Obj} {tk:Tok} (hf:o2.isFreed=false) (hv:∀ H:Hp,(∀ a o,Hf G.kx Fz a o->H a o)->H (s.heap.push o1).objs.size o2->VR G.w.params H W (.ref (s.heap.push o1).objs.size)) :
 PV' G c ρ Fz Q (.ref (s.heap.push o1).objs.size) { s with heap:=(s.heap.push o1).push o2 } :=
 ⟨W,σ,_,λ u' h=>.tail _ h,hv _ (Hf.mono λ u' h=>.tail _ h) (.inr (.head _)),jZ S (λ b o e=>Heap.get?_push_of_some _ (Heap.get?_push_of_some _ e)) (Heap.get?_push_size _ hf) (aM _ (Nat.le_trans (Nat.le_succ _) (Nat.le_of_eq (Heap.size_push ..).symm))),q⟩
theorem jw {l' u':Option PySem.Expr} {p:Pos} (a b:Value):subscripted (.Slice l' u' none p) false a b=operate [b,a] (getItem a b):=rfl
theorem nt (C:COK G c) (S:SR G c ρ σ Fz s) {xs ys:List V} {b:Int} {n:Nat} {t:Addr} {vs:List Value} {tk:Tok} {value:PySem.Expr} {l' u':Option PySem.Expr} {p:Pos} (hz:xs.length<=100000) (ht:s.heap.IsList t vs.toArray) (r:VRs G.w.params (Hf G.kx Fz) xs vs)
 (e1:slicePick vs.toArray none (some b) none=(vs.toArray.toList.take n).toArray) (e2:ys=xs.take n) {Q:PV} (q:Q (.lst ys) σ) :
 wpAny (model G.prog G.w) A (subscriptTail value (.Slice l' u' none p) (.ref t) (.ref s.heap.objs.size)) (PV' G c ρ Fz Q) E { s with heap:=s.heap.push { cls:=.type "slice",data:=.fields #[.none,.int b tk,.none] } }:=by
 have ht':=ht.push { cls:=.type "slice",data:=.fields #[.none,.int b tk,.none] }
 refine tail_any (s:={ s with heap:=s.heap.push _ }) ht'.typeIs slot_list_getitem.lookup (wpAny_getItem_list_slice ht' (Heap.IsSliceOf.new ..) .none (.int b tk) .none (by simp) ?_ (aK (by refine rwE List.size_toArray ?_;rw [r.len];exact Nat.le_trans hz (by decide)))) (jw _ _)
 refine rwE e1 ?_
 subst e2
 exact jv (tk:=0) S q rfl λ H k hm=>⟨_,_,_,_,rfl,hm,rfl,rfl,by simpa using (r.mono k).take n,Nat.le_trans (by rw [List.length_take];exact Nat.min_le_right ..) hz⟩
theorem vh (C:COK G c) (S:SR G c ρ σ Fz s) {o:V} {l:V} {u:V} {W:V} {v vl vu:Value} {value:PySem.Expr} {l' u':Option PySem.Expr} {p:Pos}
 (ho:VR G.w.params (Hf G.kx Fz) o v) (hl:VR G.w.params (Hf G.kx Fz) l vl) (hu:VR G.w.params (Hf G.kx Fz) u vu) (e:rn o l u=some W) {Q:PV} (q:Q W σ) :
 wpAny (model G.prog G.w) A (subscriptTail value (.Slice l' u' none p) v (.ref s.heap.objs.size)) (PV' G c ρ Fz Q) E { s with heap:=s.heap.push { cls:=.type "slice",data:=.fields #[vl,vu,.none] } }:=by
 have S0:=S
 obtain ⟨g,m,mf,lo,Mt,Tb,Ce,led,S⟩:=S
 induction pR.of e with
 | frm xs a h1 h2 =>
  refine dn (c6 C S ho) ?_;intro t vs z2 ht r z
  refine ao hl ?_;intro tk zl
  refine rwE z2 (rwE zl (rwE (show vu=.none from hu) ?_))
  obtain ⟨n,rfl⟩:∃ n:Nat,a=(n:Int):=⟨a.toNat,by lia⟩
  have ht':IsTup (s.heap.push { cls:=.type "slice",data:=.fields #[.int (n:Int) tk,.none,.none] }) t vs.toArray:=ht.keeps λ u' u' e=>Heap.get?_push_of_some _ e
  refine tail_any (s:={ s with heap:=s.heap.push _ }) ht'.typeIs slot_tuple_getitem.lookup (getItem_tuple_from ht' (Heap.IsSliceOf.new ..) (by lia) (by (refine rwE List.size_toArray ?_;refine rwE r.len ?_);lia) ?_ (aK (by refine rwE List.size_toArray ?_;lia))) (jw _ _)
  exact jv (tk:=0) S0 q rfl λ H k hm=>⟨_,_,_,_,rfl,hm,rfl,rfl,by simpa using (r.mono k).drop n,by have:=r.len;simp;lia⟩
 | upto xs hne =>
  refine dn (c6 C S ho) ?_;intro t vs z2 ht r z
  refine ao hu ?_;intro tk zu
  refine rwE z2 (rwE zu (rwE (show vl=.none from hl) ?_))
  have ht':IsTup (s.heap.push { cls:=.type "slice",data:=.fields #[.none,.int (-1) tk,.none] }) t vs.toArray:=ht.keeps λ u' u' e=>Heap.get?_push_of_some _ e
  have hl1:1<=vs.length:=by refine rwE r.len ?_;cases xs with | nil=>exact ad hne.symm | cons _ _=>exact Nat.le_add_left _ _
  refine tail_any (s:={ s with heap:=s.heap.push _ }) ht'.typeIs slot_tuple_getitem.lookup (eK ht' (Heap.IsSliceOf.new ..) (by simpa using hl1) ?_ (aK (by refine rwE List.size_toArray ?_;lia))) (jw _ _)
  refine jv (tk:=0) S0 q rfl λ H k hm=>⟨_,_,_,_,rfl,hm,rfl,rfl,?_,by have:=r.len;simp;lia⟩
  refine rwE List.dropLast_eq_take ?_
  have:=(r.mono k).take (vs.length - 1)
  rw [r.len] at this
  simpa [r.len] using this
 | but xs =>
  refine dn (c7 C S ho) ?_;intro t vs z2 ht r z
  refine ao hu ?_;intro tk zu
  refine rwE z2 (rwE zu (rwE (show vl=.none from hl) ?_))
  refine nt C S0 (r.len▸z) ht r (n:=xs.length - 1) ?_ List.dropLast_eq_take q
  have:=slicePick_butLast vs.toArray 1 (Nat.le_refl _)
  rw [List.size_toArray,r.len] at this
  exact this
 | to xs b hb =>
  refine dn (c7 C S ho) ?_;intro t vs z2 ht r z
  refine ao hu ?_;intro tk zu
  refine rwE z2 (rwE zu (rwE (show vl=.none from hl) ?_))
  obtain ⟨n,rfl⟩:∃ n:Nat,b=(n:Int):=⟨b.toNat,by lia⟩
  exact nt C S0 (r.len▸z) ht r (n:=n) (slicePick_upto' _ _) rfl q
end
section
variable {P:Params} {H:Hp}
theorem VRd.putL {x:Nat} {V:V} {v:Value} {tk:Tok} (hv:VR P H V v):∀ {fs:List (Nat×Mine.Internal.V)} {es:List DictEntry},VRd P H fs es ->
 VRd P H (bN x V fs) (PySem.W.putL (nm x) (PyData.keyHash P (nm x)) (.str (nm x) tk) v es)
 | [],_,h=>by cases h;exact ⟨tk,v,[],rfl,hv,rfl⟩
 | (y,w)::r,_,h=>by
  obtain ⟨t,z,ys,rfl,h2,h3⟩:=h
  refine rwE il ?_;unfold PySem.W.putL
  refine rwE hU ?_
  by_cases q:x=y
  ·subst q
   refine rwE (if_pos rfl) ?_;refine rwE (if_pos (decide_eq_true rfl)) ?_
   exact ⟨t,v,ys,rfl,hv,h3⟩
  ·refine rwE (if_neg q) ?_;refine rwE (if_neg (by simp [q])) ?_
   exact ⟨t,z,_,rfl,h2,h3.putL hv⟩
theorem fP {x:Nat} {V:V}:∀ {fs:List (Nat×Mine.Internal.V)},(fs.map (λ x=>x.1)).Nodup->((bN x V fs).map (λ x=>x.1)).Nodup/\(∀ y∈(bN x V fs).map (λ x=>x.1),y=x\/y∈fs.map (λ x=>x.1))
 | [],_=>⟨List.nodup_cons.mpr ⟨List.not_mem_nil,List.nodup_nil⟩,λ y hy=>.inl (List.mem_singleton.mp hy)⟩
 | (y,w)::r,h=>by
  rw [List.map_cons,List.nodup_cons] at h
  refine rwE il ?_
  by_cases q:x=y
  ·subst q
   refine rwE (if_pos rfl) ?_;refine rwE List.map_cons ?_
   exact ⟨List.nodup_cons.mpr h,λ z hz=>.inr hz⟩
  ·refine rwE (if_neg q) ?_;refine rwE List.map_cons ?_
   refine al (fP (x:=x) (V:=V) h.2) ?_;intro h1 h2
   refine ⟨List.nodup_cons.mpr ⟨λ hm=>?_,h1⟩,λ z hz=>?_⟩
   ·rcases h2 _ hm with e | e
    ·exact q e.symm
    ·exact h.1 e
   ·rcases List.mem_cons.mp hz with rfl | hz
    ·exact .inr (.head _)
    ·rcases h2 z hz with e | e
     ·exact .inl e
     ·exact .inr (.tail _ e)
theorem ia {x:Nat} {V:V}:∀ {fs:List (Nat×Mine.Internal.V)},(bN x V fs).length<=fs.length+1
 | []=>Nat.le_refl _
 | (y,w)::r=>by
  refine rwE il ?_
  by_cases q:x=y
  ·refine rwE (if_pos q) ?_;simp
  ·refine rwE (if_neg q) ?_;have:=ia (x:=x) (V:=V) (fs:=r);simp only [List.length_cons];lia
theorem kS {c x:Nat} {V:V} (hx:tb.fld c x=true):∀ {fs:List (Nat×Mine.Internal.V)},(fs.all λ p=>tb.fld c p.1)=true->((bN x V fs).all λ p=>tb.fld c p.1)=true
 | [],_=>(Bool.and_true _).trans hx
 | (y,w)::r,h=>by
  have h:=an2 h
  refine rwE il ?_
  by_cases q:x=y
  ·subst q;(refine rwE (if_pos rfl) ?_;refine rwE List.all_cons ?_;refine rwE (Bool.and_eq_true ..) ?_);exact h
  ·(refine rwE (if_neg q) ?_;refine rwE List.all_cons ?_;refine rwE (Bool.and_eq_true ..) ?_);exact ⟨h.1,kS hx h.2⟩
theorem rD {d:Addr} {o o':Obj}:∀ {pre post:List (Addr×Obj)},(∀ p∈pre,p.1≠d)->(∀ p∈post,p.1≠d)->Upd d o o' (pre++(d,o)::post) (pre++(d,o')::post)
 | [],_,_,h2=>.head h2
 | _::_,_,h1,h2=>.tail (h1 _ (.head _)) (rD (λ q hq=>h1 q (.tail _ hq)) h2)
end
section
variable {c:Cx} {ρ:Rho} {σ:St} {Fz:List (Addr×Obj)} {A:Around} {E:Value->Shared->Prop} {s:Shared} {h:Heap} {m mf:Str->Option Value} {lo Mt Tb Ce led:List (Addr×Obj)}
theorem SRp.at (S:SRp G c ρ σ Fz h m mf lo Mt Tb Ce led) {pre post:List (Addr×Obj)} {a:Addr} {o:Obj} (e:Mt=pre++(a,o)::post) :
 News c.g c.L h ((lo++pre)++(a,o)::(post++(Tb++(Ce++(c.Ex++Fz)))))/\(((lo++pre)++(a,o)::(post++(Tb++(Ce++(c.Ex++Fz))))).map (λ x=>x.1)).Nodup:=by
 have pm:led.Perm ((lo++pre)++(a,o)::(post++(Tb++(Ce++(c.Ex++Fz))))):=by
  refine S.pm.trans (List.Perm.of_eq ?_)
  refine rwE e ?_;simp
 exact ⟨λ p hp=>S.N p (pm.mem_iff.mpr hp),(pm.map (λ x=>x.1)).nodup_iff.mp S.nd⟩
theorem SRp.upN (S:SRp G c ρ σ Fz h m mf lo Mt Tb Ce led) {σ':St} {h':Heap} {pre post:List (Addr×Obj)} {a:Addr} {o o':Obj} (e:Mt=pre++(a,o)::post)
 (F':Fr c.g c.L h' mf) (N':News c.g c.L h' ((lo++pre)++(a,o')::(post++(Tb++(Ce++(c.Ex++Fz)))))) (hmt:MtR G.w.params (Hf G.kx Fz) σ' (pre++(a,o')::post)) :
 SRp G c ρ σ' Fz h' m mf lo (pre++(a,o')::post) Tb Ce ((lo++pre)++(a,o')::(post++(Tb++(Ce++(c.Ex++Fz))))):=by
 refine ⟨F',N',?_,List.Perm.of_eq (by simp),S.loc,hmt,S.tbr,S.er,S.ce,S.fk⟩
 have:((lo++pre)++(a,o')::(post++(Tb++(Ce++(c.Ex++Fz))))).map (λ x=>x.1)=((lo++pre)++(a,o)::(post++(Tb++(Ce++(c.Ex++Fz))))).map (λ x=>x.1):=by simp
 refine rwE this ?_;exact (S.at e).2
theorem oi {O W:V} {x:Nat} {σ':St} {P:V->St->Prop} (e:setAt tb O x W σ=some σ') (h:∀ a k fs,look a σ=some (.ob k fs)->fs.length<900->tb.fld k x=true->P (.loc a) (put a (.ob k (bN x W fs)) σ)):P O σ':=by
 induction O using V.casesOn with
 | loc a =>
  have e:(match look a σ with | some (.ob c fs)=>if decide (fs.length<900)&&tb.fld c x then some (put a (.ob c (bN x W fs)) σ) else none | _=>none)=some σ':=e
  have h:=h a
  revert e h
  induction look a σ using Option.casesOn with
  | none=>exact λ e _=>J e
  | some mm =>
   induction mm using Mine.Internal.M.casesOn with
   | ob k fs =>
    intro e h
    obtain ⟨hb,e⟩:=Option.ite_none_right_eq_some.mp e
    exact b2 hb λ h1 h2=>Option.some.inj e▸h k fs rfl (of_decide_eq_true h1) h2
   | _=>exact λ e _=>J e
 | _=>exact J e
theorem lX (KF:KC G.K) (C:COK G c) (S:SR G c ρ σ Fz s) {O:V} {V:V} {ov v:Value} {x:Nat} {σ':St} (ho:VR G.w.params (Hf G.kx Fz) O ov) (hv:VR G.w.params (Hf G.kx Fz) V v)
 (e:setAt tb O x V σ=some σ'):wpAny (model G.prog G.w) A (setAttr ov (nm x) v) (λ u' s'=>SR G c ρ σ' Fz s') E s:=by
 obtain ⟨g,m,mf,lo,Mt,Tb,Ce,led,S⟩:=S
 revert ho
 refine oi (P:=λ O σ'=>VR G.w.params (Hf G.kx Fz) O ov->wpAny (model G.prog G.w) A (setAttr ov (nm x) v) (λ u' s'=>SR G c ρ σ' Fz s') E s) e λ a k fs hl hz hf ho=>?_
 obtain rfl:ov=.ref a:=ho
 obtain ⟨pre,f,post,e1,⟨dx,es,n,e2,h3,h4,h5,h6⟩,hput,_⟩:=S.mt.look hl
 subst e2
 refine ao (Option.isSome_iff_exists.mp h6) ?_;intro ci hci
 have KK:=KF k ci hci
 have e1':Mt=(pre++[(a,instObj (ca k) dx)])++(dx,dictOf es n)::post:=by refine rwE e1 ?_;simp
 refine al (S.at e1') ?_;intro N2 nd2
 refine al (hR nd2) ?_;intro d1 d2
 have I:InstAt s.heap a (instObj (ca k) dx) (ca k) (some (dictOf es n)) :=
  ⟨S.getM (by refine rwE e1 ?_;exact List.mem_append_right _ (.head _)),rfl,rfl,S.getM (by refine rwE e1 ?_;exact List.mem_append_right _ (.tail _ (.head _)))⟩
 have hg:(getL (nm x) es).isSome=true:=by
  have:=h3.getL (k:=x)
  induction q:aY x fs using Option.casesOn with
  | some w=>rw [q] at this;(refine au this ?_;clear this;intro y h z2);refine rwE h ?_;rfl
  | none=>rw [q] at this;refine rwE this ?_;rfl
 have hv':=VRd.putL (x:=x) (tk:=s.toks+1) hv h3
 refine set_dict S.F C.X N2 I rfl KK.sa KK.po (KK.fld x hf).2 KK.hd hg rfl (rD d1 d2) ?_ λ h' F' N'=>?_
 ·have h1:=hv'.len
  have h2:=ia (x:=x) (V:=V) (fs:=fs)
  lia
 ·refine ⟨g,m,mf,lo,_,Tb,Ce,_,S.upN e1' F' N' ?_⟩
  have:=hput (.ob k (bN x V fs)) [(a,instObj (ca k) dx),(dx,_)] ⟨dx,_,putN (nm x) es n,rfl,hv',kS hf h4,(fP h5).1,h6⟩
  simpa using this
inductive D2i (P:Params) (H:Hp):List (Int×V)->List (Int×Value)->Prop
 | nil:D2i P H [] []
 | cons {p q l r}:q.1=p.1/\VRq P H p q.2->D2i P H l r->D2i P H (p::l) (q::r)
theorem VRi.of_pairs {prog:Program} {w:World} {H:Hp} {l:List (Int×V)} {kvs:List (Int×Value)} (d:D2i w.params H l kvs):∀ {es:List DictEntry},Pairs (PySem.intKind prog w) es kvs ->
 (∀ e∈es,∃ k,(PySem.intKind prog w).is k e.key=true/\e.hash=(PySem.intKind prog w).hash k)->VRi w.params H l es:=by
 induction d with
 | nil=>intro es h _;cases h;rfl
 | @cons p q l r h4 h5 ih =>
  intro es h k
  cases h with
  | @cons e _ es _ h1 h2 h3 =>
  refine ao (Value.isInt_shape h1) ?_;intro t ht
  refine au (k e (.head _)) ?_;intro kk h6 h7
  have e1:kk=q.1:=(PySem.intKind prog w).inj _ _ _ h6 h1
  refine ⟨t,e.val,es,?_,h2▸h4.2,ih h3 λ e' he'=>k e' (.tail _ he')⟩
  obtain ⟨eh,ek,ev⟩:=e
  dsimp only at *
  refine rwE ht ?_;refine rwE h7 ?_;refine rwE e1 ?_;refine rwE h4.1 ?_
  rfl
theorem VRd.d2 {prog:Program} {w:World} {H:Hp}:∀ {l:List (Nat×V)} {es:List DictEntry},VRd w.params H l es->∃ kvs:List (Str×Value),Pairs (PySem.strKind prog w) es kvs/\D2 w.params H l kvs
 | [],_,h=>by cases h;exact ⟨[],.nil,.nil⟩
 | p::r,_,h=>by
  obtain ⟨t,x,ys,rfl,h2,h3⟩:=h
  refine au (h3.d2 (prog:=prog)) ?_;intro kvs h4 h5
  exact ⟨(nm p.1,x)::kvs,.cons (strKind_is prog w _ _) rfl h4,.cons ⟨rfl,h2⟩ h5⟩
theorem VRi.d2 {prog:Program} {w:World} {H:Hp}:∀ {l:List (Int×V)} {es:List DictEntry},VRi w.params H l es->∃ kvs:List (Int×Value),Pairs (PySem.intKind prog w) es kvs/\D2i w.params H l kvs /\
 (∀ e∈es,∃ k,(PySem.intKind prog w).is k e.key=true/\e.hash=(PySem.intKind prog w).hash k)
 | [],_,h=>by cases h;exact ⟨[],.nil,.nil,λ u' h=>(nomatch h)⟩
 | p::r,_,h=>by
  obtain ⟨t,x,ys,rfl,h2,h3⟩:=h
  refine cu (h3.d2 (prog:=prog)) ?_;intro kvs h4 h5 h6
  refine ⟨(p.1,x)::kvs,.cons (intKind_is prog w _ _) rfl h4,.cons ⟨rfl,h2⟩ h5,λ e he=>?_⟩
  rcases List.mem_cons.mp he with rfl | he
  ·exact ⟨_,intKind_is prog w _ _,rfl⟩
  ·exact h6 e he
theorem D2.keys {P:Params} {H:Hp} {l:List (Nat×V)} {kvs:List (Str×Value)} (d:D2 P H l kvs):kvs.map (λ x=>x.1)=l.map (λ p=>nm p.1):=by
 induction d with
 | nil=>rfl
 | cons h _ ih=>refine rwE List.map_cons ?_;refine rwE List.map_cons ?_;refine rwE ih ?_;refine rwE h.1 ?_;rfl
theorem D2i.keys {P:Params} {H:Hp} {l:List (Int×V)} {kvs:List (Int×Value)} (d:D2i P H l kvs):kvs.map (λ x=>x.1)=l.map (λ x=>x.1):=by
 induction d with
 | nil=>rfl
 | cons h _ ih=>refine rwE List.map_cons ?_;refine rwE List.map_cons ?_;refine rwE ih ?_;refine rwE h.1 ?_;rfl
theorem dO {K:Type} [DecidableEq K] {q:K×Value} {r:List (K×Value)} {k:K} {v:Value} (h:¬ q.1=k):stored (q::r) k v=q::stored r k v:=by
 delta stored
 refine rwE List.any_cons ?_;refine rwE (decide_eq_false h) ?_;refine rwE (Bool.false_or ..) ?_
 split
 ·refine rwE List.map_cons ?_;refine rwE (if_neg h) ?_;rfl
 ·rfl
theorem dP {K:Type} [DecidableEq K] {q:K×Value} {r:List (K×Value)} {k:K} {v:Value} (h:q.1=k) (hn:k∉r.map (λ x=>x.1)):stored (q::r) k v=(k,v)::r:=by
 delta stored
 refine rwE List.any_cons ?_;refine rwE (decide_eq_true h) ?_;refine rwE (Bool.true_or ..) ?_;refine rwE (if_pos rfl) ?_;refine rwE List.map_cons ?_;refine rwE (if_pos h) ?_;refine rwE h ?_;refine rwE (map_store_of_not_mem r k v hn) ?_;rfl
theorem D2.store {P:Params} {H:Hp} {k:Nat} {V:V} {v:Value} (hv:VR P H V v) {l:List (Nat×Mine.Internal.V)} {kvs:List (Str×Value)} (d:D2 P H l kvs):(l.map (λ x=>x.1)).Nodup->D2 P H (bN k V l) (stored kvs (nm k) v):=by
 induction d with
 | nil=>intro _;exact .cons ⟨rfl,hv⟩ .nil
 | @cons p q l r h d ih =>
  intro nd
  rw [List.map_cons,List.nodup_cons] at nd
  obtain ⟨y,w⟩:=p
  refine rwE il ?_
  by_cases e:k=y
  ·subst e
   refine rwE (if_pos rfl) ?_;refine rwE (dP h.1 (by refine rwE d.keys ?_;intro hm;(refine au (List.mem_map.mp hm) ?_;intro p hp e);exact nd.1 (by refine rwB (bI e) ?_;exact List.mem_map_of_mem hp))) ?_
   exact .cons ⟨rfl,hv⟩ d
  ·refine rwE (if_neg e) ?_;refine rwE (dO (by refine rwE h.1 ?_;exact λ q=>e (bI q).symm)) ?_
   exact .cons h (ih nd.2)
theorem D2i.store {P:Params} {H:Hp} {k:Int} {V:V} {v:Value} (hv:VR P H V v) {l:List (Int×Mine.Internal.V)} {kvs:List (Int×Value)} (d:D2i P H l kvs):(l.map (λ x=>x.1)).Nodup->D2i P H (gF k V l) (stored kvs k v):=by
 induction d with
 | nil=>intro _;exact .cons ⟨rfl,hv⟩ .nil
 | @cons p q l r h d ih =>
  intro nd
  rw [List.map_cons,List.nodup_cons] at nd
  obtain ⟨y,w⟩:=p
  refine rwE mH ?_
  by_cases e:k=y
  ·subst e
   refine rwE (if_pos rfl) ?_;refine rwE (dP h.1 (by refine rwE d.keys ?_;exact nd.1)) ?_
   exact .cons ⟨rfl,hv⟩ d
  ·refine rwE (if_neg e) ?_;refine rwE (dO (by refine rwE h.1 ?_;exact λ q=>e q.symm)) ?_
   exact .cons h (ih nd.2)
theorem iR {x:Int} {V:V}:∀ {fs:List (Int×Mine.Internal.V)},(fs.map (λ x=>x.1)).Nodup->((gF x V fs).map (λ x=>x.1)).Nodup/\(∀ y∈(gF x V fs).map (λ x=>x.1),y=x\/y∈fs.map (λ x=>x.1))
 | [],_=>⟨List.nodup_cons.mpr ⟨List.not_mem_nil,List.nodup_nil⟩,λ y hy=>.inl (List.mem_singleton.mp hy)⟩
 | (y,w)::r,h=>by
  rw [List.map_cons,List.nodup_cons] at h
  refine rwE mH ?_
  by_cases q:x=y
  ·subst q
   refine rwE (if_pos rfl) ?_;refine rwE List.map_cons ?_
   exact ⟨List.nodup_cons.mpr h,λ z hz=>.inr hz⟩
  ·refine rwE (if_neg q) ?_;refine rwE List.map_cons ?_
   refine al (iR (x:=x) (V:=V) h.2) ?_;intro h1 h2
   refine ⟨List.nodup_cons.mpr ⟨λ hm=>?_,h1⟩,λ z hz=>?_⟩
   ·rcases h2 _ hm with e | e
    ·exact q e.symm
    ·exact h.1 e
   ·rcases List.mem_cons.mp hz with rfl | hz
    ·exact .inr (.head _)
    ·rcases h2 z hz with e | e
     ·exact .inl e
     ·exact .inr (.tail _ e)
theorem kT {x:Int} {V:V}:∀ {fs:List (Int×Mine.Internal.V)},(gF x V fs).length<=fs.length+1
 | []=>Nat.le_refl _
 | (y,w)::r=>by
  refine rwE mH ?_
  by_cases q:x=y
  ·refine rwE (if_pos q) ?_;simp
  ·refine rwE (if_neg q) ?_;have:=kT (x:=x) (V:=V) (fs:=r);simp only [List.length_cons];lia
theorem dv {prog:Program} {w:World} {K:Type} [DecidableEq K] {knd:KeyKind prog w K} {a:Addr} {kvs:List (K×Value)} (x:h.DictOf knd a kvs):∃ es n,h.get? a=some (dictOf es n)/\Pairs knd es kvs/\(∀ e∈es,∃ k,knd.is k e.key=true/\e.hash=knd.hash k):=by
 refine pK x ?_;clear x;intro z0 es ep ho z4 hd hk hp z8;obtain ⟨oc,od,odt,osl⟩:=z0;refine bq z4 ?_;clear z4;intro h1 h2 h3
 dsimp only at h1 h2 h3 hd
 subst h1 h2 h3 hd
 exact ⟨es.toList,ep,by simpa using ho,hp,λ e he=>hk e (Array.mem_toList_iff.mp he)⟩
inductive SsR (σ:St) (v:V):V->V->St->Prop
 | str {a k:Nat} {l:List (Nat×V)} (h:look a σ=some (.dct l)) (hz:l.length<1000):SsR σ v (.loc a) (.str k) (put a (.dct (bN k v l)) σ)
 | int0 {a:Nat} {k:Int} (h:look a σ=some (.dct [])):SsR σ v (.loc a) (.int k) (put a (.dci [(k,v)]) σ)
 | int {a:Nat} {k:Int} {l:List (Int×V)} (h:look a σ=some (.dci l)) (hz:l.length<1000):SsR σ v (.loc a) (.int k) (put a (.dci (gF k v l)) σ)
 | lst {a:Nat} {k:Int} {l:List V} (h:look a σ=some (.lst l)) (h0:0<=k) (h1:k<l.length):SsR σ v (.loc a) (.int k) (put a (.lst (l.set k.toNat v)) σ)
theorem mR {p:Prop} [Decidable p] {x y:St} {P:St->Prop} (e:(if p then some x else none)=some y) (h:p->P x):P y:=by
 refine al (Option.ite_none_right_eq_some.mp e) ?_;intro e1 e2
 refine rwB (Option.some.inj e2) ?_
 exact h e1
theorem SsR.of {O I v:V} {σ':St} (e:bn O I v σ=some σ'):SsR σ v O I σ':=by
 induction O using V.casesOn with
 | loc a =>
  have e:(match (generalizing:=false) look a σ,I with
   | some (.dct l),.str k=>if l.length<1000 then some (put a (.dct (bN k v l)) σ) else none
   | some (.dct []),.int k=>some (put a (.dci [(k,v)]) σ)
   | some (.dci l),.int k=>if l.length<1000 then some (put a (.dci (gF k v l)) σ) else none
   | some (.lst l),.int k=>if decide (0<=k)&&decide (k<l.length) then some (put a (.lst (l.set k.toNat v)) σ) else none
   | _,_=>none)=some σ':=e
  generalize hk:look a σ=mm at e
  induction mm using Option.casesOn with
  | none=>exact J e
  | some mm =>
   induction mm using M.casesOn with
   | dct l =>
    induction I using V.casesOn with
    | str k=>exact mR e λ hz=>.str hk hz
    | int k =>
     induction l using List.casesOn with
     | nil=>obtain rfl:=Option.some.inj e;exact .int0 hk
     | cons _ _=>exact J e
    | _=>first | exact J e | (induction l using List.casesOn with | _=>exact J e)
   | dci l =>
    induction I using V.casesOn with
    | int k=>exact mR e λ hz=>.int hk hz
    | _=>exact J e
   | lst l =>
    induction I using V.casesOn with
    | int k=>exact mR e λ hb=>.lst hk (of_decide_eq_true (Bool.and_eq_true_iff.mp hb).1) (of_decide_eq_true (Bool.and_eq_true_iff.mp hb).2)
    | _=>exact J e
   | _=>exact J e
 | _=>exact J e
theorem mS (S:SRp G c ρ σ Fz h m mf lo Mt Tb Ce led) {pre post:List (Addr×Obj)} {a:Addr} {o:Obj} (e:Mt=pre++((a,o)::post)):h.get? a=some o:=S.getM (by refine rwE e ?_;exact List.mem_append_right _ (.head _))
theorem lY (C:COK G c) (S:SR G c ρ σ Fz s) {O:V} {I:V} {V:V} {ov iv v:Value} {σ':St} (ho:VR G.w.params (Hf G.kx Fz) O ov) (hi:VR G.w.params (Hf G.kx Fz) I iv) (hv:VR G.w.params (Hf G.kx Fz) V v)
 (e:bn O I V σ=some σ'):wpAny (model G.prog G.w) A (setItem ov iv v) (λ u' s'=>SR G c ρ σ' Fz s') E s:=by
 obtain ⟨g,m,mf,lo,Mt,Tb,Ce,led,S⟩:=S
 have int:∀ {a:Nat} {l:List (Int×Mine.Internal.V)} {k:Int} {pre post:List (Addr×Obj)} {es:List DictEntry} {n:Nat} {t:Tok},Mt=pre++((a,dictOf es n)::post)->VRi G.w.params (Hf G.kx Fz) l es->(l.map (λ x=>x.1)).Nodup->l.length<1000->(a==sysModules)=false ->
  (∀ m' f',Fp G.w.params (Hf G.kx Fz) a m' f'->MtR G.w.params (Hf G.kx Fz) (put a m' σ) (pre++(f'++post))) ->
  wpAny (model G.prog G.w) A (setItem (.ref a) (.int k t) v) (λ u' s'=>SR G c ρ (put a (.dci (gF k V l)) σ) Fz s') E s:=by
  intro a l k pre post es n t e1 h2 h3 hz h5 hput
  refine cu (h2.d2 (prog:=G.prog)) ?_;intro kvs hp hd hk
  have hD:s.heap.DictOf (PySem.intKind G.prog G.w) a kvs:=⟨_,es.toArray,n,mS S e1,⟨rfl,rfl,rfl⟩,rfl,λ e he=>hk e (Array.mem_toList_iff.mpr he),hp,by refine rwE hd.keys ?_;exact h3⟩
  have hl:kvs.length=l.length:=by have:=congrArg List.length hd.keys;simpa using this
  refine wpAny_setItem_pairs (intKind_is G.prog G.w k t) hD (λ h' hD' hs=>?_) (aK (by lia))
  refine gz (dv hD') ?_;intro es' n' ho' hp' hk'
  have r':=VRi.of_pairs (hd.store (k:=k) hv h3) hp' hk'
  refine ao (S.up (σ':=put a (.dci (gF k V l)) σ) e1 hs ho' (hput _ [(a,dictOf es' n')] ⟨es',n',rfl,r',(iR h3).1,by have:=kT (x:=k) (V:=V) (fs:=l);lia,h5⟩)) ?_;intro led' S'
  exact ⟨g,m,mf,lo,_,Tb,Ce,led',S'⟩
 replace e:=SsR.of e
 induction e with
 | @str a k l hl hz =>
  obtain rfl:ov=.ref a:=ho
  refine ao hi ?_;clear hi;intro t z1;obtain rfl:=z1
  obtain ⟨pre,f,post,e1,⟨es,n,e2,h2,h3,h4,h5⟩,hput,_⟩:=S.mt.look hl
  subst e2
  refine au (h2.d2 (prog:=G.prog)) ?_;intro kvs hp hd
  have hD:s.heap.DictOf (PySem.strKind G.prog G.w) a kvs:=⟨_,es.toArray,n,mS S e1,⟨rfl,rfl,rfl⟩,rfl,λ e he=>h2.keys e (Array.mem_toList_iff.mpr he),hp,by refine rwE hd.keys ?_;exact fm h3⟩
  have hl:kvs.length=l.length:=by have:=congrArg List.length hd.keys;simpa using this
  refine wpAny_setItem_pairs (strKind_is G.prog G.w (nm k) t) hD (λ h' hD' hs=>?_) (aK (by lia))
  refine gz (dv hD') ?_;intro es' n' ho' hp' hk'
  have r':=VRd.of_pairs (hd.store (k:=k) hv h3) hp' hk'
  refine ao (S.up (σ':=put a (.dct (bN k V l)) σ) e1 hs ho' (hput _ [(a,dictOf es' n')] ⟨es',n',rfl,r',(fP h3).1,by have:=ia (x:=k) (V:=V) (fs:=l);lia,h5⟩)) ?_;intro led' S'
  exact ⟨g,m,mf,lo,_,Tb,Ce,led',S'⟩
 | @int0 a k hl =>
  obtain rfl:ov=.ref a:=ho
  refine ao hi ?_;clear hi;intro t z1;obtain rfl:=z1
  obtain ⟨pre,f,post,e1,⟨es,n,e2,h2,h3,h4,h5⟩,hput,_⟩:=S.mt.look hl
  subst e2
  obtain rfl:es=[]:=h2
  exact int (l:=[]) e1 rfl List.nodup_nil (by decide) h5 hput
 | @int a k l hl hz =>
  obtain rfl:ov=.ref a:=ho
  refine ao hi ?_;clear hi;intro t z1;obtain rfl:=z1
  obtain ⟨pre,f,post,e1,⟨es,n,e2,h2,h3,h4,h5⟩,hput,_⟩:=S.mt.look hl
  subst e2
  exact int e1 h2 h3 hz h5 hput
 | @lst a k l hl h0 h1 =>
  obtain rfl:ov=.ref a:=ho
  refine ao hi ?_;clear hi;intro t z1;obtain rfl:=z1
  obtain ⟨pre,f,post,e1,⟨xs,n,e2,h2,h3⟩,hput,_⟩:=S.mt.look hl
  subst e2
  have hg:s.heap.get? a=some (listOf xs n):=mS S e1
  have hsz:xs.size=l.length:=by (refine rwB h2.len ?_;refine rwE Array.length_toList ?_;rfl)
  refine ki_setAt hg h0 (by lia) (by lia) ?_
  have ho':=PySem.IsL.update (n:=n) hg (·.setIfInBounds k.toNat v)
  refine ao (S.up (σ':=put a (.lst (l.set k.toNat V)) σ) e1 (Heap.SameBut.update ..) ho' (hput _ [(a,listOf _ _)] ⟨_,_,rfl,by simpa using VRs.set hv k.toNat h2,by simpa using h3⟩)) ?_;intro led' S'
  exact ⟨g,m,mf,lo,_,Tb,Ce,led',S'⟩
end
theorem lZ:nm tb.append=("append":Str):=by kernel_rfl
theorem sQ:nm tb.pop=("pop":Str):=by kernel_rfl
theorem l0:nm tb.extend=("extend":Str):=by kernel_rfl
theorem gR:nm tb.get=("get":Str):=by kernel_rfl
theorem oj:nm tb.lowerN=("lower":Str):=by kernel_rfl
theorem rE {k j:Nat} (h:tb.lower k=some j):Txt.lower (nm k)=nm j:=by
 have hk:tb.lower k=List.lookup k ud:=rfl
 rw [hk] at h
 have chk:(ud.all λ p=>(nm p.1).cps.toList.all (λ c=>decide (c<128))&&((⟨(nm p.1).cps.map lo1⟩:Str)==nm p.2))=true:=by decide +kernel
 have this:∀ p∈ud,Txt.lower (nm p.1)=nm p.2:=λ p hp=>by
  have:=List.all_eq_true.mp chk p hp
  have this:=an2 this
  refine rwE (lower_ascii λ c hc=>of_decide_eq_true (List.all_eq_true.mp this.1 c hc)) ?_
  exact beq_iff_eq.mp this.2
 exact this (k,j) (aq h)
noncomputable def zE:BM->String
 | .append => "list.append" | .pop => "list.pop" | .extend => "list.extend" | .get => "dict.get" | .lower => "str.lower"
section
variable {c:Cx} {ρ:Rho} {σ:St} {Fz:List (Addr×Obj)} {A:Around} {E:Value->Shared->Prop} {s:Shared} {h:Heap} {m mf:Str->Option Value} {lo Mt Tb Ce led:List (Addr×Obj)}
noncomputable def pB (mk:MK):Value:=match mk with
 | .fn k=>.ref (fa k)
 | .b x=>.builtin (zE x)
inductive BmR (σ:St):V->Nat->BM->Prop
 | append {a:Nat} {l:List V} (h:look a σ=some (.lst l)):BmR σ (.loc a) tb.append .append
 | pop {a:Nat} {l:List V} (h:look a σ=some (.lst l)):BmR σ (.loc a) tb.pop .pop
 | extend {a:Nat} {l:List V} (h:look a σ=some (.lst l)):BmR σ (.loc a) tb.extend .extend
 | dctL {a:Nat} {l:List (Nat×V)} (h:look a σ=some (.dct l)):BmR σ (.loc a) tb.get .get
 | dciL {a:Nat} {l:List (Int×V)} (h:look a σ=some (.dci l)):BmR σ (.loc a) tb.get .get
 | dct {l:List (Nat×V)}:BmR σ (.dct l) tb.get .get
 | dci {l:List (Int×V)}:BmR σ (.dci l) tb.get .get
 | str {k:Nat}:BmR σ (.str k) tb.lowerN .lower
theorem j3 {x y:Nat} {b r:BM} {P:Nat->BM->Prop} (e:(if x=y then some b else none)=some r) (h:P y b):P x r:=by
 refine al (Option.ite_none_right_eq_some.mp e) ?_;intro e1 e2
 refine rwE e1 ?_;refine rwB (Option.some.inj e2) ?_
 exact h
theorem BmR.of {O:V} {x:Nat} {b:BM} (e:sF tb O x σ=some b):BmR σ O x b:=by
 induction O using V.casesOn with
 | loc a =>
  have e:(match look a σ with
   | some (.lst _)=>if x=tb.append then some .append else if x=tb.pop then some .pop else if x=tb.extend then some .extend else none
   | some (.dct _)=>if x=tb.get then some .get else none
   | some (.dci _)=>if x=tb.get then some .get else none
   | _=>none)=some b:=e
  generalize hk:look a σ=mm at e
  induction mm using Option.casesOn with
  | none=>exact J e
  | some mm =>
   induction mm using M.casesOn with
   | lst l =>
    have e:(if x=tb.append then some BM.append else if x=tb.pop then some .pop else if x=tb.extend then some .extend else none)=some b:=e
    by_cases h1:x=tb.append
    ·rw [if_pos h1] at e;(refine rwE h1 ?_;refine rwB (Option.some.inj e) ?_);exact .append hk
    ·rw [if_neg h1] at e
     by_cases h1:x=tb.pop
     ·rw [if_pos h1] at e;(refine rwE h1 ?_;refine rwB (Option.some.inj e) ?_);exact .pop hk
     ·rw [if_neg h1] at e
      exact j3 e (.extend hk)
   | dct l=>exact j3 e (.dctL hk)
   | dci l=>exact j3 e (.dciL hk)
   | _=>exact J e
 | dct l=>exact j3 e .dct
 | dci l=>exact j3 e .dci
 | str k=>exact j3 e .str
 | _=>exact J e
theorem vi (S:SRp G c ρ σ Fz h m mf lo Mt Tb Ce led) {a:Nat} {l:List V} (hl:look a σ=some (.lst l)):∃ xs n,h.get? a=some (listOf xs n):=by
 obtain ⟨pre,f,post,e1,⟨xs,n,e2,_⟩,_,_⟩:=S.mt.look hl
 subst e2
 exact ⟨xs,n,S.getM (by refine rwE e1 ?_;exact List.mem_append_right _ (.head _))⟩
theorem sR (KF:KC G.K) (C:COK G c) (S:SR G c ρ σ Fz s) {O:V} {ov:Value} {x:Nat} {mk:MK} {pl:Sem Bool} (ho:VR G.w.params (Hf G.kx Fz) O ov) (e:dX tb O x σ=some mk) {Q:Value×List Value->Shared->Prop} (q:Q (pB mk,[ov]) s) :
 wpAny (model G.prog G.w) A (getMethod ov (nm x) pl) Q E s:=by
 obtain ⟨g,m,mf,lo,Mt,Tb,Ce,led,S⟩:=S
 delta dX at e
 induction hc:dY O σ using Option.casesOn with
 | some p =>
  obtain ⟨k,fs⟩:=p
  rw [hc] at e
  dsimp only at e
  induction hg:aY x fs using Option.casesOn with
  | some _=>rw [hg] at e;cases e
  | none =>
   rw [hg] at e
   refine au (Option.bind_eq_some_iff.mp e) ?_;intro ci hci e
   refine au (Option.map_eq_some_iff.mp e) ?_;intro f hf z2;obtain rfl:=z2
   refine xr (ju C S ho hc) ?_;intro a dx es n z4 I h3 z7;obtain rfl:=z4
   have KK:=KF k ci hci
   refine al (KK.meth x f hf) ?_;intro m1 m2
   have:=h3.getL (k:=x)
   rw [hg] at this
   exact method_inst S.F C.X I (KK.pg _) m1 m2 this q
 | none =>
  rw [hc] at e
  dsimp only at e
  refine au (Option.map_eq_some_iff.mp e) ?_;intro b hb z2;obtain rfl:=z2
  have lst:∀ {a:Nat} {id:String} {name:Str} {l:List Mine.Internal.V},look a σ=some (.lst l)->Slot "list" name id->typeOf (.builtin id)=pure (.type "method_descriptor")->Q (.builtin id,[.ref a]) s->wpAny (model G.prog G.w) A (getMethod (.ref a) name pl) Q E s:=by
   intro a id name l hl sl ty q
   refine pI (vi S hl) ?_;intro xs n hg
   exact getMethod_builtin (T := "list") ⟨_,hg,rfl⟩ PySem.F.plainAttrs_list sl ty (λ b e=>by obtain rfl:=Value.ref.inj e;exact ⟨_,hg,rfl⟩) q
  have dct:∀ {a:Addr} {es:List DictEntry} {n:Nat},s.heap.get? a=some (dictOf es n)->Q (.builtin "dict.get",[.ref a]) s->wpAny (model G.prog G.w) A (getMethod (.ref a) "get" pl) Q E s:=by
   intro a es n hg q
   exact getMethod_builtin (T := "dict") ⟨_,hg,rfl⟩ PySem.F.plainAttrs_dict PySem.F.slot_dict_get PySem.F.type_dict_get (λ b e=>by obtain rfl:=Value.ref.inj e;exact ⟨_,hg,rfl⟩) q
  replace hb:=BmR.of hb
  clear hc e
  induction hb with
  | append h=>obtain rfl:=ho;refine rwE lZ ?_;exact lst h PySem.F.slot_list_append PySem.F.type_list_append q
  | pop h=>obtain rfl:=ho;refine rwE sQ ?_;exact lst h PySem.F.slot_list_pop PySem.F.type_list_pop q
  | extend h=>obtain rfl:=ho;refine rwE l0 ?_;exact lst h PySem.F.slot_list_extend PySem.F.type_list_extend q
  | dctL h =>
   obtain rfl:=ho
   refine rwE gR ?_
   obtain ⟨pre,f,post,e1,⟨es,n,e2,_⟩,_,_⟩:=S.mt.look h
   subst e2
   exact dct (S.getM (by refine rwE e1 ?_;exact List.mem_append_right _ (.head _))) q
  | dciL h =>
   obtain rfl:=ho
   refine rwE gR ?_
   obtain ⟨pre,f,post,e1,⟨es,n,e2,_⟩,_,_⟩:=S.mt.look h
   subst e2
   exact dct (S.getM (by refine rwE e1 ?_;exact List.mem_append_right _ (.head _))) q
  | dct=>refine rwE gR ?_;obtain ⟨a,es,n,rfl,h1,_⟩:=ho;exact dct (S.get C h1) q
  | dci=>refine rwE gR ?_;obtain ⟨a,es,n,rfl,h1,_⟩:=ho;exact dct (S.get C h1) q
  | str=>refine rwE oj ?_;(refine ao ho ?_;clear ho;intro t z1;obtain rfl:=z1);exact PySem.GM.lower q
theorem VRs.nil_inv {P:Params} {H:Hp} {vs:List Value} (h:VRs P H [] vs):vs=[]:=h
theorem VRs.one_inv {P:Params} {H:Hp} {v:V} {vs:List Value} (h:VRs P H [v] vs):∃ x,vs=[x]/\VR P H v x:=by
 obtain ⟨x,ys,rfl,h1,h2⟩:=h
 cases h2
 exact ⟨x,rfl,h1⟩
theorem VRs.two_inv {P:Params} {H:Hp} {v u:V} {vs:List Value} (h:VRs P H [v,u] vs):∃ x y,vs=[x,y]/\VR P H v x/\VR P H u y:=by
 obtain ⟨x,ys,rfl,h1,h2⟩:=h
 refine au (h2.one_inv) ?_;intro y z1 h3;obtain rfl:=z1
 exact ⟨x,y,rfl,h1,h3⟩
theorem VRs.three_inv {P:Params} {H:Hp} {v u t:V} {vs:List Value} (h:VRs P H [v,u,t] vs):∃ x y z,vs=[x,y,z]/\VR P H v x/\VR P H u y/\VR P H t z:=by
 obtain ⟨x,ys,rfl,h1,h2⟩:=h
 refine gz (h2.two_inv) ?_;intro y z z2 h3 h4;obtain rfl:=z2
 exact ⟨x,y,z,rfl,h1,h3,h4⟩
theorem kE {P:Params} {H:Hp} {l:List V} {vs:List Value} {v:V} (h:VRs P H l vs) (e:l.getLast?=some v):∃ x,vs[vs.length - 1]?=some x/\VR P H v x:=by
 rw [List.getLast?_eq_getElem?] at e
 have:=h.get e
 rw [← h.len] at this
 exact this
noncomputable def uD (P:Params) (H:Hp):Option V->Option Value->Prop
 | some v,y=>∃ x,y=some x/\VR P H v x
 | none,y=>y=none
theorem nu (C:COK G c) (S:SR G c ρ σ Fz s) {O:V} {k:V} {ov kv:Value} {r:Option V} (ho:VR G.w.params (Hf G.kx Fz) O ov) (hk:VR G.w.params (Hf G.kx Fz) k kv) (e:ip O k σ=some r) :
 ∃ a,ov=.ref a/\s.heap.get? a≠none/\((∃ (kk:Str) (f:Str->Option Value),(PySem.strKind G.prog G.w).is kk kv=true/\s.heap.MapOf (PySem.strKind G.prog G.w) a f/\(a==sysModules)=false/\uD G.w.params (Hf G.kx Fz) r (f kk)) \/
  ∃ (kk:Int) (f:Int->Option Value),(PySem.intKind G.prog G.w).is kk kv=true/\s.heap.MapOf (PySem.intKind G.prog G.w) a f/\(a==sysModules)=false/\uD G.w.params (Hf G.kx Fz) r (f kk)):=by
 obtain ⟨g,m,mf,lo,Mt,Tb,Ce,led,S⟩:=S
 induction k using Mine.Internal.V.casesOn with
 | str k =>
  refine ao hk ?_;clear hk;intro t z1;obtain rfl:=z1
  refine au (Option.map_eq_some_iff.mp (show (bl O σ).map (λ l=>aY k l)=some r from e)) ?_;intro l hl z2;obtain rfl:=z2
  refine pK (jY C S ho hl) ?_;intro a es n z3 h1 h2 h3 h4 h5;obtain rfl:=z3
  refine cu (fO (prog:=G.prog) h1 h2 h3) ?_;intro kvs hd z2 hf
  exact ⟨a,rfl,by refine rwE h1 ?_;simp,.inl ⟨nm k,_,strKind_is G.prog G.w _ t,hd.mapOf,h5,by have:=hf k;revert this;cases aY k l<;>exact id⟩⟩
 | int k =>
  refine ao hk ?_;clear hk;intro t z1;obtain rfl:=z1
  refine au (Option.map_eq_some_iff.mp (show (dq O σ).map (λ l=>fB k l)=some r from e)) ?_;intro l hl z2;obtain rfl:=z2
  refine pK (rC C S ho hl) ?_;intro a es n z3 h1 h2 h3 h4 h5;obtain rfl:=z3
  refine cu (kR (prog:=G.prog) h1 h2 h3) ?_;intro kvs hd z2 hf
  exact ⟨a,rfl,by refine rwE h1 ?_;simp,.inr ⟨k,_,intKind_is G.prog G.w _ t,hd.mapOf,h5,by have:=hf k;revert this;cases fB k l<;>exact id⟩⟩
 | _=>exact J e
inductive MbR (σ:St) (Q:PV):BM->V->List V->Prop
 | append {a:Nat} {v:V} {l:List V} (h:look a σ=some (.lst l)) (hz:l.length<100000) (q:Q .none (put a (.lst (l++[v])) σ)):MbR σ Q .append (.loc a) [v]
 | pop {a:Nat} {v:V} {l:List V} (h:look a σ=some (.lst l)) (hv:l.getLast?=some v) (q:Q v (put a (.lst l.dropLast) σ)):MbR σ Q .pop (.loc a) []
 | extend {a b:Nat} {l l':List V} (h:look a σ=some (.lst l)) (h':look b σ=some (.lst l')) (hab:a≠b) (hz:l.length+l'.length<100000) (q:Q .none (put a (.lst (l++l')) σ)):MbR σ Q .extend (.loc a) [.loc b]
 | get1 {O k:V} {r:Option V} (h:ip O k σ=some r) (q:Q (r.getD .none) σ):MbR σ Q .get O [k]
 | get2 {O k d:V} {r:Option V} (h:ip O k σ=some r) (q:Q (r.getD d) σ):MbR σ Q .get O [k,d]
 | lower {k j:Nat} (h:tb.lower k=some j) (q:Q (.str j) σ):MbR σ Q .lower (.str k) []
theorem MbR.of {x:BM} {O:V} {Vs:List V} {Q:PV} (e:gI tb x O Vs σ Q):MbR σ Q x O Vs:=by
 induction x using BM.casesOn with
 | append=>exact bP (λ a e h=>bC (λ v e' h=>aI (λ m e1 h=>cx (λ l e2 h=>by refine rwE e (rwE e' ?_);exact .append (e2▸e1) h.1 h.2) h) h) h) e
 | pop=>exact bP (λ a e h=>gH (λ e' h=>aI (λ m e1 h=>cx (λ l e2 h=>aI (λ v e3 h=>by refine rwE e (rwE e' ?_);exact .pop (e2▸e1) e3 h) h) h) h) h) e
 | extend=>exact bP (λ a e h=>bC (λ v e' h=>bP (λ b e'' h=>aI (λ m e1 h=>cx (λ l e2 h=>aI (λ m' e3 h=>cx (λ l' e4 h=>by refine rwE e (rwE e' (rwE e'' ?_));exact .extend (e2▸e1) (e4▸e3) h.1 h.2.1 h.2.2) h) h) h) h) h) h) e
 | get=>exact jQ (λ k e' h=>aI (λ r e1 h=>by refine rwE e' ?_;exact .get1 e1 h) h) (λ k d e' h=>aI (λ r e1 h=>by refine rwE e' ?_;exact .get2 e1 h) h) e
 | lower=>exact ni (λ k e h=>gH (λ e' h=>aI (λ r e1 h=>by refine rwE e (rwE e' ?_);exact .lower e1 h) h) h) e
theorem qe (C:COK G c) (S:SR G c ρ σ Fz s) {x:BM} {O:V} {ov:Value} {Vs:List V} {vs:List Value} (ho:VR G.w.params (Hf G.kx Fz) O ov) (hv:VRs G.w.params (Hf G.kx Fz) Vs vs) {Q:PV} (e:gI tb x O Vs σ Q) :
 wpAny (model G.prog G.w) A (call (.builtin (zE x)) ([ov]++vs)) (PV' G c ρ Fz Q) E s:=by
 have S0:=S
 obtain ⟨g,m,mf,lo,Mt,Tb,Ce,led,S⟩:=S
 replace e:=MbR.of e
 induction e with
 | @append a v l hl hz q =>
  obtain rfl:ov=.ref a:=ho
  refine au (hv.one_inv) ?_;intro x z1 hx;obtain rfl:=z1
  obtain ⟨pre,f,post,e1,⟨xs,n,e2,h2,h3⟩,hput,_⟩:=S.mt.look hl
  subst e2
  have hg:s.heap.get? a=some (listOf xs n):=S.getM (by refine rwE e1 ?_;exact List.mem_append_right _ (.head _))
  have hsz:xs.size=l.length:=by (refine rwB h2.len ?_;refine rwE Array.length_toList ?_;rfl)
  refine append_at hg (λ h' hs ho'=>?_) (aK (by lia))
  refine ao (S.up (σ':=put a (.lst (l++[v])) σ) e1 hs ho' (hput _ [(a,listOf _ _)] ⟨_,_,rfl,by simpa using h2.append (VRs.one hx),by simp;lia⟩)) ?_;intro led' S'
  exact ⟨.none,_,Fz,sub.refl,rfl,⟨g,m,mf,lo,_,Tb,Ce,led',S'⟩,q⟩
 | @pop a v l hl hlast e =>
  obtain rfl:ov=.ref a:=ho
  obtain rfl:=hv.nil_inv
  obtain ⟨pre,f,post,e1,⟨xs,n,e2,h2,h3⟩,hput,_⟩:=S.mt.look hl
  subst e2
  have hg:s.heap.get? a=some (listOf xs n):=S.getM (by refine rwE e1 ?_;exact List.mem_append_right _ (.head _))
  have hsz:xs.size=l.length:=by (refine rwB h2.len ?_;refine rwE Array.length_toList ?_;rfl)
  refine au (kE h2 hlast) ?_;intro y hy hr
  refine call_meets PySem.F.slot_list_pop ⟨_,hg,rfl⟩ PySem.F.entry_list_pop (PySem.F.args_list_pop_1 _) (MeetsSeq.list_pop_last a xs n y (by simpa using hy) (aK (by lia))) ⟨hg,?_⟩
  have ho':=PySem.IsL.update (n:=n) hg (λ xs'=>xs'.eraseIdxIfInBounds (xs.size - 1))
  have hne:l≠[]:=by intro e;subst e;exact J hlast
  have hpos:0<l.length:=by cases l with | nil=>exact absurd rfl hne | cons _ _=>simp
  have hd:(xs.eraseIdxIfInBounds (xs.size - 1)).toList=xs.toList.take (l.length - 1):=by
   delta Array.eraseIdxIfInBounds
   refine rwE (dif_pos (by lia)) ?_;refine rwE Array.toList_eraseIdx ?_;refine rwE hsz ?_
   have:xs.toList.length=l.length:=by refine rwE Array.length_toList ?_;exact hsz
   refine rwE (List.eraseIdx_eq_take_drop_succ ..) ?_
   refine rwE (List.drop_eq_nil_of_le (by lia)) ?_;refine rwE (List.append_nil ..) ?_;rfl
  refine ao (S.up (σ':=put a (.lst l.dropLast) σ) e1 (Heap.SameBut.update ..) ho' (hput _ [(a,listOf _ _)] ⟨_,_,rfl,by (refine rwE List.dropLast_eq_take ?_;refine rwE hd ?_);exact h2.take _,by simp;lia⟩)) ?_;intro led' S'
  exact ⟨v,_,Fz,sub.refl,hr,⟨g,m,mf,lo,_,Tb,Ce,led',S'⟩,e⟩
 | @extend a b l l' hl hl' hab hz q =>
  obtain rfl:ov=.ref a:=ho
  refine au (hv.one_inv) ?_;intro x z1 hx;obtain rfl:=z1
  obtain rfl:x=.ref b:=hx
  obtain ⟨pre',f',post',e1',⟨xs',n',e2',h2',h3'⟩,_,_⟩:=S.mt.look hl'
  subst e2'
  have hg':s.heap.get? b=some (listOf xs' n'):=S.getM (by refine rwE e1' ?_;exact List.mem_append_right _ (.head _))
  obtain ⟨pre,f,post,e1,⟨xs,n,e2,h2,h3⟩,hput,_⟩:=S.mt.look hl
  subst e2
  refine al (S.at e1) ?_;intro N2 nd2
  refine al (hR nd2) ?_;intro d1 d2
  have hsz:xs.size=l.length:=by (refine rwB h2.len ?_;refine rwE Array.length_toList ?_;rfl)
  have hsz':xs'.size=l'.length:=by (refine rwB h2'.len ?_;refine rwE Array.length_toList ?_;rfl)
  have N3:News c.g c.L s.heap ((lo++pre)++(a,({ cls:=.type "list",data:=.seq xs.toList.toArray n }:Obj))::(post++(Tb++(Ce++(c.Ex++Fz))))):=by simpa using N2
  refine extend_in S.F N3 d1 d2 hg' (λ h' n' F' N'=>?_) (by refine rwE Array.length_toList ?_;exact aK (by lia))
  refine ⟨.none,_,Fz,sub.refl,rfl,⟨g,m,mf,lo,_,Tb,Ce,_,S.upN e1 F' N' (hput (.lst (l++l')) [(a,listOf _ _)] ⟨_,_,rfl,?_,by simp;lia⟩)⟩,q⟩
  simpa using h2.append h2'
 | @get1 O k r hr e =>
  refine au (hv.one_inv) ?_;intro x z1 hx;obtain rfl:=z1
  refine cu (nu C S0 ho hx hr) ?_;intro a z1 z2 h1;obtain rfl:=z1
  have fin:∀ {y:Option Value} {tk},uD G.w.params (Hf G.kx Fz) r y->PV' G c ρ Fz Q (y.getD .none) { s with toks:=tk }:=by
   intro y tk h
   refine ⟨r.getD .none,σ,Fz,sub.refl,?_,S0,e⟩
   induction r using Option.casesOn with
   | some v=>(refine au h ?_;clear h;intro x z1 hx;obtain rfl:=z1);exact hx
   | none=>subst h;rfl
  rcases h1 with ⟨kk,f,h2,h3,h4,h5⟩ | ⟨kk,f,h2,h3,h4,h5⟩
  ·exact call_meetsIn PySem.F.slot_dict_get h3.typeIs PySem.F.entry_dict_get (PySem.F.args_dict_get_2 _ _) (meets_dict_get (PySem.strKind G.prog G.w) a h2 h4) ⟨f,h3,fin h5⟩
  ·exact call_meetsIn PySem.F.slot_dict_get h3.typeIs PySem.F.entry_dict_get (PySem.F.args_dict_get_2 _ _) (meets_dict_get (PySem.intKind G.prog G.w) a h2 h4) ⟨f,h3,fin h5⟩
 | @get2 O k d r hr e =>
  refine gz (hv.two_inv) ?_;intro x y z2 hx hy;obtain rfl:=z2
  refine cu (nu C S0 ho hx hr) ?_;intro a z1 z2 h1;obtain rfl:=z1
  have fin:∀ {z:Option Value} {tk},uD G.w.params (Hf G.kx Fz) r z->PV' G c ρ Fz Q (z.getD y) { s with toks:=tk }:=by
   intro z tk h
   refine ⟨r.getD d,σ,Fz,sub.refl,?_,S0,e⟩
   induction r using Option.casesOn with
   | some v=>(refine au h ?_;clear h;intro x z1 hx;obtain rfl:=z1);exact hx
   | none=>subst h;exact hy
  rcases h1 with ⟨kk,f,h2,h3,h4,h5⟩ | ⟨kk,f,h2,h3,h4,h5⟩
  ·exact call_meetsIn PySem.F.slot_dict_get h3.typeIs PySem.F.entry_dict_get (PySem.F.args_dict_get_3 _ _ _) (meets_dict_get_default (PySem.strKind G.prog G.w) a h2 h4 y) ⟨f,h3,fin h5⟩
  ·exact call_meetsIn PySem.F.slot_dict_get h3.typeIs PySem.F.entry_dict_get (PySem.F.args_dict_get_3 _ _ _) (meets_dict_get_default (PySem.intKind G.prog G.w) a h2 h4 y) ⟨f,h3,fin h5⟩
 | @lower k j hj e =>
  refine ao ho ?_;clear ho;intro t z1;obtain rfl:=z1
  obtain rfl:=hv.nil_inv
  refine PySem.SC.lower ?_ ⟨.str j,σ,Fz,sub.refl,⟨_,by (refine rwE (rE hj) ?_;rfl)⟩,S0,e⟩
  refine rwE (rE hj) ?_
  have:=eA j
  show decide (_)=false
  exact decide_eq_false (by show ¬ (nm j).cps.size>_;have hs:(100:Nat)<=sizeLine:=aK (by lia);lia)
end
noncomputable def zR:B->String
 | .int => "int" | .str => "str" | .tuple => "tuple" | .dict => "dict" | .list => "list" | .bool => "bool" | _ => "NoneType"
structure KI (K:Frag):Prop where
 bt:∀ c ci,tb.clss c=some ci->∀ T∈["int", "bool", "str", "list", "dict", "tuple", "NoneType"],isNotIn K T (ca c)=true
 cc:∀ c ci,tb.clss c=some ci->∀ k cj,tb.clss k=some cj->if ci.bases.contains k then isIn K (.ref (ca c)) (ca k)=true else kin_not K (ca c) (ca k)=true
 ct:∀ c ci,tb.clss c=some ci->∀ T∈["int", "bool", "str", "list", "dict", "tuple"],kin_notT K (ca c) T=true
 cl:∀ c ci,tb.clss c=some ci->findIn K (.ref (ca c)) "__class__" = some (some (.builtin "object.__class__"))/\mroIn K (ca c) (.type "object")=some true
 gt:specialIn K (.builtin "object.__class__") "__get__" = some (some (.builtin "getset_descriptor.__get__"))
 tk:takesIn K (.builtin "object.__class__")=some true
section
variable {c:Cx} {ρ:Rho} {σ:St} {Fz:List (Addr×Obj)} {A:Around} {E:Value->Shared->Prop} {s:Shared} {h:Heap} {m mf:Str->Option Value} {lo Mt Tb Ce led:List (Addr×Obj)}
theorem sT (S:SR G c ρ σ Fz s) {b:Bool} {tk:Tok} {Q:PV} (q:Q (.bool b) σ):PV' G c ρ Fz Q (.bool b) { s with toks:=tk } :=
 ⟨.bool b,σ,Fz,sub.refl,rfl,S,q⟩
theorem iS {V:V} {b:B} {r:Bool} (h:c0 tb V (.bi b)=some r):rh b=true/\lK V b=some r:=by
 have h:(if rh b then lK V b else none)=some r:=h
 by_cases q:rh b=true
 ·rw [if_pos q] at h;exact ⟨q,h⟩
 ·rw [if_neg q] at h;exact J h
theorem yh (V:V):(∃ k fs,V=.ob k fs)\/∀ k fs,V≠.ob k fs:=by
 induction V using Mine.Internal.V.casesOn with
 | ob k fs=>exact .inl ⟨k,fs,rfl⟩
 | _=>exact .inr λ u' u'=>V.noConfusion
theorem vj (C:COK G c) (S:SRp G c ρ σ Fz s.heap m mf lo Mt Tb Ce led) {V:V} {b:B} {v:Value} {r:Bool} (hv:VR G.w.params (Hf G.kx Fz) V v) (hb:rh b=true) (hn:∀ k fs,V≠.ob k fs) (e:lK V b=some r) {Q:Value->Shared->Prop} (fin:∀ tk,Q (.bool r) { s with toks:=tk }) :
 wpAny (model G.prog G.w) A (call (.builtin "isinstance") [v,d5 b]) Q E s:=by
 induction V using Mine.Internal.V.casesOn with
 | none =>
  obtain rfl:v=.none:=hv
  obtain rfl:=Option.some.inj e
  induction b using B.casesOn with
  | int=>exact IsiPair.NoneType_int (fin _)
  | str=>exact IsiPair.NoneType_str (fin _)
  | tuple=>exact IsiPair.NoneType_tuple (fin _)
  | dict=>exact IsiPair.NoneType_dict (fin _)
  | list=>exact IsiPair.NoneType_list (fin _)
  | bool=>exact IsiPair.NoneType_bool (fin _)
  | _=>exact ad hb
 | bool x =>
  obtain rfl:v=.bool x:=hv
  induction b using B.casesOn with
  | int=>obtain rfl:=Option.some.inj e;exact IsiPair.bool_int (fin _)
  | str=>obtain rfl:=Option.some.inj e;exact IsiPair.bool_str (fin _)
  | tuple=>obtain rfl:=Option.some.inj e;exact IsiPair.bool_tuple (fin _)
  | dict=>obtain rfl:=Option.some.inj e;exact IsiPair.bool_dict (fin _)
  | list=>obtain rfl:=Option.some.inj e;exact IsiPair.bool_list (fin _)
  | bool=>obtain rfl:=Option.some.inj e;exact IsiPair.bool_bool (fin _)
  | _=>exact ad hb
 | int x =>
  refine ao hv ?_;clear hv;intro t z1;obtain rfl:=z1
  induction b using B.casesOn with
  | int=>obtain rfl:=Option.some.inj e;exact IsiPair.int_int (fin _)
  | str=>obtain rfl:=Option.some.inj e;exact IsiPair.int_str (fin _)
  | tuple=>obtain rfl:=Option.some.inj e;exact IsiPair.int_tuple (fin _)
  | dict=>obtain rfl:=Option.some.inj e;exact IsiPair.int_dict (fin _)
  | list=>obtain rfl:=Option.some.inj e;exact IsiPair.int_list (fin _)
  | bool=>obtain rfl:=Option.some.inj e;exact IsiPair.int_bool (fin _)
  | _=>exact ad hb
 | str x =>
  refine ao hv ?_;clear hv;intro t z1;obtain rfl:=z1
  induction b using B.casesOn with
  | int=>obtain rfl:=Option.some.inj e;exact IsiPair.str_int (fin _)
  | str=>obtain rfl:=Option.some.inj e;exact IsiPair.str_str (fin _)
  | tuple=>obtain rfl:=Option.some.inj e;exact IsiPair.str_tuple (fin _)
  | dict=>obtain rfl:=Option.some.inj e;exact IsiPair.str_dict (fin _)
  | list=>obtain rfl:=Option.some.inj e;exact IsiPair.str_list (fin _)
  | bool=>obtain rfl:=Option.some.inj e;exact IsiPair.str_bool (fin _)
  | _=>exact ad hb
 | tup l =>
  obtain ⟨a,o,xs,n,rfl,h1,h2,_⟩:=hv
  have hg:=S.get C h1
  induction b using B.casesOn with
  | int=>obtain rfl:=Option.some.inj e;exact IsiPair.tuple_int hg h2 (fin _)
  | str=>obtain rfl:=Option.some.inj e;exact IsiPair.tuple_str hg h2 (fin _)
  | tuple=>obtain rfl:=Option.some.inj e;exact IsiPair.tuple_tuple hg h2 (fin _)
  | dict=>obtain rfl:=Option.some.inj e;exact IsiPair.tuple_dict hg h2 (fin _)
  | list=>obtain rfl:=Option.some.inj e;exact IsiPair.tuple_list hg h2 (fin _)
  | bool=>obtain rfl:=Option.some.inj e;exact IsiPair.tuple_bool hg h2 (fin _)
  | _=>exact ad hb
 | lst l =>
  obtain ⟨a,o,xs,n,rfl,h1,h2,_⟩:=hv
  have hg:=S.get C h1
  induction b using B.casesOn with
  | int=>obtain rfl:=Option.some.inj e;exact IsiPair.list_int hg h2 (fin _)
  | str=>obtain rfl:=Option.some.inj e;exact IsiPair.list_str hg h2 (fin _)
  | tuple=>obtain rfl:=Option.some.inj e;exact IsiPair.list_tuple hg h2 (fin _)
  | dict=>obtain rfl:=Option.some.inj e;exact IsiPair.list_dict hg h2 (fin _)
  | list=>obtain rfl:=Option.some.inj e;exact IsiPair.list_list hg h2 (fin _)
  | bool=>obtain rfl:=Option.some.inj e;exact IsiPair.list_bool hg h2 (fin _)
  | _=>exact ad hb
 | dct l =>
  obtain ⟨a,es,n,rfl,h1,_⟩:=hv
  have hg:=S.get C h1
  induction b using B.casesOn with
  | int=>obtain rfl:=Option.some.inj e;exact IsiPair.dict_int hg rfl (fin _)
  | str=>obtain rfl:=Option.some.inj e;exact IsiPair.dict_str hg rfl (fin _)
  | tuple=>obtain rfl:=Option.some.inj e;exact IsiPair.dict_tuple hg rfl (fin _)
  | dict=>obtain rfl:=Option.some.inj e;exact IsiPair.dict_dict hg rfl (fin _)
  | list=>obtain rfl:=Option.some.inj e;exact IsiPair.dict_list hg rfl (fin _)
  | bool=>obtain rfl:=Option.some.inj e;exact IsiPair.dict_bool hg rfl (fin _)
  | _=>exact ad hb
 | dci l =>
  obtain ⟨a,es,n,rfl,h1,_⟩:=hv
  have hg:=S.get C h1
  induction b using B.casesOn with
  | int=>obtain rfl:=Option.some.inj e;exact IsiPair.dict_int hg rfl (fin _)
  | str=>obtain rfl:=Option.some.inj e;exact IsiPair.dict_str hg rfl (fin _)
  | tuple=>obtain rfl:=Option.some.inj e;exact IsiPair.dict_tuple hg rfl (fin _)
  | dict=>obtain rfl:=Option.some.inj e;exact IsiPair.dict_dict hg rfl (fin _)
  | list=>obtain rfl:=Option.some.inj e;exact IsiPair.dict_list hg rfl (fin _)
  | bool=>obtain rfl:=Option.some.inj e;exact IsiPair.dict_bool hg rfl (fin _)
  | _=>exact ad hb
 | ob k fs=>exact absurd rfl (hn k fs)
 | _=>exact J e
theorem yi {b:B} (hb:rh b=true):(∃ T,d5 b=.type T/\T∈["int", "bool", "str", "list", "dict", "tuple"]/\typeOf (.type T)=pure (.type "type"))/\∀ {k fs r},lK (.ob k fs) b=some r->r=false:=by
 induction b using B.casesOn with
 | int=>exact ⟨⟨_,rfl,.head _,kitMeta_of (by decide +kernel)⟩,λ e=>(Option.some.inj e).symm⟩
 | str=>exact ⟨⟨_,rfl,.tail _ (.tail _ (.head _)),kitMeta_of (by decide +kernel)⟩,λ e=>(Option.some.inj e).symm⟩
 | tuple=>exact ⟨⟨_,rfl,.tail _ (.tail _ (.tail _ (.tail _ (.tail _ (.head _))))),kitMeta_of (by decide +kernel)⟩,λ e=>(Option.some.inj e).symm⟩
 | dict=>exact ⟨⟨_,rfl,.tail _ (.tail _ (.tail _ (.tail _ (.head _)))),kitMeta_of (by decide +kernel)⟩,λ e=>(Option.some.inj e).symm⟩
 | list=>exact ⟨⟨_,rfl,.tail _ (.tail _ (.tail _ (.head _))),kitMeta_of (by decide +kernel)⟩,λ e=>(Option.some.inj e).symm⟩
 | bool=>exact ⟨⟨_,rfl,.tail _ (.head _),kitMeta_of (by decide +kernel)⟩,λ e=>(Option.some.inj e).symm⟩
 | _=>exact ad hb
theorem vk (KI:KI G.K) (C:COK G c) (S:SRp G c ρ σ Fz s.heap m mf lo Mt Tb Ce led) {V:V} {k:Nat} {cj:kL} (hcj:tb.clss k=some cj) {v:Value} {r:Bool} (hv:VR G.w.params (Hf G.kx Fz) V v) (hn:∀ k fs,V≠.ob k fs) (e:c0 tb V (.cls k)=some r) {Q:Value->Shared->Prop} (fin:∀ tk,Q (.bool r) { s with toks:=tk }) :
 wpAny (model G.prog G.w) A (call (.builtin "isinstance") [v,.ref (ca k)]) Q E s:=by
 have X:=S.kin C
 induction V using Mine.Internal.V.casesOn with
 | none=>obtain rfl:v=.none:=hv;obtain rfl:=Option.some.inj e;exact isn_call (T := "NoneType") (P:=λ u'=>True) X (λ u'=>Looks.of_pure rfl) (KI.bt k cj hcj _ (.tail _ (.tail _ (.tail _ (.tail _ (.tail _ (.tail _ (.head _)))))))) (λ q=>Value.noConfusion q) trivial (λ u'=>none_cls trivial) (fin _)
 | bool x=>obtain rfl:v=.bool x:=hv;obtain rfl:=Option.some.inj e;exact isn_call (T := "bool") (P:=λ u'=>True) X (λ u'=>Looks.of_pure rfl) (KI.bt k cj hcj _ (.tail _ (.head _))) (λ q=>Value.noConfusion q) trivial (λ u'=>bool_cls trivial) (fin _)
 | int x=>(refine ao hv ?_;clear hv;intro t z1;obtain rfl:=z1);obtain rfl:=Option.some.inj e;exact isn_call (T := "int") (P:=λ u'=>True) X (λ u'=>Looks.of_pure rfl) (KI.bt k cj hcj _ (.head _)) (λ q=>Value.noConfusion q) trivial (λ u'=>int_cls trivial) (fin _)
 | str x=>(refine ao hv ?_;clear hv;intro t z1;obtain rfl:=z1);obtain rfl:=Option.some.inj e;exact isn_call (T := "str") (P:=λ u'=>True) X (λ u'=>Looks.of_pure rfl) (KI.bt k cj hcj _ (.tail _ (.tail _ (.head _)))) (λ q=>Value.noConfusion q) trivial (λ u'=>str_cls trivial) (fin _)
 | tup l=>obtain ⟨a,o,xs,n,rfl,h1,h2,_⟩:=hv;obtain rfl:=Option.some.inj e;exact isn_call (T := "tuple") (P:=λ h=>∃ o,h.get? a=some o/\o.cls=.type "tuple") X (λ M=>h2▸(Looks.ld (S.get C h1)).andThen .now) (KI.bt k cj hcj _ (.tail _ (.tail _ (.tail _ (.tail _ (.tail _ (.head _))))))) (λ q=>Value.noConfusion q) ⟨o,S.get C h1,h2⟩ tuple_cls (fin _)
 | lst l=>obtain ⟨a,o,xs,n,rfl,h1,h2,_⟩:=hv;obtain rfl:=Option.some.inj e;exact isn_call (T := "list") (P:=λ h=>∃ o,h.get? a=some o/\o.cls=.type "list") X (λ M=>h2▸(Looks.ld (S.get C h1)).andThen .now) (KI.bt k cj hcj _ (.tail _ (.tail _ (.tail _ (.head _))))) (λ q=>Value.noConfusion q) ⟨o,S.get C h1,h2⟩ list_cls (fin _)
 | dct l=>obtain ⟨a,es,n,rfl,h1,_⟩:=hv;obtain rfl:=Option.some.inj e;exact isn_call (T := "dict") (P:=λ h=>∃ o,h.get? a=some o/\o.cls=.type "dict") X (λ M=>(Looks.ld (S.get C h1)).andThen .now) (KI.bt k cj hcj _ (.tail _ (.tail _ (.tail _ (.tail _ (.head _)))))) (λ q=>Value.noConfusion q) ⟨_,S.get C h1,rfl⟩ dict_cls (fin _)
 | dci l=>obtain ⟨a,es,n,rfl,h1,_⟩:=hv;obtain rfl:=Option.some.inj e;exact isn_call (T := "dict") (P:=λ h=>∃ o,h.get? a=some o/\o.cls=.type "dict") X (λ M=>(Looks.ld (S.get C h1)).andThen .now) (KI.bt k cj hcj _ (.tail _ (.tail _ (.tail _ (.tail _ (.head _)))))) (λ q=>Value.noConfusion q) ⟨_,S.get C h1,rfl⟩ dict_cls (fin _)
 | ob k fs=>exact absurd rfl (hn k fs)
 | _=>exact J e
theorem vm (KF:KC G.K) (KI:KI G.K) (C:COK G c) (S:SRp G c ρ σ Fz s.heap m mf lo Mt Tb Ce led) {kk:Nat} {fs:List (Nat×V)} {D:Mine.Internal.V} {v d:Value} {r:Bool} (hv:VR G.w.params (Hf G.kx Fz) (.ob kk fs) v) (hd:VR G.w.params (Hf G.kx Fz) D d)
 (e:c0 tb (.ob kk fs) D=some r) {Q:Value->Shared->Prop} (fin:∀ tk,Q (.bool r) { s with toks:=tk }):wpAny (model G.prog G.w) A (call (.builtin "isinstance") [v,d]) Q E s:=by
 have X:=S.kin C
 refine zW (ju C S hv (k:=kk) (fs:=fs) rfl) ?_;intro x dx es n z4 I h3 h4 z8 h6;obtain rfl:=z4
 refine ao (Option.isSome_iff_exists.mp h6) ?_;intro ci hci
 induction D using Mine.Internal.V.casesOn with
 | bi b =>
  obtain rfl:d=d5 b:=hd
  refine al (iS e) ?_;intro hb e
  refine al (yi hb) ?_;intro z0 hr;refine cu z0 ?_;clear z0;intro T e1 hT hty
  obtain rfl:=hr e
  refine rwE e1 ?_
  exact kin_callT X I (KI.ct kk ci hci T hT) hty ((KF kk ci hci).pg _) (KF kk ci hci).hd (KI.cl kk ci hci).1 KI.gt KI.tk (KI.cl kk ci hci).2 (fin _)
 | cls k =>
  refine al hd ?_;clear hd;intro z0 hk;obtain rfl:=z0
  refine ao (Option.isSome_iff_exists.mp hk) ?_;intro cj hcj
  refine au (Option.map_eq_some_iff.mp (show (tb.clss kk).map (λ ci=>ci.bases.contains k)=some r from e)) ?_;intro ci' hci' z2;obtain rfl:=z2
  obtain rfl:=Option.some.inj (hci.symm.trans hci')
  have hc:=KI.cc kk ci hci k cj hcj
  generalize ci.bases.contains k=b at hc fin
  induction b using Bool.casesOn with
  | true=>exact isi_call (t:=.ref (ca kk)) X (λ M=>I.type) hc (λ q=>Value.noConfusion q) (fin _)
  | false=>exact kin_callC X I hc ((KF kk ci hci).pg _) (KF kk ci hci).hd (KI.cl kk ci hci).1 KI.gt KI.tk (KI.cl kk ci hci).2 (fin _)
 | _=>exact J e
theorem vn (KF:KC G.K) (KI:KI G.K) (C:COK G c) (S:SR G c ρ σ Fz s) {V:V} {D:Mine.Internal.V} {v d:Value} {r:Bool} (hv:VR G.w.params (Hf G.kx Fz) V v) (hd:VR G.w.params (Hf G.kx Fz) D d)
 (e:c0 tb V D=some r) {Q:PV} (q:Q (.bool r) σ):wpAny (model G.prog G.w) A (call (.builtin "isinstance") [v,d]) (PV' G c ρ Fz Q) E s:=by
 have S0:=S
 obtain ⟨g,m,mf,lo,Mt,Tb,Ce,led,S⟩:=S
 have fin:∀ tk,PV' G c ρ Fz Q (.bool r) { s with toks:=tk }:=λ tk=>sT S0 q
 rcases yh V with ⟨kk,fs,rfl⟩ | hn
 ·exact vm KF KI C S hv hd e fin
 ·induction D using Mine.Internal.V.casesOn with
  | bi b =>
   obtain rfl:d=d5 b:=hd
   refine al (iS e) ?_;intro hb e
   exact vj C S hv hb hn e fin
  | cls k =>
   refine al hd ?_;clear hd;intro z0 hk;obtain rfl:=z0
   refine ao (Option.isSome_iff_exists.mp hk) ?_;intro cj hcj
   exact vk KI C S hcj hv hn e fin
  | _=>exact J e
end
section
variable {c:Cx} {ρ:Rho} {σ:St} {Fz:List (Addr×Obj)} {A:Around} {E:Value->Shared->Prop} {s:Shared} {h:Heap} {m mf:Str->Option Value} {lo Mt Tb Ce led:List (Addr×Obj)}
theorem jx {P:Params} {H:Hp}:∀ {l:List V} {vs:List Value} {ns:List Int},VRs P H l vs->bV l=some ns->IntsAre vs ns
 | [],_,_,h,e=>by obtain rfl:=h;obtain rfl:=Option.some.inj e;exact .nil
 | v::r,_,_,h,e=>by
  obtain ⟨x,ys,rfl,h2,h3⟩:=h
  induction v using Mine.Internal.V.casesOn with
  | int i =>
   refine ao h2 ?_;clear h2;intro t z1;obtain rfl:=z1
   refine au (Option.map_eq_some_iff.mp (show (bV r).map (i::·)=some _ from e)) ?_;intro ns h4 z2;obtain rfl:=z2
   exact .cons i t (jx h3 h4)
  | _=>exact J e
theorem om:∀ n<20,(toString ((n:Nat):Int):Str).cps.size<=10:=by decide +kernel
inductive CbR (σ:St) (Q:PV):B->List V->Prop
 | len {v:V} {l:List V} (h:bg v σ=some l) (q:Q (.int l.length) σ):CbR σ Q .len [v]
 | isi {v d:V} {r:Bool} (h:c0 tb v d=some r) (q:Q (.bool r) σ):CbR σ Q .isinstance [v,d]
 | rng1 {n:Int} (q:Q (.rng 0 n 1) σ):CbR σ Q .range [.int n]
 | rng3 {a n s:Int} (h:0<s/\s<1000) (q:Q (.rng a n s) σ):CbR σ Q .range [.int a,.int n,.int s]
 | max2 {a b:Int} (q:Q (.int (max a b)) σ):CbR σ Q .max [.int a,.int b]
 | min2 {a b:Int} (q:Q (.int (min a b)) σ):CbR σ Q .min [.int a,.int b]
 | maxl {l:List V} {ns:List Int} (h:bV l=some ns) (hn:ns≠[]) (q:∀ M,M∈ns->(∀ a∈ns,a<=M)->Q (.int M) σ):CbR σ Q .max [.lst l]
 | minl {l:List V} {ns:List Int} (h:bV l=some ns) (hn:ns≠[]) (q:∀ M,M∈ns->(∀ a∈ns,M<=a)->Q (.int M) σ):CbR σ Q .min [.lst l]
 | abs {a:Int} (q:Q (.int a.natAbs) σ):CbR σ Q .abs [.int a]
 | int {a:Int} (q:Q (.int a) σ):CbR σ Q .int [.int a]
 | str {i:Int} (h:0<=i/\i<20) (q:Q (.msg 10) σ):CbR σ Q .str [.int i]
 | tup {v:V} {l:List V} (h:bg v σ=some l) (q:Q (.tup l) σ):CbR σ Q .tuple [v]
 | dict {v:V} {l:List (Nat×V)} (h:bl v σ=some l) (hz:l.length<1000) (q:∀ a,(∀ p∈σ,p.1≠a)->Q (.loc a) ((a,.dct l)::σ)):CbR σ Q .dict [v]
@[elab_as_elim] theorem rF {P:List V->Prop} {vs:List V} {k:V->Prop} (h:eU vs k) (hk:∀ v,k v->P [v]):P vs:=bC (vs:=vs) (λ v e h=>rwE e (hk v h)) h
@[elab_as_elim] theorem Aq {P:List V->Prop} {vs:List V} {k:V->V->Prop} (h:ua vs k) (hk:∀ v w,k v w->P [v,w]):P vs:=nh (vs:=vs) (λ v w e h=>rwE e (hk v w h)) h
@[elab_as_elim] theorem mmE {P:List V->Prop} {vs:List V} {j:V->Prop} {k:V->V->Prop} (h:mmP vs j k) (hj:∀ v,j v->P [v]) (hk:∀ v w,k v w->P [v,w]):P vs:=jQ (vs:=vs) (λ v e h=>rwE e (hj v h)) (λ v w e h=>rwE e (hk v w h)) h
@[elab_as_elim] theorem rgE {P:List V->Prop} {vs:List V} {j:V->Prop} {k:V->V->V->Prop} (h:rgP vs j k) (hj:∀ v,j v->P [v]) (hk:∀ u v w,k u v w->P [u,v,w]):P vs:=rj (vs:=vs) (λ v e h=>rwE e (hj v h)) (λ u v w e h=>rwE e (hk u v w h)) h
@[elab_as_elim] theorem jy {P:V->Prop} {v:V} {k:Int->Prop} (h:cw v k) (hk:∀ i,k i->P (.int i)):P v:=aP (v:=v) (λ i e h=>rwE e (hk i h)) h
@[elab_as_elim] theorem uE {P:V->Prop} {v:V} {k:List V->Prop} (h:jP v k) (hk:∀ i,k i->P (.lst i)):P v:=hJ (v:=v) (λ i e h=>rwE e (hk i h)) h
theorem rG {α:Type} {x:Option α} {k:α->Prop} {G:Prop} (h:aW x k) (hk:∀ a,x=some a->k a->G):G:=aI hk h
theorem CbR.of {b:B} {Vs:List V} {Q:PV} (e:pu tb b Vs σ Q):CbR σ Q b Vs:=by
 induction b using B.casesOn with
 | len=>exact rF e λ v h=>rG h λ l e q=>.len e q
 | isinstance=>exact Aq e λ v c h=>rG h λ r e q=>.isi e q
 | range=>exact rgE e (λ v h=>jy h λ n q=>.rng1 q) λ u v w h=>jy h λ a h=>jy h λ n h=>jy h λ s h=>.rng3 h.1 h.2
 | max=>exact mmE e (λ v h=>uE h λ l h=>rG h λ ns e h=>.maxl e h.1 h.2) λ v w h=>jy h λ a h=>jy h λ b h=>.max2 h
 | min=>exact mmE e (λ v h=>uE h λ l h=>rG h λ ns e h=>.minl e h.1 h.2) λ v w h=>jy h λ a h=>jy h λ b h=>.min2 h
 | abs=>exact rF e λ v h=>jy h λ a h=>.abs h
 | int=>exact rF e λ v h=>jy h λ a h=>.int h
 | str=>exact rF e λ v h=>jy h λ a h=>.str h.1 h.2
 | tuple=>exact rF e λ v h=>rG h λ l e q=>.tup e q
 | dict=>exact rF e λ v h=>rG h λ l e q=>.dict e q.1 q.2
 | list=>exact e.elim
 | bool=>exact e.elim
theorem qf (C:COK G c) (S:SRp G c ρ σ Fz h m mf lo Mt Tb Ce led) {v:V} {l:List V} {x:Value} {a:Addr} {ws:List Value} (hx:VR G.w.params (Hf G.kx Fz) v x) (hl:bg v σ=some l) (ex:x=.ref a) (ha:h.IsTuple a ws.toArray):VR G.w.params (Hf G.kx Fz) (.tup l) x:=by
 have no:∀ {o:Obj},h.get? a=some o->o.cls=.type "list" -> False:=λ h1 h2=>by
  refine cu ha ?_;clear ha;intro o ho hc z3
  rw [h1] at ho
  obtain rfl:=Option.some.inj ho
  rw [h2] at hc
  exact absurd hc (by decide)
 subst ex
 induction v using Mine.Internal.V.casesOn with
 | tup l'=>obtain rfl:=Option.some.inj hl;exact hx
 | lst l' =>
  obtain ⟨a',o',xs,n,ea,h1,h2,_⟩:=hx
  obtain rfl:=Value.ref.inj ea
  exact (no (S.get C h1) h2).elim
 | loc a' =>
  obtain rfl:=Value.ref.inj (show Value.ref a=.ref a' from hx)
  have hl:(match look a σ with | some (.lst l)=>some l | _=>none)=some l:=hl
  generalize hk:look a σ=mm at hl
  induction mm using Option.casesOn with
  | none=>exact J hl
  | some mm =>
   induction mm using Mine.Internal.M.casesOn with
   | lst l' =>
    obtain ⟨pre,f,post,e1,⟨xs,n,e2,h2,h3⟩,_,_⟩:=S.mt.look hk
    subst e2
    exact (no (S.getM (by refine rwE e1 ?_;exact List.mem_append_right _ (.head _))) rfl).elim
   | _=>exact J hl
 | _=>exact J hl
theorem qg (KF:KC G.K) (KI:KI G.K) (C:COK G c) (hh:A.handled=none) (S:SR G c ρ σ Fz s) {b:B} {Vs:List V} {vs:List Value} (hv:VRs G.w.params (Hf G.kx Fz) Vs vs) {Q:PV} (e:pu tb b Vs σ Q) :
 wpAny (model G.prog G.w) A (call (d5 b) vs) (PV' G c ρ Fz Q) E s:=by
 have S0:=S
 obtain ⟨g,m,mf,lo,Mt,Tb,Ce,led,S⟩:=S
 replace e:=CbR.of e
 induction e with
 | @len v l hl e =>
  refine au (hv.one_inv) ?_;intro x z1 hx;obtain rfl:=z1
  refine dn (mQ C S hx hl) ?_;intro a ws z2 ha r z;obtain rfl:=z2
  have fin:∀ {t tk},PV' G c ρ Fz Q (.int (ws.toArray.size:Int) t) { s with toks:=tk }:=by
   intro t tk
   refine rwE List.size_toArray ?_;refine rwE r.len ?_
   exact cK S0 e
  rcases ha with ha | ha
  ·exact PyProof.Rows.len_tuple ha (by refine rwE List.size_toArray ?_;lia) fin
  ·exact PyProof.Rows.len_list ha (by refine rwE List.size_toArray ?_;lia) fin
 | isi hr e =>
  refine gz (hv.two_inv) ?_;intro x y z2 hx hy;obtain rfl:=z2
  exact vn KF KI C S0 hx hy hr e
 | @rng1 n e =>
  refine ao (hv.one_inv) ?_;intro x zz;refine al zz ?_;clear zz;intro z0 zz;obtain rfl:=z0;(refine ao zz ?_;clear zz;intro t z1;obtain rfl:=z1)
  refine call_range_1 ⟨.rng 0 n 1,σ,(s.heap.objs.size,mP 0 n 1 s.toks t (s.toks+1))::Fz,λ u' h=>.tail _ h,⟨_,_,_,_,rfl,.inr (.head _)⟩,?_,e⟩
  exact jZ S0 (λ b o e=>Heap.get?_push_of_some _ e) (Heap.get?_push_size _ rfl) (aM _ (Nat.le_refl _))
 | @rng3 a n st h e =>
  refine eT (hv.three_inv) ?_;intro x y z z3 z4 z5 z6;obtain rfl:=z3;(refine ao z4 ?_;clear z4;intro t z1;obtain rfl:=z1);(refine ao z5 ?_;clear z5;intro u z1;obtain rfl:=z1);(refine ao z6 ?_;clear z6;intro w z1;obtain rfl:=z1)
  refine call_range_3 (by lia) ⟨.rng a n st,σ,(s.heap.objs.size,mP a n st t u w)::Fz,λ u' h=>.tail _ h,⟨_,_,_,_,rfl,.inr (.head _)⟩,?_,e⟩ (.inl (PyProof.noPylong_small (by lia)))
  exact jZ S0 (tk:=s.toks) (λ b o e=>Heap.get?_push_of_some _ e) (Heap.get?_push_size _ rfl) (aM _ (Nat.le_refl _))
 | @max2 a b e =>
  refine gz (hv.two_inv) ?_;intro x y z2 z3 z4;obtain rfl:=z2;(refine ao z3 ?_;clear z3;intro t z1;obtain rfl:=z1);(refine ao z4 ?_;clear z4;intro u z1;obtain rfl:=z1)
  refine max_two_N hh S.F S.N λ h' tk F' N'=>?_
  have:(if b>a then b else a)=max a b:=by refine rwE (Int.max_def ..) ?_;split<;>split<;>lia
  refine rwE this ?_
  exact ⟨.int (max a b),σ,Fz,sub.refl,⟨_,rfl⟩,⟨g,m,mf,lo,Mt,Tb,Ce,led,S.up' F' N'⟩,e⟩
 | @min2 a b e =>
  refine gz (hv.two_inv) ?_;intro x y z2 z3 z4;obtain rfl:=z2;(refine ao z3 ?_;clear z3;intro t z1;obtain rfl:=z1);(refine ao z4 ?_;clear z4;intro u z1;obtain rfl:=z1)
  refine min_two_N hh S.F S.N λ h' tk F' N'=>?_
  have:(if b<a then b else a)=min a b:=by refine rwE (Int.min_def ..) ?_;split<;>split<;>lia
  refine rwE this ?_
  exact ⟨.int (min a b),σ,Fz,sub.refl,⟨_,rfl⟩,⟨g,m,mf,lo,Mt,Tb,Ce,led,S.up' F' N'⟩,e⟩
 | @maxl l ns hns hn e =>
  refine au (hv.one_inv) ?_;intro x z1 hx;obtain rfl:=z1
  refine dn (c7 C S hx) ?_;intro a ws z2 ha r z;obtain rfl:=z2
  exact max_list_N hh S.F S.N ha (jx r hns) (List.length_pos_iff.mpr hn) λ h' M t tk F' N' h1 h2=>⟨.int M,σ,Fz,sub.refl,⟨_,rfl⟩,⟨g,m,mf,lo,Mt,Tb,Ce,led,S.up' F' N'⟩,e M h1 h2⟩
 | @minl l ns hns hn e =>
  refine au (hv.one_inv) ?_;intro x z1 hx;obtain rfl:=z1
  refine dn (c7 C S hx) ?_;intro a ws z2 ha r z;obtain rfl:=z2
  exact min_list_N hh S.F S.N ha (jx r hns) (List.length_pos_iff.mpr hn) λ h' M t tk F' N' h1 h2=>⟨.int M,σ,Fz,sub.refl,⟨_,rfl⟩,⟨g,m,mf,lo,Mt,Tb,Ce,led,S.up' F' N'⟩,e M h1 h2⟩
 | @abs a e =>
  refine ao (hv.one_inv) ?_;intro x zz;refine al zz ?_;clear zz;intro z0 zz;obtain rfl:=z0;(refine ao zz ?_;clear zz;intro t z1;obtain rfl:=z1)
  refine call_abs_int λ u tk=>?_
  have:(if a<0 then -a else a)=(a.natAbs:Int):=by split<;>lia
  refine rwE this ?_
  exact cK S0 e
 | int e =>
  refine ao (hv.one_inv) ?_;intro x zz;refine al zz ?_;clear zz;intro z0 zz;obtain rfl:=z0;(refine ao zz ?_;clear zz;intro t z1;obtain rfl:=z1)
  exact call_int_int (cK S0 (tk:=s.toks) e)
 | @str i h e =>
  refine ao (hv.one_inv) ?_;intro x zz;refine al zz ?_;clear zz;intro z0 zz;obtain rfl:=z0;(refine ao zz ?_;clear zz;intro t z1;obtain rfl:=z1)
  obtain ⟨n,rfl⟩:∃ n:Nat,i=(n:Int):=⟨i.toNat,by lia⟩
  have hn:n<20:=by lia
  refine PySem.P.str_of_int (by
   show Nat.log2 n<1920
   by_cases h0:n=0
   ·subst h0;decide
   ·have:=(Nat.log2_lt h0 (k:=5)).mpr (by lia)
    lia) ⟨.msg 10,σ,Fz,sub.refl,⟨_,_,rfl,om n hn⟩,S0,e⟩
 | @tup v l hl e =>
  refine au (hv.one_inv) ?_;intro x z1 hx;obtain rfl:=z1
  refine dn (mQ C S hx hl) ?_;intro a ws ex ha r z
  rcases ha with ha | ha
  ·have hx':=qf C S hx hl ex ha
   subst ex
   exact call_tuple_tup ha ⟨.tup l,σ,Fz,sub.refl,hx',S0,e⟩
  ·subst ex
   refine call_tuple_list ha (λ h' k=>?_) (aK (by refine rwE List.size_toArray ?_;lia))
   have k2:∀ b o,s.heap.get? b=some o->(h'.push { cls:=.type "tuple",data:=.seq ws.toArray }).get? b=some o:=λ b o e=>Heap.get?_push_of_some _ (k b o e)
   refine ⟨.tup l,σ,(h'.objs.size,({ cls:=.type "tuple",data:=.seq ws.toArray }:Obj))::Fz,λ u' h=>.tail _ h,⟨_,_,_,_,rfl,.inr (.head _),rfl,rfl,r.mono (Hf.mono λ u' h=>.tail _ h),by refine rwB r.len ?_;exact z⟩,?_,e⟩
   refine jZ S0 (tk:=s.toks) k2 (Heap.get?_push_size _ rfl) ?_
   generalize q:s.heap.get? h'.objs.size=y
   induction y using Option.casesOn with
   | none=>rfl
   | some o=>exact absurd (Heap.lt_size (k _ _ q)) (Nat.lt_irrefl _)
 | @dict v l hl hz e =>
  refine au (hv.one_inv) ?_;intro x z1 hx;obtain rfl:=z1
  refine pK (jY C S hx hl) ?_;intro a es n z3 h1 h2 h3 h4 h5;obtain rfl:=z3
  refine au (h2.d2 (prog:=G.prog)) ?_;intro kvs hp hd
  have hD:s.heap.DictOf (PySem.strKind G.prog G.w) a kvs:=⟨_,es.toArray,n,h1,⟨rfl,rfl,rfl⟩,rfl,λ e he=>h2.keys e (Array.mem_toList_iff.mpr he),hp,by refine rwE hd.keys ?_;exact fm h3⟩
  have hl:kvs.length=l.length:=by have:=congrArg List.length hd.keys;simpa using this
  refine kt_call_dict h5 hD (aK (by lia)) λ h' hD' hs=>?_
  refine gz (dv hD') ?_;intro es' n' ho' hp' hk'
  have r':=VRd.of_pairs hd hp' hk'
  have k:∀ b o,s.heap.get? b=some o->h'.get? b=some o:=λ b o e=>hs.extBut b o (Nat.ne_of_lt (Heap.lt_size e)) (Heap.get?_push_of_some _ e)
  have S':=S.nw (a:=s.heap.objs.size) (f:=[(s.heap.objs.size,dictOf es' n')]) (mm:=.dct l) k (λ p hp=>by
   refine rwE (List.mem_singleton.mp hp) ?_;exact ⟨ho',aM _ (Nat.le_refl _)⟩) (by simp) ⟨es',n',rfl,r',h3,h4,S.F.notModules (modules_low C.T.nolimit)⟩
  exact ⟨.loc s.heap.objs.size,_,Fz,sub.refl,rfl,⟨g,m,mf,lo,_,Tb,Ce,_,S'⟩,e _ S.fresh⟩
end
noncomputable def KG (K:Frag) (P:Params):Prop:=∀ x v,tb.glob x=some v ->
 (∃ val,nsIn K mainGlobals (nm x)=some (some val)/\∀ x0 Fz,VR P (Hf (K,x0) Fz) v val) \/
 (∃ b,v=.bi b/\nsIn K mainGlobals (nm x)=some none/\bootBuiltins (nm x)=some (d5 b)/\nm x≠("__name__":Str))
section
variable {c:Cx} {ρ:Rho} {σ:St} {Fz:List (Addr×Obj)} {A:Around} {E:Value->Shared->Prop} {s:Shared} {h:Heap} {m mf:Str->Option Value} {lo Mt Tb Ce led:List (Addr×Obj)}
theorem SRp.ns (C:COK G c) (S:SRp G c ρ σ Fz h m mf lo Mt Tb Ce led):h.Ns c.env.locals m:=by
 have:=S.loc
 unfold jt at this
 induction hm:c.mF using Option.casesOn with
 | none=>rw [hm] at this;(refine al this ?_;clear this;intro z0 z1;obtain rfl:=z0;obtain rfl:=z1);refine rwE (C.loc hm) ?_;exact S.F.ns
 | some m0 =>
  rw [hm] at this
  refine al this ?_;clear this;intro z0 zz;obtain rfl:=z0;refine eT zz ?_;clear zz;intro oC es ep z3 h1 h2 h3;obtain rfl:=z3
  exact ⟨oC,es,ep,S.N.get (S.pm.mem_iff.mpr (by simp)),h1,h2,h3⟩
theorem sU (C:COK G c) (S:SR G c ρ σ Fz s) {x:Nat} {V:V} {id:Str} {pos:Pos} (hid:id=nm x) (hd:(id==("__debug__":Str))=false) (hn:(id==("__classdict__":Str))=false)
 (hk:c.env.kindOf id=some .local\/c.env.kindOf id=some .cell\/c.env.kindOf id=some .free) (e:ρ x=some V) {Q:PV} (q:Q V σ) :
 wpAny (model G.prog G.w) A (PySem.eval (.Name id pos) c.env) (PV' G c ρ Fz Q) E s:=by
 have S0:=S
 obtain ⟨g,m,mf,lo,Mt,Tb,Ce,led,S⟩:=S
 subst hid
 have er:=S.er x V e
 rcases hk with hk | hk | hk
 ·rw [hk] at er
  refine au er ?_;clear er;intro v h1 h2
  exact wpAny_Name (wpAny_loadName_local C.ek hk (S.ns C) h1 ⟨V,σ,Fz,sub.refl,h2,S0,q⟩) hd
 ·rw [hk] at er
  refine eT er ?_;clear er;intro a o v h1 h2 h3 h4
  exact wpAny_Name (wpAny_loadName_cell C.ek hk h1 ⟨o,S.get C h2,h3⟩ ⟨V,σ,Fz,sub.refl,h4,S0,q⟩) hd
 ·rw [hk] at er
  refine eT er ?_;clear er;intro a o v h1 h2 h3 h4
  exact wpAny_Name (wpAny_loadName_free C.ek hk h1 ⟨o,S.get C h2,h3⟩ ⟨V,σ,Fz,sub.refl,h4,S0,q⟩ hn) hd
theorem sV (KG:KG G.K G.w.params) (C:COK G c) (S:SR G c ρ σ Fz s) {x:Nat} {V:V} {id:Str} {pos:Pos} (hid:id=nm x) (hd:(id==("__debug__":Str))=false)
 (hk:c.env.kindOf id=some .globalImplicit) (e:tb.glob x=some V) {Q:PV} (q:Q V σ):wpAny (model G.prog G.w) A (PySem.eval (.Name id pos) c.env) (PV' G c ρ Fz Q) E s:=by
 have S0:=S
 obtain ⟨g,m,mf,lo,Mt,Tb,Ce,led,S⟩:=S
 subst hid
 rcases KG x V e with ⟨val,h1,h2⟩ | ⟨b,rfl,h1,h2,h3⟩
 ·exact Name_function_global C.ek hk (loadGlobal_global (env:=c.env) (by refine rwE C.eg ?_;exact C.T.g.keeps S.F.keep) (mg_of C.X C.T.g h1) ⟨V,σ,Fz,sub.refl,h2 _ _,S0,q⟩) hd
 ·exact Name_function_global C.ek hk (loadGlobal_builtin (env:=c.env) (by refine rwE C.eg ?_;exact C.T.g.keeps S.F.keep) (mg_none_of C.X C.T.g h1) (by refine rwE C.eb ?_;exact C.T.b.keeps S.F.keep) ((C.T.builtins _ h3).trans h2) ⟨.bi b,σ,Fz,sub.refl,rfl,S0,q⟩) hd
theorem ER.set {P:Params} {H:Hp} {env:Env} {m:Str->Option Value} {ρ:Rho} {n:Nat} {V:V} {v:Value} (er:ER P H env m ρ) (hk:env.kindOf (nm n)=some .local) (hv:VR P H V v):ER P H env (λ y=>if y=nm n then some v else m y) (upd n V ρ):=by
 intro x W hx
 delta upd at hx
 by_cases q:x=n
 ·subst q
  rw [if_pos rfl] at hx
  cases hx
  refine rwE hk ?_
  exact ⟨v,if_pos rfl,hv⟩
 ·rw [if_neg q] at hx
  have:=er x W hx
  induction e:env.kindOf (nm x) using Option.casesOn with
  | none=>trivial
  | some kd =>
   rw [e] at this
   induction kd using PySem.NameKind.casesOn with
   | «local»=>(refine au this ?_;clear this;intro v' h1 h2);exact ⟨v',by show (if nm x=nm n then _ else _)=_;refine rwE (if_neg λ e=>q (bI e)) ?_;exact h1,h2⟩
   | cell=>exact this
   | free=>exact this
   | _=>trivial
theorem CeR.set {c:Cx} {ρ:Rho} {Ce:List (Addr×Obj)} {n:Nat} {V:V} (h:CeR c ρ Ce):CeR c (upd n V ρ) Ce:=by
 refine ⟨h.1,λ hm x hx hk=>h.2 hm x ?_ hk⟩
 by_cases q:x=n
 ·exact J ((if_pos q).symm.trans hx).symm
 ·exact (if_neg q).symm.trans hx
theorem vo {env:Env} (hk:env.scope.kind=.function):(env.scope.kind==.class||(env.scope.kind==.module&&env.locals != env.globals))=false:=by refine rwE hk ?_;rfl
theorem ib (C:COK G c) (S:SR G c ρ σ Fz s) {n:Nat} {V:V} {v:Value} (hk:c.env.kindOf (nm n)=some .local) (hv:VR G.w.params (Hf G.kx Fz) V v) {Q:Unit->Shared->Prop} (q:∀ s',SR G c (upd n V ρ) σ Fz s'->Q () s') :
 wpAny (model G.prog G.w) A (storeName c.env (nm n) v) Q E s:=by
 obtain ⟨g,m,mf,lo,Mt,Tb,Ce,led,S⟩:=S
 refine wpAny_storeName_local hk (S.ns C) (λ h' hn hs=>q _ ?_) (vo C.ek)
 have hl:=S.loc
 unfold jt at hl
 induction hm:c.mF using Option.casesOn with
 | none =>
  rw [hm] at hl
  refine al hl ?_;clear hl;intro z0 z1;obtain rfl:=z0;obtain rfl:=z1
  rw [C.loc hm] at hn hs
  refine ⟨g,_,_,[],Mt,Tb,Ce,led,S.F.set hn hs,S.N.set hs,S.nd,S.pm,?_,S.mt,S.tbr,S.er.set hk hv,S.ce.set,S.fk⟩
  delta jt;refine rwE hm ?_;exact ⟨rfl,rfl⟩
 | some m0 =>
  rw [hm] at hl
  refine al hl ?_;clear hl;intro z0 zz;obtain rfl:=z0;refine eT zz ?_;clear zz;intro oC es ep z3 h1 h2 h3;obtain rfl:=z3
  refine eT hn ?_;clear hn;intro o' es' ep' ho' hd' hk' hf'
  have pm:led.Perm ([]++(c.env.locals,oC)::(Mt++(Tb++(Ce++(c.Ex++Fz))))):=S.pm
  have N:News c.g c.L s.heap ([]++(c.env.locals,oC)::(Mt++(Tb++(Ce++(c.Ex++Fz))))):=λ p hp=>S.N p (pm.mem_iff.mpr hp)
  have nd:=(pm.map (λ x=>x.1)).nodup_iff.mp S.nd
  refine al (fj S.F N nd hs ho') ?_;intro F' N'
  refine ⟨g,_,_,[(c.env.locals,o')],Mt,Tb,Ce,_,F',N',?_,List.Perm.refl _,?_,S.mt,S.tbr,S.er.set hk hv,S.ce.set,S.fk⟩
  ·simpa using nd
  ·delta jt;refine rwE hm ?_;exact ⟨rfl,o',es',ep',rfl,hd',hk',hf'⟩
theorem sW (C:COK G c) (hm:c.mF=none) (S:SR G c ρ σ Fz s) {n:Nat} {V:V} {v:Value} (hk:c.env.kindOf (nm n)=some .cell) (hn:ρ n=none) (hv:VR G.w.params (Hf G.kx Fz) V v) {Q:Unit->Shared->Prop}
 (q:∀ s' Fz',sub Fz Fz'->SR G c (upd n V ρ) σ Fz' s'->Q () s'):wpAny (model G.prog G.w) A (storeName c.env (nm n) v) Q E s:=by
 obtain ⟨g,m,mf,lo,Mt,Tb,Ce,led,S⟩:=S
 refine gz (S.ce.2 hm n hn hk) ?_;intro a o ha hmem hdt
 refine pI (List.append_of_mem hmem) ?_;intro pre post z2;obtain rfl:=z2
 have pm:led.Perm ((lo++(Mt++(Tb++pre)))++(a,o)::(post++(c.Ex++Fz))):=by
  refine S.pm.trans (List.Perm.of_eq ?_)
  simp
 have N:News c.g c.L s.heap ((lo++(Mt++(Tb++pre)))++(a,o)::(post++(c.Ex++Fz))):=λ p hp=>S.N p (pm.mem_iff.mpr hp)
 have nd:=(pm.map (λ x=>x.1)).nodup_iff.mp S.nd
 refine wpAny_storeName_cell C.ek hk ha ⟨o,S.N.get (pm.mem_iff.mpr (by simp)),hdt⟩ λ h' ho' hs=>?_
 refine au ho' ?_;clear ho';intro o' ho' hd'
 refine al (fj S.F N nd hs ho') ?_;intro F' N'
 have k:∀ a' b,Hf G.kx Fz a' b->Hf G.kx ((a,o')::Fz) a' b:=Hf.mono λ u' h=>.tail _ h
 have loc:jt c m mf lo:=S.loc
 have lo0:m=mf/\lo=[]:=by delta jt at loc;rw [hm] at loc;exact loc
 refine q _ ((a,o')::Fz) (λ u' h=>.tail _ h) ⟨g,m,mf,lo,Mt,Tb,pre++post,_,F',N',?_,?_,S.loc,S.mt.mono k,S.tbr.mono k,?_,⟨λ h=>absurd h (by refine rwE hm ?_;simp),λ u' x hx hkx=>?_⟩,S.fk.cons⟩
 ·have:((lo++(Mt++(Tb++pre)))++(a,o')::(post++(c.Ex++Fz))).map (λ x=>x.1)=((lo++(Mt++(Tb++pre)))++(a,o)::(post++(c.Ex++Fz))).map (λ x=>x.1):=by simp
  refine rwE this ?_;exact nd
 ·classical
  refine ar λ x=>?_
  simp only [List.count_append,List.count_cons]
  lia
 ·intro x W hx
  delta upd at hx
  by_cases e:x=n
  ·subst e
   rw [if_pos rfl] at hx
   cases hx
   refine rwE hk ?_
   exact ⟨a,o',v,ha,.inr (.head _),hd',hv.mono k⟩
  ·rw [if_neg e] at hx
   exact (S.er.mono k) x W hx
 ·unfold upd at hx
  by_cases e:x=n
  ·rw [if_pos e] at hx;cases hx
  ·rw [if_neg e] at hx
   refine gz (S.ce.2 hm x hx hkx) ?_;intro a2 o2 h1 h2 h3
   refine ⟨a2,o2,h1,?_,h3⟩
   rcases List.mem_append.mp h2 with h2 | h2
   ·exact List.mem_append_left _ h2
   ·rcases List.mem_cons.mp h2 with h2 | h2
    ·exfalso
     cases h2
     have inj:∀ {l:List (Str×Addr)} {x y:Str} {a:Addr},(l.map (λ x=>x.2)).Nodup->(x,a)∈l->(y,a)∈l->x=y:=by
      intro l
      induction l with
      | nil=>exact λ _ h=>nomatch h
      | cons p r ih =>
       intro x y a hn h1 h2
       have hn:=List.nodup_cons.mp hn
       rcases List.mem_cons.mp h1 with rfl | m1
       ·rcases List.mem_cons.mp h2 with e | m2
        ·exact congrArg Prod.fst e.symm
        ·exact (hn.1 (List.mem_map_of_mem (f:=λ x=>x.2) m2)).elim
       ·rcases List.mem_cons.mp h2 with rfl | m2
        ·exact (hn.1 (List.mem_map_of_mem (f:=λ x=>x.2) m1)).elim
        ·exact ih hn.2 m1 m2
     exact e (bI (inj (C.cells hm ⟨_,hk⟩) (aq h1) (aq ha)))
    ·exact List.mem_append_right _ h2
end
inductive Fly (B:Heap) (l:List Env) (L a:Addr) (h:Heap):Prop
 | fresh {oe vs a0}:B.StaysIn h->B.get? a=none->h.FunFrames B l->h.get? a=some oe->oe.cls=.ref pfA->oe.data=.fields vs->vs[0]?=some a0->vs[1]?=some .none->Fly B l L a h
 | fly {a0}:Heap.FlyingW B l a (.ref pfA) a0 h->Fly B l L a h
 | held {a0}:Heap.HeldW B l a (.ref pfA) a0 L h->Fly B l L a h
structure jz (G:Gl) (c:Cx) (ρ:Rho) (σ:St) (Fz:List (Addr×Obj)) (a:Addr) (h h₁ B:Heap) (m mf:Str->Option Value) (lo Mt Tb Ce led:List (Addr×Obj)):Prop where
 F:Fr c.g c.L h₁ mf
 up:h₁.UpToSlots h
 base:c.base.StaysIn B
 hl:∀ q∈led,B.get? q.1=some q.2/\c.base.get? q.1=none
 nd:(led.map (λ x=>x.1)).Nodup
 pm:led.Perm (lo++(Mt++(Tb++(Ce++(c.Ex++Fz)))))
 loc:jt c m mf lo
 mt:MtR G.w.params (Hf G.kx Fz) σ Mt
 tbr:TbR G (Hf G.kx Fz) Tb
 er:ER G.w.params (Hf G.kx Fz) c.env m ρ
 ce:CeR c ρ Ce
 fk:sub c.Fk Fz
 fl:Fly B (c.fenv::c.outer) c.L a h
inductive zF (G:Gl) (c:Cx) (ρ:Rho) (σ:St) (Fz:List (Addr×Obj)) (a:Addr) (gs:Array GenState) (os:OsState) (h:Heap):Prop
 | mk (g:gs=#[]/\os=G.os) (h₁:Heap) (B:Heap) (m mf:Str->Option Value) (lo Mt Tb Ce led:List (Addr×Obj)) (S:jz G c ρ σ Fz a h h₁ B m mf lo Mt Tb Ce led)
noncomputable def XIn (G:Gl) (c:Cx) (ρ:Rho) (σ:St) (Fz:List (Addr×Obj)) (a:Addr) (s:Shared):Prop:=zF G c ρ σ Fz a s.gens s.os s.heap
inductive PX0 (G:Gl) (c:Cx) (ρ:Rho) (X:PX) (e:Value) (gs:Array GenState) (os:OsState) (h:Heap):Prop
 | mk (a:Addr) (σ:St) (Fz:List (Addr×Obj)) (e0:e=.ref a) (S:zF G c ρ σ Fz a gs os h) (q:X σ)
noncomputable def PX' (G:Gl) (c:Cx) (ρ:Rho) (X:PX) (e:Value) (s:Shared):Prop:=PX0 G c ρ X e s.gens s.os s.heap
structure KOK (G:Gl):Prop where
 c:KC G.K
 i:KI G.K
 g:KG G.K G.w.params
 kp:∀ k,(tb.fns k).isSome=true->k<79->keepIn G.K (.ref (fa k))=true
 m:∀ c ci,tb.clss c=some ci->∀ m k,ci.meths.lookup m=some k->(tb.fns k).isSome=true/\k<79
 kc:∀ k,(tb.clss k).isSome=true->keepIn G.K (.ref (ca k))=true
noncomputable def FV (G:Gl) (Fz:List (Addr×Obj)) (k:Nat) (cap:List (Nat×V)) (fv:Value):Prop:=(fv=.ref (fa k)/\cap=[]/\(tb.fns k).isSome=true/\k<79)\/VR G.w.params (Hf G.kx Fz) (.clo k cap) fv
noncomputable def c8 (G:Gl) (call:ah) (n:Nat):Prop:=∀ (c:Cx) (A:Around) (ρ:Rho) (σ:St) (Fz:List (Addr×Obj)) (s:Shared) (k:Nat) (cap:List (Nat×V)) (Vs:List V) (vs:List Value) (fv:Value) (Q:PV) (X:PX) (E:Value->Shared->Prop),
 COK G c->AOK c A n->SR G c ρ σ Fz s->FV G Fz k cap fv->VRs G.w.params (Hf G.kx Fz) Vs vs->(∀ e s',PX' G c ρ X e s'->E e s')->call k cap Vs σ Q X ->
 wpAny (model G.prog G.w) A (PySem.call fv vs) (PV' G c ρ Fz Q) E s
noncomputable def gn (G:Gl) (call:ah) (n:Nat):Prop:=∀ (c:Cx) (A:Around) (ρ:Rho) (σ:St) (Fz:List (Addr×Obj)) (s:Shared) (k:Nat) (Vs:List V) (vs:List Value) (Q:PV) (E:Value->Shared->Prop),
 COK G c->AOK c A n->SR G c ρ σ Fz s->VRs G.w.params (Hf G.kx Fz) Vs vs->bO tb call k Vs σ Q ->
 wpAny (model G.prog G.w) A (PySem.call (.ref (ca k)) vs) (PV' G c ρ Fz Q) E s
noncomputable def j4 (G:Gl):Prop:=∀ (c:Cx) (A:Around) (ρ:Rho) (σ:St) (Fz:List (Addr×Obj)) (s:Shared) (k:Nat) (cap:List Nat) (capV:List (Nat×V)) (args:Arguments) (body:PySem.Expr) (scope:Scope) (pos:Pos) (Q:PV) (E:Value->Shared->Prop),
 COK G c->SR G c ρ σ Fz s->aE (b9 G c.env) c.env.scope.names (.lam k cap) (.Lambda args body scope pos)=true->fg ρ cap=some capV->Q (.clo k capV) σ ->
 wpAny (model G.prog G.w) A (PySem.eval (.Lambda args body scope pos) c.env) (PV' G c ρ Fz Q) E s
section
variable {c:Cx} {ρ:Rho} {σ:St} {Fz:List (Addr×Obj)} {A:Around} {E:Value->Shared->Prop} {s:Shared} {h:Heap} {m mf:Str->Option Value} {lo Mt Tb Ce led:List (Addr×Obj)}
theorem oo (S:SR G c ρ σ Fz s) {Vs:List V} {vs:List Value} (hv:VRs G.w.params (Hf G.kx Fz) Vs vs) (hz:Vs.length<=100000) {Q:PV} (q:Q (.tup Vs) σ):wpAny (model G.prog G.w) A (newTuple vs) (PV' G c ρ Fz Q) E s:=by
 obtain ⟨g,m,mf,lo,Mt,Tb,Ce,led,S⟩:=S
 refine newTuple_N S.F S.N (λ h' F' N'=>?_) (aK (by refine rwE hv.len ?_;lia))
 refine ⟨.tup Vs,σ,(s.heap.objs.size,({ cls:=.type "tuple",data:=.seq vs.toArray }:Obj))::Fz,λ u' h=>.tail _ h,⟨_,_,_,_,rfl,.inr (.head _),rfl,rfl,by simpa using hv.mono (Hf.mono λ u' h=>.tail _ h),hz⟩,?_,q⟩
 exact ⟨g,m,mf,lo,Mt,Tb,Ce,_,S.fzN F' N' (Nat.le_refl _)⟩
theorem oq (S:SR G c ρ σ Fz s) {Vs:List V} {vs:List Value} (hv:VRs G.w.params (Hf G.kx Fz) Vs vs) (hz:Vs.length<=100000) {Q:PV} (q:Q (.lst Vs) σ):wpAny (model G.prog G.w) A (newList vs) (PV' G c ρ Fz Q) E s:=by
 obtain ⟨g,m,mf,lo,Mt,Tb,Ce,led,S⟩:=S
 refine newList_N S.F S.N (λ h' F' N'=>?_) (aK (by refine rwE hv.len ?_;lia))
 refine ⟨.lst Vs,σ,(s.heap.objs.size,({ cls:=.type "list",data:=.seq vs.toArray }:Obj))::Fz,λ u' h=>.tail _ h,⟨_,_,_,_,rfl,.inr (.head _),rfl,rfl,by simpa using hv.mono (Hf.mono λ u' h=>.tail _ h),hz⟩,?_,q⟩
 exact ⟨g,m,mf,lo,Mt,Tb,Ce,_,S.fzN F' N' (Nat.le_refl _)⟩
theorem ou (S:SR G c ρ σ Fz s) {Vs:List V} {vs:List Value} (hv:VRs G.w.params (Hf G.kx Fz) Vs vs) (hz:Vs.length<=100000) {Q:PV} (q:∀ a,(∀ p∈σ,p.1≠a)->Q (.loc a) ((a,.lst Vs)::σ)):wpAny (model G.prog G.w) A (newList vs) (PV' G c ρ Fz Q) E s:=by
 obtain ⟨g,m,mf,lo,Mt,Tb,Ce,led,S⟩:=S
 refine wpAny_newObj_type ?_ (by show vs.toArray.size<=sizeLine;refine rwE List.size_toArray ?_;exact aK (by refine rwE hv.len ?_;lia))
 have S':=S.nw (a:=s.heap.objs.size) (f:=[(s.heap.objs.size,listOf vs.toArray 0)]) (mm:=.lst Vs) (h':=s.heap.push (listOf vs.toArray 0)) (λ b o e=>Heap.get?_push_of_some _ e) (λ p hp=>by
  refine rwE (List.mem_singleton.mp hp) ?_;exact ⟨Heap.get?_push_size _ rfl,aM _ (Nat.le_refl _)⟩) (by simp) ⟨vs.toArray,0,rfl,by simpa using hv,hz⟩
 exact ⟨.loc s.heap.objs.size,_,Fz,sub.refl,rfl,⟨g,m,mf,lo,_,Tb,Ce,_,S'⟩,q _ S.fresh⟩
end
section
variable {M:Model} {A:Around} {E:Value->Shared->Prop} {s:Shared}
theorem jA {o:PySem.Expr} {attr:Str} {env:Env} {t:Sem Value} {Q:Value->Shared->Prop} (hb:mJ o=true) (h:wpAny M A t Q E s):wpAny M A (attributeBase o attr env t) Q E s:=by
 induction o using PySem.Expr.casesOn with
 | Call f as ks p =>
  induction as using List.casesOn with
  | nil =>
   refine iN (P:=λ f=>wpAny M A (attributeBase (.Call f [] ks p) attr env t) Q E s) (f:=λ id _=>!(id==("super":Str))) hb λ id q hc=>?_
   induction ks using List.casesOn with
   | cons _ _=>exact h
   | nil =>
    delta attributeBase
    have this:(id != ("super":Str))=true:=hc
    dsimp only
    rw [this,Bool.true_or,Bool.true_or,Bool.true_or]
    refine rwE (if_pos rfl) ?_
    exact h
  | cons _ _=>induction f using PySem.Expr.casesOn with | _=>exact h
 | _=>exact h
theorem uF {e:PySem.Expr} {r:List PySem.Expr} {env:Env} (h:av e=true):starEach (e::r) env=(false,PySem.eval e env)::starEach r env:=by
 induction e using PySem.Expr.casesOn with
 | Starred _ _=>exact ad h
 | _=>rfl
theorem cy:∀ {es:List PySem.Expr} {env:Env} {pos:Pos},(es.all av)=true->(backTo pos (starEach es env)).any (λ x=>x.1)=false
 | [],_,_,_=>rfl
 | e::r,env,pos,h=>b2 h λ h h2=>rwE (uF h) (cy (es:=r) (env:=env) (pos:=pos) h2)
theorem cV {e:PySem.Expr} {r:List PySem.Expr} {env:Env} {pos:Pos} (h:av e=true):backTo pos (starEach (e::r) env)=(false,PySem.eval e env)::backTo pos (starEach r env):=congrArg (backTo pos) (uF h)
theorem gS {f:Value} {es:List PySem.Expr} {env:Env} {pos:Pos} {Q:Args->Shared->Prop} (hp:es.all av=true) (h:wpAny M A (spliced (backTo pos (starEach es env))) (λ vs s'=>Q ⟨vs,[]⟩ s') E s) :
 wpAny M A (evalArgs f true (backTo pos (starEach es env)) []) Q E s:=by
 induction es using List.casesOn with
 | nil =>
  delta evalArgs
  show wpAny M A (spliced [] >>= _) Q E s
  refine wpAny_bind (wpAny_mono h (λ vs s' h'=>?_) λ u' u' x=>x)
  refine wpAny_bind (wpAny_pure ?_)
  refine wpAny_holding ?_
  exact wpAny_bind (wpAny_pure (wpAny_bind (wpAny_pure (wpAny_pure h'))))
 | cons e r =>
  have hp:=an2 hp
  rw [cV hp.1] at h ⊢
  exact evalArgs_plain h
theorem nv {es:List PySem.Expr} {env:Env} {pos:Pos} {n:Nat} (hp:es.all av=true) (hn:n<30):methodCallForm n (backTo pos (starEach es env)) []=true:=by
 delta methodCallForm
 refine rwE (Bool.and_eq_true ..) ?_;refine rwE (Bool.and_eq_true ..) ?_
 refine ⟨⟨?_,rfl⟩,decide_eq_true (by simpa using hn)⟩
 have:=cy (env:=env) (pos:=pos) hp
 rw [List.any_eq_false] at this
 rw [List.all_eq_true]
 intro x hx
 have:=this x hx
 simpa using this
theorem gT {vs:List Value} {t:Sem Value} {Q:Value->Shared->Prop} (h:wpAny M A t Q E s):wpAny M A (operate vs t) Q E s:=by
 delta operate
 exact wpAny_bind (wpAny_holding (wpAny_mono h (λ u' u' x=>wpAny_bind (wpAny_release (wpAny_pure x))) λ u' u' x=>x))
end
theorem eN {lm sc}:∀ {es:List E} {xs:List PySem.Expr},eL lm sc es xs=true->xs.all av=true
 | [],[],_=>rfl
 | e::r,x::s,h=>by
  have h':(av x&&aE lm sc e x&&eL lm sc r s)=true:=h
  have h':=an3 h'
  refine rwE List.all_cons ?_;refine rwE (Bool.and_eq_true ..) ?_
  exact ⟨h'.1.1,eN h'.2⟩
 | [],_::_,h=>by exact ad h
 | _::_,[],h=>by exact ad h
theorem jB {op:CmpOp} {x:PySem.Expr} (h:cq x=true):behindInMarks op x=false:=by
 induction x using PySem.Expr.casesOn with
 | Set _ _ _=>exact ad h
 | _=>rfl
section
variable {c:Cx} {ρ:Rho} {σ:St} {Fz:List (Addr×Obj)} {A:Around} {E:Value->Shared->Prop} {s:Shared}
theorem ox {M:Model} {h:Heap} {b:B}:∃ k,(k=Keeper.frame\/k=Keeper.machine\/k=Keeper.boundFrame)/\Looks M h (keeperOf (d5 b)) k :=
 ⟨.machine,.inr (.inl rfl),by cases b<;>exact Looks.of_pure rfl⟩
noncomputable def zG (G:Gl) (f:Value) (P:Heap->Prop):Prop:=∀ h,P h->∃ k,(k=Keeper.frame\/k=Keeper.machine\/k=Keeper.boundFrame)/\Looks (model G.prog G.w) h (keeperOf f) k
theorem yj (KK:KOK G) (C:COK G c) {call:ah} {f:V} {fv:Value} (hv:VR G.w.params (Hf G.kx Fz) f fv) :
 ∃ P,zG G fv P/\∀ {ρ σ Fz' s Vs Q X},lM tb call f Vs σ Q X->sub Fz Fz'->SR G c ρ σ Fz' s->P s.heap:=by
 induction f using Mine.Internal.V.casesOn with
 | fn k =>
  refine bq hv ?_;clear hv;intro z0 h hf;obtain rfl:=z0
  exact ⟨G.K.In,λ h' X=>keeps_K (KK.kp k h hf) h' X,λ u' u' S=>by obtain ⟨g,m,mf,lo,Mt,Tb,Ce,led,S⟩:=S;exact S.kin C⟩
 | cls k =>
  refine al hv ?_;clear hv;intro z0 h;obtain rfl:=z0
  exact ⟨G.K.In,λ h' X=>keeps_K (KK.kc k h) h' X,λ u' u' S=>by obtain ⟨g,m,mf,lo,Mt,Tb,Ce,led,S⟩:=S;exact S.kin C⟩
 | bi b =>
  obtain rfl:fv=d5 b:=hv
  exact ⟨λ u'=>True,λ h' u'=>ox,λ u' u' u'=>trivial⟩
 | clo k cap =>
  obtain ⟨a,o,cl,rfl,h1,h2,h3⟩:=hv
  refine ⟨λ h=>h.get? a=some o,λ h' ho=>⟨.frame,.inl rfl,?_⟩,λ u' hs S=>by obtain ⟨g,m,mf,lo,Mt,Tb,Ce,led,S⟩:=S;exact S.get C (Hf.mono hs _ _ h1)⟩
  obtain ⟨name,qual,params,body,scope,pm,c',ctv,oc,vs,t,rfl,_⟩:=h2
  exact (Looks.ld (part:=none) ho).andThen .now
 | _=>exact ⟨λ u'=>False,λ u' h=>h.elim,λ e u' u'=>e⟩
theorem PV'.mono {Fz'':List (Addr×Obj)} {Q:PV} (hs:sub Fz Fz'') {v:Value} {s:Shared} (h:PV' G c ρ Fz'' Q v s):PV' G c ρ Fz Q v s:=by
 obtain ⟨V,σ',Fz',h1,h2,h3,h4⟩:=h
 exact ⟨V,σ',Fz',hs.trans h1,h2,h3,h4⟩
theorem PT'.mono {Fz'':List (Addr×Obj)} {Q:Bool->St->Prop} (hs:sub Fz Fz'') {v:Bool} {s:Shared} (h:PT' G c ρ Fz'' Q v s):PT' G c ρ Fz Q v s:=by
 obtain ⟨σ',Fz',h1,h2,h3⟩:=h
 exact ⟨σ',Fz',hs.trans h1,h2,h3⟩
theorem qh (KK:KOK G) {call:ah} {n:Nat} (HC:c8 G call n) (HN:gn G call n) (C:COK G c) (HA:AOK c A n) (S:SR G c ρ σ Fz s) {f:V} {fv:Value} {Vs:List V} {vs:List Value}
 (hf:VR G.w.params (Hf G.kx Fz) f fv) (hv:VRs G.w.params (Hf G.kx Fz) Vs vs) {Q:PV} {X:PX} (HX:∀ e s',PX' G c ρ X e s'->E e s') (e:lM tb call f Vs σ Q X) :
 wpAny (model G.prog G.w) A (PySem.call fv vs) (PV' G c ρ Fz Q) E s:=by
 induction f using Mine.Internal.V.casesOn with
 | fn k=>exact HC c A ρ σ Fz s k [] Vs vs fv Q X E C HA S (.inl ⟨hf.1,rfl,hf.2.1,hf.2.2⟩) hv HX e
 | clo k cap=>exact HC c A ρ σ Fz s k cap Vs vs fv Q X E C HA S (.inr hf) hv HX e
 | cls k =>
  refine al hf ?_;clear hf;intro z0 h;obtain rfl:=z0
  exact HN c A ρ σ Fz s k Vs vs Q E C HA S hv e
 | bi b =>
  obtain rfl:fv=d5 b:=hf
  exact qg KK.c KK.i C HA.ha S hv e
 | _=>exact e.elim
end
section
variable (G:Gl) (call:ah) (n:Nat)
noncomputable def SE (e:E):Prop:=∀ (x:PySem.Expr) (c:Cx) (A:Around) (ρ:Rho) (σ:St) (Fz:List (Addr×Obj)) (s:Shared) (Q:PV) (X:PX) (E:Value->Shared->Prop),COK G c->AOK c A n->SR G c ρ σ Fz s->(∀ e s',PX' G c ρ X e s'->E e s') ->
 aE (b9 G c.env) c.env.scope.names e x=true->evE tb call e ρ σ Q X->wpAny (model G.prog G.w) A (PySem.eval x c.env) (PV' G c ρ Fz Q) E s
noncomputable def SL (es:List E):Prop:=∀ (xs:List PySem.Expr) (pos:Pos) (c:Cx) (A:Around) (ρ:Rho) (σ:St) (Fz:List (Addr×Obj)) (s:Shared) (Q:List V->St->Prop) (X:PX) (E:Value->Shared->Prop),COK G c->AOK c A n->SR G c ρ σ Fz s->(∀ e s',PX' G c ρ X e s'->E e s') ->
 eL (b9 G c.env) c.env.scope.names es xs=true->evL tb call es ρ σ Q X->wpAny (model G.prog G.w) A (spliced (backTo pos (starEach xs c.env))) (λ vs s'=>PL' G c ρ Fz Q vs s'/\vs.length=xs.length) E s
noncomputable def SA (es:List E):Prop:=∀ (xs:List PySem.Expr) (pos:Pos) (c:Cx) (A:Around) (ρ:Rho) (σ:St) (Fz:List (Addr×Obj)) (s:Shared) (Q:PV) (X:PX) (E:Value->Shared->Prop),COK G c->AOK c A n->SR G c ρ σ Fz s->(∀ e s',PX' G c ρ X e s'->E e s') ->
 eL (b9 G c.env) c.env.scope.names es xs=true->jR tb call es ρ σ Q X->wpAny (model G.prog G.w) A (PySem.eval (.BoolOp .And xs pos) c.env) (PV' G c ρ Fz Q) E s
noncomputable def SO (es:List E):Prop:=∀ (xs:List PySem.Expr) (pos:Pos) (c:Cx) (A:Around) (ρ:Rho) (σ:St) (Fz:List (Addr×Obj)) (s:Shared) (Q:PV) (X:PX) (E:Value->Shared->Prop),COK G c->AOK c A n->SR G c ρ σ Fz s->(∀ e s',PX' G c ρ X e s'->E e s') ->
 eL (b9 G c.env) c.env.scope.names es xs=true->ro tb call es ρ σ Q X->wpAny (model G.prog G.w) A (PySem.eval (.BoolOp .Or xs pos) c.env) (PV' G c ρ Fz Q) E s
noncomputable def STt (e:E):Prop:=∀ (x:PySem.Expr) (c:Cx) (A:Around) (ρ:Rho) (σ:St) (Fz:List (Addr×Obj)) (s:Shared) (Q:Bool->St->Prop) (X:PX) (E:Value->Shared->Prop),COK G c->AOK c A n->SR G c ρ σ Fz s->(∀ e s',PX' G c ρ X e s'->E e s') ->
 aE (b9 G c.env) c.env.scope.names e x=true->evT tb call e ρ σ Q X->wpAny (model G.prog G.w) A (isTrue x c.env (PySem.eval x c.env)) (PT' G c ρ Fz Q) E s
noncomputable def SAl (es:List E):Prop:=∀ (xs:List PySem.Expr) (pos:Pos) (whole:Sem Value) (c:Cx) (A:Around) (ρ:Rho) (σ:St) (Fz:List (Addr×Obj)) (s:Shared) (Q:Bool->St->Prop) (X:PX) (E:Value->Shared->Prop),COK G c->AOK c A n->SR G c ρ σ Fz s->(∀ e s',PX' G c ρ X e s'->E e s') ->
 eL (b9 G c.env) c.env.scope.names es xs=true->pv tb call es ρ σ Q X->wpAny (model G.prog G.w) A (isTrue (.BoolOp .And xs pos) c.env whole) (PT' G c ρ Fz Q) E s
noncomputable def SAn (es:List E):Prop:=∀ (xs:List PySem.Expr) (pos:Pos) (whole:Sem Value) (c:Cx) (A:Around) (ρ:Rho) (σ:St) (Fz:List (Addr×Obj)) (s:Shared) (Q:Bool->St->Prop) (X:PX) (E:Value->Shared->Prop),COK G c->AOK c A n->SR G c ρ σ Fz s->(∀ e s',PX' G c ρ X e s'->E e s') ->
 eL (b9 G c.env) c.env.scope.names es xs=true->pw tb call es ρ σ Q X->wpAny (model G.prog G.w) A (isTrue (.BoolOp .Or xs pos) c.env whole) (PT' G c ρ Fz Q) E s
end
section
variable {call:ah} {n:Nat}
theorem yk:SE G call n .cN:=by
 intro x c A ρ σ Fz s Q X E C HA S HX h e
 refine pQ h λ v k pos h=>rwE (of_decide_eq_true h) (wpAny_Constant_none ⟨.none,σ,Fz,sub.refl,rfl,S,e⟩)
theorem yl:SE G call n .cY:=by
 intro x c A ρ σ Fz s Q X E C HA S HX h e
 refine pQ h λ v k pos h=>PySem.Const.bytes.elim v (Nat.eq_of_beq_eq_true h) λ b=>Constant_bytes ⟨.byt,σ,Fz,sub.refl,⟨_,_,rfl⟩,S,e⟩
theorem uG {b:Bool}:SE G call n (.cB b):=by
 intro x c A ρ σ Fz s Q X E C HA S HX h e
 refine pQ h λ v k pos h=>rwE (of_decide_eq_true h) (wpAny_Constant_bool ⟨.bool b,σ,Fz,sub.refl,rfl,S,e⟩)
theorem ym {i:Int}:SE G call n (.cI i):=by
 intro x c A ρ σ Fz s Q X E C HA S HX h e
 refine pQ h λ v k pos h=>rwE (of_decide_eq_true h) (wpAny_Constant_int (cK S e))
theorem yn {j:Nat}:SE G call n (.cS j):=by
 intro x c A ρ σ Fz s Q X E C HA S HX h e
 refine pQ h λ v k pos h=>rwE (of_decide_eq_true h) (wpAny_Constant_str ⟨.str j,σ,Fz,sub.refl,⟨_,rfl⟩,S,e⟩)
theorem uH {a b:Bool} {p q:Prop} (f:a=true->p) (g:b=true->q) (h:(a||b)=true):p\/q:=((Bool.or_eq_true a b).mp h).imp f g
theorem zH {y:Nat}:SE G call n (.v y):=by
 intro x c A ρ σ Fz s Q X E C HA S HX h e
 refine iN h λ id pos h=>b4 h λ h1 h2 h3 h4=>?_
 rw [beq_iff_eq.mp h1] at h2 h3 h4 ⊢
 have e':(match ρ y with | some v=>Q v σ | none=>False):=e
 induction hv:ρ y using Option.casesOn with
 | none=>rw [hv] at e';exact e'.elim
 | some V=>rw [hv] at e';exact sU C S rfl (lR h2) (lR h3) (or_assoc.mp (uH (uH beq_iff_eq.mp beq_iff_eq.mp) beq_iff_eq.mp h4)) hv e'
theorem Ar (KK:KOK G) {y:Nat}:SE G call n (.g y):=by
 intro x c A ρ σ Fz s Q X E C HA S HX h e
 refine iN h λ id pos h=>b3 h λ h1 h2 h3=>?_
 rw [beq_iff_eq.mp h1] at h2 h3 ⊢
 have e':(match tb.glob y with | some v=>Q v σ | none=>False):=e
 induction hv:tb.glob y using Option.casesOn with
 | none=>rw [hv] at e';exact e'.elim
 | some V=>rw [hv] at e';exact sV KK.g C S rfl (lR h2) (beq_iff_eq.mp h3) hv e'
theorem yo (KK:KOK G) {o:E} {a:Nat} (ih:SE G call n o):SE G call n (.at_ o a):=by
 intro x c A ρ σ Fz s Q X E C HA S HX h e
 refine sH h λ o' str pos h=>b3 h λ h1 h2 h3=>rwE (beq_iff_eq.mp h1) ?_
 refine rwE (arm_eval_Attribute ..) ?_
 refine wpAny_bind (jA h2 (wpAny_mono (ih _ c A ρ σ Fz s _ X E C HA S HX h3 e) (λ v s₁ hv=>?_) λ u' u' x=>x))
 obtain ⟨V,σ₁,Fz₁,sb,hv,S₁,q⟩:=hv
 refine wpAny_bind (wpAny_standAt ?_)
 induction hf:br V a σ₁ using Option.casesOn with
 | none=>rw [hf] at q;exact q.elim
 | some W =>
  rw [hf] at q
  exact wpAny_bind (wpAny_holding (wpAny_mono (lU KK.c C S₁ hv hf q) (λ r s₂ hr=>wpAny_bind (wpAny_letTemporaryGo (wpAny_pure (hr.mono sb)))) λ u' u' x=>x))
theorem vp:SL G call n []:=by
 intro xs pos c A ρ σ Fz s Q X E C HA S HX h e
 induction xs using List.casesOn with
 | nil=>exact spliced_nil ⟨⟨[],σ,Fz,sub.refl,rfl,S,e⟩,rfl⟩
 | cons _ _=>exact ad h
theorem sX {o:E} {r:List E} (ih:SE G call n o) (ihr:SL G call n r):SL G call n (o::r):=by
 intro xs pos c A ρ σ Fz s Q X E C HA S HX h e
 induction xs using List.casesOn with
 | nil=>exact ad h
 | cons x xs =>
  have h':(av x&&aE (b9 G c.env) c.env.scope.names o x&&eL (b9 G c.env) c.env.scope.names r xs)=true:=h
  have h':=an3 h'
  refine al h' ?_;clear h';intro z0 h3;refine al z0 ?_;clear z0;intro h1 h2
  refine rwE (cV h1) ?_
  refine spliced_cons (wpAny_mono (ih _ c A ρ σ Fz s _ X E C HA S HX h2 e) (λ v s₁ hv=>?_) λ u' u' x=>x)
  obtain ⟨V,σ₁,Fz₁,sb,hv,S₁,q⟩:=hv
  refine wpAny_mono (ihr _ pos c A ρ σ₁ Fz₁ s₁ _ X E C HA S₁ HX h3 q) (λ vs s₂ hvs=>?_) λ u' u' x=>x
  refine al hvs ?_;clear hvs;intro z0 hl;obtain ⟨Vs,σ₂,Fz₂,sb₂,hvs,S₂,q⟩:=z0
  exact ⟨⟨V::Vs,σ₂,Fz₂,sb.trans sb₂,⟨v,vs,rfl,hv.mono (Hf.mono sb₂),hvs⟩,S₂,q⟩,by (refine rwE List.length_cons ?_;refine rwE List.length_cons ?_;refine rwE hl ?_;rfl)⟩
theorem sY (KK:KOK G) (HC:c8 G call n) (HN:gn G call n) {f:E} {as:List E} (ih:SE G call n f) (iha:SL G call n as):SE G call n (.call f as):=by
 intro x c A ρ σ Fz s Q X E C HA S HX h e
 refine pO h λ f' as' kws pos h=>b2 h λ h0 h=>j0 h0 (iN h λ id p h=>b3 h λ h1 h2 h3=>?_)
 refine rwE (arm_eval_Call_Name' ..) ?_
 refine wpAny_bind (wpAny_mono (ih _ c A ρ σ Fz s _ X E C HA S HX h1 e) (λ fv s₁ hf=>?_) λ u' u' x=>x)
 obtain ⟨f₁,σ₁,Fz₁,sb,hf,S₁,q⟩:=hf
 have pl:=eN h2
 refine au (yj KK C (call:=call) hf) ?_;intro P hP hP2
 refine callWith_of (P:=P) (by refine rwE (cy pl) ?_;rfl) hP (gS pl ?_)
 refine wpAny_mono (iha _ pos c A ρ σ₁ Fz₁ s₁ _ X E C HA S₁ HX h2 q) (λ vs s₂ hvs=>?_) λ u' u' x=>x
 refine al hvs ?_;clear hvs;intro z0 z1;obtain ⟨Vs,σ₂,Fz₂,sb₂,hvs,S₂,q⟩:=z0
 refine ⟨hP2 q sb₂ S₂,?_⟩
 exact wpAny_mono (qh KK HC HN C HA S₂ (hf.mono (Hf.mono sb₂)) hvs HX q) (λ v s₃ hv=>hv.mono (sb.trans sb₂)) λ u' u' x=>x
theorem sZ (KK:KOK G) (HC:c8 G call n) {o:E} {m:Nat} {as:List E} (ih:SE G call n o) (iha:SL G call n as):SE G call n (.meth o m as):=by
 intro x c A ρ σ Fz s Q X E C HA S HX h e
 refine pO h λ f' as' kws pos h=>b2 h λ h0 h=>j0 h0 (sH h λ o' str ap h=>b6 h λ h1 h2 h3 h4 h5 h6=>rwE (beq_iff_eq.mp h1) ?_)
 rw [decide_eq_true_eq] at h3 h4
 refine rwE (arm_eval_Call ..) ?_
 refine wpAny_bind (jA h2 (wpAny_mono (ih _ c A ρ σ Fz s _ X E C HA S HX h5 e) (λ ov s₁ hf=>?_) λ u' u' x=>x))
 obtain ⟨O,σ₁,Fz₁,sb,ho,S₁,q⟩:=hf
 refine wpAny_bind (wpAny_standAt ?_)
 have pl:=eN h6
 have hform:methodCallForm (as'.length+([]:List Keyword).length) (backTo pos (starEach as' c.env)) (backToKw pos (keywordEach [] c.env))=true:=nv pl (by simp;lia)
 delta methodCall
 refine rwE hform ?_
 induction hk:dX tb O m σ₁ using Option.casesOn with
 | none=>rw [hk] at q;exact q.elim
 | some mk =>
  rw [hk] at q
  refine wpAny_bind (wpAny_holding (sR KK.c C S₁ ho hk ?_))
  have hpos:methodCallPos true o' c.env ap pos=pure pos:=by
   delta methodCallPos
   refine rwE h3 ?_
   simp
  refine rwE hpos ?_
  refine wpAny_bind (wpAny_pure ?_)
  have rest:∀ {P:Heap->Prop},zG G (pB mk) P->(∀ {Fz' σ' s'},sub Fz₁ Fz'->SR G c ρ σ' Fz' s'->P s'.heap) ->
   (∀ {Vs vs σ' Fz' s'},sub Fz₁ Fz'->VRs G.w.params (Hf G.kx Fz') Vs vs->SR G c ρ σ' Fz' s'->ee tb call mk O Vs σ' Q X->wpAny (model G.prog G.w) A (PySem.call (pB mk) ([ov]++vs)) (PV' G c ρ Fz' Q) E s') ->
   wpAny (model G.prog G.w) A (callWith pos (pB mk) [ov] (backTo pos (starEach as' c.env)) (backToKw pos (keywordEach [] c.env))) (PV' G c ρ Fz Q) E s₁:=by
   intro P hP hP2 hcall
   refine callWith_of (P:=P) (by refine rwE (cy pl) ?_;rfl) hP (gS pl ?_)
   refine wpAny_mono (iha _ pos c A ρ σ₁ Fz₁ s₁ _ X E C HA S₁ HX h6 q) (λ vs s₂ hvs=>?_) λ u' u' x=>x
   refine al hvs ?_;clear hvs;intro z0 z1;obtain ⟨Vs,σ₂,Fz₂,sb₂,hvs,S₂,q⟩:=z0
   exact ⟨hP2 sb₂ S₂,wpAny_mono (hcall sb₂ hvs S₂ q) (λ v s₃ hv=>hv.mono (sb.trans sb₂)) λ u' u' x=>x⟩
  induction mk using Mine.Internal.MK.casesOn with
  | fn k =>
   have hm:∃ ci cc fs,tb.clss cc=some ci/\ci.meths.lookup m=some k/\dY O σ₁=some (cc,fs):=by
    delta dX at hk
    induction hc:dY O σ₁ using Option.casesOn with
    | none=>rw [hc] at hk;(refine au (Option.map_eq_some_iff.mp hk) ?_;intro z0 z1 h);cases h
    | some p =>
     obtain ⟨cc,fs⟩:=p
     rw [hc] at hk
     dsimp only at hk
     induction hg:aY m fs using Option.casesOn with
     | some _=>rw [hg] at hk;exact J hk
     | none =>
      rw [hg] at hk
      refine au (Option.bind_eq_some_iff.mp hk) ?_;intro ci h1 h2
      refine au (Option.map_eq_some_iff.mp h2) ?_;intro f h3 h4
      cases h4
      exact ⟨ci,cc,fs,h1,h3,rfl⟩
   refine pJ hm ?_;clear hm;intro ci cc fs h7 h8 z5
   refine al (KK.m cc ci h7 m k h8) ?_;intro h9 h10
   refine rest (P:=G.K.In) (λ h' X=>keeps_K (KK.kp k h9 h10) h' X) (λ u' S=>by obtain ⟨g,m,mf,lo,Mt,Tb,Ce,led,S⟩:=S;exact S.kin C) λ {Vs vs σ' Fz' s'} sb' hvs S' q'=>?_
   exact HC c A ρ σ' Fz' s' k [] (O::Vs) (ov::vs) _ Q X E C HA S' (.inl ⟨rfl,rfl,h9,h10⟩) ⟨ov,vs,rfl,ho.mono (Hf.mono sb'),hvs⟩ HX q'
  | b x =>
   refine rest (P:=λ u'=>True) (λ h' u'=>⟨.machine,.inr (.inl rfl),Looks.of_pure rfl⟩) (λ u' u'=>trivial) λ {Vs vs σ' Fz' s'} sb' hvs S' q'=>?_
   exact qe C S' (ho.mono (Hf.mono sb')) hvs q'
end
section
variable {call:ah} {n:Nat}
theorem vq {op:Op} {l r:E} (ihl:SE G call n l) (ihr:SE G call n r):SE G call n (.bin op l r):=by
 intro x c A ρ σ Fz s Q X E C HA S HX h e
 refine zZ h λ l' op' r' pos h=>b3 h λ h1 h2 h3=>?_
 refine wpAny_BinOp (wpAny_mono (ihl _ c A ρ σ Fz s _ X E C HA S HX h2 e) (λ v s₁ hv=>?_) λ u' u' x=>x)
 obtain ⟨a,σ₁,Fz₁,sb,hv,S₁,q⟩:=hv
 refine wpAny_mono (ihr _ c A ρ σ₁ Fz₁ s₁ _ X E C HA S₁ HX h3 q) (λ u s₂ hu=>?_) λ u' u' x=>x
 obtain ⟨b,σ₂,Fz₂,sb₂,hu,S₂,q⟩:=hu
 induction hb:gA op a b using Option.casesOn with
 | none=>rw [hb] at q;exact q.elim
 | some r =>
  rw [hb] at q
  exact wpAny_mono (sP C HA.ha S₂ h1 (hv.mono (Hf.mono sb₂)) hu hb q) (λ v s₃ hv=>hv.mono (sb.trans sb₂)) λ u' u' x=>x
theorem vr {o:E} (ih:SE G call n o):SE G call n (.not o):=by
 intro x c A ρ σ Fz s Q X E C HA S HX h e
 refine iUn h λ op o' pos h=>b2 h λ h0 h=>rwE (of_decide_eq_true h0) ?_
 refine wpAny_UnaryOp (wpAny_mono (ih _ c A ρ σ Fz s _ X E C HA S HX h e) (λ v s₁ hv=>?_) λ u' u' x=>x)
 obtain ⟨a,σ₁,Fz₁,sb,hv,S₁,q⟩:=hv
 induction hb:aT a σ₁ using Option.casesOn with
 | none=>rw [hb] at q;exact q.elim
 | some b=>rw [hb] at q;exact wpAny_mono (vc C S₁ hv hb q) (λ v s₃ hv=>hv.mono sb) λ u' u' x=>x
theorem vt {o:E} (ih:SE G call n o):SE G call n (.neg o):=by
 intro x c A ρ σ Fz s Q X E C HA S HX h e
 refine iUn h λ op o' pos h=>b2 h λ h0 h=>rwE (of_decide_eq_true h0) ?_
 refine wpAny_UnaryOp (wpAny_mono (ih _ c A ρ σ Fz s _ X E C HA S HX h e) (λ v s₁ hv=>?_) λ u' u' x=>x)
 obtain ⟨a,σ₁,Fz₁,sb,hv,S₁,q⟩:=hv
 have hq:∃ i,a=.int i/\Q (.int (-i)) σ₁:=by
  clear hv
  induction a using V.casesOn with
  | int i=>exact ⟨i,rfl,q⟩
  | _=>exact q.elim
 obtain ⟨i,rfl,q⟩:=hq
 exact wpAny_mono (vb S₁ hv q) (λ v s₃ hv=>hv.mono sb) λ u' u' x=>x
theorem gw {c:Cx} {A:Around} {n:Nat} (HA:AOK c A n):A.units<=9000:=Nat.le_trans (Nat.le_add_right _ _) HA.un
@[elab_as_elim] theorem nx {P:PySem.Expr->Prop} {lm sc} {l r:E} {op:Cm} {x:PySem.Expr} (h:aE lm sc (.cmp l op r) x=true) (k:∀ l' op' r' pos,cq r'=true->pN op op'=true->aE lm sc l l'=true->aE lm sc r r'=true->P (.Compare l' [op'] [r'] pos)):P x :=
 za h λ l' os rs pos h=>j1 h λ op' h=>j1 h λ r' h=>b4 h (k l' op' r' pos)
@[elab_as_elim] theorem kU {P:PySem.Expr->Prop} {lm sc} {l m r:E} {o1 o2:Cm} {x:PySem.Expr} (h:aE lm sc (.cmp2 l o1 m o2 r) x=true) (k:∀ l' o1' m' o2' r' pos,cq r'=true->pN o1 o1'=true->pN o2 o2'=true->aE lm sc l l'=true->aE lm sc m m'=true->aE lm sc r r'=true->P (.Compare l' [o1',o2'] [m',r'] pos)):P x :=
 za h λ l' os rs pos h=>j2 h λ o1' o2' h=>j2 h λ m' r' h=>b6 h (k l' o1' m' o2' r' pos)
theorem vv {op:Cm} {l r:E} (ihl:SE G call n l) (ihr:SE G call n r):SE G call n (.cmp l op r):=by
 intro x c A ρ σ Fz s Q X E C HA S HX h e
 refine nx h λ l' op' r' pos h0 h1 h2 h3=>?_
 refine wpAny_Compare1 (wpAny_mono (ihl _ c A ρ σ Fz s _ X E C HA S HX h2 e) (λ v s₁ hv=>?_) λ u' u' x=>x) (jB h0)
 obtain ⟨a,σ₁,Fz₁,sb,hv,S₁,q⟩:=hv
 refine wpAny_mono (ihr _ c A ρ σ₁ Fz₁ s₁ _ X E C HA S₁ HX h3 q) (λ u s₂ hu=>?_) λ u' u' x=>x
 obtain ⟨b,σ₂,Fz₂,sb₂,hu,S₂,q⟩:=hu
 induction hb:bB op a b σ₂ using Option.casesOn with
 | none=>rw [hb] at q;exact q.elim
 | some r =>
  rw [hb] at q
  exact eB C (gw HA) S₂ h1 (hv.mono (Hf.mono sb₂)) hu hb λ tk=>⟨.bool r,σ₂,Fz₂,sb.trans sb₂,rfl,S₂,q⟩
theorem vw {M:Model} {A:Around} {E:Value->Shared->Prop} {s:Shared} {env:Env} {pos:Pos} {a:Value} {o1 o2:CmpOp} {t1 t2:Sem Value} {Q:Value->Shared->Prop}
 (h:wpAny M A t1 (λ b s₁=>wpAny M A (compareOp o1 a b) (λ c s₂=>wpAny M A (truthy c) (λ r s₃=>if r then wpAny M A t2 (λ d s₄=>wpAny M A (compareOp o2 b d) Q E s₄) E s₃ else Q c s₃) E s₂) E s₁) E s) :
 wpAny M A (compareChain pos a [o1,o2] [t1,t2]) Q E s:=by
 refine wpAny_bind (wpAny_holding (wpAny_mono h (λ b s₁ h₁=>wpAny_bind (wpAny_standAt (wpAny_bind (wpAny_holding (wpAny_mono h₁ (λ c s₂ h₂=>wpAny_bind (wpAny_release (wpAny_bind (wpAny_holding (wpAny_mono h₂ (λ r s₃ h₃=>?_) λ u' u' x=>x))))) λ u' u' x=>x))))) λ u' u' x=>x))
 induction r using Bool.casesOn with
 | true =>
  simp only [if_true] at h₃ ⊢
  exact wpAny_bind (wpAny_holding (wpAny_mono h₃ (λ d s₄ h₄=>wpAny_bind (wpAny_standAt (gT h₄))) λ u' u' x=>x))
 | false =>
  simp only [Bool.false_eq_true,if_false] at h₃ ⊢
  exact wpAny_pure h₃
theorem yp {M:Model} {A:Around} {E:Value->Shared->Prop} {s:Shared} {env:Env} {pos:Pos} {a:Value} {o1 o2:CmpOp} {t1 t2:Sem Value} {Q:Bool->Shared->Prop}
 (h:wpAny M A t1 (λ b s₁=>wpAny M A (compareOp o1 a b) (λ c s₂=>wpAny M A (truthy c) (λ r s₃=>if r then wpAny M A t2 (λ d s₄=>wpAny M A (compareOp o2 b d) (λ c s₅=>wpAny M A (truthy c) Q E s₅) E s₄) E s₃ else Q false s₃) E s₂) E s₁) E s) :
 wpAny M A (testChain pos a [o1,o2] [t1,t2]) Q E s:=by
 refine wpAny_bind (wpAny_holding (wpAny_mono h (λ b s₁ h₁=>wpAny_bind (wpAny_standAt (wpAny_bind (wpAny_holding (wpAny_mono h₁ (λ c s₂ h₂=>wpAny_bind (wpAny_release (wpAny_bind (wpAny_holding (wpAny_mono h₂ (λ r s₃ h₃=>?_) λ u' u' x=>x))))) λ u' u' x=>x))))) λ u' u' x=>x))
 induction r using Bool.casesOn with
 | true =>
  simp only [if_true] at h₃ ⊢
  exact wpAny_bind (wpAny_holding (wpAny_mono h₃ (λ d s₄ h₄=>wpAny_bind (wpAny_standAt (wpAny_bind (gT (wpAny_mono h₄ (λ c s₅ h₅=>wpAny_holding h₅) λ u' u' x=>x))))) λ u' u' x=>x))
 | false =>
  simp only [Bool.false_eq_true,if_false] at h₃ ⊢
  exact wpAny_pure h₃
theorem rH {o1 o2:CmpOp} {m r:PySem.Expr} {env:Env} (h:cq r=true):markedEach [o1,o2] [m,r] (evalEach [m,r] env)=[PySem.eval m env,PySem.eval r env]:=by
 show [PySem.eval m env,markedBehindIn o2 r (PySem.eval r env)]=_
 delta markedBehindIn
 refine rwE (jB h) ?_;rfl
theorem s7 {o1 o2:Cm} {l m r:E} (ihl:SE G call n l) (ihm:SE G call n m) (ihr:SE G call n r):SE G call n (.cmp2 l o1 m o2 r):=by
 intro x c A ρ σ Fz s Q X E C HA S HX h e
 refine kU h λ l' o1' m' o2' r' pos h0 h1 h2 h3 h4 h5=>?_
 refine rwE (arm_eval_Compare ..) ?_;refine rwE (rH h0) ?_
 refine wpAny_bind (wpAny_mono (ihl _ c A ρ σ Fz s _ X E C HA S HX h3 e) (λ v s₁ hv=>vw (env:=c.env) ?_) λ u' u' x=>x)
 obtain ⟨a,σ₁,Fz₁,sb,hv,S₁,q⟩:=hv
 refine wpAny_mono (ihm _ c A ρ σ₁ Fz₁ s₁ _ X E C HA S₁ HX h4 q) (λ u s₂ hu=>?_) λ u' u' x=>x
 obtain ⟨b,σ₂,Fz₂,sb₂,hu,S₂,q⟩:=hu
 induction hb:bB o1 a b σ₂ using Option.casesOn with
 | none=>rw [hb] at q;exact q.elim
 | some r =>
  rw [hb] at q
  refine eB C (gw HA) S₂ h1 (hv.mono (Hf.mono sb₂)) hu hb λ tk=>wpAny_truthy_bool ?_
  induction r using Bool.casesOn with
  | false=>exact ⟨.bool false,σ₂,Fz₂,sb.trans sb₂,rfl,S₂,q⟩
  | true =>
   simp only [if_true]
   refine wpAny_mono (ihr _ c A ρ σ₂ Fz₂ _ _ X E C HA S₂ HX h5 q) (λ w s₃ hw=>?_) λ u' u' x=>x
   obtain ⟨d,σ₃,Fz₃,sb₃,hw,S₃,q⟩:=hw
   induction hb:bB o2 b d σ₃ using Option.casesOn with
   | none=>rw [hb] at q;exact q.elim
   | some r =>
    rw [hb] at q
    exact eB C (gw HA) S₃ h2 (hu.mono (Hf.mono sb₃)) hw hb λ tk=>⟨.bool r,σ₃,Fz₃,(sb.trans sb₂).trans sb₃,rfl,S₃,q⟩
theorem vx:SA G call n []:=by
 intro xs pos c A ρ σ Fz s Q X E C HA S HX h e
 exact e.elim
theorem vy {o:E} (ih:SE G call n o):SA G call n [o]:=by
 intro xs pos c A ρ σ Fz s Q X E C HA S HX h e
 exact jC h λ x s h=>b3 h λ h1 h2 h3=>j0 h3 (BoolOp_one (ih _ c A ρ σ Fz _ _ X E C HA S HX h2 e))
theorem s8 {o o2:E} {r:List E} (ih:SE G call n o) (ihr:SA G call n (o2::r)):SA G call n (o::o2::r):=by
 intro xs pos c A ρ σ Fz s Q X E C HA S HX h e
 refine jC h λ x s' h=>b3 h λ h1 h2 h3=>jC h3 λ y xs h4=>?_
 refine BoolOp_and (wpAny_mono (ih _ c A ρ σ Fz s _ X E C HA S HX h2 e) (λ v s₁ hv=>?_) λ u' u' x=>x)
 obtain ⟨V,σ₁,Fz₁,sb,hv,S₁,q⟩:=hv
 induction hb:aT V σ₁ using Option.casesOn with
 | none=>rw [hb] at q;exact q.elim
 | some b =>
  rw [hb] at q
  refine wpAny_mono (d6 C S₁ hv hb (Q:=λ b' σ'=>b'=b/\σ'=σ₁) ⟨rfl,rfl⟩) (λ b' s₂ ht=>?_) λ u' u' x=>x
  obtain ⟨σ₂,Fz₂,sb₂,S₂,rfl,rfl⟩:=ht
  induction b' using Bool.casesOn with
  | true=>simp only [if_true];exact wpAny_mono (ihr _ pos c A ρ σ₂ Fz₂ s₂ _ X E C HA S₂ HX h4 q) (λ v s₃ hv=>hv.mono (sb.trans sb₂)) λ u' u' x=>x
  | false=>exact ⟨V,σ₂,Fz₂,sb.trans sb₂,hv.mono (Hf.mono sb₂),S₂,q⟩
theorem vz:SO G call n []:=by
 intro xs pos c A ρ σ Fz s Q X E C HA S HX h e
 exact e.elim
theorem vA {o:E} (ih:SE G call n o):SO G call n [o]:=by
 intro xs pos c A ρ σ Fz s Q X E C HA S HX h e
 exact jC h λ x s h=>b3 h λ h1 h2 h3=>j0 h3 (BoolOp_one (ih _ c A ρ σ Fz _ _ X E C HA S HX h2 e))
theorem s9 {o o2:E} {r:List E} (ih:SE G call n o) (ihr:SO G call n (o2::r)):SO G call n (o::o2::r):=by
 intro xs pos c A ρ σ Fz s Q X E C HA S HX h e
 refine jC h λ x s' h=>b3 h λ h1 h2 h3=>jC h3 λ y xs h4=>?_
 refine BoolOp_or (wpAny_mono (ih _ c A ρ σ Fz s _ X E C HA S HX h2 e) (λ v s₁ hv=>?_) λ u' u' x=>x)
 obtain ⟨V,σ₁,Fz₁,sb,hv,S₁,q⟩:=hv
 induction hb:aT V σ₁ using Option.casesOn with
 | none=>rw [hb] at q;exact q.elim
 | some b =>
  rw [hb] at q
  refine wpAny_mono (d6 C S₁ hv hb (Q:=λ b' σ'=>b'=b/\σ'=σ₁) ⟨rfl,rfl⟩) (λ b' s₂ ht=>?_) λ u' u' x=>x
  obtain ⟨σ₂,Fz₂,sb₂,S₂,rfl,rfl⟩:=ht
  induction b' using Bool.casesOn with
  | false=>simp only [Bool.false_eq_true,if_false];exact wpAny_mono (ihr _ pos c A ρ σ₂ Fz₂ s₂ _ X E C HA S₂ HX h4 q) (λ v s₃ hv=>hv.mono (sb.trans sb₂)) λ u' u' x=>x
  | true=>exact ⟨V,σ₂,Fz₂,sb.trans sb₂,hv.mono (Hf.mono sb₂),S₂,q⟩
theorem vB {es:List E} (ih:SA G call n es):SE G call n (.and es):=by
 intro x c A ρ σ Fz s Q X E C HA S HX h e
 exact ue h λ op es' pos h=>b2 h λ h0 h=>rwE (of_decide_eq_true h0) (ih _ pos c A ρ σ Fz s Q X E C HA S HX h e)
theorem yq {es:List E} (ih:SO G call n es):SE G call n (.or es):=by
 intro x c A ρ σ Fz s Q X E C HA S HX h e
 exact ue h λ op es' pos h=>b2 h λ h0 h=>rwE (of_decide_eq_true h0) (ih _ pos c A ρ σ Fz s Q X E C HA S HX h e)
theorem vC {t a b:E} (iht:STt G call n t) (iha:SE G call n a) (ihb:SE G call n b):SE G call n (.ite t a b):=by
 intro x c A ρ σ Fz s Q X E C HA S HX h e
 refine iIf h λ t' a' b' pos h=>b3 h λ h1 h2 h3=>?_
 refine wpAny_IfExp (wpAny_mono (iht _ c A ρ σ Fz s _ X E C HA S HX h1 e) (λ r s₁ hr=>?_) λ u' u' x=>x)
 obtain ⟨σ₁,Fz₁,sb,S₁,q⟩:=hr
 induction r using Bool.casesOn with
 | true=>simp only [if_true];exact wpAny_mono (iha _ c A ρ σ₁ Fz₁ s₁ _ X E C HA S₁ HX h2 q) (λ v s₃ hv=>hv.mono sb) λ u' u' x=>x
 | false=>simp only [Bool.false_eq_true,if_false];exact wpAny_mono (ihb _ c A ρ σ₁ Fz₁ s₁ _ X E C HA S₁ HX h3 q) (λ v s₃ hv=>hv.mono sb) λ u' u' x=>x
theorem ic {lm sc}:∀ {es:List E} {xs:List PySem.Expr},eL lm sc es xs=true->es.length=xs.length
 | [],[],_=>rfl
 | e::r,x::s,h=>by
  have h':(av x&&aE lm sc e x&&eL lm sc r s)=true:=h
  have h':=an2 h'
  refine rwE List.length_cons ?_;refine rwE List.length_cons ?_;refine rwE (ic h'.2) ?_;rfl
 | [],_::_,h=>by exact ad h
 | _::_,[],h=>by exact ad h
theorem vD {es:List E} (ih:SL G call n es):SE G call n (.tup es):=by
 intro x c A ρ σ Fz s Q X E C HA S HX h e
 refine xD h λ es' k pos h=>b2 h λ h1 h2=>?_
 replace h1:=of_decide_eq_true h1
 refine Tuple_ (wpAny_mono (ih _ pos c A ρ σ Fz s _ X E C HA S HX h2 e) (λ vs s₁ hv=>?_) λ u' u' x=>x)
 refine al hv ?_;clear hv;intro z0 hl;obtain ⟨Vs,σ₁,Fz₁,sb,hv,S₁,q⟩:=z0
 have:=hv.len
 have:=ic h2
 exact wpAny_mono (oo S₁ hv (by lia) q) (λ v s₃ hv=>hv.mono sb) λ u' u' x=>x
theorem vE {fr:Bool} {es:List E} (ih:SL G call n es):SE G call n (.lst fr es):=by
 intro x c A ρ σ Fz s Q X E C HA S HX h e
 refine Ab h λ es' pos h=>b2 h λ h1 h2=>?_
 replace h1:=of_decide_eq_true h1
 refine List_ (wpAny_mono (ih _ pos c A ρ σ Fz s _ X E C HA S HX h2 e) (λ vs s₁ hv=>?_) λ u' u' x=>x)
 refine al hv ?_;clear hv;intro z0 hl;obtain ⟨Vs,σ₁,Fz₁,sb,hv,S₁,q⟩:=z0
 have:=hv.len
 have:=ic h2
 induction fr using Bool.casesOn with
 | false=>exact wpAny_mono (oq S₁ hv (by lia) q) (λ v s₃ hv=>hv.mono sb) λ u' u' x=>x
 | true=>exact wpAny_mono (ou S₁ hv (by lia) q) (λ v s₃ hv=>hv.mono sb) λ u' u' x=>x
theorem vF {o i:E} (iho:SE G call n o) (ihi:SE G call n i):SE G call n (.sub o i):=by
 intro x c A ρ σ Fz s Q X E C HA S HX h e
 refine xB h λ o' i' pos h=>b3 h λ h1 h2 h3=>?_
 refine Subscript_ (wpAny_mono (iho _ c A ρ σ Fz s _ X E C HA S HX h2 e) (λ v s₁ hv=>?_) λ u' u' x=>x)
 obtain ⟨O,σ₁,Fz₁,sb,hv,S₁,q⟩:=hv
 refine wpAny_mono (ihi _ c A ρ σ₁ Fz₁ s₁ _ X E C HA S₁ HX h3 q) (λ u s₂ hu=>?_) λ u' u' x=>x
 obtain ⟨I,σ₂,Fz₂,sb₂,hu,S₂,q⟩:=hu
 induction hb:cU tb O I σ₂ using Option.casesOn with
 | none=>rw [hb] at q;exact q.elim
 | some r =>
  rw [hb] at q
  exact wpAny_mono (vg C S₂ h1 (hv.mono (Hf.mono sb₂)) hu hb q) (λ v s₃ hv=>hv.mono (sb.trans sb₂)) λ u' u' x=>x
noncomputable def vG (lm:Nat->List Nat->Arguments->PySem.Expr->Scope->Bool) (sc:SC) (l:E) (l':Option PySem.Expr):Bool:=match l' with
 | none=>isN l
 | some x=>aE lm sc l x
theorem ny {l:E} (ihl:SE G call n l) {l':Option PySem.Expr} {c:Cx} {A:Around} {ρ:Rho} {σ:St} {Fz:List (Addr×Obj)} {s:Shared} {Q:PV} {X:PX} {E:Value->Shared->Prop} (C:COK G c) (HA:AOK c A n) (S:SR G c ρ σ Fz s) (HX:∀ e s',PX' G c ρ X e s'->E e s')
 (h:vG (b9 G c.env) c.env.scope.names l l'=true) (e:evE tb call l ρ σ Q X):wpAny (model G.prog G.w) A (valueOrNone (evalOpt l' c.env)) (PV' G c ρ Fz Q) E s:=by
 induction l' using Option.casesOn with
 | none =>
  rw [rq h] at e
  exact wpAny_pure ⟨.none,σ,Fz,sub.refl,rfl,S,e⟩
 | some x=>exact ihl x c A ρ σ Fz s Q X E C HA S HX h e
theorem vH {o l u:E} (iho:SE G call n o) (ihl:SE G call n l) (ihu:SE G call n u):SE G call n (.slc o l u):=by
 intro x c A ρ σ Fz s Q X E C HA S HX h e
 refine xB h λ o' i' pos h=>Ac h λ l' u' st p h=>b4 h λ h0 h1 h2 h3=>jN h0 ?_
 refine Subscript_ (wpAny_mono (iho _ c A ρ σ Fz s _ X E C HA S HX h1 e) (λ v s₁ hv=>?_) λ u' u' x=>x)
 obtain ⟨O,σ₁,Fz₁,sb,hv,S₁,q⟩:=hv
 refine rwE (arm_eval_Slice ..) ?_
 refine wpAny_bind (wpAny_mono (ny ihl C HA S₁ HX h2 q) (λ vl s₂ hl=>?_) λ u' u' x=>x)
 obtain ⟨Lv,σ₂,Fz₂,sb₂,hl,S₂,q⟩:=hl
 refine wpAny_bind (wpAny_holding (wpAny_mono (ny ihu C HA S₂ HX h3 q) (λ vu s₃ hu=>?_) λ u' u' x=>x))
 obtain ⟨Uv,σ₃,Fz₃,sb₃,hu,S₃,q⟩:=hu
 refine wpAny_bind (wpAny_holding (wpAny_pure ?_))
 delta newFields
 refine wpAny_newObj_type ?_ (by show 3<=sizeLine+2;decide)
 induction hb:rn O Lv Uv using Option.casesOn with
 | none=>rw [hb] at q;exact q.elim
 | some r =>
  rw [hb] at q
  exact wpAny_mono (vh C S₃ (hv.mono (Hf.mono (sb₂.trans sb₃))) (hl.mono (Hf.mono sb₃)) hu hb q) (λ v s₃ hv=>hv.mono ((sb.trans sb₂).trans sb₃)) λ u' u' x=>x
theorem vI (HL:j4 G) {k:Nat} {cap:List Nat}:SE G call n (.lam k cap):=by
 intro x c A ρ σ Fz s Q X E C HA S HX h e
 refine z9 h λ args body scope pos h=>?_
 have e':(match fg ρ cap with | some l=>Q (.clo k l) σ | none=>False):=e
 induction hc:fg ρ cap using Option.casesOn with
 | none=>rw [hc] at e';exact e'.elim
 | some l=>rw [hc] at e';exact HL c A ρ σ Fz s k cap l args body scope pos Q E C S h hc e'
end
noncomputable abbrev Cx.ex (c:Cx) (l:List (Addr×Obj)):Cx:={ c with Ex:=l++c.Ex }
section
variable {c:Cx} {ρ:Rho} {σ:St} {Fz:List (Addr×Obj)} {A:Around} {E:Value->Shared->Prop} {s:Shared} {h:Heap} {m mf:Str->Option Value} {lo Mt Tb Ce led:List (Addr×Obj)} {n:Nat}
theorem COK.ex (C:COK G c) (l:List (Addr×Obj)):COK G (c.ex l):=⟨C.X,C.T,C.x0,C.hf,C.hke,C.ef,C.ek,C.eg,C.eb,C.B,C.loc,C.locne,C.cells,C.same,C.fr⟩
theorem AOK.ex (H:AOK c A n) (l:List (Addr×Obj)):AOK (c.ex l) A n:=⟨H.fr,H.ha,H.dp,H.un⟩
theorem SRp.aside (S:SRp G c ρ σ Fz h m mf lo Mt Tb Ce led) {h':Heap} {a:Addr} {o:Obj} (k:∀ b o,h.get? b=some o->h'.get? b=some o) (ho:h'.get? a=some o) (hn:h.get? a=none) :
 SRp G (c.ex [(a,o)]) ρ σ Fz h' m mf lo Mt Tb Ce ((a,o)::led):=by
 have S':=S.fz k ho hn
 refine ⟨S'.F,S'.N,S'.nd,?_,S.loc,S.mt,S.tbr,S.er,S.ce,S.fk⟩
 classical
 refine ar λ x=>?_
 have:=List.perm_iff_count.mp S.pm x
 simp only [List.count_append,List.count_cons,List.count_nil] at this ⊢
 lia
theorem SRp.unside (S:SRp G (c.ex [(a,o)]) ρ σ Fz h m mf lo Mt Tb Ce led):SRp G c ρ σ ((a,o)::Fz) h m mf lo Mt Tb Ce led/\h.get? a=some o:=by
 have k:∀ a' b,Hf G.kx Fz a' b->Hf G.kx ((a,o)::Fz) a' b:=Hf.mono λ u' h=>.tail _ h
 refine ⟨⟨S.F,S.N,S.nd,?_,S.loc,S.mt.mono k,S.tbr.mono k,S.er.mono k,S.ce,S.fk.cons⟩,S.N.get (S.pm.mem_iff.mpr (by simp))⟩
 classical
 refine ar λ x=>?_
 have:=List.perm_iff_count.mp S.pm x
 simp only [List.count_append,List.count_cons,List.count_nil] at this ⊢
 lia
theorem SRp.sideUp (S:SRp G (c.ex [(a,o)]) ρ σ Fz h m mf lo Mt Tb Ce led) {h':Heap} {o':Obj} (hs:Heap.SameBut a h h') (ho:h'.get? a=some o'):∃ led',SRp G (c.ex [(a,o')]) ρ σ Fz h' m mf lo Mt Tb Ce led':=by
 have pm:led.Perm ((lo++(Mt++(Tb++Ce)))++(a,o)::(c.Ex++Fz)):=S.pm.trans (List.Perm.of_eq (by simp))
 have N:News c.g c.L h ((lo++(Mt++(Tb++Ce)))++(a,o)::(c.Ex++Fz)):=λ p hp=>S.N p (pm.mem_iff.mpr hp)
 have nd:=(pm.map (λ x=>x.1)).nodup_iff.mp S.nd
 refine al (fj S.F N nd hs ho) ?_;intro F' N'
 refine ⟨_,F',N',?_,List.Perm.of_eq (by simp),S.loc,S.mt,S.tbr,S.er,S.ce,S.fk⟩
 have:((lo++(Mt++(Tb++Ce)))++(a,o')::(c.Ex++Fz)).map (λ x=>x.1)=((lo++(Mt++(Tb++Ce)))++(a,o)::(c.Ex++Fz)).map (λ x=>x.1):=by simp
 refine rwE this ?_;exact nd
theorem SRp.apart (S:SRp G (c.ex [(a,o)]) ρ σ Fz h m mf lo Mt Tb Ce led):∀ p∈σ,p.1≠a:=λ p hp e=>by
 refine ao (S.mt.mem p hp) ?_;intro o' ho'
 have nd:=(S.pm.map (λ x=>x.1)).nodup_iff.mp S.nd
 rw [List.map_append,List.nodup_append] at nd
 refine bq nd ?_;clear nd;intro z0 nd z2
 rw [List.map_append,List.nodup_append] at nd
 refine nd.2.2 _ (List.mem_map_of_mem ho') a ?_ e
 simp
theorem PX'.ex {l:List (Addr×Obj)} {X:PX} {e:Value} (h:PX' G (c.ex l) ρ X e s):PX' G c ρ X e s:=by
 obtain ⟨a,σ,Fz,rfl,⟨g,h₁,B,m,mf,lo,Mt,Tb,Ce,led,S⟩,q⟩:=h
 have k:∀ a' b,Hf G.kx Fz a' b->Hf G.kx (l++Fz) a' b:=Hf.mono λ u' h=>List.mem_append_right _ h
 refine ⟨a,σ,l++Fz,rfl,⟨g,h₁,B,m,mf,lo,Mt,Tb,Ce,led,S.F,S.up,S.base,S.hl,S.nd,?_,S.loc,S.mt.mono k,S.tbr.mono k,S.er.mono k,S.ce,S.fk.app,S.fl⟩,q⟩
 classical
 refine ar λ x=>?_
 have:=List.perm_iff_count.mp S.pm x
 simp only [List.count_append] at this ⊢
 lia
theorem SRp.sideMt (S:SRp G (c.ex [(a,o)]) ρ σ Fz h m mf lo Mt Tb Ce led) {mm:M} (hp:Fp G.w.params (Hf G.kx Fz) a mm [(a,o)]):SRp G c ρ ((a,mm)::σ) Fz h m mf lo ((a,o)::Mt) Tb Ce led:=by
 refine ⟨S.F,S.N,S.nd,?_,S.loc,⟨[(a,o)],Mt,rfl,hp,S.mt⟩,S.tbr,S.er,S.ce,S.fk⟩
 classical
 refine ar λ x=>?_
 have:=List.perm_iff_count.mp S.pm x
 simp only [List.count_append,List.count_cons,List.count_nil] at this ⊢
 lia
end
noncomputable def PRl (P:Params) (H:Hp):List V->List (Value×Value)->Prop
 | [],ps=>ps=[]
 | [_],_=>False
 | k::v::r,ps=>∃ a b qs,ps=(a,b)::qs/\VR P H k a/\VR P H v b/\PRl P H r qs
theorem PRl.up {prog:Program} {w:World} {H:Hp} {Vs:List V}:∀ {ps:List (Value×Value)} {kvs:List (Nat×V)},PRl w.params H Vs ps->dB Vs=some kvs->∃ kvs',Carries (PySem.strKind prog w) ps kvs'/\D2 w.params H kvs kvs':=by
 refine iH (P:=λ Vs=>∀ {ps:List (Value×Value)} {kvs:List (Nat×V)},PRl w.params H Vs ps->dB Vs=some kvs->∃ kvs',Carries (PySem.strKind prog w) ps kvs'/\D2 w.params H kvs kvs') ?_ ?_ ?_ Vs
 ·intro ps kvs h e
  cases h;cases e;exact ⟨[],trivial,.nil⟩
 ·exact λ a ps kvs h=>h.elim
 ·intro k v r ih ps kvs h e
  refine eT h ?_;clear h;intro a b qs z3 h1 h2 h3;obtain rfl:=z3
  have key:∃ k' kvs₁,k=.str k'/\dB r=some kvs₁/\(k',v)::kvs₁=kvs:=by
   clear h1
   induction k using V.casesOn with
   | str k =>
    refine au (Option.map_eq_some_iff.mp (show (dB r).map ((k,v)::·)=some kvs from e)) ?_;intro kvs₁ h4 h5
    exact ⟨k,kvs₁,rfl,h4,h5⟩
   | _=>exact J e
  obtain ⟨k',kvs₁,rfl,h4,rfl⟩:=key
  refine au (ih h3 h4) ?_;intro kvs' h5 h6
  refine ao h1 ?_;clear h1;intro t z1;obtain rfl:=z1
  exact ⟨(nm k',b)::kvs',⟨strKind_is prog w _ _,rfl,h5⟩,.cons ⟨rfl,h2⟩ h6⟩
section
variable (G:Gl) (call:ah) (n:Nat)
noncomputable def SD (es:List E):Prop:=∀ (ks:List (Option PySem.Expr)) (xs:List PySem.Expr) (pos:Pos) (c:Cx) (A:Around) (ρ:Rho) (σ:St) (Fz:List (Addr×Obj)) (s:Shared) (Q:List V->St->Prop) (X:PX) (E:Value->Shared->Prop),COK G c->AOK c A n->SR G c ρ σ Fz s->(∀ e s',PX' G c ρ X e s'->E e s') ->
 rr (b9 G c.env) c.env.scope.names es ks xs=true->evL tb call es ρ σ Q X->wpAny (model G.prog G.w) A (evalPairs (pairTrees ks xs c.env pos)) (λ ps s'=>(∃ Vs σ' Fz',sub Fz Fz'/\PRl G.w.params (Hf G.kx Fz') Vs ps/\SR G c ρ σ' Fz' s'/\Q Vs σ')/\ps.length=xs.length) E s
end
section
variable {call:ah} {n:Nat}
theorem vJ:SD G call n []:=by
 intro ks xs pos c A ρ σ Fz s Q X E C HA S HX h e
 match ks,xs,h with
 | [],[],_=>exact evalPairs_nil ⟨⟨[],σ,Fz,sub.refl,rfl,S,e⟩,rfl⟩
theorem vK {k:E}:SD G call n [k]:=by
 intro ks xs pos c A ρ σ Fz s Q X E C HA S HX h e
 cases h
theorem ta {k v:E} {r:List E} (ihk:SE G call n k) (ihv:SE G call n v) (ihr:SD G call n r):SD G call n (k::v::r):=by
 intro ks xs pos c A ρ σ Fz s Q X E C HA S HX h e
 match ks,xs,h with
 | some k'::ks,v'::xs,h =>
  have h':(zj k&&aE (b9 G c.env) c.env.scope.names k k'&&aE (b9 G c.env) c.env.scope.names v v'&&rr (b9 G c.env) c.env.scope.names r ks xs)=true:=h
  have h':=an4 h'
  refine evalPairs_cons (wpAny_mono (ihk _ c A ρ σ Fz s _ X E C HA S HX h'.1.1.2 e) (λ a s₁ ha=>?_) λ u' u' x=>x)
  obtain ⟨Va,σ₁,Fz₁,sb,ha,S₁,q⟩:=ha
  refine wpAny_bind (wpAny_mono (ihv _ c A ρ σ₁ Fz₁ s₁ _ X E C HA S₁ HX h'.1.2 q) (λ b s₂ hb=>wpAny_bind (wpAny_standAt (wpAny_pure ?_))) λ u' u' x=>x)
  obtain ⟨Vb,σ₂,Fz₂,sb₂,hb,S₂,q⟩:=hb
  refine wpAny_mono (ihr _ _ pos c A ρ σ₂ Fz₂ s₂ _ X E C HA S₂ HX h'.2 q) (λ ps s₃ hps=>?_) λ u' u' x=>x
  refine al hps ?_;clear hps;intro z0 hl;refine eT z0 ?_;clear z0;intro Vs σ₃ Fz₃ sb₃ hps S₃ q
  exact ⟨⟨Va::Vb::Vs,σ₃,Fz₃,(sb.trans sb₂).trans sb₃,⟨a,b,ps,rfl,ha.mono (Hf.mono (sb₂.trans sb₃)),hb.mono (Hf.mono sb₃),hps⟩,S₃,q⟩,by (refine rwE List.length_cons ?_;refine rwE List.length_cons ?_;refine rwE hl ?_;rfl)⟩
theorem qi {lm sc} {es:List E}:∀ {ks:List (Option PySem.Expr)} {xs:List PySem.Expr},rr lm sc es ks xs=true->ks.all (·.isSome)=true/\ks.length=xs.length:=by
 refine iH (P:=λ es=>∀ {ks:List (Option PySem.Expr)} {xs:List PySem.Expr},rr lm sc es ks xs=true->ks.all (·.isSome)=true/\ks.length=xs.length) ?_ ?_ ?_ es
 ·intro ks xs h
  induction ks using List.casesOn with
  | nil =>
   induction xs using List.casesOn with
   | nil=>exact ⟨rfl,rfl⟩
   | cons _ _=>exact ad h
  | cons _ _=>exact ad h
 ·exact λ u' ks xs h=>ad h
 ·intro k v r ih ks xs h
  refine jC (P:=λ ks=>ks.all (·.isSome)=true/\ks.length=xs.length) h λ k' ks h=>jO (P:=λ k'=>(k'::ks).all (·.isSome)=true/\(k'::ks).length=xs.length) h λ k' h=>jC (P:=λ xs=>(some k'::ks).all (·.isSome)=true/\(some k'::ks).length=xs.length) h λ v' xs h=>?_
  have h:=ih (an2 h).2
  exact ⟨h.1,congrArg (·+1) h.2⟩
theorem vL {fr:Bool} {es:List E} (ih:SD G call n es):SE G call n (.dct fr es):=by
 intro x c A ρ σ Fz s Q X E C HA S HX h e
 refine Aa h λ ks xs pos h'=>?_
 have h':=And.intro (of_decide_eq_true (an2 h').1) (an2 h').2
 refine al h' ?_;clear h';intro hz h'
 refine al (qi h') ?_;intro hall hlen
 obtain ⟨g,m,mf,lo,Mt,Tb,Ce,led,S⟩:=S
 have hns:(s.heap.objs.size==sysModules)=false:=S.F.notModules (modules_low C.T.nolimit)
 have S1:=S.aside (h':=s.heap.push { cls:=.type "dict",data:=.dict #[] }) (a:=s.heap.objs.size) (o:=dictOf [] 0) (λ b o e=>Heap.get?_push_of_some _ e) (Heap.get?_push_size _ rfl) (aM _ (Nat.le_refl _))
 by_cases hk:ks=[]
 ·subst hk
  have hx:xs=[]:=List.length_eq_zero_iff.mp hlen.symm
  subst hx
  have hes:es=[]:=by
   match es,h' with
   | [],_=>rfl
   | [_],h=>exact ad h
   | _::_::_,h=>exact ad h
  subst hes
  have e':(([]:List (Nat×V)).map (λ x=>x.1)).Nodup/\xv fr [] σ Q:=e
  refine wpAny_Dict_empty ?_
  induction fr using Bool.casesOn with
  | false =>
   refine al (S1.unside) ?_;intro S2 hg
   exact ⟨.dct [],σ,_,λ u' h=>.tail _ h,⟨_,[],0,rfl,.inr (.head _),rfl,List.nodup_nil,Nat.zero_le _,hns⟩,⟨g,m,mf,lo,Mt,Tb,Ce,_,S2⟩,e'.2⟩
  | true =>
   have S2:=S1.sideMt (mm:=.dct []) ⟨[],0,rfl,rfl,List.nodup_nil,Nat.zero_le _,hns⟩
   exact ⟨.loc s.heap.objs.size,_,Fz,sub.refl,rfl,⟨g,m,mf,lo,_,Tb,Ce,_,S2⟩,e'.2 _ S.fresh⟩
 ·refine Dict_made (knd:=PySem.strKind G.prog G.w) S.F hall hlen hk (by lia) λ u'=>?_
  refine wpAny_mono (ih ks xs pos (c.ex [(s.heap.objs.size,dictOf [] 0)]) A ρ σ Fz { s with heap:=s.heap.push { cls:=.type "dict",data:=.dict #[] } } _ X E (C.ex _) (HA.ex _) ⟨g,m,mf,lo,Mt,Tb,Ce,_,S1⟩ (λ e s' he=>HX e s' he.ex) h' e) (λ ps s₁ hps=>?_) λ u' u' x=>x
  refine al hps ?_;clear hps;intro z0 hl;refine eT z0 ?_;clear z0;intro Vs σ₁ Fz₁ sb hps S₁ q
  obtain ⟨g₁,m₁,mf₁,lo₁,Mt₁,Tb₁,Ce₁,led₁,S₁⟩:=S₁
  induction hp:dB Vs using Option.casesOn with
  | none=>rw [hp] at q;exact q.elim
  | some kvs =>
   rw [hp] at q
   refine al q ?_;clear q;intro nd q
   refine au (hps.up (prog:=G.prog) hp) ?_;intro kvs' hc hd
   have hg:s₁.heap.get? s.heap.objs.size=some (dictOf [] 0):=S₁.N.get (S₁.pm.mem_iff.mpr (by simp))
   refine ⟨kvs',hc,⟨_,#[],0,hg,⟨rfl,rfl,rfl⟩,rfl,λ u' h=>absurd h (by simp),.nil,List.nodup_nil⟩,λ h' hD' hs=>?_⟩
   rw [merged_nil_of_nodup kvs' (by refine rwE hd.keys ?_;exact fm nd)] at hD'
   refine gz (dv hD') ?_;intro es' n' ho' hp' hk'
   have r':=VRd.of_pairs hd hp' hk'
   have hlk:kvs.length<=1000:=by
    have h1:=hc.length
    have h2:=congrArg List.length hd.keys
    simp at h2
    lia
   refine ao (S₁.sideUp hs ho') ?_;intro led₂ S₂
   induction fr using Bool.casesOn with
   | false =>
    refine al (S₂.unside) ?_;intro S₃ z1
    exact ⟨.dct kvs,σ₁,_,sb.trans λ u' h=>.tail _ h,⟨_,es',n',rfl,.inr (.head _),r'.mono (Hf.mono λ u' h=>.tail _ h),nd,hlk,hns⟩,⟨g₁,m₁,mf₁,lo₁,Mt₁,Tb₁,Ce₁,_,S₃⟩,q⟩
   | true =>
    have S₃:=S₂.sideMt (mm:=.dct kvs) ⟨es',n',rfl,r',nd,hlk,hns⟩
    exact ⟨.loc s.heap.objs.size,_,Fz₁,sb,rfl,⟨g₁,m₁,mf₁,lo₁,_,Tb₁,Ce₁,_,S₃⟩,q _ S₁.apart⟩
end
inductive cT (P:Params) (H:Hp):Obj->List V->Prop
 | lst {o ol l i xs n items}:o.cls=.type "list_iterator" -> o.data=.fields #[.ref l,.int ((i:Nat):Int) 0]->H l ol->ol.cls=.type "list" -> ol.data=.seq xs n->VRs P H items (xs.toList.drop i)->cT P H o items
 | tup {o ol l i xs n items}:o.cls=.type "tuple_iterator" -> o.data=.fields #[.ref l,.int ((i:Nat):Int) 0]->H l ol->ol.cls=.type "tuple" -> ol.data=.seq xs n->VRs P H items (xs.toList.drop i)->cT P H o items
 | rng {x st:Int} {n:Nat}:0<st->cT P H { cls:=.type "range_iterator",dict:=none,data:=.fields #[rawInt x,rawInt n,rawInt st],slots:=#[] } ((List.range n).map λ k:Nat=>V.int (x+st*k))
theorem cT.mono {P:Params} {H H':Hp} (k:∀ a o,H a o->H' a o) {o:Obj} {items:List V} (h:cT P H o items):cT P H' o items:=by
 cases h with
 | lst h1 h2 h3 h4 h5 h6=>exact .lst h1 h2 (k _ _ h3) h4 h5 (h6.mono k)
 | tup h1 h2 h3 h4 h5 h6=>exact .tup h1 h2 (k _ _ h3) h4 h5 (h6.mono k)
 | rng h=>exact .rng h
section
variable {c:Cx} {ρ:Rho} {σ:St} {Fz:List (Addr×Obj)} {A:Around} {E:Value->Shared->Prop} {s:Shared} {h:Heap} {m mf:Str->Option Value} {lo Mt Tb Ce led:List (Addr×Obj)} {n:Nat}
theorem SRp.sideDrop (S:SRp G (c.ex [(a,o)]) ρ σ Fz h m mf lo Mt Tb Ce led) {h':Heap} (hs:Heap.ExtBut a h h'):∃ led',SRp G c ρ σ Fz h' m mf lo Mt Tb Ce led':=by
 have pm:led.Perm ((a,o)::(lo++(Mt++(Tb++(Ce++(c.Ex++Fz)))))):=by
  classical
  refine ar λ x=>?_
  have:=List.perm_iff_count.mp S.pm x
  simp only [List.count_append,List.count_cons,List.count_nil] at this ⊢
  lia
 have N:News c.g c.L h ((a,o)::(lo++(Mt++(Tb++(Ce++(c.Ex++Fz)))))):=λ p hp=>S.N p (pm.mem_iff.mpr hp)
 have nd:=(pm.map (λ x=>x.1)).nodup_iff.mp S.nd
 rw [List.map_cons,List.nodup_cons] at nd
 have D:=N (a,o) (.head _)
 have ne:∀ p∈lo++(Mt++(Tb++(Ce++(c.Ex++Fz)))),p.1≠a:=λ p hp e=>nd.1 (by show a∈_;refine rwB e ?_;exact List.mem_map_of_mem hp)
 refine ⟨_,⟨⟨S.F.ns.extBut hs (Ne.symm D.2.1),λ b ob e=>hs b ob (λ q=>?_) (S.F.keep b ob e),S.F.above⟩,λ p hp=>⟨hs _ _ (ne p hp) (N p (.tail _ hp)).1,(N p (.tail _ hp)).2⟩,nd.2,List.Perm.refl _,S.loc,S.mt,S.tbr,S.er,S.ce,S.fk⟩⟩
 have:=D.2.2
 rw [← q,e] at this;cases this
theorem kF {b s:Int} (hs:0<s) (hs2:s<=1000) (h1:-100000<=b) (h2:b<=100000):Builtin.Range.small 0 b s=true/\Builtin.Range.rangeSize 0 b s=(((b - 0+s - 1) / s).toNat:Int)/\((b - 0+s - 1) / s).toNat<=100000:=by
 have hz:Builtin.Range.rangeSize 0 b s=if 0<b then (b - 0 - 1) / s+1 else 0:=by
  delta Builtin.Range.rangeSize
  refine rwE (if_pos hs) ?_;rfl
 have hq:Builtin.Range.rangeSize 0 b s=(((b - 0+s - 1) / s).toNat:Int):=by
  refine rwE hz ?_
  split
  ·rename_i hb
   have e:b - 0+s - 1=(b - 0 - 1)+s:=by lia
   refine rwE e ?_;refine rwE (Int.add_ediv_of_dvd_right (Int.dvd_refl s)) ?_;refine rwE (Int.ediv_self (by lia)) ?_
   have:0<=(b - 0 - 1) / s:=Int.ediv_nonneg (by lia) (by lia)
   lia
  ·rename_i hb
   have:(b - 0+s - 1) / s<=0:=by
    have:(b - 0+s - 1) / s<1:=Int.ediv_lt_of_lt_mul hs (by lia)
    lia
   lia
 have hsz:0<=Builtin.Range.rangeSize 0 b s/\Builtin.Range.rangeSize 0 b s<=100000:=by
  refine rwE hz ?_
  split
  ·have a1:0<=(b - 0 - 1) / s:=Int.ediv_nonneg (by lia) (by lia)
   have a2:(b - 0 - 1) / s<=b - 0 - 1:=Int.ediv_le_self _ (by lia)
   lia
  ·lia
 refine ⟨?_,hq,Int.ofNat_le.mp (by rw [← hq];exact hsz.2)⟩
 have fit:∀ x:Int,-200000<=x->x<=200000->Builtin.Range.rangeFitsLong x=true:=by
  intro x h1 h2
  delta Builtin.Range.rangeFitsLong
  simp
  lia
 delta Builtin.Range.small
 refine rwE (fit 0 (by lia) (by lia)) ?_;refine rwE (fit b (by lia) (by lia)) ?_;refine rwE (fit s (by lia) (by lia)) ?_;refine rwE (fit _ (by lia) (by lia)) ?_;refine rwE (if_pos hs) ?_;refine rwE (fit (b+(s - 1)) (by lia) (by lia)) ?_
 simp
theorem l4 {V:V} {items:List Mine.Internal.V} {σ':St} {P:Mine.Internal.V->List Mine.Internal.V->St->Prop} (e:aF V σ=some (items,σ')) (h1:∀ l,P (.tup l) l σ) (h2:∀ l,P (.lst l) l σ) (h3:∀ b s,0<s->s<=1000->-100000<=b->b<=100000->P (.rng 0 b s) (rk 0 b s) σ)
 (h4:∀ a l,look a σ=some (.lst l)->P (.loc a) l (rem a σ)):P V items σ':=by
 induction V using Mine.Internal.V.casesOn with
 | tup l=>cases e;exact h1 _
 | lst l=>cases e;exact h2 _
 | loc a =>
  have e:(match look a σ with | some (.lst l)=>some (l,rem a σ) | _=>none)=some (items,σ'):=e
  have h4:=h4 a
  revert e h4
  induction look a σ using Option.casesOn with
  | none=>exact λ e _=>J e
  | some mm =>
   induction mm using Mine.Internal.M.casesOn with
   | lst l=>intro e h;cases e;exact h _ rfl
   | _=>exact λ e _=>J e
 | rng a b s =>
  obtain ⟨hb,e⟩:=Option.ite_none_right_eq_some.mp e
  cases e
  exact b5 hb λ q1 q2 q3 q4 q5=>rwE (of_decide_eq_true q1) (h3 b s (of_decide_eq_true q2) (of_decide_eq_true q3) (of_decide_eq_true q4) (of_decide_eq_true q5))
 | _=>exact J e
theorem iT (C:COK G c) (S:SR G c ρ σ Fz s) {V:V} {v:Value} {items:List Mine.Internal.V} {σ':St} (hv:VR G.w.params (Hf G.kx Fz) V v) (e:aF V σ=some (items,σ')) {Q:Value->Shared->Prop}
 (q:∀ I o Fz' s',sub Fz Fz'->SR G (c.ex [(I,o)]) ρ σ' Fz' s'->cT G.w.params (Hf G.kx Fz') o items->items.length<=100000->Q (.ref I) s') :
 wpAny (model G.prog G.w) A (pyIter v) Q E s:=by
 obtain ⟨g,m,mf,lo,Mt,Tb,Ce,led,S⟩:=S
 have side:∀ {σ₁ Fz₁ Mt₁ led₁} {o:Obj},SRp G c ρ σ₁ Fz₁ s.heap m mf lo Mt₁ Tb Ce led₁->o.isFreed=false->SR G (c.ex [(s.heap.objs.size,o)]) ρ σ₁ Fz₁ { s with heap:=s.heap.push o }:=λ S₁ ho =>
  ⟨g,m,mf,lo,_,Tb,Ce,_,S₁.aside (λ b o e=>Heap.get?_push_of_some _ e) (Heap.get?_push_size _ ho) (aM _ (Nat.le_refl _))⟩
 revert hv q
 refine l4 (P:=λ V items σ'=>VR G.w.params (Hf G.kx Fz) V v->(∀ I o Fz' s',sub Fz Fz'->SR G (c.ex [(I,o)]) ρ σ' Fz' s'->cT G.w.params (Hf G.kx Fz') o items->items.length<=100000->Q (.ref I) s')->wpAny (model G.prog G.w) A (pyIter v) Q E s) e (λ l hv q=>?_) (λ l hv q=>?_) (λ b st h1 h2 h3 h4 hv q=>?_) λ a l hl hv q=>?_
 ·obtain ⟨a,o,xs,k,rfl,h2,h3,h4,h5,h6⟩:=hv
  exact wpAny_pyIter_tuple (items:=xs) ⟨o,S.get C h2,h3,k,h4⟩ (q _ _ Fz _ sub.refl (side S rfl) (.tup (i:=0) rfl rfl h2 h3 h4 (by simpa using h5)) h6)
 ·obtain ⟨a,o,xs,k,rfl,h2,h3,h4,h5,h6⟩:=hv
  exact wpAny_pyIter_list (items:=xs) ⟨o,S.get C h2,h3,k,h4⟩ (q _ _ Fz _ sub.refl (side S rfl) (.lst (i:=0) rfl rfl h2 h3 h4 (by simpa using h5)) h6)
 ·obtain ⟨r,t,u,w,rfl,hr⟩:=hv
  refine bq (kF h1 h2 h3 h4) ?_;intro hs1 hs2 hs3
  refine wpAny_pyIter_range (S.get C hr) hs1 ?_
  refine rwE hs2 ?_
  have:rk 0 b st=(List.range ((b - 0+st - 1) / st).toNat).map λ k:Nat=>Mine.Internal.V.int (0+st*k):=if_pos h1
  rw [this] at q
  refine q _ _ Fz _ sub.refl (side S rfl) (.rng h1) ?_
  rw [List.length_map,List.length_range]
  exact hs3
 ·obtain ⟨pre,f,post,e1,⟨xs,k,e2,h2,h3⟩,_,hr⟩:=S.mt.look hl
  have hg:s.heap.get? a=some (listOf xs k):=S.getM (by (refine rwE e1 ?_;refine rwE e2 ?_);exact List.mem_append_right _ (.head _))
  have S₁:=S.rm e1 hr
  subst e2
  rw [show v=.ref a from hv]
  refine wpAny_pyIter_list (items:=xs) ⟨_,hg,rfl,k,rfl⟩ (q _ _ _ _ (λ u' h=>List.mem_append_right _ h) (side S₁ rfl) (.lst (i:=0) (ol:=listOf xs k) rfl rfl (.inr (by simp)) rfl rfl ?_) h3)
  simpa using h2.mono (Hf.mono λ u' h=>.tail _ h)
theorem iU (C:COK G c) {I:Addr} {o:Obj} (S:SR G (c.ex [(I,o)]) ρ σ Fz s) {v:V} {r:List V} (hi:cT G.w.params (Hf G.kx Fz) o (v::r)) {Q:Option Value->Shared->Prop}
 (q:∀ val o' s',VR G.w.params (Hf G.kx Fz) v val->SR G (c.ex [(I,o')]) ρ σ Fz s'->cT G.w.params (Hf G.kx Fz) o' r->Q (some val) s') :
 wpAny (model G.prog G.w) A (pyNext (.ref I)) Q E s:=by
 obtain ⟨g,m,mf,lo,Mt,Tb,Ce,led,S⟩:=S
 have hg:s.heap.get? I=some o:=S.N.get (S.pm.mem_iff.mpr (by simp))
 have cont:∀ {h':Heap} {o':Obj} {tk},Heap.SameBut I s.heap h'->h'.get? I=some o'->SR G (c.ex [(I,o')]) ρ σ Fz { s with heap:=h',toks:=tk }:=λ hs ho=>by
  refine ao (S.sideUp hs ho) ?_;intro led' S'
  exact ⟨g,m,mf,lo,_,Tb,Ce,led',S'⟩
 generalize hit:v::r=items at hi
 cases hi with
 | @lst o ol l i xs k items h1 h2 h3 h4 h5 h6 =>
  subst hit
  obtain ⟨x,ys,e,hx,hr⟩:=h6
  have hxi:xs[i]?=some x:=by
   have:=List.getElem?_drop (xs:=xs.toList) (i:=i) (j:=0)
   rw [e] at this
   simpa using this.symm
  have hr':VRs G.w.params (Hf G.kx Fz) r (xs.toList.drop (i+1)):=by
   have:xs.toList.drop (i+1)=ys:=by (refine rwB List.drop_drop ?_;refine rwE e ?_);rfl
   refine rwE this ?_;exact hr
  refine wpAny_pyNext_list_item (i:=i) ⟨o,hg,h1,h2⟩ ⟨ol,S.get (C.ex _) h3,h4,k,h5⟩ hxi λ h' ho' hs=>?_
  refine cu ho' ?_;clear ho';intro o' ho' hc' hd'
  exact q x o' _ hx (cont (tk:=s.toks) hs ho') (.lst (i:=i+1) hc' hd' h3 h4 h5 hr')
 | @tup o ol l i xs k items h1 h2 h3 h4 h5 h6 =>
  subst hit
  obtain ⟨x,ys,e,hx,hr⟩:=h6
  have hxi:xs[i]?=some x:=by
   have:=List.getElem?_drop (xs:=xs.toList) (i:=i) (j:=0)
   rw [e] at this
   simpa using this.symm
  have hr':VRs G.w.params (Hf G.kx Fz) r (xs.toList.drop (i+1)):=by
   have:xs.toList.drop (i+1)=ys:=by (refine rwB List.drop_drop ?_;refine rwE e ?_);rfl
   refine rwE this ?_;exact hr
  refine wpAny_pyNext_tuple_item (i:=i) ⟨o,hg,h1,h2⟩ ⟨ol,S.get (C.ex _) h3,h4,k,h5⟩ hxi λ h' ho' hs=>?_
  refine cu ho' ?_;clear ho';intro o' ho' hc' hd'
  exact q x o' _ hx (cont (tk:=s.toks) hs ho') (.tup (i:=i+1) hc' hd' h3 h4 h5 hr')
 | @rng x st k hst =>
  induction k using Nat.casesOn with
  | zero=>cases hit
  | succ k =>
   rw [List.range_succ_eq_map,List.map_cons,List.cons.injEq] at hit
   refine al hit ?_;clear hit;intro z0 z1;obtain rfl:=z0;obtain rfl:=z1
   refine wpAny_pyNext_range_item hg (by lia) λ h' ho' hs=>?_
   refine q _ _ _ ⟨s.toks,by simp⟩ (cont hs ho') ?_
   have e1:((k+1:Nat):Int) - 1=(k:Int):=by lia
   refine rwE e1 ?_
   have e2:(List.map (λ j:Nat=>V.int (x+st*j)) (List.map Nat.succ (List.range k)))=(List.range k).map λ j:Nat=>V.int ((x+st)+st*j):=by
    refine rwE List.map_map ?_
    refine List.map_congr_left λ j u'=>?_
    show V.int (x+st*((j+1:Nat):Int))=_
    congr 1
    push_cast
    refine rwE (Int.mul_add ..) ?_;refine rwE (Int.mul_one ..) ?_
    lia
   refine rwE e2 ?_
   exact .rng hst
theorem kW (C:COK G c) (hh:A.handled=none) {I:Addr} {o:Obj} (S:SR G (c.ex [(I,o)]) ρ σ Fz s) (hi:cT G.w.params (Hf G.kx Fz) o []) {Q:Option Value->Shared->Prop} (q:∀ s',SR G c ρ σ Fz s'->Q none s') :
 wpAny (model G.prog G.w) A (pyNext (.ref I)) Q E s:=by
 obtain ⟨g,m,mf,lo,Mt,Tb,Ce,led,S⟩:=S
 have hg:s.heap.get? I=some o:=S.N.get (S.pm.mem_iff.mpr (by simp))
 have cont:∀ {h':Heap},Heap.ExtBut I s.heap h'->SR G c ρ σ Fz { s with heap:=h' }:=λ hs=>by
  refine ao (S.sideDrop hs) ?_;intro led' S'
  exact ⟨g,m,mf,lo,_,Tb,Ce,led',S'⟩
 generalize hit:[]=items at hi
 cases hi with
 | @lst o ol l i xs k items h1 h2 h3 h4 h5 h6 =>
  subst hit
  have hxi:xs[i]?=none:=by
   have:=List.drop_eq_nil_iff.mp (show xs.toList.drop i=[] from h6)
   simpa using this
  exact wpAny_pyNext_list_end (i:=i) hh ⟨o,hg,h1,h2⟩ ⟨ol,S.get (C.ex _) h3,h4,k,h5⟩ hxi λ h' hs=>q _ (cont hs)
 | @tup o ol l i xs k items h1 h2 h3 h4 h5 h6 =>
  subst hit
  have hxi:xs[i]?=none:=by
   have:=List.drop_eq_nil_iff.mp (show xs.toList.drop i=[] from h6)
   simpa using this
  exact wpAny_pyNext_tuple_end (i:=i) hh ⟨o,hg,h1,h2⟩ ⟨ol,S.get (C.ex _) h3,h4,k,h5⟩ hxi λ h' hs=>q _ (cont hs)
 | @rng x st k hst =>
  induction k using Nat.casesOn with
  | zero=>exact wpAny_pyNext_range_end hh hg (Int.le_refl _) λ h' hs=>q _ (cont hs)
  | succ k=>rw [List.range_succ_eq_map] at hit;cases hit
theorem tc (C:COK G c) {I:Addr} {o:Obj} (S:SR G (c.ex [(I,o)]) ρ σ Fz s) {r:List V} (hi:cT G.w.params (Hf G.kx Fz) o r) {Q:Value->Shared->Prop} (q:Q (.ref I) s):wpAny (model G.prog G.w) A (pyIter (.ref I)) Q E s:=by
 obtain ⟨g,m,mf,lo,Mt,Tb,Ce,led,S⟩:=S
 have hg:s.heap.get? I=some o:=S.N.get (S.pm.mem_iff.mpr (by simp))
 cases hi with
 | lst h1 h2 h3 h4 h5 h6=>exact wpAny_pyIter_listiter ⟨o,hg,h1,h2⟩ q
 | tup h1 h2 h3 h4 h5 h6=>exact wpAny_pyIter_tupleiter ⟨o,hg,h1,h2⟩ q
 | rng hst=>exact wpAny_pyIter_rangeiter hg q
theorem kY (C:COK G c) {I:Addr} {o:Obj} (S:SR G (c.ex [(I,o)]) ρ σ Fz s) {r:List V} (hi:cT G.w.params (Hf G.kx Fz) o r) {t:PySem.Expr} {v:Value} {Q:Unit->Shared->Prop} (q:Q () s):wpAny (model G.prog G.w) A (letOwnedTupleGo t (.ref I) v) Q E s:=by
 obtain ⟨g,m,mf,lo,Mt,Tb,Ce,led,S⟩:=S
 have hg:s.heap.get? I=some o:=S.N.get (S.pm.mem_iff.mpr (by simp))
 have hc:∃ T,o.cls=.type T/\["enumerate", "zip", "dict_itemiterator", "dict_reverseitemiterator", "odict_iterator", "itertools.zip_longest", "itertools.pairwise"].contains T=false:=by
  cases hi with
  | lst h1 h2 h3 h4 h5 h6=>exact ⟨"list_iterator",h1,by decide⟩
  | tup h1 h2 h3 h4 h5 h6=>exact ⟨"tuple_iterator",h1,by decide⟩
  | rng hst=>exact ⟨"range_iterator",rfl,by decide⟩
 refine au hc ?_;clear hc;intro T hT hn
 have key:∀ p,wpAny (model G.prog G.w) A (letOwnedTupleGo (.List [] p) (.ref I) v) Q E s:=by
  intro p
  induction v using Value.casesOn with
  | ref a =>
   refine wpAny_bind (wpAny_load hg ?_)
   refine rwE hT ?_
   generalize o.data=dd
   induction dd using Data.casesOn with
   | fields vs =>
    dsimp only
    refine rwE hn ?_
    simp only [Bool.false_and,Bool.false_eq_true,if_false]
    exact wpAny_pure q
   | _=>exact wpAny_pure q
  | _=>exact wpAny_pure q
 induction t using PySem.Expr.casesOn with
 | Tuple _ _ p=>exact key p
 | List _ p=>exact key p
 | _=>exact wpAny_pure q
end
noncomputable def bJ (env:Env):List (Str×NameKind)->List (Str×Addr)->List (Str×Addr)
 | [],acc=>acc
 | (n,k)::r,acc=>bJ env r (if k==.free then (match env.cells.lookup n with | some a=>(n,a)::acc | none=>acc) else acc)
theorem eC {env:Env} {scope:Scope} (h:∀ p∈scope.names,p.2=.free->(env.cells.lookup p.1).isSome=true):closureFor scope env=pure (bJ env scope.names []):=by
 delta closureFor
 have key:∀ (l:List (Str×NameKind)) (acc:List (Str×Addr)),(∀ p∈l,p.2=.free->(env.cells.lookup p.1).isSome=true) ->
  (do
   let r ← forIn l acc (λ x r=>do
    match x with
    | (name,kind)=>do
     let cs:=r
     if (kind==NameKind.free)=true then do
      let c ← cellOf env name
      let cs:=(name,c)::cs
      pure PUnit.unit
      pure (ForInStep.yield cs)
     else do
      pure PUnit.unit
      pure (ForInStep.yield cs))
   pure r:Sem (List (Str×Addr)))=pure (bJ env l acc):=by
  intro l
  induction l with
  | nil=>intro acc _;rfl
  | cons p r ih =>
   intro acc hp
   obtain ⟨n,k⟩:=p
   have ih':=λ acc=>ih acc λ p hp'=>hp p (.tail _ hp')
   refine rwE (List.forIn_cons ..) ?_
   change _=pure (bJ env r _)
   by_cases hk:(k==NameKind.free)=true
   ·have hs:=hp (n,k) (.head _) (beq_iff_eq.mp hk)
    refine ao (Option.isSome_iff_exists.mp hs) ?_;intro a ha
    have hc:cellOf env n=pure a:=by delta cellOf;dsimp only at ha;refine rwE ha ?_;rfl
    simp only [hk,if_true,hc,ha,pure_bind]
    exact ih' _
   ·simp only [hk,if_false,pure_bind,Bool.false_eq_true]
    exact ih' _
 have k:=key scope.names [] h
 refine Eq.trans ?_ k
 exact bind_pure _
theorem td {env:Env} {n:Str} {k:NameKind} {acc:List (Str×Addr)} {p:Str×Addr} (h:p∈(if (k==.free)=true then (match env.cells.lookup n with | some a=>(n,a)::acc | none=>acc) else acc)):p∈acc\/p.1=n:=by
 by_cases q:(k==.free)=true
 ·rw [if_pos q] at h
  induction e:env.cells.lookup n using Option.casesOn with
  | none=>rw [e] at h;exact .inl h
  | some a =>
   rw [e] at h
   exact (List.mem_cons.mp h).elim (λ e=>.inr (congrArg Prod.fst e)) .inl
 ·rw [if_neg q] at h;exact .inl h
theorem oy {env:Env} {x:Str} {l:List (Str×NameKind)}:∀ {acc:List (Str×Addr)},x∉l.map (λ x=>x.1)->(bJ env l acc).lookup x=acc.lookup x:=by
 induction l with
 | nil=>exact λ _=>rfl
 | cons p r ih =>
  intro acc hx
  refine (ih (acc:=if (p.2==.free)=true then (match env.cells.lookup p.1 with | some a=>(p.1,a)::acc | none=>acc) else acc) λ q=>hx (.tail _ q)).trans ?_
  have hne:(x==p.1)=false:=beq_eq_false_iff_ne.mpr λ e=>hx (e▸.head _)
  by_cases q:(p.2==.free)=true
  ·refine rwE (if_pos q) ?_
   induction env.cells.lookup p.1 using Option.casesOn with
   | none=>rfl
   | some a=>refine rwE List.lookup_cons ?_;refine rwE hne ?_;rfl
  ·refine rwE (if_neg q) ?_;rfl
theorem dl {env:Env} {x:Str} {l:List (Str×NameKind)}:∀ {acc:List (Str×Addr)},(x,NameKind.free)∈l->(l.map (λ x=>x.1)).Nodup->(∀ p∈acc,p.1∉l.map (λ x=>x.1))->(bJ env l acc).lookup x=env.cells.lookup x:=by
 induction l with
 | nil=>exact λ h=>nomatch h
 | cons p r ih =>
  intro acc hm hn ha
  obtain ⟨n,k⟩:=p
  have hn:=List.nodup_cons.mp hn
  change (bJ env r _).lookup x=_
  rcases List.mem_cons.mp hm with e | hm
  ·cases e
   refine (oy hn.1).trans ?_
   induction hc:env.cells.lookup x using Option.casesOn with
   | some a=>exact List.lookup_cons_self
   | none =>
    show acc.lookup x=none
    induction hl:acc.lookup x using Option.casesOn with
    | none=>rfl
    | some a=>exact (ha _ (aq hl) (.head _)).elim
  ·exact ih hm hn.2 λ p hp=>(td hp).elim (λ h q=>ha p h (.tail _ q)) λ h q=>hn.1 (h▸q)
section
variable {prog:Program} {w:World} {A:Around} {R:Result->Shared->Prop} {s:Shared}
theorem oz {elt target iter:PySem.Expr} {scope:Scope} {pos:Pos} {it acc:Value} {env:Env} (I:Nat->Shared->Prop)
 (turn:∀ n s,I n s->wpAny (model prog w) A (pyNext it) (λ r s₁=>match r with
  | none=>R (.ok .next) s₁
  | some v=>wpAny (model prog w) A (letOwnedTupleGo target it v) (λ u' s₁=>wpAny (model prog w) A (assign target env v) (λ u' s₂=>wpAny (model prog w) A (PySem.eval elt env) (λ x s₃ =>
   wpAny (model prog w) A (PySem.call (.builtin "list.append") [acc,x]) (λ u' s₄=>∃ m,m<n/\I m s₄) (notedBy (model prog w) A env λ e s'=>R (.error e) s') s₃)
   (notedBy (model prog w) A env λ e s'=>R (.error e) s') s₂) (notedBy (model prog w) A env λ e s'=>R (.error e) s') s₁) (notedBy (model prog w) A env λ e s'=>R (.error e) s') s₁)
  (notedBy (model prog w) A env λ e s'=>R (.error e) s') s)
 (n:Nat) (h:I n s):codeAny (model prog w) A (.compLoop (.ListComp elt [⟨target,iter,[],0⟩] scope pos) 0 it acc env) R s:=by
 refine codeAny_loop rfl I (λ n s hI=>?_) n h
 show wpAny _ _ ((compTurn (.ListComp elt [⟨target,iter,[],0⟩] scope pos) 0 it acc env).onRaise (λ x=>do noteFrame x env;theTreesLotGoes x)) _ _ s
 refine wpAny_noted ?_
 refine rwE (compTurn_list1 ..) ?_
 refine wpAny_bind (wpAny_standAt (wpAny_bind (wpAny_mono (turn n s hI) (λ r s₁ h₁=>?_) λ u' u' h'=>h')))
 induction r using Option.casesOn with
 | none=>exact wpAny_pure h₁
 | some v =>
  refine wpAny_bind (wpAny_mono h₁ (λ u' s₁ h₁=>?_) λ u' u' h'=>h')
  exact wpAny_bind (wpAny_mono h₁ (λ u' s₂ h₂=>wpAny_bind (wpAny_bind (wpAny_mono h₂ (λ x s₃ h₃=>wpAny_bind (wpAny_mono h₃
   (λ u' s₄ h₄=>wpAny_pure (wpAny_pure ⟨rfl,h₄⟩)) λ u' u' h'=>h')) λ u' u' h'=>h'))) λ u' u' h'=>h')
theorem qj {target it body orelse env} (I:Nat->Shared->Prop)
 (turn:∀ n s,I n s->wpAny (model prog w) A (pyNext it) (λ r s₁=>match r with
  | none=>wpAny (model prog w) A (PySem.execs orelse env) (λ f s₃=>R (.ok f) s₃) (notedBy (model prog w) A env λ e s'=>R (.error e) s') s₁
  | some v=>wpAny (model prog w) A (letOwnedTupleGo target it v) (λ u' s₁=>wpAny (model prog w) A (assign target env v) (λ u' s₂=>wpAny (model prog w) A (PySem.execs body env) (λ f s₃=>match f with
   | .next | .cont=>∃ m,m<n/\I m s₃
   | .brk=>R (.ok .next) s₃
   | .ret v=>R (.ok (.ret v)) s₃) (notedBy (model prog w) A env λ e s'=>R (.error e) s') s₂) (notedBy (model prog w) A env λ e s'=>R (.error e) s') s₁) (notedBy (model prog w) A env λ e s'=>R (.error e) s') s₁) (notedBy (model prog w) A env λ e s'=>R (.error e) s') s)
 (n:Nat) (h:I n s):codeAny (model prog w) A (.forLoop target it body orelse env) R s:=by
 refine codeAny_loop' rfl I (λ n s hI=>?_) n h
 show wpAny _ _ ((forTurn target it body orelse env).onRaise (λ x=>do noteFrame x env;theTreesLotGoes x)) _ _ s
 refine wpAny_noted ?_
 simp only [forTurn]
 refine wpAny_bind (wpAny_standAt (wpAny_bind (wpAny_onRaise (wpAny_mono (turn n s hI) (λ r s₁ h₁=>?_) λ u' u' h'=>wpAny_standAt h'))))
 induction r using Option.casesOn with
 | none=>exact wpAny_pure (.inr ⟨rfl,codeAny_block h₁⟩)
 | some v =>
  refine wpAny_bind (wpAny_mono h₁ (λ u' s₁ h₁=>?_) λ u' u' h'=>h')
  refine wpAny_bind (wpAny_mono h₁ (λ u' s₂ h₂=>wpAny_bind (wpAny_mono h₂ (λ f s₃ h₃=>?_) λ u' u' h'=>h')) λ u' u' h'=>h')
  induction f using PySem.Flow.casesOn with
  | next=>exact wpAny_pure (.inl ⟨rfl,h₃⟩)
  | cont=>exact wpAny_pure (.inl ⟨rfl,h₃⟩)
  | brk=>exact wpAny_pure h₃
  | ret v=>exact wpAny_pure h₃
end
theorem vM {x:Nat}:nm x≠(".0" : Str):=by
 have chk:(nmL.all λ s=>!(s == ".0"))=true:=by decide +kernel
 delta nm
 intro e
 induction hx:nmL[x]? using Option.casesOn with
 | some s =>
  rw [hx] at e
  have:=List.all_eq_true.mp chk s (List.mem_of_getElem? hx)
  rw [e9 (t := ".0") e] at this
  simp at this
 | none =>
  rw [hx] at e
  have e2:(".0" : Str).cps=#[46,48]:=by decide +kernel
  have e3:=congrArg (λ s:Str=>s.cps) e
  dsimp only at e3
  rw [e2] at e3
  exact absurd (congrArg Array.size e3) (by simp)
theorem dS {sc:SC} {x:Str}:∀ {names:SC},(iu sc names).lookup x=(names.lookup x).map λ k=>if (k==.free&&sc.lookup x==some .cell)=true then .cell else k
 | []=>rfl
 | (n,k)::r=>by
  have ih:(iu sc r).lookup x=_:=dS (sc:=sc) (x:=x) (names:=r)
  have e:iu sc ((n,k)::r)=(n,if (k==.free&&sc.lookup n==some .cell)=true then .cell else k)::iu sc r:=by
   delta iu
   refine rwE List.map_cons ?_
   dsimp only
   split<;>rfl
  refine rwE e ?_;refine rwE List.lookup_cons ?_;refine rwE List.lookup_cons ?_
  induction h:x==n using Bool.casesOn with
  | true =>
   have e:=beq_iff_eq.mp h
   subst e
   rfl
  | false=>exact ih
theorem bK {scope:Scope} {env:Env} (hk:env.scope.kind=.function):(relabel scope env).names=iu env.scope.names scope.names:=by
 delta relabel iu
 dsimp only
 refine List.map_congr_left λ p u'=>?_
 obtain ⟨n,k⟩:=p
 dsimp only
 refine rwE hk ?_
 simp [Env.kindOf]
noncomputable abbrev Cx.blk (c:Cx) (scope:Scope) (cl:List (Str×Addr)) (Ca:Addr) (mf:Str->Option Value) (ex:List (Addr×Obj)):Cx:={ c with env:=compEnvC scope cl Ca c.env,mF:=some mf,Ex:=ex++c.Ex }
noncomputable def eD (sc:SC) (t:T) (scope:Scope):Bool:=scope.names.all (λ p=>p.2 != .cell&&p.2 != .globalExplicit&&(p.2 != .local||p.1==(".0" : Str)||(tgt t).any λ n=>p.1==nm n)&&(p.2 != .free||sc.lookup p.1==some .cell||sc.lookup p.1==some .free))
noncomputable def ρc (t:T) (ρ:Rho):Rho:=λ x=>if (tgt t).contains x then none else ρ x
section
variable {c:Cx} {ρ:Rho} {σ:St} {Fz:List (Addr×Obj)} {A:Around} {E:Value->Shared->Prop} {s:Shared} {h:Heap} {m mf:Str->Option Value} {lo Mt Tb Ce led:List (Addr×Obj)} {n:Nat}
theorem vN {P:Params} {H:Hp} (C:COK G c) {t:T} {scope:Scope} {Ca:Addr} (hsc:eD c.env.scope.names t scope=true) (nd:(scope.names.map (λ x=>x.1)).Nodup) (er:ER P H c.env m ρ) {m':Str->Option Value} :
 ER P H (compEnvC scope (bJ c.env scope.names []) Ca c.env) m' (ρc t ρ):=by
 intro x V hx
 have hk:(compEnvC scope (bJ c.env scope.names []) Ca c.env).kindOf (nm x)=(scope.names.lookup (nm x)).map λ k=>if (k==.free&&c.env.scope.names.lookup (nm x)==some .cell)=true then .cell else k:=by
  show (relabel scope c.env).names.lookup (nm x)=_
  refine rwE (bK C.ek) ?_;refine rwE dS ?_;rfl
 have hxt:¬ (tgt t).contains x=true/\ρ x=some V:=by
  by_cases q:(tgt t).contains x=true
  ·exact J ((if_pos q).symm.trans hx)
  ·exact ⟨q,(if_neg q).symm.trans hx⟩
 refine rwE hk ?_
 induction hl:scope.names.lookup (nm x) using Option.casesOn with
 | none=>trivial
 | some k =>
  have hm:=aq hl
  have hp:=List.all_eq_true.mp hsc _ hm
  refine b4 hp λ h1 h2 h3 h4=>?_
  have e:=er x V hxt.2
  induction k using PySem.NameKind.casesOn with
  | «local» =>
   exfalso
   rcases orB (b:=(tgt t).any λ n=>nm x==nm n) h3 with h3 | h3
   ·exact vM (beq_iff_eq.mp h3)
   ·obtain ⟨y,hy,hy2⟩:=List.any_eq_true.mp h3
    obtain rfl:=bI (beq_iff_eq.mp hy2)
    exact hxt.1 (List.contains_iff_mem.mpr hy)
  | cell=>exact ad h1
  | globalExplicit=>exact ad h2
  | globalImplicit=>trivial
  | free =>
   have hc:(bJ c.env scope.names []).lookup (nm x)=c.env.cells.lookup (nm x):=dl hm nd λ p hp=>(nomatch hp)
   have ex:∃ a o v,c.env.cells.lookup (nm x)=some a/\H a o/\o.data=.cell (some v)/\VR P H V v:=by
    rcases orB (a:=c.env.kindOf (nm x)==some .cell) h4 with hf | hf
    ·rw [show c.env.kindOf (nm x)=some .cell from beq_iff_eq.mp hf] at e;exact e
    ·rw [show c.env.kindOf (nm x)=some .free from beq_iff_eq.mp hf] at e;exact e
   rw [← hc] at ex
   show match some (if (c.env.scope.names.lookup (nm x)==some .cell)=true then NameKind.cell else .free) with | some .local=>_ | some .cell | some .free=>_ | _=>True
   by_cases q:(c.env.scope.names.lookup (nm x)==some .cell)=true
   ·refine rwE (if_pos q) ?_;exact ex
   ·refine rwE (if_neg q) ?_;exact ex
theorem ER.sub {P:Params} {H:Hp} {env:Env} {ρ':Rho} (k:∀ x V,ρ' x=some V->ρ x=some V) (er:ER P H env m ρ):ER P H env m ρ':=λ x V hx=>er x V (k x V hx)
theorem SRp.rho {c:Cx} (S:SRp G c ρ σ Fz h m mf lo Mt Tb Ce led) {ρ':Rho} (hm:c.mF.isSome=true) (k:∀ x V,ρ' x=some V->ρ x=some V):SRp G c ρ' σ Fz h m mf lo Mt Tb Ce led :=
 ⟨S.F,S.N,S.nd,S.pm,S.loc,S.mt,S.tbr,S.er.sub k,⟨S.ce.1,λ h=>absurd h (by intro e;rw [e] at hm;exact ad hm)⟩,S.fk⟩
noncomputable def AsN (t:T):Prop:=∀ (t':PySem.Expr) (c:Cx) (A:Around) (ρ ρ':Rho) (σ:St) (Fz:List (Addr×Obj)) (s:Shared) (V:V) (v:Value) (E:Value->Shared->Prop) (Q:Unit->Shared->Prop),COK G c->A.handled=none->SR G c ρ σ Fz s->iF c.env.scope.names t t'=true->VR G.w.params (Hf G.kx Fz) V v->aU t V ρ=some ρ' ->
 (∀ s',SR G c ρ' σ Fz s'->Q () s')->wpAny (model G.prog G.w) A (assign t' c.env v) Q E s
noncomputable def As (ts:List T):Prop:=∀ (ts':List PySem.Expr) (c:Cx) (A:Around) (ρ ρ':Rho) (σ:St) (Fz:List (Addr×Obj)) (s:Shared) (Vs:List V) (vs:List Value) (E:Value->Shared->Prop) (Q:Unit->Shared->Prop),COK G c->A.handled=none->SR G c ρ σ Fz s->gu c.env.scope.names ts ts'=true->VRs G.w.params (Hf G.kx Fz) Vs vs->aU.bindNs ts Vs ρ=some ρ' ->
 (∀ s',SR G c ρ' σ Fz s'->Q () s')->wpAny (model G.prog G.w) A (assignInOrder ((assignEach ts' c.env).map (λ x=>x.2)) vs) Q E s
theorem d7 {e:PySem.Expr} {r:List PySem.Expr} {env:Env} (h:av e=true):assignEach (e::r) env=(false,assign e env)::assignEach r env:=by
 cases e<;>first | rfl | (exact ad h)
theorem gU:∀ {es:List PySem.Expr} {env:Env},es.all av=true->(assignEach es env).findIdx? (λ x=>x.1)=none/\(assignEach es env).length=es.length
 | [],_,_=>⟨rfl,rfl⟩
 | e::r,env,h=>by
  have h:=an2 h
  refine al (gU (env:=env) h.2) ?_;intro h1 h2
  refine rwE (d7 h.1) ?_
  exact ⟨by refine rwE (List.findIdx?_cons) ?_;simp [h1],by simp [h2]⟩
theorem je {sc:SC} {ts:List T}:∀ {es:List PySem.Expr},gu sc ts es=true->es.all av=true/\ts.length=es.length:=by
 induction ts with
 | nil =>
  intro es h
  induction es using List.casesOn with
  | nil=>exact ⟨rfl,rfl⟩
  | cons e s=>exact ad h
 | cons t r ih =>
  intro es h
  induction es using List.casesOn with
  | nil=>exact ad h
  | cons e s =>
   have h':(av e&&iF sc t e&&gu sc r s)=true:=h
   have h':=an3 h'
   refine al (ih h'.2) ?_;intro h1 h2
   exact ⟨by (refine rwE List.all_cons ?_;refine rwE h'.1.1 ?_;refine rwE h1 ?_);rfl,congrArg (·+1) h2⟩
theorem fQ (C:COK G c) (hh:A.handled=none) (S:SR G c ρ σ Fz s) {V:V} {v:Value} {l:List Mine.Internal.V} (hv:VR G.w.params (Hf G.kx Fz) V v) (e:V=.tup l\/V=.lst l) {es:List PySem.Expr} {k:Nat} {pos:Pos} (hp:es.all av=true) (hl:es.length=l.length) {Q:Unit->Shared->Prop}
 (q:∀ vs s',VRs G.w.params (Hf G.kx Fz) l vs->SR G c ρ σ Fz s'->wpAny (model G.prog G.w) A (assignInOrder ((assignEach es c.env).map (λ x=>x.2)) vs) Q E s') :
 wpAny (model G.prog G.w) A (assign (.Tuple es k pos) c.env v) Q E s:=by
 obtain ⟨g,m,mf,lo,Mt,Tb,Ce,led,S⟩:=S
 refine al (gU (env:=c.env) hp) ?_;intro p1 p2
 rcases e with rfl | rfl
 ·refine dn (c6 C S hv) ?_;intro a vs z2 ht r z;obtain rfl:=z2
  refine assign_Tuple_tuple hh ht (by (refine rwE p2 ?_;refine rwE hl ?_;refine rwE List.size_toArray ?_;refine rwE r.len ?_;rfl)) p1 λ h' he=>?_
  have:=q vs { s with heap:=h' } r ⟨g,m,mf,lo,Mt,Tb,Ce,led,S.up' (S.F.extBut he (Nat.le_refl _)) (S.N.extBut he (Nat.le_refl _))⟩
  simpa using this
 ·refine dn (c7 C S hv) ?_;intro a vs z2 ht r z;obtain rfl:=z2
  refine kun_list S.F S.N ht hh (by (refine rwE p2 ?_;refine rwE hl ?_;refine rwE List.size_toArray ?_;refine rwE r.len ?_;rfl)) p1 λ h' F' N'=>?_
  have:=q vs { s with heap:=h' } r ⟨g,m,mf,lo,Mt,Tb,Ce,led,S.up' F' N'⟩
  simpa using this
theorem gV:∀ {ts:List T} {Vs:List Mine.Internal.V} {ρ ρ':Rho},aU.bindNs ts Vs ρ=some ρ'->ts.length=Vs.length:=by
 intro ts
 induction ts with
 | nil=>intro Vs ρ ρ' h;cases Vs with | nil=>rfl | cons _ _=>exact J h
 | cons t r ih =>
 intro Vs ρ ρ' h
 induction Vs using List.casesOn with
 | nil=>cases h
 | cons V Vs =>
  refine au (Option.bind_eq_some_iff.mp (show (aU t V ρ).bind (λ ρ=>aU.bindNs r Vs ρ)=some ρ' from h)) ?_;intro ρ₁ z1 h2
  refine rwE List.length_cons ?_;refine rwE List.length_cons ?_;refine rwE (ih h2) ?_;rfl
theorem asN (t:T):AsN t:=by
 refine T.ind (P:=AsN) (Ps:=As) ?_ (λ u' t' c A ρ ρ' σ Fz s V v E Q C hh S h hv e q=>ad h) ?_ (λ u' u' t' c A ρ ρ' σ Fz s V v E Q C hh S h hv e q=>ad h) (λ u' u' t' c A ρ ρ' σ Fz s V v E Q C hh S h hv e q=>ad h) ?_ ?_ t
 ·intro n t' c A ρ ρ' σ Fz s V v E Q C hh S h hv e q
  refine iN h λ id pos h=>b2 h λ h1 h2=>?_
  rw [beq_iff_eq.mp h1] at h2 ⊢
  cases e
  exact wpAny_assign_Name (ib C S (beq_iff_eq.mp h2) hv q)
 ·intro ts ih t' c A ρ ρ' σ Fz s V v E Q C hh S h hv e q
  refine xD h λ es k pos h'=>?_
  refine al (je h') ?_;intro p1 p2
  induction V using Mine.Internal.V.casesOn with
  | tup l=>exact fQ C hh S hv (.inl rfl) p1 (by (refine rwB p2 ?_;refine rwE (gV e) ?_;rfl)) λ vs s' r S'=>ih es c A ρ ρ' σ Fz s' l vs E Q C hh S' h' r e q
  | lst l=>exact fQ C hh S hv (.inr rfl) p1 (by (refine rwB p2 ?_;refine rwE (gV e) ?_;rfl)) λ vs s' r S'=>ih es c A ρ ρ' σ Fz s' l vs E Q C hh S' h' r e q
  | _=>exact J e
 ·intro ts' c A ρ ρ' σ Fz s Vs vs E Q C hh S h hv e q
  induction ts' using List.casesOn with
  | cons _ _=>exact ad h
  | nil =>
   induction Vs using List.casesOn with
   | cons _ _=>exact J e
   | nil=>cases e;cases hv;exact wpAny_pure (q s S)
 ·intro t r ht hr ts' c A ρ ρ' σ Fz s Vs vs E Q C hh S h hv e q
  induction ts' using List.casesOn with
  | nil=>exact ad h
  | cons t' r' =>
   have h':(av t'&&iF c.env.scope.names t t'&&gu c.env.scope.names r r')=true:=h
   have h':=an3 h'
   induction Vs using List.casesOn with
   | nil=>exact J e
   | cons V Vs =>
    refine au (Option.bind_eq_some_iff.mp (show (aU t V ρ).bind (λ ρ=>aU.bindNs r Vs ρ)=some ρ' from e)) ?_;intro ρ₁ h1 h2
    obtain ⟨x,ys,rfl,hx,hys⟩:=hv
    refine rwE (d7 h'.1.1) ?_
    show wpAny _ _ (do holding ys (assign t' c.env x);assignInOrder ((assignEach r' c.env).map (λ x=>x.2)) ys) _ _ _
    refine wpAny_bind (wpAny_holding (ht t' c A ρ ρ₁ σ Fz s V x E _ C hh S h'.1.2 hx h1 λ s₁ S₁=>?_))
    exact hr r' c A ρ₁ ρ' σ Fz s₁ Vs ys E Q C hh S₁ h'.2 hys h2 q
end
section
variable {c:Cx} {ρ:Rho} {σ:St} {Fz:List (Addr×Obj)} {A:Around} {E:Value->Shared->Prop} {s:Shared} {h:Heap} {m mf:Str->Option Value} {lo Mt Tb Ce led:List (Addr×Obj)} {n:Nat}
theorem SRp.exPerm {l l':List (Addr×Obj)} (p:l.Perm l') (S:SRp G { c with Ex:=l } ρ σ Fz h m mf lo Mt Tb Ce led):SRp G { c with Ex:=l' } ρ σ Fz h m mf lo Mt Tb Ce led:=by
 refine ⟨S.F,S.N,S.nd,?_,S.loc,S.mt,S.tbr,S.er,S.ce,S.fk⟩
 exact S.pm.trans (((((p.append_right Fz).append_left Ce).append_left Tb).append_left Mt).append_left lo)
theorem COK.blk (C:COK G c) {t:Mine.Internal.T} {scope:Scope} (hsc:eD c.env.scope.names t scope=true) (nd:(scope.names.map (λ x=>x.1)).Nodup) (hcl:∀ p∈scope.names,p.2=.free->(c.env.cells.lookup p.1).isSome=true) {Ca:Addr} (hk:scope.kind=.function) (hne:Ca≠c.L) {ex:List (Addr×Obj)}:COK G (c.blk scope (bJ c.env scope.names []) Ca mf ex) :=
 ⟨C.X,C.T,C.x0,C.hf,C.hke,C.ef,hk,C.eg,C.eb,C.B,λ h=>absurd h (by simp),λ u'=>hne,λ h=>absurd h (by simp),λ h=>absurd h (by simp),λ x hx=>by
  rw [show (c.blk scope (bJ c.env scope.names []) Ca mf ex).env.scope.names=_ from bK C.ek,dS] at hx
  show ((bJ c.env scope.names []).lookup x).isSome=true
  induction hl:scope.names.lookup x using Option.casesOn with
  | none=>rw [hl] at hx;rcases hx with hx | hx<;>exact J hx
  | some k =>
   have hm:=aq hl
   have h1:=List.all_eq_true.mp hsc _ hm
   rw [hl] at hx
   induction k using PySem.NameKind.casesOn with
   | free=>refine rwE (dl hm nd (λ p hp=>by cases hp)) ?_;exact hcl _ hm rfl
   | cell=>exact absurd h1 (by simp)
   | _=>rcases hx with hx | hx<;>simp at hx⟩
theorem AOK.blk (H:AOK c A n) {scope:Scope} {cl:List (Str×Addr)} {Ca:Addr} {ex:List (Addr×Obj)}:AOK (c.blk scope cl Ca mf ex) A n:=⟨H.fr,H.ha,H.dp,H.un⟩
theorem SRp.enter (C:COK G c) (S:SRp G c ρ σ Fz h m mf lo Mt Tb Ce led) {t:T} {scope:Scope} (hsc:eD c.env.scope.names t scope=true) (nd:(scope.names.map (λ x=>x.1)).Nodup) {h':Heap} {Ca:Addr} {oC:Obj} {es:Array DictEntry} {ep:Nat}
 (k:∀ b o,h.get? b=some o->h'.get? b=some o) (ho:h'.get? Ca=some oC) (hn:h.get? Ca=none) (hd:oC.data=.dict es ep) (hk:StrKeys es) :
 ∃ m',SRp G (c.blk scope (bJ c.env scope.names []) Ca mf (lo++Ce)) (ρc t ρ) σ Fz h' m' mf [(Ca,oC)] Mt Tb [] ((Ca,oC)::led):=by
 have S':=S.aside k ho hn
 refine ⟨λ x=>nsFind es x,S'.F,S'.N,S'.nd,?_,?_,S.mt,S.tbr,vN C hsc nd S.er,⟨λ u'=>rfl,λ h=>absurd h (by simp)⟩,S.fk⟩
 ·classical
  refine ar λ x=>?_
  have:=List.perm_iff_count.mp S.pm x
  simp only [List.count_append,List.count_cons,List.count_nil] at this ⊢
  lia
 ·delta jt
  exact ⟨rfl,oC,es,ep,rfl,hd,hk,λ u'=>rfl⟩
theorem l5 {led mt tb lo ce ex fz:List (Addr×Obj)} {p:Addr×Obj} (h:led.Perm ([p]++(mt++(tb++([]++((lo++ce++ex)++fz)))))):led.Perm (lo++(mt++(tb++(ce++(([p]++ex)++fz))))):=by
 classical
 refine ar λ x=>?_
 have:=List.perm_iff_count.mp h x
 simp only [List.count_append,List.count_nil] at this ⊢
 lia
theorem SRp.leave {ρ':Rho} {σ':St} {Fz':List (Addr×Obj)} {h':Heap} {m' mf':Str->Option Value} {lo' Mt' Tb' Ce' led':List (Addr×Obj)} {scope:Scope} {cl:List (Str×Addr)} {Ca:Addr}
 (hloc:jt c m mf lo) (her:ER G.w.params (Hf G.kx Fz) c.env m ρ) (hce:CeR c ρ Ce) (sb:sub Fz Fz') (S':SRp G (c.blk scope cl Ca mf (lo++Ce)) ρ' σ' Fz' h' m' mf' lo' Mt' Tb' Ce' led') :
 ∃ oC es ep,oC.data=.dict es ep/\StrKeys es/\SRp G (c.ex [(Ca,oC)]) ρ σ' Fz' h' m mf lo Mt' Tb' Ce led':=by
 have hl:=S'.loc
 unfold jt at hl
 refine al hl ?_;clear hl;intro z0 zz;obtain rfl:=z0;refine eT zz ?_;clear zz;intro oC es ep z3 h1 h2 h3;obtain rfl:=z3
 have hce':=S'.ce.1 rfl
 subst hce'
 exact ⟨oC,es,ep,h1,h2,S'.F,S'.N,S'.nd,l5 S'.pm,hloc,S'.mt,S'.tbr,her.mono (Hf.mono sb),hce,S'.fk⟩
end
inductive BnR (g:Rho->Option Rho) (tg:List Nat):Prop
 | mk (f:Rho->Rho) (h:∀ ρ,g ρ=some (f ρ)) (off:∀ ρ x,x∉tg->f ρ x=ρ x) (on:∀ ρ ρ₂ x,x∈tg->f ρ x=f ρ₂ x)
theorem nz (t:T):∀ V ρ ρ',aU t V ρ=some ρ'->BnR (aU t V) (tgt t):=by
 refine T.ind (P:=λ t=>∀ V ρ ρ',aU t V ρ=some ρ'->BnR (aU t V) (tgt t)) (Ps:=λ ts=>∀ Vs ρ ρ',aU.bindNs ts Vs ρ=some ρ'->BnR (aU.bindNs ts Vs) (tgt.tgts ts)) ?_ (λ u' u' u' u' e=>J e) ?_ (λ u' u' u' u' u' e=>J e) (λ u' u' u' u' u' e=>J e) ?_ ?_ t
 ·exact λ n V ρ ρ' u'=>⟨upd n V,λ ρ=>rfl,λ ρ x h=>if_neg λ q=>h (List.mem_singleton.mpr q),λ ρ ρ₂ x h=>(if_pos (List.mem_singleton.mp h)).trans (if_pos (List.mem_singleton.mp h)).symm⟩
 ·intro ts ih V ρ ρ' e
  induction V using Mine.Internal.V.casesOn with
  | tup l=>exact ih l ρ ρ' e
  | lst l=>exact ih l ρ ρ' e
  | _=>exact J e
 ·intro Vs ρ ρ' e
  induction Vs using List.casesOn with
  | nil=>exact ⟨λ ρ=>ρ,λ ρ=>rfl,λ ρ x h=>rfl,λ ρ ρ₂ x h=>nomatch h⟩
  | cons u' u'=>exact J e
 ·intro t r ht hr Vs ρ ρ' e
  induction Vs using List.casesOn with
  | nil=>exact J e
  | cons V Vs =>
   refine au (Option.bind_eq_some_iff.mp (show (aU t V ρ).bind (λ ρ=>aU.bindNs r Vs ρ)=some ρ' from e)) λ ρa h1 h2=>?_
   obtain ⟨f,f1,f2,f3⟩:=ht V ρ ρa h1
   obtain ⟨g,g1,g2,g3⟩:=hr Vs ρa ρ' h2
   refine ⟨λ ρ=>g (f ρ),λ ρ=>?_,λ ρ x h=>(g2 _ x λ q=>h (List.mem_append.mpr (.inr q))).trans (f2 ρ x λ q=>h (List.mem_append.mpr (.inl q))),λ ρ ρ₂ x h=>?_⟩
   ·show (aU t V ρ).bind (λ ρ=>aU.bindNs r Vs ρ)=_
    refine rwE (f1 ρ) ?_;exact g1 _
   ·by_cases q:x∈tgt.tgts r
    ·exact g3 _ _ x q
    ·exact (g2 _ x q).trans ((f3 ρ ρ₂ x ((List.mem_append.mp h).resolve_right q)).trans (g2 _ x q).symm)
theorem ρc_off {t:T} {ρ:Rho} {x:Nat} (h:x∉tgt t):ρc t ρ x=ρ x:=by
 delta ρc;rw [if_neg];intro q;exact h (List.contains_iff_mem.mp q)
theorem bindN_ρc {t:T} {V:V} {ρ ρ':Rho} (e:aU t V ρ=some ρ'):aU t V (ρc t ρ)=some ρ':=by
 obtain ⟨f,h,f2,f3⟩:=nz t V ρ ρ' e
 obtain rfl:=Option.some.inj ((h ρ).symm.trans e)
 refine (h _).trans (congrArg some (funext λ x=>?_))
 by_cases q:x∈tgt t
 ·exact f3 _ _ x q
 ·exact (f2 _ x q).trans ((ρc_off q).trans (f2 ρ x q).symm)
theorem oA (t:T) (V:V) (ρ ρ':Rho) (e:aU t V ρ=some ρ') (x:Nat) (q:x∉tgt t):ρ' x=ρ x:=by
 obtain ⟨f,h,f2,f3⟩:=nz t V ρ ρ' e
 obtain rfl:=Option.some.inj ((h ρ).symm.trans e)
 exact f2 ρ x q
section
variable {c:Cx} {ρ:Rho} {σ:St} {Fz:List (Addr×Obj)} {A:Around} {E:Value->Shared->Prop} {s:Shared} {h:Heap} {m mf:Str->Option Value} {lo Mt Tb Ce led:List (Addr×Obj)} {n:Nat}
theorem te {α:Type} (a e:List α) (d i:α):(a++([d]++([i]++e))).Perm ([i]++((d::a)++e)):=by
 refine List.perm_middle.trans ((List.Perm.cons d List.perm_middle).trans (List.Perm.swap _ _ _))
theorem nB {e:PySem.Expr} {env:Env} {x:Value} (h:cq e=true):foldedSetIterable e env x=pure x:=by
 induction e using PySem.Expr.casesOn with
 | Set _ _ _=>exact ad h
 | _=>exact (rfl:(pure x:Sem Value)=pure x)
inductive ItP (c:Cx) (ρ:Rho) (Fz:List (Addr×Obj)) (K:List V->St->Prop) (x:Value) (s:Shared):Prop
 | mk (V:V) (σ:St) (Fz₁:List (Addr×Obj)) (items:List Mine.Internal.V) (σ₂:St) (sb:sub Fz Fz₁) (hv:VR G.w.params (Hf G.kx Fz₁) V x) (S:SR G c ρ σ Fz₁ s) (hit:aF V σ=some (items,σ₂)) (ev:K items σ₂):ItP c ρ Fz K x s
theorem ItP.of {c:Cx} {ρ:Rho} {Fz:List (Addr×Obj)} {K:List V->St->Prop} {R:PV} {v:Value} {s:Shared} (h:PV' G c ρ Fz R v s) (k:∀ V σ,R V σ->∃ p,aF V σ=some p/\K p.1 p.2):ItP c ρ Fz K v s:=by
 induction h with
 | mk V σ Fz' sb hv S q =>
  refine au (k V σ q) ?_;intro p hp q
  exact ⟨V,σ,Fz',p.1,p.2,sb,hv,S,hp,q⟩
theorem sx {x:Option (List V×St)} {K:List V->St->Prop} (h:match (motive:=Option (List V×St)->Prop) x with | some (a,b)=>K a b | none=>False):∃ p,x=some p/\K p.1 p.2:=by
 induction x using Option.casesOn with
 | none=>exact h.elim
 | some p=>exact ⟨p,rfl,h⟩
theorem qk {elt:Rho->St->PV->Prop} {t:T} {v:V} {r:List V} {ρ:Rho} {σ:St} {Q:List V->St->Prop} (h:evC elt t (v::r) ρ σ Q):∃ ρ',aU t v ρ=some ρ'/\elt ρ' σ (λ w σ=>evC elt t r ρ σ (λ ws σ=>Q (w::ws) σ)):=by
 change (match aU t v ρ with | some _=>_ | none=>False) at h
 induction hb:aU t v ρ using Option.casesOn with
 | none=>rw [hb] at h;exact h.elim
 | some ρ'=>rw [hb] at h;exact ⟨ρ',rfl,h⟩
inductive CpI (cc:Array Value->Nat->Cx) (I:Addr) (ρ:Rho) (Fz:List (Addr×Obj)) (K:List V->St->List V->Prop):Nat->Shared->Prop
 | mk (items:List V) (σ:St) (Fz':List (Addr×Obj)) (io:Obj) (ws:List V) (ys:Array Value) (q:Nat) {s:Shared} (sb:sub Fz Fz') (S:SR G ((cc ys q).ex [(I,io)]) ρ σ Fz' s) (hio:cT G.w.params (Hf G.kx Fz') io items) (hws:VRs G.w.params (Hf G.kx Fz') ws ys.toList) (hz:ws.length+items.length<=100000) (ev:K items σ ws):CpI cc I ρ Fz K items.length s
theorem iV {call:ah} {elt:Mine.Internal.E} (ihe:SE G call n elt) {elt' t' it':PySem.Expr} {t:T} {scope:Scope} {pos fpos:Pos} {use:Option (Value->Sem Unit)} {Qf:Value->Shared->Prop} {Q:List Mine.Internal.V->St->Prop} {first:Sem Value}
 (C:COK G c) (HA:AOK c A n) (hset:cq it'=true) (ht0:iF (iu c.env.scope.names scope.names) t t'=true) (hel:aE (b9 G c.env) (iu c.env.scope.names scope.names) elt elt'=true)
 (hk:scope.kind=.function) (hsc:eD c.env.scope.names t scope=true) (nd:(scope.names.map (λ x=>x.1)).Nodup) (hcl:∀ p∈scope.names,p.2=.free->(c.env.cells.lookup p.1).isSome=true)
 (hf:wpAny (model G.prog G.w) A first (ItP c ρ Fz λ items σ₂=>evC (λ ρ σ Q=>evE tb call elt ρ σ Q λ u'=>False) t items ρ σ₂ Q) E s)
 (fin:∀ D Ca oC es ep ws σ' Fz' s',sub Fz Fz'->SR G (c.ex [(Ca,oC)]) ρ σ' Fz' s'->oC.data=.dict es ep->StrKeys es->VR G.w.params (Hf G.kx Fz') (.lst ws) (.ref D)->Q ws σ'->compPost (model G.prog G.w) A E use Qf (.ref D) Ca (.ok .next) s') :
 wpAny (model G.prog G.w) A (comprehension (.ListComp elt' [⟨t',it',[],0⟩] scope pos) scope c.env fpos (newList []) false first use) Qf E s:=by
 have hcell:∀ y∈scope.names,y.2≠.cell:=λ y hy=>by
  have:=List.all_eq_true.mp hsc y hy
  have this:=an4 this
  have h1:=this.1.1.1
  simpa using h1
 refine wpAny_comprehension_free (g:=⟨t',it',[],0⟩) (gs:=[]) rfl (λ x=>nB hset) (eC hcl) hk (λ x hx hl=>by
  obtain ⟨y,k⟩:=x
  dsimp only at hl ⊢
  subst hl
  have:∀ {l:List (Str×NameKind)},(y,NameKind.local)∈l->(l.map (λ x=>x.1)).Nodup->l.lookup y=some .local:=by
   intro l
   induction l with
   | nil=>intro h;cases h
   | cons p r ih =>
    intro h hn
    obtain ⟨z,k⟩:=p
    rw [List.map_cons,List.nodup_cons] at hn
    refine rwE List.lookup_cons ?_
    rcases List.mem_cons.mp h with e | h
    ·cases e;simp
    ·have:(y==z)=false:=beq_eq_false_iff_ne.mpr λ e=>hn.1 (by refine rwB e ?_;exact List.mem_map_of_mem (f:=(λ x=>x.1)) h)
     refine rwE this ?_;exact ih h hn.2
  exact this hx nd) (wpAny_mono hf (λ x s₁ hx=>?_) λ u' u' x=>x)
 obtain ⟨V,σ₁,Fz₁,items,σ₂,sb₁,hv,S₁,hit,ev⟩:=hx
 refine iT C S₁ hv hit λ I io Fz₂ s₂ sb₂ S₂ hio hlen=>?_
 refine wpAny_newObj_type ?_ (by size_fits)
 obtain ⟨g₂,m₂,mf₂,lo₂,Mt₂,Tb₂,Ce₂,led₂,S₂⟩:=S₂
 have S₃:=S₂.aside (h':=s₂.heap.push (listOf #[] 0)) (a:=s₂.heap.objs.size) (o:=listOf #[] 0) (λ b o e=>Heap.get?_push_of_some _ e) (Heap.get?_push_size _ rfl) (aM _ (Nat.le_refl _))
 refine wpAny_newFunctionEnv hcell (λ y hy=>by simp at hy) (λ h₁ hns₁ hsb₁=>?_) hk
 dsimp only at hns₁ hsb₁ ⊢
 generalize hD:s₂.heap.objs.size=D at hns₁ hsb₁ S₃
 generalize hH:s₂.heap.push { cls:=.type "list",dict:=none,data:=.seq ([]:List Value).toArray }=H2 at hns₁ hsb₁
 have hH':s₂.heap.push (listOf #[] 0)=H2:=hH
 rw [hH'] at S₃
 have kp:∀ b o,H2.get? b=some o->h₁.get? b=some o:=λ b o e=>hsb₁.extBut b o (Nat.ne_of_lt (Heap.lt_size e)) (Heap.get?_push_of_some _ e)
 refine eT hns₁ ?_;clear hns₁;intro oC es ep ho hd hsk z6
 have C3:COK G ((c.ex [(I,io)]).ex [(D,listOf #[] 0)]):=(C.ex _).ex _
 refine ao (S₃.enter C3 (t:=t) (scope:=scope) hsc nd kp ho (aM _ (Nat.le_refl _)) hd hsk) ?_;intro m₄ S₄
 have hCaL:H2.objs.size≠c.L:=by
  have:=(S₄.N (H2.objs.size,oC) (.head _)).2.1
  exact this
 let cc (ys:Array Value) (k:Nat):Cx:=c.blk scope (bJ c.env scope.names []) H2.objs.size mf₂ ((D,listOf ys k)::(lo₂++Ce₂))
 have Cc:∀ ys k,COK G (cc ys k):=λ ys k=>C.blk hsc nd hcl hk hCaL
 have S₅:SR G ((cc #[] 0).ex [(I,io)]) (ρc t ρ) σ₂ Fz₂ { s₂ with heap:=h₁,toks:=s₂.toks+([]:List (Str×Value)).length }:=⟨g₂,_,_,_,_,_,_,_,SRp.exPerm (te _ _ _ _) S₄⟩
 have loop:codeAny (model G.prog G.w) A (.compLoop (.ListComp elt' [⟨t',it',[],0⟩] scope pos) 0 (.ref I) (.ref D) (compEnvC scope (bJ c.env scope.names []) H2.objs.size c.env))
  (compPost (model G.prog G.w) A E use Qf (.ref D) H2.objs.size) { s₂ with heap:=h₁,toks:=s₂.toks+([]:List (Str×Value)).length }:=by
  refine oz (CpI cc I (ρc t ρ) Fz₂ λ items σ ws=>evC (λ ρ σ Q=>evE tb call elt ρ σ Q λ u'=>False) t items ρ σ (λ ws' σ'=>Q (ws++ws') σ')) (λ k s hI=>?_) items.length ?_
  ·obtain ⟨items,σ,Fz',io,ws,ys,q,sb,S,hio,hws,hz,ev⟩:=hI
   have hE:∀ (ρ':Rho) (c':Cx) (e:Value) (s':Shared) (P:Prop),PX' G c' ρ' (λ u'=>False) e s'->P:=λ _ _ _ _ _ ⟨_,_,_,_,_,q⟩=>q.elim
   induction items using List.casesOn with
   | nil =>
    refine kW (Cc ys q) HA.ha S hio λ s' S'=>?_
    obtain ⟨g',m',mf',lo',Mt',Tb',Ce',led',S'⟩:=S'
    have S'':=SRp.exPerm (c:=cc ys q) (l':=(lo₂++Ce₂)++((D,listOf ys q)::c.Ex)) (by show (D,listOf ys q)::(lo₂++Ce₂)++c.Ex |>.Perm _;exact List.perm_middle.symm) S'
    refine pJ (SRp.leave (c:=c.ex [(D,listOf ys q)]) (Fz:=Fz₂) (ρ:=ρ) (m:=m₂) (mf:=mf₂) (lo:=lo₂) (Ce:=Ce₂) S₂.loc S₂.er S₂.ce sb S'') ?_;intro oC es ep h1 h2 S3
    have S4:SRp G ((c.ex [(H2.objs.size,oC)]).ex [(D,listOf ys q)]) ρ σ Fz' s'.heap m₂ mf₂ lo₂ Mt' Tb' Ce₂ led':=SRp.exPerm (List.Perm.swap _ _ _) S3
    refine al (S4.unside) ?_;intro S5 z1
    refine fin D H2.objs.size oC es ep ws σ _ s' ((sb₁.trans sb₂).trans (sb.trans λ u' h=>.tail _ h)) ⟨g',m₂,mf₂,lo₂,Mt',Tb',Ce₂,led',S5⟩ h1 h2 ⟨D,_,ys,q,rfl,.inr (.head _),rfl,rfl,hws.mono (Hf.mono λ u' h=>.tail _ h),by simpa using hz⟩ ?_
    have ev:Q (ws++[]) σ:=ev
    rw [List.append_nil] at ev;exact ev
   | cons v r =>
    refine iU (Cc ys q) S hio λ val io' s₁ hval S₁' hio'=>?_
    dsimp only
    refine kY (Cc ys q) S₁' hio' ?_
    refine au (qk ev) ?_;clear ev;intro ρ' hb ev
    ·skip
     refine asN t t' ((cc ys q).ex [(I,io')]) A (ρc t ρ) ρ' σ Fz' s₁ v val _ _ ((Cc ys q).ex _) HA.ha S₁' (by refine rwE (show (((cc ys q).ex [(I,io')]).env.scope.names)=_ from bK C.ek) ?_;exact ht0) hval (bindN_ρc hb) λ s₂ S₂'=>?_
     refine wpAny_mono (ihe elt' ((cc ys q).ex [(I,io')]) A ρ' σ Fz' s₂ _ _ _ ((Cc ys q).ex _) (AOK.ex HA.blk _) S₂' (λ e s' h=>hE _ _ _ _ _ h) (by refine rwE (show (((cc ys q).ex [(I,io')]).env.scope.names)=_ from bK C.ek) ?_;exact hel) ev) (λ x s₃ hx=>?_) λ u' u' h=>h
     obtain ⟨W,σ₃,Fz₃,sb₃,hW,S₃',ev'⟩:=hx
     obtain ⟨g₃,m₃,mf₃,lo₃,Mt₃,Tb₃,Ce₃,led₃,S₃'⟩:=S₃'
     have S₄':SRp G ((c.blk scope (bJ c.env scope.names []) H2.objs.size mf₂ ((I,io')::(lo₂++Ce₂))).ex [(D,listOf ys q)]) ρ' σ₃ Fz₃ s₃.heap m₃ mf₃ lo₃ Mt₃ Tb₃ Ce₃ led₃:=SRp.exPerm (List.Perm.swap _ _ _) S₃'
     have hg:=S₄'.N.get (S₄'.pm.mem_iff.mpr (by simp:(D,listOf ys q)∈_))
     have hl:=hws.len
     rw [Array.length_toList] at hl
     rw [List.length_cons] at hz
     have sbv:=Hf.mono (K:=G.kx) sb₃
     refine append_at hg (λ h' hs ho'=>?_) (aK (by lia))
     refine ao (S₄'.sideUp hs ho') ?_;intro led' S₅
     refine ⟨r.length,Nat.lt_succ_self _,r,σ₃,Fz₃,io',ws++[W],ys.push x,_,sb.trans sb₃,⟨g₃,m₃,mf₃,lo₃,Mt₃,Tb₃,Ce₃,led',SRp.rho (SRp.exPerm (List.Perm.swap _ _ _) S₅) rfl ?_⟩,hio'.mono sbv,by simpa using (hws.mono sbv).append (VRs.one hW),by simp;lia,by simpa using ev'⟩
     intro x V hx
     by_cases qx:x∈tgt t
     ·unfold ρc at hx;rw [if_pos (List.contains_iff_mem.mpr qx)] at hx;exact J hx
     ·(refine rwE (oA t v ρ ρ' hb x qx) ?_;refine rwB (ρc_off (t:=t) (ρ:=ρ) qx) ?_);exact hx
  ·exact ⟨items,σ₂,Fz₂,io,[],#[],0,sub.refl,S₅,hio,rfl,by simpa using hlen,by simpa using ev⟩
 exact codeAny_compStart_list loop (tc (c:=cc #[] 0) (Cc _ _) (I:=I) (o:=io) (r:=items) S₅ hio loop)
end
section
variable {call:ah} {n:Nat}
theorem nC {c:Cx} (C:COK G c) {t:T} {scope:Scope} (hsc:eD c.env.scope.names t scope=true):∀ p∈scope.names,p.2=.free->(c.env.cells.lookup p.1).isSome=true:=λ p hp e=>by
 have h1:=List.all_eq_true.mp hsc _ hp
 rw [e] at h1
 simp at h1
 exact C.fr _ h1
inductive l6 (lm:Nat->List Nat->Arguments->PySem.Expr->Scope->Bool) (sc:SC) (elt:Mine.Internal.E) (t:T) (it:Mine.Internal.E):PySem.Expr->Prop
 | mk {elt' t' it':PySem.Expr} {scope:Scope} {pos:Pos} (h1:aE lm sc it it'=true) (h2:cq it'=true) (h3:av t'=true) (h4:iF (iu sc scope.names) t t'=true) (h5:aE lm (iu sc scope.names) elt elt'=true) (h6:scope.kind=.function) (h7:eD sc t scope=true) (h8:(scope.names.map (λ x=>x.1)).Nodup):l6 lm sc elt t it (.ListComp elt' [⟨t',it',[],0⟩] scope pos)
theorem l6.of {sc:SC} {lm} {elt it:Mine.Internal.E} {t:T} {x:PySem.Expr} (h:aE lm sc (.comp elt t it) x=true):l6 lm sc elt t it x:=by
 refine iLC h λ elt' gs scope pos h=>j1 h λ g h=>b3 h λ h1 h2 h=>?_
 obtain ⟨t',it',ifs,as⟩:=g
 refine j0 (l:=ifs) h1 (rwE (show as=0 from of_decide_eq_true h2) ?_)
 refine b2 h λ h a11=>b2 h λ h a10=>b2 h λ h a9=>b2 h λ h a8=>b6 h λ a1 a2 a4 a5 a6 a7=>?_
 exact .mk a1 a2 a4 a5 a6 (beq_iff_eq.mp a7) a10 (of_decide_eq_true a11)
theorem th {elt it:Mine.Internal.E} {t:T} (ihe:SE G call n elt) (ihi:SE G call n it):SE G call n (.comp elt t it):=by
 intro x c A ρ σ Fz s Q X E C HA S HX h e
 replace h:=l6.of h
 induction h with
 | @mk elt' t' it' scope pos h1 h2 h3 h4 h5 h6 h7 h8 =>
 show wpAny _ _ (comprehension (.ListComp elt' [⟨t',it',[],0⟩] scope pos) scope c.env (firstIterPos [⟨t',it',[],0⟩] pos) (newList []) false (PySem.eval it' c.env) none) _ _ _
 refine iV (call:=call) (n:=n) (Q:=λ ws σ'=>Q (.lst ws) σ') (ρ:=ρ) (Fz:=Fz) ihe C HA h2 h4 h5 h6 h7 h8 (nC C h7) (wpAny_mono (ihi it' c A ρ σ Fz s _ X E C HA S HX h1 e) (λ v s₁ hv=>ItP.of hv λ V σ e=>sx (x:=aF V σ) e) λ u' u' x=>x) ?_
 ·intro D Ca oC es ep ws σ' Fz' s' sb S' hd hk hv q
  obtain ⟨g',m',mf',lo',Mt',Tb',Ce',led',S'⟩:=S'
  have hg:=S'.N.get (S'.pm.mem_iff.mpr (by simp:(Ca,oC)∈_))
  refine ⟨λ x=>nsFind es x,⟨oC,es,ep,hg,hd,hk,λ u'=>rfl⟩,λ h' hs=>?_⟩
  refine ao (S'.sideDrop hs.extBut) ?_;intro led'' S''
  exact ⟨.lst ws,σ',Fz',sb,hv,⟨g',_,_,_,_,_,_,_,S''⟩,q⟩
end
section
variable {call:ah} {n:Nat}
noncomputable def mU:E->Bool
 | .call _ _ | .meth _ _ _ | .v _ | .cB _=>true
 | _=>false
theorem oE {e:E} (hp:mU e=true) {ρ:Rho} {σ:St} {Q:Bool->St->Prop} {X:PX} (ev:evT tb call e ρ σ Q X):evE tb call e ρ σ (λ v σ=>match aT v σ with | some b=>Q b σ | none=>False) X:=by
 induction e using E.casesOn with
 | call _ _=>exact ev
 | meth _ _ _=>exact ev
 | v y =>
  show (match ρ y with | some v=>(match aT v σ with | some b=>Q b σ | none=>False) | none=>False)
  exact ev
 | cB _=>exact ev
 | _=>exact ad hp
noncomputable def rI (x:PySem.Expr):Bool:=Nat.beq x.ctorIdx 16||Nat.beq x.ctorIdx 19||Nat.beq x.ctorIdx 23
theorem ti {e:E} (hp:mU e=true) {lm} {sc:SC} {x:PySem.Expr} (h:aE lm sc e x=true):rI x=true:=by
 induction e using E.casesOn with
 | call _ _=>exact pO h λ _ _ _ _ _=>rfl
 | meth _ _ _=>exact pO h λ _ _ _ _ _=>rfl
 | v _=>exact iN h λ _ _ _=>rfl
 | cB _=>exact pQ h λ _ _ _ _=>rfl
 | _=>exact ad hp
theorem ql {x:PySem.Expr} {env:Env} {whole:Sem Value} (h:rI x=true):isTrue x env whole=(do let v ← whole;standAt x.pos;holding [v] (truthy v)) :=
 (uH (uH Nat.eq_of_beq_eq_true Nat.eq_of_beq_eq_true) Nat.eq_of_beq_eq_true h).elim (λ h=>h.elim (λ h=>PySem.Expr.Call.elim (motive_1:=λ x=>isTrue x env whole=(do let v ← whole;standAt x.pos;holding [v] (truthy v))) x h λ _ _ _ _=>rfl) λ h=>PySem.Expr.Constant.elim (motive_1:=λ x=>isTrue x env whole=(do let v ← whole;standAt x.pos;holding [v] (truthy v))) x h λ _ _ _=>rfl) λ h=>PySem.Expr.Name.elim (motive_1:=λ x=>isTrue x env whole=(do let v ← whole;standAt x.pos;holding [v] (truthy v))) x h λ _ _=>rfl
theorem fp {e:E} (hp:mU e=true) (ih:SE G call n e):STt G call n e:=by
 intro x c A ρ σ Fz s Q X E C HA S HX h ev
 refine isTrue_plain (wpAny_mono (ih x c A ρ σ Fz s _ X E C HA S HX h (oE hp ev)) (λ v s₁ hv=>?_) λ u' u' x=>x) (ql (ti hp h))
 obtain ⟨V,σ₁,Fz₁,sb,hv,S₁,q⟩:=hv
 induction hb:aT V σ₁ using Option.casesOn with
 | none=>rw [hb] at q;exact q.elim
 | some b=>rw [hb] at q;exact wpAny_mono (d6 C S₁ hv hb q) (λ b s₂ ht=>ht.mono sb) λ u' u' x=>x
theorem vO {o:E} (ih:STt G call n o):STt G call n (.not o):=by
 intro x c A ρ σ Fz s Q X E C HA S HX h e
 refine iUn h λ op o' pos h=>b2 h λ h0 h=>rwE (of_decide_eq_true h0) ?_
 refine wpAny_isTrue_Not (wpAny_mono (ih _ c A ρ σ Fz s _ X E C HA S HX h e) (λ b s₁ hb=>?_) λ u' u' x=>x)
 obtain ⟨σ₁,Fz₁,sb,S₁,q⟩:=hb
 exact ⟨σ₁,Fz₁,sb,S₁,q⟩
theorem vP {es:List E} (ih:SAl G call n es):STt G call n (.and es):=by
 intro x c A ρ σ Fz s Q X E C HA S HX h e
 exact ue h λ op es' pos h=>b2 h λ h0 h=>rwE (of_decide_eq_true h0) (ih _ pos _ c A ρ σ Fz s Q X E C HA S HX h e)
theorem yr {es:List E} (ih:SAn G call n es):STt G call n (.or es):=by
 intro x c A ρ σ Fz s Q X E C HA S HX h e
 exact ue h λ op es' pos h=>b2 h λ h0 h=>rwE (of_decide_eq_true h0) (ih _ pos _ c A ρ σ Fz s Q X E C HA S HX h e)
theorem vQ {op:Cm} {l r:E} (ihl:SE G call n l) (ihr:SE G call n r):STt G call n (.cmp l op r):=by
 intro x c A ρ σ Fz s Q X E C HA S HX h e
 refine nx h λ l' op' r' pos h0 h1 h2 h3=>?_
 refine wpAny_isTrue_Compare1 (wpAny_mono (ihl _ c A ρ σ Fz s _ X E C HA S HX h2 e) (λ v s₁ hv=>?_) λ u' u' x=>x) (jB h0)
 obtain ⟨a,σ₁,Fz₁,sb,hv,S₁,q⟩:=hv
 refine wpAny_mono (ihr _ c A ρ σ₁ Fz₁ s₁ _ X E C HA S₁ HX h3 q) (λ u s₂ hu=>?_) λ u' u' x=>x
 obtain ⟨b,σ₂,Fz₂,sb₂,hu,S₂,q⟩:=hu
 induction hb:bB op a b σ₂ using Option.casesOn with
 | none=>rw [hb] at q;exact q.elim
 | some r =>
  rw [hb] at q
  exact eB C (gw HA) S₂ h1 (hv.mono (Hf.mono sb₂)) hu hb λ tk=>wpAny_truthy_bool ⟨σ₂,Fz₂,sb.trans sb₂,S₂,q⟩
theorem tj {o1 o2:Cm} {l m r:E} (ihl:SE G call n l) (ihm:SE G call n m) (ihr:SE G call n r):STt G call n (.cmp2 l o1 m o2 r):=by
 intro x c A ρ σ Fz s Q X E C HA S HX h e
 refine kU h λ l' o1' m' o2' r' pos h0 h1 h2 h3 h4 h5=>?_
 refine rwE (arm_isTrue_Compare ..) ?_;refine rwE (rH h0) ?_
 refine wpAny_bind (wpAny_mono (ihl _ c A ρ σ Fz s _ X E C HA S HX h3 e) (λ v s₁ hv=>yp (env:=c.env) ?_) λ u' u' x=>x)
 obtain ⟨a,σ₁,Fz₁,sb,hv,S₁,q⟩:=hv
 refine wpAny_mono (ihm _ c A ρ σ₁ Fz₁ s₁ _ X E C HA S₁ HX h4 q) (λ u s₂ hu=>?_) λ u' u' x=>x
 obtain ⟨b,σ₂,Fz₂,sb₂,hu,S₂,q⟩:=hu
 induction hb:bB o1 a b σ₂ using Option.casesOn with
 | none=>rw [hb] at q;exact q.elim
 | some r =>
  rw [hb] at q
  refine eB C (gw HA) S₂ h1 (hv.mono (Hf.mono sb₂)) hu hb λ tk=>wpAny_truthy_bool ?_
  induction r using Bool.casesOn with
  | false=>exact ⟨σ₂,Fz₂,sb.trans sb₂,S₂,q⟩
  | true =>
   simp only [if_true]
   refine wpAny_mono (ihr _ c A ρ σ₂ Fz₂ _ _ X E C HA S₂ HX h5 q) (λ w s₃ hw=>?_) λ u' u' x=>x
   obtain ⟨d,σ₃,Fz₃,sb₃,hw,S₃,q⟩:=hw
   induction hb:bB o2 b d σ₃ using Option.casesOn with
   | none=>rw [hb] at q;exact q.elim
   | some r =>
    rw [hb] at q
    exact eB C (gw HA) S₃ h2 (hu.mono (Hf.mono sb₃)) hw hb λ tk=>wpAny_truthy_bool ⟨σ₃,Fz₃,(sb.trans sb₂).trans sb₃,S₃,q⟩
theorem tm:SAl G call n []:=by
 intro xs pos whole c A ρ σ Fz s Q X E C HA S HX h e
 induction xs using List.casesOn with
 | cons _ _=>exact ad h
 | nil=>exact isTrue_and_nil ⟨σ,Fz,sub.refl,S,e⟩
theorem tp:SAn G call n []:=by
 intro xs pos whole c A ρ σ Fz s Q X E C HA S HX h e
 induction xs using List.casesOn with
 | cons _ _=>exact ad h
 | nil=>exact isTrue_or_nil ⟨σ,Fz,sub.refl,S,e⟩
theorem qm {o:E} {r:List E} (ih:STt G call n o) (ihr:SAl G call n r):SAl G call n (o::r):=by
 intro xs pos whole c A ρ σ Fz s Q X E C HA S HX h e
 induction xs using List.casesOn with
 | nil=>exact ad h
 | cons x xs =>
  have h':(av x&&aE (b9 G c.env) c.env.scope.names o x&&eL (b9 G c.env) c.env.scope.names r xs)=true:=h
  have h':=an3 h'
  refine isTrue_and (wpAny_mono (ih _ c A ρ σ Fz s _ X E C HA S HX h'.1.2 e) (λ b s₁ hb=>?_) λ u' u' x=>x)
  obtain ⟨σ₁,Fz₁,sb,S₁,q⟩:=hb
  induction b using Bool.casesOn with
  | true=>simp only [if_true];exact wpAny_mono (ihr _ pos whole c A ρ σ₁ Fz₁ s₁ _ X E C HA S₁ HX h'.2 q) (λ v s₃ hv=>hv.mono sb) λ u' u' x=>x
  | false=>exact ⟨σ₁,Fz₁,sb,S₁,q⟩
theorem qn {o:E} {r:List E} (ih:STt G call n o) (ihr:SAn G call n r):SAn G call n (o::r):=by
 intro xs pos whole c A ρ σ Fz s Q X E C HA S HX h e
 induction xs using List.casesOn with
 | nil=>exact ad h
 | cons x xs =>
  have h':(av x&&aE (b9 G c.env) c.env.scope.names o x&&eL (b9 G c.env) c.env.scope.names r xs)=true:=h
  have h':=an3 h'
  refine isTrue_or (wpAny_mono (ih _ c A ρ σ Fz s _ X E C HA S HX h'.1.2 e) (λ b s₁ hb=>?_) λ u' u' x=>x)
  obtain ⟨σ₁,Fz₁,sb,S₁,q⟩:=hb
  induction b using Bool.casesOn with
  | true=>exact ⟨σ₁,Fz₁,sb,S₁,q⟩
  | false=>simp only [Bool.false_eq_true,if_false];exact wpAny_mono (ihr _ pos whole c A ρ σ₁ Fz₁ s₁ _ X E C HA S₁ HX h'.2 q) (λ v s₃ hv=>hv.mono sb) λ u' u' x=>x
theorem aR {o:E} (h0:∀ ρ σ Q X,¬ evT tb call o ρ σ Q X):STt G call n o:=by
 intro x c A ρ σ Fz s Q X E C HA S HX h e
 exact absurd e (h0 _ _ _ _)
mutual
theorem sET (KK:KOK G) (HC:c8 G call n) (HN:gn G call n) (HL:j4 G):∀ e:E,SE G call n e/\STt G call n e
 | .cN=>⟨yk,aR λ u' u' u' u' h=>h⟩
 | .cY=>⟨yl,aR λ u' u' u' u' h=>h⟩
 | .cB b=>⟨uG,fp rfl uG⟩
 | .cI i=>⟨ym,aR λ u' u' u' u' h=>h⟩
 | .cS i=>⟨yn,aR λ u' u' u' u' h=>h⟩
 | .v x=>⟨zH,fp rfl zH⟩
 | .g x=>⟨Ar KK,aR λ u' u' u' u' h=>h⟩
 | .at_ e a=>⟨yo KK (sET KK HC HN HL e).1,aR λ u' u' u' u' h=>h⟩
 | .call f as=>have k:=sY KK HC HN (sET KK HC HN HL f).1 (sLs KK HC HN HL as).1;⟨k,fp rfl k⟩
 | .meth o m as=>have k:=sZ KK HC (sET KK HC HN HL o).1 (sLs KK HC HN HL as).1;⟨k,fp rfl k⟩
 | .bin op l r=>⟨vq (sET KK HC HN HL l).1 (sET KK HC HN HL r).1,aR λ u' u' u' u' h=>h⟩
 | .not e=>⟨vr (sET KK HC HN HL e).1,vO (sET KK HC HN HL e).2⟩
 | .neg e=>⟨vt (sET KK HC HN HL e).1,aR λ u' u' u' u' h=>h⟩
 | .cmp l op r=>⟨vv (sET KK HC HN HL l).1 (sET KK HC HN HL r).1,vQ (sET KK HC HN HL l).1 (sET KK HC HN HL r).1⟩
 | .cmp2 l o1 m o2 r=>⟨s7 (sET KK HC HN HL l).1 (sET KK HC HN HL m).1 (sET KK HC HN HL r).1,tj (sET KK HC HN HL l).1 (sET KK HC HN HL m).1 (sET KK HC HN HL r).1⟩
 | .and es=>⟨vB (sLs KK HC HN HL es).2.1,vP (sLs KK HC HN HL es).2.2.2.1⟩
 | .or es=>⟨yq (sLs KK HC HN HL es).2.2.1,yr (sLs KK HC HN HL es).2.2.2.2.1⟩
 | .ite t a b=>⟨vC (sET KK HC HN HL t).2 (sET KK HC HN HL a).1 (sET KK HC HN HL b).1,aR λ u' u' u' u' h=>h⟩
 | .tup es=>⟨vD (sLs KK HC HN HL es).1,aR λ u' u' u' u' h=>h⟩
 | .lst fr es=>⟨vE (sLs KK HC HN HL es).1,aR λ u' u' u' u' h=>h⟩
 | .dct fr kvs=>⟨vL (sLs KK HC HN HL kvs).2.2.2.2.2.1,aR λ u' u' u' u' h=>h⟩
 | .sub e i=>⟨vF (sET KK HC HN HL e).1 (sET KK HC HN HL i).1,aR λ u' u' u' u' h=>h⟩
 | .slc e l u=>⟨vH (sET KK HC HN HL e).1 (sET KK HC HN HL l).1 (sET KK HC HN HL u).1,aR λ u' u' u' u' h=>h⟩
 | .comp elt t it=>⟨th (sET KK HC HN HL elt).1 (sET KK HC HN HL it).1,aR λ u' u' u' u' h=>h⟩
 | .lam k cap=>⟨vI HL,aR λ u' u' u' u' h=>h⟩
termination_by structural e=>e
theorem sLs (KK:KOK G) (HC:c8 G call n) (HN:gn G call n) (HL:j4 G):∀ es:List E,SL G call n es/\SA G call n es/\SO G call n es/\SAl G call n es/\SAn G call n es/\SD G call n es/\∀ e,SE G call n e->SD G call n (e::es)
 | []=>⟨vp,vx,vz,tm,tp,vJ,λ u' u'=>vK⟩
 | e::r=>by
  have he:=sET KK HC HN HL e
  refine zS (sLs KK HC HN HL r) ?_;intro h1 h2 h3 h4 h5 h6 h7
  refine ⟨sX he.1 h1,?_,?_,qm he.2 h4,qn he.2 h5,h7 e he.1,λ k hk=>ta hk he.1 h6⟩
  ·induction r using List.casesOn with
   | nil=>exact vy he.1
   | cons _ _=>exact s8 he.1 h2
  ·induction r using List.casesOn with
   | nil=>exact vA he.1
   | cons _ _=>exact s9 he.1 h3
termination_by structural es=>es
end
end
section
variable (G:Gl) (call:ah) (n:Nat)
noncomputable def SAs (t:T):Prop:=∀ (t':PySem.Expr) (c:Cx) (A:Around) (ρ:Rho) (σ:St) (Fz:List (Addr×Obj)) (s:Shared) (V:V) (v:Value) (N:PN) (X:PX) (E:Value->Shared->Prop),COK G c->AOK c A n->c.mF=none->SR G c ρ σ Fz s->(∀ ρ e s',PX' G c ρ X e s'->E e s') ->
 rt (b9 G c.env) c.env.scope.names t t'=true->VR G.w.params (Hf G.kx Fz) V v->asT tb call t V ρ σ N X->wpAny (model G.prog G.w) A (assign t' c.env v) (λ u' s'=>PU' G c Fz N s') E s
noncomputable def At (ts:List T):Prop:=∀ (ts':List PySem.Expr) (c:Cx) (A:Around) (ρ:Rho) (σ:St) (Fz:List (Addr×Obj)) (s:Shared) (Vs:List V) (vs:List Value) (N:PN) (X:PX) (E:Value->Shared->Prop),COK G c->AOK c A n->c.mF=none->SR G c ρ σ Fz s->(∀ ρ e s',PX' G c ρ X e s'->E e s') ->
 jT (b9 G c.env) c.env.scope.names ts ts'=true->VRs G.w.params (Hf G.kx Fz) Vs vs->pL tb call ts Vs ρ σ N X->wpAny (model G.prog G.w) A (assignInOrder ((assignEach ts' c.env).map (λ x=>x.2)) vs) (λ u' s'=>PU' G c Fz N s') E s
end
section
variable {call:ah} {n:Nat}
theorem PU'.mono {c:Cx} {Fz Fz':List (Addr×Obj)} {N:PN} {s:Shared} (sb:sub Fz Fz') (h:PU' G c Fz' N s):PU' G c Fz N s:=by
 obtain ⟨ρ,σ,Fz₁,sb',S,q⟩:=h
 exact ⟨ρ,σ,Fz₁,sb.trans sb',S,q⟩
theorem kG {sc:SC} {lm} {ts:List T}:∀ {es:List PySem.Expr},jT lm sc ts es=true->es.all av=true/\ts.length=es.length:=by
 induction ts with
 | nil =>
  intro es h
  induction es using List.casesOn with
  | nil=>exact ⟨rfl,rfl⟩
  | cons e s=>exact ad h
 | cons t r ih =>
  intro es h
  induction es using List.casesOn with
  | nil=>exact ad h
  | cons e s =>
   have h':(av e&&rt lm sc t e&&jT lm sc r s)=true:=h
   have h':=an3 h'
   refine al (ih h'.2) ?_;intro h1 h2
   exact ⟨by (refine rwE List.all_cons ?_;refine rwE h'.1.1 ?_;refine rwE h1 ?_);rfl,congrArg (·+1) h2⟩
theorem sAs (KK:KOK G) (HE:∀ e:E,SE G call n e) (t:T):SAs G call n t:=by
 refine T.ind (P:=SAs G call n) (Ps:=At G call n) ?_ ?_ ?_ ?_ ?_ ?_ ?_ t
 ·intro y t' c A ρ σ Fz s V v N X E C HA hm S HX h hv e
  refine iN h λ id pos h=>b2 h λ h1 h2=>?_
  rw [beq_iff_eq.mp h1] at h2 ⊢
  exact wpAny_assign_Name (ib C S (beq_iff_eq.mp h2) hv λ s' S'=>⟨_,σ,Fz,sub.refl,S',e⟩)
 ·intro y t' c A ρ σ Fz s V v N X E C HA hm S HX h hv e
  refine iN h λ id pos h=>b2 h λ h1 h2=>?_
  rw [beq_iff_eq.mp h1] at h2 ⊢
  have e':(match ρ y with | none=>N (upd y V ρ) σ | some _=>False):=e
  induction hy:ρ y using Option.casesOn with
  | some _=>rw [hy] at e';exact e'.elim
  | none =>
   rw [hy] at e'
   exact wpAny_assign_Name (sW C hm S (beq_iff_eq.mp h2) hy hv λ s' Fz' sb S'=>⟨_,σ,Fz',sb,S',e'⟩)
 ·intro ts ih t' c A ρ σ Fz s V v N X E C HA hm S HX h hv e
  refine xD h λ es k pos h'=>?_
  refine al (kG h') ?_;intro p1 p2
  have key:∀ l,(V=.tup l\/V=.lst l)->ts.length=l.length/\pL tb call ts l ρ σ N X->wpAny (model G.prog G.w) A (assign (.Tuple es k pos) c.env v) (λ u' s'=>PU' G c Fz N s') E s:=λ l hl hq=>by
   refine wpAny_mono (fQ (Q:=λ u' s'=>PU' G c Fz N s') C HA.ha S hv hl p1 (by (refine rwB p2 ?_;refine rwE hq.1 ?_;rfl)) λ vs s' r S'=>ih es c A ρ σ Fz s' l vs N X E C HA hm S' HX h' r hq.2) (λ u' u' x=>x) λ u' u' x=>x
  induction V using Mine.Internal.V.casesOn with
  | tup l=>exact key l (.inl rfl) e
  | lst l=>exact key l (.inr rfl) e
  | _=>exact e.elim
 ·intro o a t' c A ρ σ Fz s V v N X E C HA hm S HX h hv e
  refine sH h λ o' at' pos h=>b2 h λ h1 h2=>rwE (beq_iff_eq.mp h1) ?_
  refine rwE (assign_Attribute ..) ?_
  refine wpAny_bind (wpAny_holding (wpAny_mono (HE o o' c A ρ σ Fz s _ X E C HA S (HX ρ) h2 e) (λ ov s₁ hx=>?_) λ u' u' x=>x))
  obtain ⟨O,σ₁,Fz₁,sb,hO,S₁,q⟩:=hx
  induction hb:setAt tb O a V σ₁ using Option.casesOn with
  | none=>rw [hb] at q;exact q.elim
  | some σ' =>
   rw [hb] at q
   refine wpAny_bind (wpAny_standAt (wpAny_bind (wpAny_holding (wpAny_mono (lX KK.c C S₁ hO (hv.mono (Hf.mono sb)) hb) (λ u' s₂ S₂=>?_) λ u' u' x=>x))))
   exact wpAny_release ⟨ρ,σ',Fz₁,sb,S₂,q⟩
 ·intro o i t' c A ρ σ Fz s V v N X E C HA hm S HX h hv e
  refine xB h λ o' i' pos h=>b3 h λ h1 h2 h3=>?_
  refine rwE (assign_Subscript ..) ?_
  refine wpAny_bind (wpAny_holding (wpAny_mono (HE o o' c A ρ σ Fz s _ X E C HA S (HX ρ) h2 e) (λ ov s₁ hx=>?_) λ u' u' x=>x))
  obtain ⟨O,σ₁,Fz₁,sb,hO,S₁,q⟩:=hx
  refine wpAny_bind (wpAny_holding (wpAny_mono (HE i i' c A ρ σ₁ Fz₁ s₁ _ X E C HA S₁ (HX ρ) h3 q) (λ iv s₂ hx=>?_) λ u' u' x=>x))
  obtain ⟨I,σ₂,Fz₂,sb₂,hI,S₂,q⟩:=hx
  induction hb:bn O I V σ₂ using Option.casesOn with
  | none=>rw [hb] at q;exact q.elim
  | some σ' =>
   rw [hb] at q
   refine wpAny_bind (wpAny_standAt (wpAny_bind (wpAny_holding (wpAny_mono (lY C S₂ (hO.mono (Hf.mono sb₂)) hI (hv.mono (Hf.mono (sb.trans sb₂))) hb) (λ u' s₃ S₃=>?_) λ u' u' x=>x))))
   exact wpAny_release ⟨ρ,σ',Fz₂,sb.trans sb₂,S₃,q⟩
 ·intro ts' c A ρ σ Fz s Vs vs N X E C HA hm S HX h hv e
  induction ts' using List.casesOn with
  | cons _ _=>exact ad h
  | nil =>
   induction Vs using List.casesOn with
   | cons _ _=>exact e.elim
   | nil=>cases hv;exact wpAny_pure ⟨ρ,σ,Fz,sub.refl,S,e⟩
 ·intro t r ht hr ts' c A ρ σ Fz s Vs vs N X E C HA hm S HX h hv e
  induction ts' using List.casesOn with
  | nil=>exact ad h
  | cons t' r' =>
   have h':(av t'&&rt (b9 G c.env) c.env.scope.names t t'&&jT (b9 G c.env) c.env.scope.names r r')=true:=h
   have h':=an3 h'
   induction Vs using List.casesOn with
   | nil=>exact e.elim
   | cons V Vs =>
    obtain ⟨x,ys,rfl,hx,hys⟩:=hv
    refine rwE (d7 h'.1.1) ?_
    show wpAny _ _ (do holding ys (assign t' c.env x);assignInOrder ((assignEach r' c.env).map (λ x=>x.2)) ys) _ _ _
    refine wpAny_bind (wpAny_holding (wpAny_mono (ht t' c A ρ σ Fz s V x _ X E C HA hm S HX h'.1.2 hx e) (λ u' s₁ hq=>?_) λ u' u' x=>x))
    obtain ⟨ρ₁,σ₁,Fz₁,sb,S₁,q⟩:=hq
    exact wpAny_mono (hr r' c A ρ₁ σ₁ Fz₁ s₁ Vs ys N X E C HA hm S₁ HX h'.2 (hys.mono (Hf.mono sb)) q) (λ u' u' h=>h.mono sb) λ u' u' x=>x
end
section
variable {c:Cx} {ρ:Rho} {σ:St} {Fz:List (Addr×Obj)} {A:Around} {M:Model} {E:Value->Shared->Prop} {s:Shared} {B:Heap} {l:List Env} {L a:Addr} {X:PX}
theorem ie {env:Env} {outer:List Env} {Q:Unit->Shared->Prop} (hfr:A.frames=some (env::outer)) (hf:env.frame=some L) (fl:Fly B (env::outer) L a s.heap)
 (q:∀ h' a0,Heap.HeldW B (env::outer) a (.ref pfA) a0 L h'->s.heap.UpToSlots h'->Q () { s with heap:=h' }):wpAny M A (noteFrame (.ref a) env) Q E s:=by
 cases fl with
 | @fresh oe vs a0 h1 h2 h3 h4 h5 h6 h7 h8 =>
  delta noteFrame
  simp only [hf]
  refine wpAny_bind (wpAny_field h4 h6 h8 ?_)
  refine rwE (if_neg (by decide)) ?_
  refine wpAny_entryW hfr h3 hf h4 h1 h2 h6 (Array.getElem?_eq_some_iff.mp h8).1 h7 λ h' hN=>?_
  rw [h5] at hN
  exact q h' a0 ⟨hN.1,h2,hN.2.1,hN.2.2.1⟩ hN.2.2.2
 | fly fl=>exact wpAny_looks_onW hfr hf fl λ h' hh up=>q h' _ hh up
 | held hh=>exact wpAny_noteFrame_againW hf hh.2.2.2 (q _ _ hh (Heap.UpToSlots.refl _))
theorem iW {env:Env} {outer:List Env} {Q:Unit->Shared->Prop} (hfr:A.frames=some (env::outer)) (hf:env.frame=some L) (fl:Fly B (env::outer) L a s.heap)
 (q:∀ h' a0,Heap.FlyingW B outer a (.ref pfA) a0 h'->s.heap.UpToSlots h'->Q () { s with heap:=h' }):wpAny M A (leaving env (.ref a)) Q E s:=by
 delta leaving
 refine wpAny_bind (ie hfr hf fl λ h' a0 hh up=>?_)
 refine wpAny_landsW hh λ h'' hfl up2=>?_
 refine xp hfl ?_;clear hfl;intro k1 k2 z2 k4;refine bq z2 ?_;clear z2;intro z0 z1 k3
 exact q h'' a0 ⟨k1,k2,k3,k4⟩ (up.trans up2)
theorem oF {e:Addr} {cls a0:Value} {Q:Unit->Shared->Prop} (hh:Heap.HeldW B l e cls a0 L s.heap)
 (q:∀ h',Heap.HeldW B l e cls a0 L h'->s.heap.UpToSlots h'->Q () { s with heap:=h' }):wpAny M A (setFlight (.ref e) (some L)) Q E s:=by
 refine al hh ?_;clear hh;intro hkb zz;refine al zz ?_;clear zz;intro hen zz;(refine al zz ?_;clear zz;intro hl zz;obtain ⟨oe,vs,T,oT,ts,he,hcls,hd,h1,hnT,hTe,hT,hdT,h3⟩:=zz)
 have hsz3:3<ts.size:=(Array.getElem?_eq_some_iff.mp h3).1
 have other:∀ b,b≠T->(s.heap.update T (Obj.mapFields (·.setIfInBounds 3 ((some L:Option Addr).elim Value.none λ f=>rawInt f)))).get? b=s.heap.get? b :=
  λ b hb=>Heap.get?_update_other _ _ (Ne.symm hb)
 have noRecord:∀ b o,s.heap.get? b=some o->(∀ vs,o.data≠.fields vs)->b≠T:=λ b o hb hnf q=>by
  rw [q,hT] at hb;injection hb with hb;subst hb;exact hnf ts hdT
 delta setFlight
 refine wpAny_bind (wpAny_field he hd h1 ?_)
 refine rwE (if_pos (show (Value.ref T != Value.none)=true from by simp)) ?_
 refine wpAny_setField hT hdT hsz3 (q _ ⟨λ b o hbo=>(other b λ q=>by rw [q,hnT] at hbo;exact J hbo).trans (hkb b o hbo),hen,
  hl.of_keeps λ b o hb hnf=>⟨o,(other b (noRecord b o hb hnf)).trans hb,rfl⟩,?_⟩ λ b o hb hnf=>⟨o.slots,(other b (noRecord b o hb hnf)).trans hb⟩)
 exact ⟨oe,vs,T,_,_,(other e (Ne.symm hTe)).trans he,hcls,hd,h1,hnT,hTe,Heap.get?_update_self _ hT (Obj.isFreed_of_fields (Obj.data_mapFields hdT _)),Obj.data_mapFields hdT _,by simp [hsz3]⟩
noncomputable def PXh (G:Gl) (c:Cx) (ρ:Rho) (X:PX) (e:Value) (s:Shared):Prop:=∃ a a0 B σ Fz,e=.ref a/\Heap.HeldW B (c.fenv::c.outer) a (.ref pfA) a0 c.L s.heap/\(∃ h₁ m mf lo Mt Tb Ce led,jz G c ρ σ Fz a s.heap h₁ B m mf lo Mt Tb Ce led)/\(s.gens=#[]/\s.os=G.os)/\X σ
theorem jz.up2 {h h₁ h' B:Heap} {m mf lo Mt Tb Ce led} (S:jz G c ρ σ Fz a h h₁ B m mf lo Mt Tb Ce led) (up:h.UpToSlots h') (fl:Fly B (c.fenv::c.outer) c.L a h'):jz G c ρ σ Fz a h' h₁ B m mf lo Mt Tb Ce led :=
 ⟨S.F,S.up.trans up,S.base,S.hl,S.nd,S.pm,S.loc,S.mt,S.tbr,S.er,S.ce,S.fk,fl⟩
theorem qo {e:Value} (C:COK G c) {n:Nat} (HA:AOK c A n) (hm:c.mF=none) (h:PX' G c ρ X e s) (q:∀ s',PXh G c ρ X e s'->E e s'):notedBy M A c.env E e s:=by
 obtain ⟨a,σ,Fz,rfl,⟨g,h₁,B,m,mf,lo,Mt,Tb,Ce,led,S⟩,hx⟩:=h
 delta notedBy
 refine rwE (C.same hm) ?_
 refine ie HA.fr C.hf S.fl λ h' a0 hh up=>q _ ⟨a,a0,B,σ,Fz,rfl,hh,⟨h₁,m,mf,lo,Mt,Tb,Ce,led,S.up2 up (.held hh)⟩,g,hx⟩
theorem kH {e:Value} (C:COK G c) (h:PXh G c ρ X e s) (q:∀ s',PX' G c ρ X e s'->E e s'):cameBackBy M A c.env E e s:=by
 refine zX h ?_;clear h;intro a a0 B σ Fz z5 hh z7 g hx;obtain rfl:=z5;refine ao z7 ?_;clear z7;intro h₁ zz;(refine ao zz ?_;clear zz;intro m zz;obtain ⟨mf,lo,Mt,Tb,Ce,led,S⟩:=zz)
 have hh':=hh
 refine al hh' ?_;clear hh';intro hkb zz;refine al zz ?_;clear zz;intro hen zz;(refine al zz ?_;clear zz;intro hl zz;obtain ⟨oe,vs,T,oT,ts,he,hcls,hd,h1,hnT,hTe,hT,hdT,h3⟩:=zz)
 delta cameBackBy
 refine wpAny_bind (wpAny_field he hd h1 ?_)
 refine rwE (if_neg (show ¬ ((Value.ref T==Value.none)=true) from by simp)) ?_
 refine rwE C.ef ?_
 refine oF hh λ h' hh' up=>q _ ⟨a,σ,Fz,rfl,⟨g,h₁,B,m,mf,lo,Mt,Tb,Ce,led,S.up2 up (.held hh')⟩,hx⟩
theorem nD {e:Value} (C:COK G c) {n:Nat} (HA:AOK c A n) (hm:c.mF=none) (h:PX' G c ρ X e s) (q:∀ s',PX' G c ρ X e s'->E e s'):notedBy M A c.env (cameBackBy M A c.env E) e s :=
 qo C HA hm h λ u' h'=>kH C h' q
end
noncomputable def PF (G:Gl) (c:Cx) (Fz:List (Addr×Obj)) (N:PN) (R:PV) (f:Flow) (s:Shared):Prop:=match f with
 | .next=>PU' G c Fz N s
 | .ret v=>∃ ρ,PV' G c ρ Fz R v s
 | _=>False
theorem zI {a b:Bool} (h:a=true):(a||b)=true:=(Bool.or_eq_true ..).mpr (.inl h)
theorem zJ {a b:Bool} (h:b=true):(a||b)=true:=(Bool.or_eq_true ..).mpr (.inr h)
section
variable (G:Gl) (call:ah) (n:Nat)
noncomputable def SSt (st:S):Prop:=∀ (st':Stmt) (c:Cx) (A:Around) (ρ:Rho) (σ:St) (Fz:List (Addr×Obj)) (s:Shared) (N:PN) (R:PV) (X:PX) (E:Value->Shared->Prop),COK G c->AOK c A n->c.mF=none->(xJ st=true->c.base=c.g)->SR G c ρ σ Fz s->(∀ ρ e s',PX' G c ρ X e s'->E e s') ->
 xI (b9 G c.env) c.env.scope.names st st'=true->exec tb call st ρ σ N R X->wpAny (model G.prog G.w) A (PySem.exec st' c.env) (PF G c Fz N R) E s
noncomputable def SSs (sts:List S):Prop:=∀ (sts':List Stmt) (c:Cx) (A:Around) (ρ:Rho) (σ:St) (Fz:List (Addr×Obj)) (s:Shared) (N:PN) (R:PV) (X:PX) (E:Value->Shared->Prop),COK G c->AOK c A n->c.mF=none->(hasTs sts=true->c.base=c.g)->SR G c ρ σ Fz s->(∀ ρ e s',PX' G c ρ X e s'->E e s') ->
 gm (b9 G c.env) c.env.scope.names sts sts'=true->execs tb call sts ρ σ N R X->wpAny (model G.prog G.w) A (PySem.execs sts' c.env) (PF G c Fz N R) E s
end
section
variable {call:ah} {n:Nat}
theorem PF.mono {c:Cx} {Fz Fz':List (Addr×Obj)} {N:PN} {R:PV} {f:Flow} {s:Shared} (sb:sub Fz Fz') (h:PF G c Fz' N R f s):PF G c Fz N R f s:=by
 induction f using PySem.Flow.casesOn with
 | next=>exact PU'.mono sb h
 | ret v=>(refine ao h ?_;clear h;intro ρ h);exact ⟨ρ,PV'.mono sb h⟩
 | brk=>exact h
 | cont=>exact h
theorem vR:SSs G call n []:=by
 intro sts' c A ρ σ Fz s N R X E C HA hm hT S HX h e
 induction sts' using List.casesOn with
 | cons _ _=>exact ad h
 | nil=>exact wpAny_execs_nil ⟨ρ,σ,Fz,sub.refl,S,e⟩
theorem tt {st:S} {r:List S} (h1:SSt G call n st) (h2:SSs G call n r):SSs G call n (st::r):=by
 intro sts' c A ρ σ Fz s N R X E C HA hm hT S HX h e
 induction sts' using List.casesOn with
 | nil=>exact ad h
 | cons st' r' =>
  have h':(xI (b9 G c.env) c.env.scope.names st st'&&gm (b9 G c.env) c.env.scope.names r r')=true:=h
  have h':=an2 h'
  refine wpAny_execs_cons (wpAny_mono (h1 st' c A ρ σ Fz s _ R X E C HA hm (λ h=>hT (zI h)) S HX h'.1 e) (λ f s₁ hf=>?_) λ u' u' x=>x)
  induction f using PySem.Flow.casesOn with
  | next =>
   obtain ⟨ρ₁,σ₁,Fz₁,sb,S₁,q⟩:=hf
   exact wpAny_mono (h2 r' c A ρ₁ σ₁ Fz₁ s₁ N R X E C HA hm (λ h=>hT (zJ h)) S₁ HX h'.2 q) (λ f s₂ h=>h.mono sb) λ u' u' x=>x
  | ret v=>exact hf
  | brk=>exact hf
  | cont=>exact hf
theorem yt {e:E} (he:SE G call n e):SSt G call n (.ex e):=by
 intro st' c A ρ σ Fz s N R X E C HA hm hT S HX h ev
 refine u7 (P:=λ st'=>wpAny (model G.prog G.w) A (PySem.exec st' c.env) (PF G c Fz N R) E s) (λ e' pos hcl h2=>?_) h
 refine wpAny_Expr_any (wpAny_mono (he e' c A ρ σ Fz s _ X E C HA S (HX ρ) h2 ev) (λ v s₁ hv=>?_) λ u' u' x=>x) (by delta interactive;refine rwE C.ek ?_;rfl) ?_
 ·obtain ⟨V,σ₁,Fz₁,sb,hv,S₁,q⟩:=hv
  exact ⟨ρ,σ₁,Fz₁,sb,S₁,q⟩
 ·exact kN (P:=λ e'=>swapsWith e' none pos.line c.env=pure false) (λ u' u' u' u'=>rfl) hcl
theorem yu {t:E} {a b:List S} (ht:STt G call n t) (ha:SSs G call n a) (hb:SSs G call n b):SSt G call n (.if_ t a b):=by
 intro st' c A ρ σ Fz s N R X E C HA hm hT S HX h ev
 refine u8 (P:=λ st'=>wpAny (model G.prog G.w) A (PySem.exec st' c.env) (PF G c Fz N R) E s) (λ t' a' b' pos h1 h2 h3=>?_) h
 refine wpAny_If (wpAny_mono (ht t' c A ρ σ Fz s _ X E C HA S (HX ρ) h1 ev) (λ r s₁ hr=>?_) λ u' u' x=>x)
 obtain ⟨σ₁,Fz₁,sb,S₁,q⟩:=hr
 induction r using Bool.casesOn with
 | true=>exact wpAny_mono (ha a' c A ρ σ₁ Fz₁ s₁ N R X E C HA hm (λ h=>hT (zI h)) S₁ HX h2 q) (λ f s₂ h=>h.mono sb) λ u' u' x=>x
 | false=>exact wpAny_mono (hb b' c A ρ σ₁ Fz₁ s₁ N R X E C HA hm (λ h=>hT (zJ h)) S₁ HX h3 q) (λ f s₂ h=>h.mono sb) λ u' u' x=>x
theorem vS {e:E} (he:SE G call n e):SSt G call n (.ret e):=by
 intro st' c A ρ σ Fz s N R X E C HA hm hT S HX h ev
 refine sL (P:=λ st'=>wpAny (model G.prog G.w) A (PySem.exec st' c.env) (PF G c Fz N R) E s) (λ p q=>?_) (λ e' p h'=>?_) h
 ·subst q
  exact wpAny_Return_none ⟨ρ,.none,σ,Fz,sub.refl,rfl,S,ev⟩
 ·exact wpAny_Return_some (wpAny_mono (he e' c A ρ σ Fz s _ X E C HA S (HX ρ) h' ev) (λ v s₁ hv=>⟨ρ,hv⟩) λ u' u' x=>x)
theorem yv {t:E} {b:List S} (ht:STt G call n t) (hb:SSs G call n b):SSt G call n (.wh t b):=by
 intro st' c A ρ σ Fz s N R X E C HA hm hT S HX h ev
 refine u9 (P:=λ st'=>wpAny (model G.prog G.w) A (PySem.exec st' c.env) (PF G c Fz N R) E s) (λ t' b' pos h1 h2=>?_) h
 have HX':∀ ρ e s',PX' G c ρ X e s'->notedBy (model G.prog G.w) A c.env (cameBackBy (model G.prog G.w) A c.env E) e s':=λ ρ e s' hx=>nD C HA hm hx (HX ρ e)
 refine wpAny_While (codeAny_whileLoop (I:=λ k s=>∃ ρ σ Fz',sub Fz Fz'/\SR G c ρ σ Fz' s/\exW (λ ρ σ Q X=>evT tb call t ρ σ Q X) (λ ρ σ N R X=>execs tb call b ρ σ N R X) k ρ σ N R X) (λ k s hI=>?_) 100 ⟨ρ,σ,Fz,sub.refl,S,ev⟩)
 refine pJ hI ?_;clear hI;intro ρ σ Fz₁ sb S ev
 induction k using Nat.casesOn with
 | zero=>exact ev.elim
 | succ k =>
  refine wpAny_mono (ht t' c A ρ σ Fz₁ s _ X _ C HA S (HX' ρ) h1 ev) (λ r s₁ hr=>?_) λ u' u' x=>x
  obtain ⟨σ₁,Fz₂,sb₂,S₁,q⟩:=hr
  induction r using Bool.casesOn with
  | true =>
   refine wpAny_mono (hb b' c A ρ σ₁ Fz₂ s₁ _ R X _ C HA hm (λ h=>hT h) S₁ HX' h2 q) (λ f s₂ hf=>?_) λ u' u' x=>x
   induction f using PySem.Flow.casesOn with
   | next =>
    obtain ⟨ρ₂,σ₂,Fz₃,sb₃,S₂,q⟩:=hf
    exact ⟨k,Nat.lt_succ_self k,ρ₂,σ₂,Fz₃,(sb.trans sb₂).trans sb₃,S₂,q⟩
   | ret v=>(refine ao hf ?_;clear hf;intro ρ hf);exact ⟨ρ,PV'.mono (sb.trans sb₂) hf⟩
   | brk=>exact hf.elim
   | cont=>exact hf.elim
  | false =>
   exact wpAny_execs_nil ⟨ρ,σ₁,Fz₂,sb.trans sb₂,S₁,q⟩
end
section
variable {call:ah} {n:Nat}
theorem SR0.drop {c:Cx} {ρ:Rho} {σ:St} {Fz:List (Addr×Obj)} {gs:Array GenState} {os:OsState} {h:Heap} {a:Addr} {o:Obj} (S:SR0 G (c.ex [(a,o)]) ρ σ Fz gs os h):SR0 G c ρ σ Fz gs os h:=by
 obtain ⟨g,m,mf,lo,Mt,Tb,Ce,led,S⟩:=S
 refine ao (S.sideDrop (h':=h) (λ u' u' u' e=>e)) ?_;intro led' S'
 exact ⟨g,m,mf,lo,Mt,Tb,Ce,led',S'⟩
theorem PV'.drop {c:Cx} {ρ:Rho} {Fz:List (Addr×Obj)} {s:Shared} {a:Addr} {o:Obj} {R:PV} {v:Value} (h:PV' G (c.ex [(a,o)]) ρ Fz R v s):PV' G c ρ Fz R v s:=by
 obtain ⟨V,σ,Fz',sb,hv,S,q⟩:=h
 exact ⟨V,σ,Fz',sb,hv,S.drop,q⟩
inductive FrI {c:Cx} {I:Addr} {Fz:List (Addr×Obj)} (K:List V->Rho->St->Prop):Nat->Shared->Prop
 | mk (items:List V) (ρ:Rho) (σ:St) (Fz':List (Addr×Obj)) (io:Obj) {s:Shared} (sb:sub Fz Fz') (S:SR G (c.ex [(I,io)]) ρ σ Fz' s) (hio:cT G.w.params (Hf G.kx Fz') io items) (ev:K items ρ σ):FrI K items.length s
theorem vT {t:T} {it:E} {b:List S} (ha:SAs G call n t) (hi:SE G call n it) (hb:SSs G call n b):SSt G call n (.for_ t it b):=by
 intro st' c A ρ σ Fz s N R X E C HA hm hT S HX h ev
 refine sK (P:=λ st'=>wpAny (model G.prog G.w) A (PySem.exec st' c.env) (PF G c Fz N R) E s) (λ t' it' b' pos h1 h2 h3 h4 h5=>?_) h
 have HX':∀ (l:List (Addr×Obj)) ρ e s',PX' G (c.ex l) ρ X e s'->notedBy (model G.prog G.w) A c.env (cameBackBy (model G.prog G.w) A c.env E) e s':=λ l ρ e s' hx=>nD C HA hm hx.ex (HX ρ e)
 refine wpAny_For (wpAny_mono (hi it' c A ρ σ Fz s _ X E C HA S (HX ρ) h4 ev) (λ v s₁ hv=>?_) λ u' u' x=>x) (λ x=>nB h1)
 induction ItP.of hv λ V σ e=>sx (x:=aF V σ) e with
 | mk V σ₁ Fz₁ items σ₂ sb hv S₁ hit q =>
  refine iT C S₁ hv hit λ I io Fz₂ s₂ sb₂ S₂ hio hlen=>?_
  refine qj (R:=λ r s'=>match r with | .ok f=>PF G c Fz N R f s' | .error e=>cameBackBy (model G.prog G.w) A c.env E e s') (FrI (c:=c) (I:=I) (Fz:=Fz) λ items ρ σ=>exF (λ ρ σ N R X=>execs tb call b ρ σ N R X) (λ v ρ σ N X=>asT tb call t v ρ σ N X) items ρ σ N R X) (λ k s hI=>?_) items.length ⟨items,ρ,σ₂,Fz₂,io,sb.trans sb₂,S₂,hio,q⟩
  obtain ⟨items,ρ,σ,Fz',io,sb,S,hio,ev⟩:=hI
  induction items using List.casesOn with
  | nil=>exact kW C HA.ha S hio λ s' S'=>wpAny_execs_nil ⟨ρ,σ,Fz',sb,S',ev⟩
  | cons v r =>
   refine iU C S hio λ val io' s₃ hval S₃ hio'=>?_
   dsimp only
   refine kY C S₃ hio' ?_
   refine wpAny_mono (ha t' (c.ex [(I,io')]) A ρ σ Fz' s₃ v val _ X _ (C.ex _) (HA.ex _) hm S₃ (HX' _) h3 hval ev) (λ u' s₄ hq=>?_) λ u' u' x=>x
   obtain ⟨ρ₄,σ₄,Fz₄,sb₄,S₄,q⟩:=hq
   refine wpAny_mono (hb b' (c.ex [(I,io')]) A ρ₄ σ₄ Fz₄ s₄ _ R X _ (C.ex _) (HA.ex _) hm (λ h=>hT h) S₄ (HX' _) h5 q) (λ f s₅ hf=>?_) λ u' u' x=>x
   induction f using PySem.Flow.casesOn with
   | next =>
    obtain ⟨ρ₅,σ₅,Fz₅,sb₅,S₅,q⟩:=hf
    exact ⟨r.length,Nat.lt_succ_self _,r,ρ₅,σ₅,Fz₅,io',(sb.trans sb₄).trans sb₅,S₅,hio'.mono (Hf.mono (sb₄.trans sb₅)),q⟩
   | ret v=>(refine ao hf ?_;clear hf;intro ρ hf);exact ⟨ρ,PV'.mono (sb.trans sb₄) hf.drop⟩
   | brk=>exact hf.elim
   | cont=>exact hf.elim
noncomputable def j5 (x:PySem.Expr):Bool:=Nat.beq x.ctorIdx 8
theorem qp {value t:PySem.Expr} {l:Nat} {env:Env} (h0:(Nat.blt value.ctorIdx 9||Nat.blt 10 value.ctorIdx)=true) (h:(j5 value&&iw t)=false):swapsWith value (some t) l env=pure false:=by
 induction value using PySem.Expr.casesOn with
 | ListComp _ _ _ _=>induction t using PySem.Expr.casesOn with | Name _ _=>exact ad h.symm | _=>exact (rfl:(pure false:Sem Bool)=pure false)
 | SetComp _ _ _ _=>exact ad h0
 | DictComp _ _ _ _ _=>exact ad h0
 | _=>exact (rfl:(pure false:Sem Bool)=pure false)
theorem tu {value:PySem.Expr} {id:Str} {np:Pos} {l:Nat} {env:Env} (h:j5 value=true):∃ b,swapsWith value (some (.Name id np)) l env=pure b :=
 PySem.Expr.ListComp.elim (motive_1:=λ value=>∃ b,swapsWith value (some (.Name id np)) l env=pure b) value (Nat.eq_of_beq_eq_true h) λ _ _ _ _=>⟨_,rfl⟩
theorem l7 {t:PySem.Expr} (h:iw t=true):∃ id np,t=.Name id np :=
 PySem.Expr.Name.elim (motive_1:=λ t=>∃ id np,t=.Name id np) t (Nat.eq_of_beq_eq_true h) λ id np=>⟨id,np,rfl⟩
theorem vU {lm} {sc:SC} {e:E} {x:PySem.Expr} (hc:j5 x=true) (h:aE lm sc e x=true):∃ elt t it,e=.comp elt t it :=
 PySem.Expr.ListComp.elim (motive_1:=λ x=>aE lm sc e x=true->∃ elt t it,e=.comp elt t it) x (Nat.eq_of_beq_eq_true hc) (λ _ _ _ _ h=>by
  induction e using E.casesOn with
  | comp elt t it=>exact ⟨elt,t,it,rfl⟩
  | _=>exact ad h) h
noncomputable def tv (x:PySem.Expr):Bool:=Nat.beq x.ctorIdx 25
theorem oG {value t:PySem.Expr} {env:Env} (h1:tv t=false) (h2:(Nat.blt t.ctorIdx 24||Nat.blt 24 t.ctorIdx)=true):swappedStores [t] value env=pure none:=by
 induction t using PySem.Expr.casesOn with
 | Tuple _ _ _=>exact ad h1.symm
 | List _ _=>exact ad h2
 | _=>exact (rfl:(pure none:Sem (Option (List Str)))=pure none)
theorem oH {ts:List PySem.Expr} {k:Nat} {p:Pos} {value:PySem.Expr} {env:Env} (h1:tv value=false):swappedStores [.Tuple ts k p] value env=pure none:=by
 induction value using PySem.Expr.casesOn with
 | Tuple _ _ _=>exact ad h1.symm
 | _=>exact (rfl:(pure none:Sem (Option (List Str)))=pure none)
theorem kZ {t:PySem.Expr} (h:tv t=true):∃ a b c,t=.Tuple a b c :=
 PySem.Expr.Tuple.elim (motive_1:=λ t=>∃ a b c,t=.Tuple a b c) t (Nat.eq_of_beq_eq_true h) λ a b c=>⟨a,b,c,rfl⟩
theorem jf {value t:PySem.Expr} {env:Env} (h:mK t value=true):swappedStores [t] value env=pure none:=by
 rcases Bool.eq_false_or_eq_true (tv t) with ht | ht
 case inr=>exact oG ht (b2 h λ h _=>h)
 refine xq (kZ ht) ?_;intro ts k pos z3;obtain rfl:=z3
 rcases Bool.eq_false_or_eq_true (tv value) with hv | hv
 case inr=>exact oH hv
 refine xq (kZ hv) ?_;intro vs k' pos' z3;obtain rfl:=z3
 have h':(ts.any λ t=>!iw t)=true:=h
 delta swappedStores
 dsimp only
 by_cases h1:(!(ts.length==2||ts.length==3)||vs.length != ts.length||env.blockKind != .function)=true
 ·refine rwE (if_pos h1) ?_;rfl
 ·refine rwE (if_neg h1) ?_
  split
  ·rfl
  ·skip
   have:∀ (f:PySem.Expr->Option Str),(∀ e,iw e=false->f e=none)->∀ (ts:List PySem.Expr),(ts.any λ t=>!iw t)=true->(ts.filterMap f).length<ts.length:=λ f hf ts=>by
    induction ts with
    | nil=>intro h;exact ad h
    | cons t r ih =>
     intro h
     rw [List.any_cons,Bool.or_eq_true] at h
     have le:∀ l:List PySem.Expr,(l.filterMap f).length<=l.length:=λ l=>List.length_filterMap_le f l
     induction hn:iw t using Bool.casesOn with
     | false=>(refine rwE List.filterMap_cons ?_;refine rwE (hf t hn) ?_);exact Nat.lt_succ_of_le (le r)
     | true =>
      rw [hn] at h
      have:=ih (h.resolve_left (by simp))
      refine rwE List.filterMap_cons ?_
      induction f t using Option.casesOn with
      | none=>exact Nat.lt_succ_of_lt this
      | some _=>exact Nat.succ_lt_succ this
   refine if_pos ?_
   refine rwE (Bool.or_eq_true ..) ?_
   exact .inl (bne_iff_ne.mpr (Nat.ne_of_lt (this _ (λ e he=>by cases e<;>first | rfl | cases he) ts h')))
theorem vV {t:T} {e:E} (ha:SAs G call n t) (he:SE G call n e) (hc:∀ elt t₀ it,e=.comp elt t₀ it->SE G call n elt/\SE G call n it):SSt G call n (.asg t e):=by
 intro st' c A ρ σ Fz s N R X E C HA hm hT S HX h ev
 refine sJ (P:=λ st'=>wpAny (model G.prog G.w) A (PySem.exec st' c.env) (PF G c Fz N R) E s) (λ t' e' pos h1 h2 h0 h'=>?_) h
 refine al (Bool.and_eq_true_iff.mp h') ?_;intro h3 h4
 have eas:(assignEach [t'] c.env).map (λ x=>x.2)=[assign t' c.env]:=by refine rwE (d7 h1) ?_;rfl
 have fin:swapsWithSole [t'] e' pos.line c.env=pure false->wpAny (model G.prog G.w) A (PySem.exec (.Assign [t'] e' pos) c.env) (PF G c Fz N R) E s:=λ hb=>by
  refine wpAny_Assign_stores (wpAny_mono (he e' c A ρ σ Fz s _ X E C HA S (HX ρ) h4 ev) (λ v s₁ hv=>?_) λ u' u' x=>x) hb (jf h2)
  obtain ⟨V,σ₁,Fz₁,sb,hv,S₁,q⟩:=hv
  refine rwE eas ?_
  exact wpAny_mono (ha t' c A ρ σ₁ Fz₁ s₁ V v N X E C HA hm S₁ HX h3 hv q) (λ u' s₂ h=>h.mono sb) λ u' u' x=>x
 rcases Bool.eq_false_or_eq_true (j5 e'&&iw t') with hcn | hcn
 case inr=>exact fin (qp h0 hcn)
 refine al (Bool.and_eq_true_iff.mp hcn) ?_;intro hcm hnm
 refine pI (l7 hnm) ?_;intro id np z2;obtain rfl:=z2
 refine ao (tu (id:=id) (np:=np) (l:=pos.line) (env:=c.env) hcm) ?_;intro b hb
 induction b using Bool.casesOn with
 | false=>exact fin hb
 | true =>
  clear fin
  refine rwE (exec_Assign_arm ..) ?_
  refine wpAny_bind (wpAny_standAt ?_)
  refine rwE (show swapsWithSole [.Name id np] e' pos.line c.env=pure true from hb) ?_
  refine wpAny_bind (wpAny_pure ?_)
  refine rwE (if_pos rfl) ?_;refine rwE eas ?_
  refine xq (vU hcm h4) ?_;intro elt t₀ it z3;obtain rfl:=z3
  refine al (hc elt t₀ it rfl) ?_;intro ihe ihi
  replace h4:=l6.of h4
  clear hb hcm hcn h2 eas h' he hc
  induction h4 with
  | @mk elt' gt it' scope cpos k1 k2 k3 k4 k5 k6 k7 k8 =>
  show wpAny _ _ ((comprehension (.ListComp elt' [⟨gt,it',[],0⟩] scope cpos) scope c.env (firstIterPos [⟨gt,it',[],0⟩] cpos) (newList []) false (PySem.eval it' c.env) (some λ v=>assign (.Name id np) c.env v) >>= λ u'=>pure ()) >>= λ u'=>pure Flow.next) _ _ _
  refine wpAny_bind (wpAny_bind (iV (call:=call) (n:=n) (Qf:=λ u' s'=>wpAny (model G.prog G.w) A (pure ()) (λ u' s'=>wpAny (model G.prog G.w) A (pure Flow.next) (PF G c Fz N R) E s') E s') (Q:=λ ws σ'=>asT tb call t (.lst ws) ρ σ' N X) (ρ:=ρ) (Fz:=Fz) ihe C HA k2 k4 k5 k6 k7 k8 (nC C k7) (wpAny_mono (ihi it' c A ρ σ Fz s _ X E C HA S (HX ρ) k1 ev) (λ v s₁ hv=>ItP.of hv λ V σ e=>sx (x:=aF V σ) e) λ u' u' x=>x) ?_))
  ·intro D Ca oC es ep ws σ' Fz' s' sb S' hd hk hv q
   show wpAny _ _ (assign (.Name id np) c.env (.ref D)) _ _ _
   refine wpAny_mono (ha (.Name id np) (c.ex [(Ca,oC)]) A ρ σ' Fz' s' (.lst ws) (.ref D) N X E (C.ex _) (HA.ex _) hm S' (λ ρ e s' hx=>HX ρ e s' hx.ex) h3 hv q) (λ u' s₂ hq=>?_) λ u' u' x=>x
   obtain ⟨ρ₂,σ₂,Fz₂,sb₂,S₂,q⟩:=hq
   obtain ⟨g',m',mf',lo',Mt',Tb',Ce',led',S₂⟩:=S₂
   have hg:=S₂.N.get (S₂.pm.mem_iff.mpr (by simp:(Ca,oC)∈_))
   refine ⟨λ x=>nsFind es x,⟨oC,es,ep,hg,hd,hk,λ u'=>rfl⟩,λ h' hs=>?_⟩
   refine ao (S₂.sideDrop hs.extBut) ?_;intro led'' S''
   exact wpAny_pure (wpAny_pure ⟨ρ₂,σ₂,Fz₂,sb.trans sb₂,⟨g',_,_,_,_,_,_,_,S''⟩,q⟩)
end
structure KX (G:Gl):Prop where
 nm:nsIn G.K mainGlobals "PaintFault" = some (some (.ref pfA))
 cls:∃ nm q N bs bm hdct sn sub ab col dd k0 k1 k2 k3 k5 newId,G.K.lookup pfA=some (excClassObj nm q pfA N bs bm hdct sn sub ab col dd k0 k1 k2 k3 k5 newId)/\bm.contains (.type "BaseException")=true
section
variable {call:ah} {n:Nat}
theorem zK {c:Cx} {ρ:Rho} {σ:St} {Fz:List (Addr×Obj)} {a:Addr} {h h₁ h' B:Heap} {m mf:Str->Option Value} {lo Mt Tb Ce led:List (Addr×Obj)} {cls a0:Value} (C:COK G c) (hb:c.base=c.g)
 (S:jz G c ρ σ Fz a h h₁ B m mf lo Mt Tb Ce led) (fl:Heap.FlyingW B (c.fenv::c.outer) a cls a0 h') (up:h₁.UpToSlots h'):SRp G c ρ σ Fz h' m mf lo Mt Tb Ce led:=by
 have hL:B.get? c.L=none:=by
  refine bq (fl.2.2.1) ?_;intro z0 z1 z2;refine gz z1 ?_;clear z1;intro L' z1 hf hn' z4
  rw [C.hf] at hf
  obtain rfl:c.L=L':=Option.some.inj hf
  exact hn'
 refine ⟨S.F.of_stays (λ b o e=>fl.1 _ _ (S.base _ _ (by refine rwE hb ?_;exact e))) up,λ q hq=>⟨fl.1 _ _ (S.hl q hq).1,λ e=>?_,?_⟩,S.nd,S.pm,S.loc,S.mt,S.tbr,S.er,S.ce,S.fk⟩
 ·have:=(S.hl q hq).1
  rw [e,hL] at this;exact J this
 ·have:=(S.hl q hq).2
  rw [hb] at this;exact this
noncomputable abbrev Cx.fl (c:Cx) (Fz:List (Addr×Obj)):Cx:={ c with Fk:=Fz }
theorem COK.fl {c:Cx} (C:COK G c) (Fz:List (Addr×Obj)):COK G (c.fl Fz):=⟨C.X,C.T,C.x0,C.hf,C.hke,C.ef,C.ek,C.eg,C.eb,C.B,C.loc,C.locne,C.cells,C.same,C.fr⟩
theorem AOK.fl {c:Cx} {A:Around} (H:AOK c A n) (Fz:List (Addr×Obj)):AOK (c.fl Fz) A n:=⟨H.fr,H.ha,H.dp,H.un⟩
theorem SR0.fl {c:Cx} {ρ:Rho} {σ:St} {Fz:List (Addr×Obj)} {gs:Array GenState} {os:OsState} {h:Heap} (S:SR0 G c ρ σ Fz gs os h):SR0 G (c.fl Fz) ρ σ Fz gs os h:=by
 obtain ⟨g,m,mf,lo,Mt,Tb,Ce,led,S⟩:=S
 exact ⟨g,m,mf,lo,Mt,Tb,Ce,led,S.F,S.N,S.nd,S.pm,S.loc,S.mt,S.tbr,S.er,S.ce,sub.refl⟩
theorem SR0.floor {c:Cx} {ρ:Rho} {σ:St} {Fz:List (Addr×Obj)} {gs:Array GenState} {os:OsState} {h:Heap} (S:SR0 G c ρ σ Fz gs os h):sub c.Fk Fz:=by
 obtain ⟨g,m,mf,lo,Mt,Tb,Ce,led,S⟩:=S
 exact S.fk
theorem SR0.unfl {c:Cx} {ρ:Rho} {σ:St} {Fz F:List (Addr×Obj)} {gs:Array GenState} {os:OsState} {h:Heap} (S:SR0 G (c.fl F) ρ σ Fz gs os h) (sb:sub c.Fk Fz):SR0 G c ρ σ Fz gs os h:=by
 obtain ⟨g,m,mf,lo,Mt,Tb,Ce,led,S⟩:=S
 exact ⟨g,m,mf,lo,Mt,Tb,Ce,led,S.F,S.N,S.nd,S.pm,S.loc,S.mt,S.tbr,S.er,S.ce,sb⟩
theorem vW (KE:KX G) {bb hh:List Mine.Internal.S} {kk:Nat} (he:∀ e,SE G call n e):SSt G call n (.try_ bb kk hh):=by
 intro st' c A ρ σ Fz s N R X E C HA hm hT S HX h ev
 revert hT ev
 refine sM (P:=λ bb kk hh st'=>(xJ (.try_ bb kk hh)=true->c.base=c.g)->exec tb call (.try_ bb kk hh) ρ σ N R X->wpAny (model G.prog G.w) A (PySem.exec st' c.env) (PF G c Fz N R) E s) h (λ e k b e' ep np np' kd cp ap hp pos hc h2 h3 h5=>?_)
 intro hT ev
 have hb:=hT rfl
 have suite:∀ (A':Around) (E':Value->Shared->Prop) (σ:St) (Fz₁:List (Addr×Obj)) (s:Shared),sub Fz Fz₁->SR G c ρ σ Fz₁ s->execs tb call [.asg (.x k) (.cB b)] ρ σ N R X ->
  wpAny (model G.prog G.w) A' (PySem.execs [.Assign [.Name (nm k) np'] (.Constant (.bool b) kd cp) ap] c.env) (PF G c Fz N R) E' s:=by
  intro A' E' σ Fz₁ s sb S ev
  refine wpAny_execs_cons (wpAny_Assign_stores (wpAny_Constant_bool ?_) rfl rfl)
  show wpAny _ _ (assign (.Name (nm k) np') c.env (.bool b)) _ _ _
  exact wpAny_assign_Name (ib C S h5 (V:=.bool b) rfl λ s' S'=>wpAny_execs_nil ⟨_,σ,Fz₁,sb,S',ev⟩)
 refine wpAny_Try_except (wpAny_execs_cons (wpAny_Expr_any (wpAny_mono (he e e' (c.fl Fz) A ρ σ Fz s (λ u' σ=>N ρ σ) (λ σ=>execs tb call [.asg (.x k) (.cB b)] ρ σ N R X) _ (C.fl Fz) (HA.fl Fz) S.fl (λ x s₁ hx=>?_) h2 ev) (λ v s₁ hv=>?_) λ u' u' x=>x) (by delta interactive;refine rwE C.ek ?_;rfl) ?_))
 ·
  obtain ⟨a,σ₁,Fz₁,rfl,⟨g,h₁,B,m,mf,lo,Mt,Tb,Ce,led,S₁⟩,ev₁⟩:=hx
  refine rwE (C.same hm) ?_
  refine ie HA.fr C.hf S₁.fl λ h4 a0 hh up4=>?_
  refine wpAny_landsW hh λ h5' hfl up5=>?_
  have sb₁:sub Fz Fz₁:=S₁.fk
  have up:=(S₁.up.trans up4).trans up5
  have S₅:=zK (C.fl Fz) hb S₁ hfl up
  refine au (hfl.there) ?_;intro ob hob hobc
  refine ao (KE.cls) ?_;intro nm' zz;refine ao zz ?_;clear zz;intro q zz;(refine ao zz ?_;clear zz;intro N' zz;obtain ⟨bs,bm,hdct,sn,sub',ab,col,dd,k0,k1,k2,k3,k5,newId,hK,hbm⟩:=zz)
  refine rwB (C.same hm) ?_
  refine wpAny_handleBy_cons (codeAny_handlers_test (Name_function_global C.ek h3 (loadGlobal_global (env:=c.env) (by refine rwE C.eg ?_;exact C.T.g.keeps S₅.F.keep) (mg_of C.X C.T.g KE.nm) ?_) (by decide))) (by intro q;cases q)
  refine wpAny_excMatches_sub_self (S₅.F.keep _ _ (C.X _ _ hK)) hob hobc hbm (codeAny_handlers_suite ?_)
  refine lands_againW hfl λ h6 hfl6 up6=>?_
  have S₆:=zK (C.fl Fz) hb S₁ hfl6 (up.trans up6)
  exact suite _ _ σ₁ Fz₁ _ sb₁ (SR0.unfl (F:=Fz) ⟨g,m,mf,lo,Mt,Tb,Ce,led,S₆⟩ (S.floor.trans sb₁)) ev₁
 ·obtain ⟨V,σ₁,Fz₁,sb,hv,S₁,q⟩:=hv
  exact wpAny_execs_nil (wpAny_execs_nil ⟨ρ,σ₁,Fz₁,sb,S₁.unfl (S.floor.trans sb),q⟩)
 ·exact kN (P:=λ e'=>swapsWith e' none ep.line c.env=pure false) (λ u' u' u' u'=>rfl) hc
end
section
variable {call:ah} {n:Nat}
mutual
theorem sS (KK:KOK G) (KE:KX G) (HC:c8 G call n) (HN:gn G call n) (HL:j4 G) (HR:∀ e,SE G call n e->SSt G call n (.raise 12 e)):∀ st:S,SSt G call n st
 | .ex e=>yt (sET KK HC HN HL e).1
 | .asg t e=>vV (sAs KK (λ e=>(sET KK HC HN HL e).1) t) (sET KK HC HN HL e).1 λ elt u' it u'=>⟨(sET KK HC HN HL elt).1,(sET KK HC HN HL it).1⟩
 | .if_ c a b=>yu (sET KK HC HN HL c).2 (sSs KK KE HC HN HL HR a) (sSs KK KE HC HN HL HR b)
 | .wh c b=>yv (sET KK HC HN HL c).2 (sSs KK KE HC HN HL HR b)
 | .for_ t it b=>vT (sAs KK (λ e=>(sET KK HC HN HL e).1) t) (sET KK HC HN HL it).1 (sSs KK KE HC HN HL HR b)
 | .ret e=>vS (sET KK HC HN HL e).1
 | .raise k e=>by
  intro st' c A ρ σ Fz s N R X E C HA hm hT S HX h ev
  obtain ⟨rfl,ev'⟩:k=12/\_:=ev
  exact HR e (sET KK HC HN HL e).1 st' c A ρ σ Fz s N R X E C HA hm hT S HX h ⟨rfl,ev'⟩
 | .try_ b k hd=>vW KE λ e=>(sET KK HC HN HL e).1
termination_by structural st=>st
theorem sSs (KK:KOK G) (KE:KX G) (HC:c8 G call n) (HN:gn G call n) (HL:j4 G) (HR:∀ e,SE G call n e->SSt G call n (.raise 12 e)):∀ sts:List S,SSs G call n sts
 | []=>vR
 | s::r=>tt (sS KK KE HC HN HL HR s) (sSs KK KE HC HN HL HR r)
termination_by structural sts=>sts
end
end
theorem dw {x:Str}:∀ {ns:List Str} {vs:List Value},x∉ns->(ns.zip vs).lookup x=none
 | [],_,_=>by simp
 | _::_,[],_=>by simp
 | n::r,v::vs,h=>by
  refine rwE List.zip_cons_cons ?_;refine rwE List.lookup_cons ?_
  rw [List.mem_cons,not_or] at h
  refine rwE (beq_eq_false_iff_ne.mpr h.1) ?_
  exact dw h.2
theorem cb {x:Str}:∀ {a b:List (Str×Value)},a.lookup x=none->(a++b).lookup x=b.lookup x
 | [],_,_=>rfl
 | (n,v)::r,b,h=>by
  rw [List.lookup_cons] at h
  refine rwE List.cons_append ?_;refine rwE List.lookup_cons ?_
  induction e:x==n using Bool.casesOn with
  | true=>rw [e] at h;cases h
  | false=>rw [e] at h;exact cb h
theorem dy {x:Str} {ns:List Str}:∀ {vs:List Value},ns.length<=vs.length->x∈ns->((ns.zip vs).lookup x).isSome=true:=by
 induction ns with
 | nil=>intro vs h hx;exact absurd hx List.not_mem_nil
 | cons n r ih =>
  intro vs h hx
  induction vs using List.casesOn with
  | nil=>exact absurd h (Nat.not_succ_le_zero _)
  | cons v vs =>
   refine rwE List.zip_cons_cons ?_;refine rwE List.lookup_cons ?_
   induction e:x==n using Bool.casesOn with
   | true=>rfl
   | false =>
    rcases List.mem_cons.mp hx with q | q
    ·exact absurd q (beq_eq_false_iff_ne.mp e)
    ·exact ih (Nat.le_of_succ_le_succ h) q
theorem k9 {α β:Type} {f g:α->Option β}:∀ {l:List α},(∀ x∈l,f x=g x)->l.filterMap f=l.filterMap g
 | [],_=>rfl
 | x::r,h=>by (refine rwE List.filterMap_cons ?_;refine rwE List.filterMap_cons ?_;refine rwE (h x (.head _)) ?_;refine rwE (k9 λ y hy=>h y (.tail _ hy)) ?_;rfl)
theorem eE:∀ {ns:List Str} {vs:List Value},ns.Nodup->ns.length=vs.length->(ns.filterMap λ n=>((ns.zip vs).lookup n).map (n,·))=ns.zip vs
 | [],_,_,_=>by simp
 | n::r,[],_,h=>by simp at h
 | n::r,v::vs,hn,h=>by
  rw [List.nodup_cons] at hn
  have ih:=eE (ns:=r) (vs:=vs) hn.2 (by simpa using h)
  refine rwE List.zip_cons_cons ?_;refine rwE List.filterMap_cons ?_
  have:((n,v)::r.zip vs).lookup n=some v:=by refine rwE List.lookup_cons ?_;simp
  refine rwE this ?_
  simp only [Option.map_some]
  congr 1
  refine Eq.trans (k9 λ x hx=>?_) ih
  have:(x==n)=false:=beq_eq_false_iff_ne.mpr λ e=>hn.1 (e▸hx)
  refine rwE List.lookup_cons ?_;refine rwE this ?_;rfl
noncomputable def dfl:List (Str×Value)->List (Str×Value)->List (Str×Value)
 | [],sl=>sl
 | (n,d)::r,sl=>dfl r (if (sl.lookup n).isNone then sl++[(n,d)] else sl)
theorem oJ {f:Str×Value->List (Str×Value)->Sem (ForInStep (List (Str×Value)))} (hf:∀ p sl,f p sl=pure (.yield (if (sl.lookup p.1).isNone then sl++[(p.1,p.2)] else sl))) {l:List (Str×Value)} :
 ∀ {sl:List (Str×Value)},(forIn l sl f:Sem _)=pure (dfl l sl):=by
 induction l with
 | nil=>intro sl;rfl
 | cons p r ih=>intro sl;rw [List.forIn_cons,hf];exact ih
theorem la:∀ {l rest:List (Str×Value)} {sl:List (Str×Value)},(∀ p∈l,(sl.lookup p.1).isSome=true)->dfl (l++rest) sl=dfl rest sl
 | [],_,_,_=>rfl
 | p::r,rest,sl,h=>by
  show dfl (r++rest) (if (sl.lookup p.1).isNone then sl++[(p.1,p.2)] else sl)=_
  have:=h p (.head _)
  refine rwE (if_neg (by rw [Option.isNone_iff_eq_none];intro e;rw [e] at this;exact ad this)) ?_
  exact la λ q hq=>h q (.tail _ hq)
theorem nE:∀ {l sl:List (Str×Value)},(∀ p∈l,sl.lookup p.1=none)->(l.map (λ x=>x.1)).Nodup->dfl l sl=sl++l
 | [],sl,_,_=>(List.append_nil sl).symm
 | p::r,sl,h,hn=>by
  show dfl r (if (sl.lookup p.1).isNone then sl++[(p.1,p.2)] else sl)=_
  refine rwE (if_pos (by rw [h p (.head _)];rfl)) ?_
  rw [List.map_cons,List.nodup_cons] at hn
  rw [nE (λ q hq=>?_) hn.2]
  ·simp
  ·rw [cb (h q (.tail _ hq)),List.lookup_cons]
   have:(q.1==p.1)=false:=beq_eq_false_iff_ne.mpr λ e=>hn.1 (e▸List.mem_map_of_mem (f:=(λ x=>x.1)) hq)
   rw [this];rfl
theorem cW {α β:Type}:∀ {j:Nat} {a:List α} {b:List β},a.zip b=(a.take j).zip (b.take j)++(a.drop j).zip (b.drop j)
 | 0,a,b=>by simp
 | j+1,[],b=>by simp
 | j+1,_::_,[]=>by simp
 | j+1,x::a,y::b=>by
  refine rwE List.take_succ_cons ?_;refine rwE List.take_succ_cons ?_;refine rwE List.drop_succ_cons ?_;rewrite [List.drop_succ_cons];refine rwE List.zip_cons_cons ?_;refine rwE List.zip_cons_cons ?_;refine rwE List.cons_append ?_;refine rwB cW ?_;rfl
theorem yw {p v d:Nat} (hv:v<=p) (hd:d<=p):d - (p - v)=v - (p - d):=by
 rw [Nat.sub_sub_right d hv,Nat.sub_sub_right v hd,Nat.add_comm]
theorem uI {p v d:Nat} (hm:p - v<=d):p - d<=v:=Nat.sub_le_iff_le_add.mpr (Nat.add_comm d v▸Nat.sub_le_iff_le_add.mp hm)
theorem uJ {p v d:Nat} (hm:p - v<=d):p - d+(v - (p - d))=v:=Nat.add_sub_cancel' (uI hm)
theorem tw {P:List Str} {vs D:List Value} (hP:P.Nodup) (hv:vs.length<=P.length) (hD:D.length<=P.length) (hm:P.length - vs.length<=D.length) :
 dfl ((P.drop (P.length - D.length)).zip D) (P.zip vs)=P.zip (vs++D.drop (D.length - (P.length - vs.length))):=by
 have e0:D.length - (P.length - vs.length)=vs.length - (P.length - D.length):=yw hv hD
 refine rwE (cW (j:=vs.length - (P.length - D.length)) (a:=P.drop (P.length - D.length)) (b:=D)) ?_
 refine rwE List.drop_drop ?_;refine rwE (uJ hm) ?_
 have hz:P.zip vs=(P.take vs.length).zip vs:=by
  refine rwE (cW (j:=vs.length) (a:=P) (b:=vs)) ?_
  simp
 rewrite [la,nE];refine rwE e0 ?_
 ·refine rwE (cW (j:=vs.length) (a:=P) (b:=vs++_)) ?_
  refine rwE (List.take_left' rfl) ?_;refine rwE (List.drop_left' rfl) ?_;refine rwB hz ?_;rfl
 ·intro p hp
  have hp1:p.1∈P.drop vs.length:=(List.of_mem_zip hp).1
  refine rwE hz ?_
  refine dw λ q=>?_
  have hn:=hP
  rw [← List.take_append_drop vs.length P,List.nodup_append] at hn
  exact hn.2.2 _ q _ hp1 rfl
 ·have:((P.drop vs.length).zip (D.drop (vs.length - (P.length - D.length)))).map (λ x=>x.1)=P.drop vs.length:=by
   rw [List.map_fst_zip]
   rw [List.length_drop,List.length_drop,← e0,Nat.sub_sub_self hm]
   exact Nat.le_refl _
  refine rwE this ?_
  exact hP.sublist (List.drop_sublist _ _)
 ·intro p hp
  have hp1:p.1∈(P.drop (P.length - D.length)).take (vs.length - (P.length - D.length)):=(List.of_mem_zip hp).1
  refine rwE hz ?_
  refine dy (by refine rwE List.length_take ?_;exact Nat.min_le_left _ _) ?_
  rw [← List.drop_take] at hp1
  have hp2:=List.mem_of_mem_drop hp1
  first | exact hp2 | rwa [uJ hm] at hp2
noncomputable def j6 (P:List Str) (vs:List Value) (o:Option (Array Value)):Sem (List (Str×Value)):=pure (P.zip (vs++(o.getD #[]).toList.drop ((o.getD #[]).toList.length - (P.length - vs.length))))
theorem qq {P:List Str} {vs D:List Value} (hP:P.Nodup) (hv:vs.length<=P.length) (hD:D.length<=P.length) (hm:P.length - vs.length<=D.length) :
 (P++[]).filterMap (λ n=>((dfl ((P.drop (P.length - (D.drop (D.length - P.length)).length)).zip (D.drop (D.length - P.length))) (P.zip vs)).lookup n).map λ x=>(n,x))=P.zip (vs++D.drop (D.length - (P.length - vs.length))):=by
 rw [List.append_nil,Nat.sub_eq_zero_of_le hD,List.drop_zero,tw hP hv hD hm]
 exact eE hP (by rw [List.length_append,List.length_drop,Nat.sub_sub_self hm,Nat.add_sub_cancel' hv])
theorem oM {P:List Str} {vs D:List Value} (hD:D.length<=P.length) (hm:P.length - vs.length<=D.length) :
 ((P.take (P.length - (D.drop (D.length - P.length)).length)).filter λ n=>((P.zip vs).lookup n).isNone)=[]:=by
 rw [Nat.sub_eq_zero_of_le hD,List.drop_zero,List.filter_eq_nil_iff]
 intro x hx hn
 have hx':x∈P.take vs.length:=by
  rw [← Nat.min_eq_left (uI hm),← List.take_take] at hx
  exact List.mem_of_mem_take hx
 have hz:P.zip vs=(P.take vs.length).zip vs:=by
  rw [cW (j:=vs.length) (a:=P) (b:=vs)]
  simp
 have:=dy (ns:=P.take vs.length) (vs:=vs) (by refine rwE (List.length_take ..) ?_;exact Nat.min_le_left _ _) hx'
 rw [← hz,Option.isNone_iff_eq_none.mp hn] at this
 exact ad this
theorem qr {fd:FuncData} {as:List Arg} {kd:List (Option PySem.Expr)} {df:List PySem.Expr} {vs:List Value} (hP:(as.map (λ x=>x.arg)).Nodup) (hv:vs.length<=as.length) :
 ∃ k:Option (Array Value)->Sem (List (Str×Value)),bindArgs { fd with params:=⟨[],as,none,[],kd,none,df⟩ } ⟨vs,[]⟩=seqItems? fd.defaults >>= k /\
  ∀ o:Option (Array Value),(o.getD #[]).toList.length<=as.length->as.length - vs.length<=(o.getD #[]).toList.length->k o=j6 (as.map (λ x=>x.arg)) vs o:=by
 have hl:(as.map (λ x=>x.arg)).length=as.length:=List.length_map _
 rw [← hl] at hv ⊢
 refine ⟨_,rfl,λ o h1 h2=>?_⟩
 refine (if_neg λ h=>Nat.not_lt.mpr hv (of_decide_eq_true (Bool.and_eq_true_iff.mp h).1)).trans ?_
 refine (if_neg λ h=>ad ((congrArg Bool.not (List.isEmpty_iff.mpr (oM h1 h2))).symm.trans h)).trans ?_
 refine (congrArg (λ x=>x >>= _) (oJ λ p sl=>?_)).trans ?_
 ·by_cases h:(sl.lookup p.1).isNone=true
  ·exact (if_pos h).trans (congrArg (λ x=>pure (ForInStep.yield x)) (if_pos h).symm)
  ·exact (if_neg h).trans (congrArg (λ x=>pure (ForInStep.yield x)) (if_neg h).symm)
 exact (pure_bind _ _).trans (Eq.trans (b:=pure _) (by exact rfl) (congrArg pure (qq hP hv h1 h2)))
theorem fq {fd:FuncData} {vs:List Value} (hp:mL fd.params=true) (hP:(fd.params.args.map (·.arg)).Nodup) (hv:vs.length<=fd.params.args.length) :
 ∃ k:Option (Array Value)->Sem (List (Str×Value)),bindArgs fd ⟨vs,[]⟩=seqItems? fd.defaults >>= k /\
  ∀ o:Option (Array Value),(o.getD #[]).toList.length<=fd.params.args.length->fd.params.args.length - vs.length<=(o.getD #[]).toList.length->k o=j6 (fd.params.args.map (·.arg)) vs o:=by
 have e:fd.params=⟨[],fd.params.args,none,[],fd.params.kw_defaults,none,fd.params.defaults⟩:=by
  generalize fd.params=p at hp
  obtain ⟨po,as,va,ko,kd,ka,df⟩:=p
  exact b4 hp λ h1 h2 h3 h4=>j0 (l:=po) h1 (jN (l:=va) h2 (j0 (l:=ko) h3 (jN (l:=ka) h4 rfl)))
 have:=qr (fd:=fd) (kd:=fd.params.kw_defaults) (df:=fd.params.defaults) hP hv
 rw [← e] at this
 exact this
theorem sy {α:Type} {x y:Str} {v:α} {l:List (Str×α)} (e:(x==y)=false):List.lookup x ((y,v)::l)=l.lookup x:=by
 refine rwE List.lookup_cons ?_;refine rwE e ?_;rfl
theorem uK {α:Type} {x y:Str} {v:α} {l:List (Str×α)} (e:(x==y)=true):List.lookup x ((y,v)::l)=some v:=by
 refine rwE List.lookup_cons ?_;refine rwE e ?_;rfl
theorem mV {P:List (Str×NameKind)->Nat->List (Str×Addr)->List (Str×Addr)->Prop} (h0:∀ n acc,P [] n acc acc) (h1:∀ x r n acc res,P r (n+1) ((x,n)::acc) res->P ((x,.cell)::r) n acc res) (h2:∀ x k r n acc res,k≠.cell->P r n acc res->P ((x,k)::r) n acc res) (names:List (Str×NameKind)):∀ n acc,P names n acc (cellsFrom n names acc):=by
 induction names with
 | nil=>exact h0
 | cons p r ih =>
  intro n acc
  obtain ⟨x,k⟩:=p
  by_cases q:k=.cell
  ·subst q
   exact h1 x r n acc _ (ih _ _)
  ·refine rwE (show cellsFrom n ((x,k)::r) acc=cellsFrom n r acc from if_neg λ e=>q (beq_iff_eq.mp e)) ?_
   exact h2 x k r n acc _ q (ih _ _)
theorem lb (n:Nat) (names:List (Str×NameKind)):((cellsFrom n names []).map (λ x=>x.2)).Nodup/\∀ p∈cellsFrom n names [],n<=p.2:=by
 have key:=mV (P:=λ names n (acc:List (Str×Addr)) (res:List (Str×Addr))=>(∀ p∈acc,p.2<n)->(acc.map (λ x:Str×Addr=>x.2)).Nodup->(res.map (λ x:Str×Addr=>x.2)).Nodup/\∀ p∈res,p∈acc\/n<=p.2) (λ n acc h hn=>⟨hn,λ p hp=>.inl hp⟩) (λ x r n acc res ih h hn=>by
  refine al (ih (λ p hp=>(List.mem_cons.mp hp).elim (λ e=>e▸Nat.lt_succ_self n) λ hp=>Nat.lt_succ_of_lt (h p hp)) (List.nodup_cons.mpr ⟨λ q=>?_,hn⟩)) λ h1 h2=>⟨h1,λ p hp=>?_⟩
  ·refine au (List.mem_map.mp q) ?_;intro p hp e
   exact Nat.ne_of_lt (h p hp) e
  ·exact (h2 p hp).elim (λ q=>(List.mem_cons.mp q).elim (λ e=>.inr (e▸Nat.le_refl n)) .inl) λ q=>.inr (Nat.le_of_succ_le q)) (λ x k r n acc res u' ih=>ih) names n []
 exact al (key (λ u' h=>nomatch h) List.nodup_nil) λ h1 h2=>⟨h1,λ p hp=>(h2 p hp).resolve_left λ h=>nomatch h⟩
theorem eF {cm:Str->Option Value} {cs:List (Str×Addr)} {cells:List (Addr×Obj)} (h:CellsAre cm cs cells):cells.map (λ x=>x.1)=cs.map (λ x=>x.2):=by
 induction h with
 | nil=>rfl
 | cons hd r ih=>exact congrArg (List.cons _) ih
theorem fb {cm:Str->Option Value} {x:Str} {a:Addr} {cs:List (Str×Addr)} {cells:List (Addr×Obj)} (q:CellsAre cm cs cells) (h:cs.lookup x=some a):∃ o,(a,o)∈cells/\o.data=.cell (cm x):=by
 induction q with
 | nil=>exact J h
 | @cons n c o cs cells hd r ih =>
  rw [List.lookup_cons] at h
  induction e:x==n using Bool.casesOn with
  | true =>
   rw [e] at h
   exact ⟨o,Option.some.inj h▸.head _,by refine rwE (beq_iff_eq.mp e) ?_;exact hd⟩
  | false =>
   rw [e] at h
   refine au (ih h) ?_;intro o' h1 h2
   exact ⟨o',.tail _ h1,h2⟩
noncomputable def iy (p:Addr×Obj):Bool:=match p.2.data with | .cell none=>true | _=>false
theorem l8 (cells:List (Addr×Obj)):cells.Perm (cells.filter iy++cells.filter λ p=>!iy p):=by
 classical
 induction cells with
 | nil=>exact .nil
 | cons p r ih =>
  induction e:iy p using Bool.casesOn with
  | true=>(refine rwE (List.filter_cons_of_pos e) ?_;refine rwE (List.filter_cons_of_neg (by refine rwE e ?_;decide)) ?_);exact .cons _ ih
  | false =>
   refine rwE (List.filter_cons_of_neg (by refine rwE e ?_;decide)) ?_;refine rwE (List.filter_cons_of_pos (by refine rwE e ?_;rfl)) ?_
   exact (List.Perm.cons _ ih).trans List.perm_middle.symm
theorem iX {x:Nat}:∀ {l:List (Nat×V)} {ρ:Rho},(l.map (λ x=>x.1)).Nodup->(l.foldl (λ ρ p=>upd p.1 p.2 ρ) ρ) x=match l.lookup x with | some v=>some v | none=>ρ x
 | [],_,_=>rfl
 | (n,v)::r,ρ,h=>by
  rw [List.map_cons,List.nodup_cons] at h
  refine rwE List.foldl_cons ?_;refine rwE (iX h.2) ?_;refine rwE List.lookup_cons ?_
  by_cases e:x=n
  ·subst e
   have:r.lookup x=none:=by
    rw [List.lookup_eq_none_iff]
    intro p hp
    rw [bne_iff_ne]
    intro q
    have q:x=p.1:=q
    exact h.1 (by show x∈_;refine rwE q ?_;exact List.mem_map_of_mem (f:=(λ x=>x.1)) hp)
   refine rwE this ?_
   simp [upd]
  ·refine rwE (beq_eq_false_iff_ne.mpr e) ?_
   induction hl:r.lookup x using Option.casesOn with
   | some w=>rfl
   | none=>simp [upd,e]
section
variable {kindOf:Str->Option NameKind} {y:Str} {v:Value} {l:List (Str×Value)}
theorem l9:∀ {m:Str->Option Value},y∉l.map (λ x=>x.1)->bindL kindOf l m y=m y:=by
 induction l with
 | nil=>exact λ u'=>rfl
 | cons p r ih =>
  intro m h
  refine (ih λ q=>h (.tail _ q)).trans ?_
  by_cases q:kindOf p.1=some .local
  ·refine rwE (if_pos q) ?_;exact if_neg λ e:y=p.1=>h (List.mem_cons.mpr (.inl e))
  ·refine rwE (if_neg q) ?_;rfl
theorem gW:∀ {m:Str->Option Value},y∉l.map (λ x=>x.1)->bindC kindOf l m y=m y:=by
 induction l with
 | nil=>exact λ u'=>rfl
 | cons p r ih =>
  intro m h
  refine (ih λ q=>h (.tail _ q)).trans ?_
  by_cases q:kindOf p.1=some .local
  ·refine rwE (if_pos q) ?_;rfl
  ·refine rwE (if_neg q) ?_;exact if_neg λ e:y=p.1=>h (List.mem_cons.mpr (.inl e))
theorem mc (hk:kindOf y=some .local):∀ {m:Str->Option Value},(l.map (λ x=>x.1)).Nodup->(y,v)∈l->bindL kindOf l m y=some v:=by
 induction l with
 | nil=>exact λ u' h=>nomatch h
 | cons p r ih =>
  intro m hn h
  have hn:=List.nodup_cons.mp hn
  rcases List.mem_cons.mp h with q | q
  ·subst q
   refine (l9 hn.1).trans ?_
   refine rwE (if_pos hk) ?_;exact if_pos rfl
  ·exact ih hn.2 q
theorem md (hk:kindOf y≠some .local):∀ {m:Str->Option Value},(l.map (λ x=>x.1)).Nodup->(y,v)∈l->bindC kindOf l m y=some v:=by
 induction l with
 | nil=>exact λ u' h=>nomatch h
 | cons p r ih =>
  intro m hn h
  have hn:=List.nodup_cons.mp hn
  rcases List.mem_cons.mp h with q | q
  ·subst q
   refine (gW hn.1).trans ?_
   refine rwE (if_neg hk) ?_;exact if_pos rfl
  ·exact ih hn.2 q
end
noncomputable abbrev Cx.call (c:Cx) (ex:List (Addr×Obj)) (env:Env) (g:Heap) (L:Addr) (Fz:List (Addr×Obj)):Cx:=⟨env,env,c.fenv::c.outer,g,c.base,L,ex,none,Fz⟩
theorem MtR.drop {P:Params} {H:Hp}:∀ (n:Nat) {σ:St} {Mt:List (Addr×Obj)},MtR P H σ Mt->∃ f r,Mt=f++r/\MtR P H (σ.drop n) r
 | 0,_,Mt,h=>⟨[],Mt,rfl,h⟩
 | _+1,[],Mt,h=>⟨[],Mt,rfl,h⟩
 | n+1,(a,m)::σ,Mt,⟨f,r,e,_,h3⟩=>by
  refine fX (MtR.drop n h3) ?_;intro f' r' e' h'
  exact ⟨f++f',r',by (refine rwE e ?_;refine rwE e' ?_;refine rwE (List.append_assoc ..) ?_;rfl),h'⟩
theorem iY {cells em fi led lo mt tb ce ex fz:List (Addr×Obj)} (h:led.Perm (lo++(mt++(tb++(ce++(ex++fz)))))) (hc:cells.Perm (em++fi)) :
 (cells++led).Perm ([]++(mt++(tb++(em++((lo++(ce++ex))++(fi++fz)))))):=by
 classical
 refine ar λ x=>?_
 have h1:=List.perm_iff_count.mp h x
 have h2:=List.perm_iff_count.mp hc x
 simp only [List.count_append,List.count_nil] at h1 h2 ⊢
 lia
theorem lc {led f r lo tb ce' ce ex fz:List (Addr×Obj)} (h:led.Perm ([]++((f++r)++(tb++(ce'++((lo++(ce++ex))++fz)))))) :
 led.Perm (lo++(r++(tb++(ce++(ex++((f++ce')++fz)))))):=by
 classical
 refine ar λ x=>?_
 have h1:=List.perm_iff_count.mp h x
 simp only [List.count_append,List.count_nil] at h1 ⊢
 lia
section
variable {c:Cx} {ρ ρ':Rho} {σ σ':St} {Fz Fz' Fk:List (Addr×Obj)} {A:Around} {h h' g:Heap} {m mf m' mf':Str->Option Value} {lo Mt Tb Ce led lo' Mt' Tb' Ce' led':List (Addr×Obj)} {env:Env} {L:Addr}
theorem COK.call (C:COK G c) (FG:Fr c.g c.L g mf) (BG:Below A c.base (c.fenv::c.outer) g) (st:c.g.StaysIn g) {ex:List (Addr×Obj)} (hf:env.frame=some L) (hk:env.scope.kind=.function) (eg:env.globals=mainGlobals) (eb:env.builtins=builtinsNs)
 (el:env.locals=L) (hc:(∃ x,env.scope.names.lookup x=some .cell)->(env.cells.map (λ x=>x.2)).Nodup) (fr:∀ x,env.scope.names.lookup x=some .cell\/env.scope.names.lookup x=some .free->(env.cells.lookup x).isSome=true):COK G (c.call ex env g L Fk) :=
 ⟨C.X.keeps st,C.T.keeps st,st _ _ C.x0,hf,hk,hf,hk,eg,eb,⟨A,BG⟩,λ u'=>el,λ h=>(by exact ad h),λ u'=>hc,λ u'=>rfl,fr⟩
theorem SRp.back (S:SRp G c ρ σ Fz h m mf lo Mt Tb Ce led) (sb:sub Fz Fz') (S':SRp G (c.call (lo++(Ce++c.Ex)) env g L Fk) ρ' σ' Fz' h' m' mf' lo' Mt' Tb' Ce' led') (n:Nat) (F:Fr c.g c.L h' mf) (N:News c.g c.L h' led') :
 ∃ Fz'' Mt'',sub Fz' Fz''/\SRp G c ρ (σ'.drop n) Fz'' h' m mf lo Mt'' Tb' Ce led':=by
 refine fX (S'.mt.drop n) ?_;intro f r z2 hr;obtain rfl:=z2
 have hl:m'=mf'/\lo'=[]:=S'.loc
 refine al hl ?_;clear hl;intro z0 z1;obtain rfl:=z0;obtain rfl:=z1
 have up:sub Fz' ((f++Ce')++Fz'):=sub.app sub.refl
 exact ⟨(f++Ce')++Fz',r,up,F,N,S'.nd,lc S'.pm,S.loc,hr.mono (Hf.mono up),S'.tbr.mono (Hf.mono up),S.er.mono (Hf.mono (sb.trans up)),S.ce,S.fk.trans (sb.trans up)⟩
theorem jz.back {a a0:_} {hr B:Heap} (S:SRp G c ρ σ Fz h m mf lo Mt Tb Ce led) (sb:sub Fz Fz') (FG:Fr c.g c.L g mf) (X':jz G (c.call (lo++(Ce++c.Ex)) env g L Fk) ρ' σ' Fz' a hr h' B m' mf' lo' Mt' Tb' Ce' led') {h'':Heap}
 (fl:Heap.FlyingW B (c.fenv::c.outer) a (.ref pfA) a0 h'') (up:hr.UpToSlots h''):∃ Fz'' Mt'',jz G c ρ σ' Fz'' a h'' h' B m mf lo Mt'' Tb' Ce led':=by
 have hl:m'=mf'/\lo'=[]:=X'.loc
 refine al hl ?_;clear hl;intro z0 z1;obtain rfl:=z0;obtain rfl:=z1
 have up':sub Fz' (([]++Ce')++Fz'):=sub.app sub.refl
 refine ⟨([]++Ce')++Fz',Mt',⟨FG.ns.keeps X'.F.keep,λ b o e=>X'.F.keep _ _ (FG.keep _ _ e),FG.above⟩,X'.up.trans up,X'.base,X'.hl,X'.nd,?_,S.loc,X'.mt.mono (Hf.mono up'),X'.tbr.mono (Hf.mono up'),S.er.mono (Hf.mono (sb.trans up')),S.ce,S.fk.trans (sb.trans up'),.fly fl⟩
 exact lc (f:=[]) X'.pm
end
theorem cr {x:Str} (names:List (Str×NameKind)) (n:Nat) (acc:List (Str×Addr)):(names.lookup x=some .cell\/(acc.lookup x).isSome=true)->(names.map (λ x=>x.1)).Nodup->((cellsFrom n names acc).lookup x).isSome=true:=by
 refine mV (P:=λ names n acc res=>(names.lookup x=some .cell\/(acc.lookup x).isSome=true)->(names.map (λ x=>x.1)).Nodup->(res.lookup x).isSome=true) (λ n acc h u'=>h.elim J λ h=>h) (λ y r n acc res ih h hn=>?_) (λ y k r n acc res hk ih h hn=>?_) names n acc
 ·have hn:=List.nodup_cons.mp hn
  induction e:x==y using Bool.casesOn with
  | true=>exact ih (.inr (by refine rwE (uK e) ?_;rfl)) hn.2
  | false =>
   rw [sy e] at h
   exact ih (h.imp (λ h=>h) λ h=>by refine rwE (sy e) ?_;exact h) hn.2
 ·have hn:=List.nodup_cons.mp hn
  refine ih (h.imp (λ h=>?_) λ h=>h) hn.2
  induction e:x==y using Bool.casesOn with
  | true=>exact absurd (Option.some.inj ((uK e).symm.trans h)) hk
  | false=>exact (sy e).symm.trans h
theorem yx (names:List (Str×NameKind)) (n:Nat) (acc:List (Str×Addr)):(names.map (λ x=>x.1)).Nodup->(acc.map (λ x=>x.1)).Nodup->(∀ x∈acc.map (λ x=>x.1),x∉names.map (λ x=>x.1))->((cellsFrom n names acc).map (λ x=>x.1)).Nodup:=by
 refine mV (P:=λ names n acc res=>(names.map (λ x=>x.1)).Nodup->(acc.map (λ x=>x.1)).Nodup->(∀ x∈acc.map (λ x=>x.1),x∉names.map (λ x=>x.1))->(res.map (λ x=>x.1)).Nodup) (λ n acc u' h u'=>h) (λ y r n acc res ih hn ha hd=>?_) (λ y k r n acc res hk ih hn ha hd=>?_) names n acc
 ·have hn:=List.nodup_cons.mp hn
  exact ih hn.2 (List.nodup_cons.mpr ⟨λ q=>hd _ q (.head _),ha⟩) λ x hx q=>(List.mem_cons.mp hx).elim (λ e=>hn.1 (e▸q)) λ hx=>hd _ hx (.tail _ q)
 ·exact ih (List.nodup_cons.mp hn).2 ha λ x hx q=>hd _ hx (.tail _ q)
inductive xU (G:Gl) (k:Nat) (fi:FnI):Prop
 | mk (oc:Value) (od:Option Addr) (osl:Array (Option Value)) (name qual:Str) (params:Arguments) (body:List Stmt) (scope:Scope) (dV kV doc pm:Value) (an:Option Addr) (cdv ct:Value)
  (h1:G.K.lookup (fa k)=some ⟨oc,od,.func (fnX name qual params body scope [] dV kV doc pm an cdv ct),osl⟩) (h2:codeIn G.K cdv qual=true) (h3:uo G.tabs G.tq fi qual params body scope cdv=true)
  (h4:(dV=.none/\fi.dflts=[])\/∃ T o items n,dV=.ref T/\G.K.lookup T=some o/\o.data=.seq items n/\∀ Fz,VRs G.w.params (Hf G.kx Fz) fi.dflts items.toList)
theorem VRs.app {P:Params} {H:Hp}:∀ {l l':List V} {xs xs':List Value},VRs P H l xs->VRs P H l' xs'->VRs P H (l++l') (xs++xs')
 | [],_,_,_,h,k=>by refine rwE (show _=[] from h) ?_;exact k
 | _::l,_,_,_,⟨x,ys,e,h1,h⟩,k=>by refine rwE e ?_;exact ⟨x,_,rfl,h1,VRs.app h k⟩
theorem nF {P:Params} {H:Hp} {x:Nat} {V:V} {ps:List Nat}:∀ {l:List Mine.Internal.V} {xs:List Value},VRs P H l xs->(ps.zip l).lookup x=some V->∃ v,(nm x,v)∈(ps.map nm).zip xs/\VR P H V v:=by
 induction ps with
 | nil=>exact λ u' h=>J h
 | cons p ps ih =>
  intro l xs hv hl
  induction l using List.casesOn with
  | nil=>exact J hl
  | cons w l =>
   obtain ⟨y,ys,rfl,h1,h⟩:=hv
   have hl:List.lookup x ((p,w)::ps.zip l)=some V:=hl
   rw [List.lookup_cons] at hl
   induction e:x==p using Bool.casesOn with
   | true =>
    rw [e] at hl;cases hl
    refine rwE (beq_iff_eq.mp e) ?_
    exact ⟨y,.head _,h1⟩
   | false =>
    rw [e] at hl
    refine au (ih h hl) ?_;intro v h2 h3
    exact ⟨v,.tail _ h2,h3⟩
theorem qt {x:Nat} {ps:List Nat}:∀ {l:List Mine.Internal.V} {xs:List Value},l.length=xs.length->(ps.zip l).lookup x=none->nm x∉((ps.map nm).zip xs).map (λ x=>x.1):=by
 induction ps with
 | nil=>intro l xs h h';exact List.not_mem_nil
 | cons p ps ih =>
  intro l xs hl h
  induction xs using List.casesOn with
  | nil=>exact List.not_mem_nil
  | cons y ys =>
   induction l using List.casesOn with
   | nil=>exact absurd hl (Nat.zero_ne_add_one _)
   | cons w l =>
    rw [List.zip_cons_cons,List.lookup_cons] at h
    rw [List.map_cons,List.zip_cons_cons,List.map_cons,List.mem_cons,not_or]
    induction e:x==p using Bool.casesOn with
    | true=>rw [e] at h;exact J h.symm
    | false =>
     rw [e] at h
     exact ⟨λ q=>absurd (bI q) (beq_eq_false_iff_ne.mp e),ih (Nat.succ.inj hl) h⟩
section
variable {n d:Nat}
theorem j7 {x:Nat} {v:V}:∀ {l:List (Nat×V)},l.lookup x=some v->(x,v)∈l
 | (y,w)::r,h=>by
  rw [List.lookup_cons] at h
  induction e:x==y using Bool.casesOn with
  | true=>rw [e] at h;cases h;rw [beq_iff_eq.mp e];exact .head _
  | false=>rw [e] at h;exact .tail _ (j7 h)
theorem lg {P:Params} {H:Hp} {fi:FnI} {ρ:Rho} {Vs:List V} {vs:List Value} {Ds:List Value} (hb:ck fi.params fi.dflts Vs=some ρ) (hp:fi.params.Nodup) (hv:VRs P H Vs vs) (hd:VRs P H fi.dflts Ds) (hl:fi.dflts.length<=fi.params.length) :
 ∃ W xs,xs=vs++Ds.drop (Ds.length - (fi.params.length - vs.length))/\VRs P H W xs/\fi.params.length=W.length/\vs.length<=fi.params.length/\fi.params.length - vs.length<=Ds.length/\∀ x,ρ x=(fi.params.zip W).lookup x:=by
 delta ck at hb
 dsimp only at hb
 by_cases hc:(Vs.length<=fi.params.length&&fi.params.length - Vs.length<=fi.dflts.length:Bool)=true
 ·rw [if_pos hc] at hb
  cases hb
  have hc:=d2 hc
  have e1:=hv.len
  have e2:=hd.len
  have hW:fi.params.length=(Vs++fi.dflts.drop (fi.dflts.length - (fi.params.length - Vs.length))).length:=by rw [List.length_append,List.length_drop,Nat.sub_sub_self hc.2,Nat.add_sub_cancel' hc.1]
  refine ⟨_,_,rfl,VRs.app hv (by rw [e1,e2];exact VRs.drop _ hd),hW,by rw [e1];exact hc.1,by rw [e1,e2];exact hc.2,λ x=>?_⟩
  rw [iX (by rw [List.map_fst_zip (Nat.le_of_eq hW)];exact hp)]
  cases (fi.params.zip (Vs++fi.dflts.drop (fi.dflts.length - (fi.params.length - Vs.length)))).lookup x<;>rfl
 ·rw [if_neg hc] at hb;exact J hb
theorem iZ (HF:∀ k fi,tb.fns k=some fi->k<79->xU G k fi) {call:ah} (HS:∀ sts,SSs G call n sts) {c:Cx} {A:Around} {ρ:Rho} {σ:St} {Fz:List (Addr×Obj)} {s:Shared} {k:Nat} {fi:FnI} {Vs:List V} {vs:List Value} {ρ₀:Rho} {back:V->St->Prop} {Q:PV} {X:PX} {R:Result->Shared->Prop}
 (C:COK G c) (hA:A.frames=some (c.fenv::c.outer)) (hh:A.handled=none) (hdp:A.depth+1+2*n<=900) (hun:A.units+3+20*n<=9000) (S:SR G c ρ σ Fz s) (hf:tb.fns k=some fi) (hk80:k<79) (hv:VRs G.w.params (Hf G.kx Fz) Vs vs)
 (hb:ck fi.params fi.dflts Vs=some ρ₀) (hback:∀ v σ',back v σ'->∃ j,Q v (σ'.drop j)) (HR:∀ v s',PV' G c ρ Fz Q v s'->R (.ok (.ret v)) s') (HX:∀ e s',PX' G c ρ X e s'->R (.error e) s')
 (e:execs tb call fi.body ρ₀ σ (λ u' σ'=>back .none σ') back X):codeAny (model G.prog G.w) A (.call (.ref (fa k)) ⟨vs,[]⟩) R s:=by
 obtain ⟨hgens,m,mf,lo,Mt,Tb,Ce,led,S⟩:=S
 obtain ⟨oc,od,osl,name,qual,params,body,scope,dV,kV,doc,pm,an,cdv,ct,hK,hcode,hchk,hdf⟩:=HF k fi hf hk80
 refine b6 hchk λ hchk hts hsn hpar hfree hdl=>b7 hchk λ hpos hnames hnd hkind hgen hco hchk=>?_
 have hnames:=of_decide_eq_true hnames
 have hnd:=of_decide_eq_true hnd
 have hsn:=of_decide_eq_true hsn
 have hdl:=of_decide_eq_true hdl
 have hgen:=nf hgen
 have hco:=nf hco
 have hts:=nf hts
 have hkind:scope.kind=.function:=beq_iff_eq.mp hkind
 have Kin:=S.kin C
 obtain ⟨A₀,B⟩:=C.B
 have hpl:params.args.length=fi.params.length:=by have:=congrArg List.length hnames;simpa using this
 have hnm:(fi.params.map nm).Nodup:=List.pairwise_map.mpr (hnd.imp λ h e=>h (bI e))
 obtain ⟨Ds,hDs,hbind⟩:∃ Ds:List Value,VRs G.w.params (Hf G.kx Fz) fi.dflts Ds/\(vs.length<=params.args.length->Ds.length<=params.args.length->params.args.length - vs.length<=Ds.length ->
  BindsTo s (fnX name qual params body scope [] dV kV doc pm an cdv ct) ⟨vs,[]⟩ ((params.args.map (λ x=>x.arg)).zip (vs++Ds.drop (Ds.length - (params.args.length - vs.length))))):=by
  rcases hdf with ⟨rfl,h0⟩ | ⟨T,o,items,nn,rfl,hT,hod,hit⟩
  ·refine ⟨[],by rw [h0];rfl,λ l1 l2 l3=>?_⟩
   obtain ⟨kk,hk1,hk2⟩:=fq (fd:=fnX name qual params body scope [] .none kV doc pm an cdv ct) (vs:=vs) hpos (by rw [hnames];exact hnm) l1
   refine BindsTo.of_eq (hk1.trans ?_)
   have:=hk2 none (by simp) (by simpa using l3)
   refine Eq.trans (?_:_=kk none) (this.trans ?_)
   ·rfl
   ·delta j6
    rw [List.length_map]
    rfl
  ·refine ⟨items.toList,hit Fz,λ l1 l2 l3=>?_⟩
   obtain ⟨kk,hk1,hk2⟩:=fq (fd:=fnX name qual params body scope [] (.ref T) kV doc pm an cdv ct) (vs:=vs) hpos (by rw [hnames];exact hnm) l1
   refine BindsTo.of_defaults rfl (Kin _ _ hT) hod hk1 ?_
   rw [hk2 (some items) l2 l3]
   delta j6
   rw [List.length_map]
   rfl
 obtain ⟨W,xs,hxs,hWx,hWl,l1,l2,hρ⟩:=lg hb hnd hv hDs hdl
 have hbind:=hbind (by lia) (by have:=hDs.len;lia) (by lia)
 rw [hnames,hpl,← hxs] at hbind
 have hbn:(((fi.params.map nm).zip xs).map (λ x=>x.1))=fi.params.map nm:=by rw [List.map_fst_zip];rw [List.length_map,hWl,hWx.len];exact Nat.le_refl _
 have hkp:∀ x∈fi.params,scope.names.lookup (nm x)=some .local\/scope.names.lookup (nm x)=some .cell:=λ x hx=>by
  have:=List.all_eq_true.mp hpar x hx
  rw [Bool.or_eq_true] at this
  exact this.imp beq_iff_eq.mp beq_iff_eq.mp
 refine callX_cells B S.F S.N C.T.nolimit hA C.hf C.hke (Kin _ _ hK) rfl (codeRec_of Kin hcode) (by show A.depth<1000;lia) hbind (λ j x hx=>?_) (yx _ _ _ hsn List.nodup_nil (λ u' h=>by cases h)) (λ g L' h₁ tk cells FG F N YC BG st lt=>?_) hco hgen hkind
 ·have:x.1∈fi.params.map nm:=by rw [← hbn];exact List.mem_map_of_mem hx
  obtain ⟨y,hy,e⟩:=List.mem_map.mp this
  rw [← e]
  rcases hkp y hy with q | q
  ·exact .inl q
  ·exact .inr ⟨q,cr _ _ _ (.inl q) hsn⟩
 obtain ⟨cn1,cn2⟩:=lb (L'+1) scope.names
 have C':COK G (c.call (lo++(Ce++c.Ex)) (envOfC qual scope L' (fa k) cdv) g L' ((cells.filter λ p=>!iy p)++Fz)):=C.call FG BG st rfl hkind rfl rfl rfl (λ u'=>cn1) λ x hx=>by
  rcases hx with hx | hx
  ·exact cr _ _ _ (.inl hx) hsn
  ·have:=List.all_eq_true.mp hfree _ (aq hx)
   simp at this
 have up:sub Fz ((cells.filter λ p=>!iy p)++Fz):=sub.app sub.refl
 have kd:∀ x,(envOfC qual scope L' (fa k) cdv).kindOf x=scope.names.lookup x:=λ x=>rfl
 have S':SRp G (c.call (lo++(Ce++c.Ex)) (envOfC qual scope L' (fa k) cdv) g L' ((cells.filter λ p=>!iy p)++Fz)) ρ₀ σ ((cells.filter λ p=>!iy p)++Fz) h₁ (bindL (envOfC qual scope L' (fa k) cdv).kindOf ((fi.params.map nm).zip xs) λ u'=>none) (bindL (envOfC qual scope L' (fa k) cdv).kindOf ((fi.params.map nm).zip xs) λ u'=>none) [] Mt Tb (cells.filter iy) (cells++led):=by
  refine ⟨F,N,?_,iY S.pm (l8 cells),⟨rfl,rfl⟩,S.mt.mono (Hf.mono up),S.tbr.mono (Hf.mono up),?_,⟨(by intro h;exact ad h),λ u' x hx hkx=>?_⟩,sub.refl⟩
  ·rw [List.map_append,List.nodup_append]
   refine ⟨by rw [eF YC];exact cn1,S.nd,λ a ha b hb q=>?_⟩
   subst q
   rw [eF YC] at ha
   obtain ⟨p,hp,e1⟩:=List.mem_map.mp ha
   obtain ⟨q,hq,e2⟩:=List.mem_map.mp hb
   have h1:=cn2 p hp
   have h2:=lt q hq
   rw [← e1] at e2
   exact absurd (e2▸h2) (Nat.not_lt.mpr (Nat.le_of_succ_le h1))
  ·intro x V hx
   rw [hρ x] at hx
   obtain ⟨v,hm,hv'⟩:=nF hWx hx
   have hxp:x∈fi.params:=(List.of_mem_zip (j7 hx)).1
   rw [kd]
   rcases hkp x hxp with q | q
   ·rw [q]
    exact ⟨v,mc q (by rw [hbn];exact hnm) hm,hv'.mono (Hf.mono up)⟩
   ·rw [q]
    have hc:=cr scope.names (L'+1) [] (.inl q) hsn
    obtain ⟨a,ha⟩:=Option.isSome_iff_exists.mp hc
    obtain ⟨o,ho,hod⟩:=fb YC ha
    rw [md (by rw [kd,q];decide) (by rw [hbn];exact hnm) hm] at hod
    refine ⟨a,o,v,ha,.inr (List.mem_append_left _ (List.mem_filter.mpr ⟨ho,?_⟩)),hod,hv'.mono (Hf.mono up)⟩
    delta iy
    rw [hod]
    rfl
  ·rw [kd] at hkx
   have hc:=cr scope.names (L'+1) [] (.inl hkx) hsn
   obtain ⟨a,ha⟩:=Option.isSome_iff_exists.mp hc
   obtain ⟨o,ho,hod⟩:=fb YC ha
   rw [hρ x] at hx
   rw [gW (qt hWx.len.symm hx)] at hod
   refine ⟨a,o,ha,List.mem_filter.mpr ⟨ho,?_⟩,hod⟩
   delta iy
   rw [hod]
 have HA':AOK (c.call (lo++(Ce++c.Ex)) (envOfC qual scope L' (fa k) cdv) g L' ((cells.filter λ p=>!iy p)++Fz)) (A.deeper (envOfC qual scope L' (fa k) cdv)) n :=
  ⟨Around.frames_deeper hA,hh,by show A.depth+1+_<=_;lia,by show A.units+3+_<=_;lia⟩
 refine wpAny_mono (HS fi.body body _ _ ρ₀ σ _ _ (λ u' σ'=>back .none σ') back X (λ e s'=>wpAny (model G.prog G.w) (A.deeper (envOfC qual scope L' (fa k) cdv)) (leaving (envOfC qual scope L' (fa k) cdv) e) (λ u' s''=>R (.error e) s'') (λ e' s''=>R (.error e') s'') s') C' HA' rfl (λ h=>by rw [hts] at h;exact ad h) ⟨hgens,_,_,_,_,_,_,_,S'⟩ ?_ hchk e) ?_ λ u' u' y=>y
 ·rintro ρ₁ e₁ s₁ ⟨a,σ₁,Fz₁,rfl,⟨g1,h₂,Bh,m1,mf1,lo1,Mt1,Tb1,Ce1,led1,X'⟩,hx⟩
  refine iW HA'.fr rfl X'.fl λ h'' a0 fl up2=>?_
  obtain ⟨Fz₂,Mt₂,X₂⟩:=jz.back S (up.trans X'.fk) FG X' fl up2
  exact HX _ _ ⟨a,σ₁,Fz₂,rfl,⟨g1,_,_,_,_,_,_,_,_,_,X₂⟩,hx⟩
 ·have fin:∀ (v:Value) (V:V) (s₁:Shared) (ρ₁:Rho) (σ₁:St) (Fz₁:List (Addr×Obj)),sub ((cells.filter λ p=>!iy p)++Fz) Fz₁->VR G.w.params (Hf G.kx Fz₁) V v->SR G (c.call (lo++(Ce++c.Ex)) (envOfC qual scope L' (fa k) cdv) g L' ((cells.filter λ p=>!iy p)++Fz)) ρ₁ σ₁ Fz₁ s₁->back V σ₁ ->
   LeaveK c.g c.L mf g R v s₁:=by
   intro v V s₁ ρ₁ σ₁ Fz₁ sb hV ⟨g1,m1,mf1,lo1,Mt1,Tb1,Ce1,led1,S₁⟩ hq
   refine leaveK_ S₁.F S₁.N λ F₂ N₂=>?_
   obtain ⟨j,hj⟩:=hback _ _ hq
   obtain ⟨Fz₂,Mt₂,sb₂,S₂⟩:=SRp.back S (up.trans sb) S₁ j F₂ N₂
   exact HR _ _ ⟨V,_,Fz₂,(up.trans sb).trans sb₂,hV.mono (Hf.mono sb₂),⟨g1,_,_,_,_,_,_,_,S₂⟩,hj⟩
  intro f s₁ hf'
  induction f using PySem.Flow.casesOn with
  | next =>
   obtain ⟨ρ₁,σ₁,Fz₁,sb,S₁,q⟩:=hf'
   exact fin .none .none s₁ ρ₁ σ₁ Fz₁ sb rfl S₁ q
  | ret v =>
   obtain ⟨ρ₁,V,σ₁,Fz₁,sb,hV,S₁,q⟩:=hf'
   exact fin v V s₁ ρ₁ σ₁ Fz₁ sb hV S₁ q
  | brk=>exact hf'.elim
  | cont=>exact hf'.elim
end
theorem iz {pos:Pos} {cv x:Value} {a b:Int} {t u:Tok} (n:Nat):∀ {l:List Value},l.length<=n->TriplesOk l->codeAmong pos (l++[.int a t,.int b u,x])=some cv->codeAmong pos l=some cv\/cv=x:=by
 induction n with
 | zero =>
  intro l hl ht h
  rw [List.length_eq_zero_iff.mp (Nat.le_zero.mp hl)] at h
  obtain ⟨_,h⟩:=Option.ite_none_right_eq_some.mp h
  exact .inr (Option.some.inj h).symm
 | succ n ih =>
  intro l hl ht h
  induction l using List.casesOn with
  | nil =>
   obtain ⟨_,h⟩:=Option.ite_none_right_eq_some.mp h
   exact .inr (Option.some.inj h).symm
  | cons v l =>
   induction v using Value.casesOn with
   | int a' t' =>
    induction l using List.casesOn with
    | nil=>exact ht.elim
    | cons w l =>
     induction w using Value.casesOn with
     | int b' u' =>
      induction l using List.casesOn with
      | nil=>exact ht.elim
      | cons z r =>
       have h:(if (a'==pos.line&&b'==pos.col)=true then some z else codeAmong pos (r++[.int a t,.int b u,x]))=some cv:=h
       show (if (a'==pos.line&&b'==pos.col)=true then some z else codeAmong pos r)=some cv\/cv=x
       by_cases hc:(a'==pos.line&&b'==pos.col)=true
       ·rw [if_pos hc] at h ⊢;exact .inl h
       ·rw [if_neg hc] at h ⊢;exact ih (Nat.le_trans (Nat.le_add_right _ 2) (Nat.le_of_succ_le_succ hl)) ht h
     | _=>exact ht.elim
   | _=>exact ht.elim
section
variable {c:Cx} {ρ:Rho} {σ:St} {Fz:List (Addr×Obj)} {A:Around} {E:Value->Shared->Prop} {s:Shared} {h h':Heap} {m mf:Str->Option Value} {lo Mt Tb Ce led:List (Addr×Obj)}
theorem qu {led a b pre post r f:List (Addr×Obj)} {x:Addr×Obj} (h:led.Perm (a++(b++((pre++x::post)++r)))):led.Perm (x::(a++(b++((pre++post)++r)))):=by
 classical
 refine ar λ x=>?_
 have h1:=List.perm_iff_count.mp h x
 simp only [List.count_append,List.count_cons] at h1 ⊢
 lia
theorem oN {a b pre post ce ex fz:List (Addr×Obj)} {x y:Addr×Obj}:(y::x::(a++(b++((pre++post)++(ce++(ex++fz)))))).Perm (a++(b++((pre++x::post)++(ce++(ex++(y::fz)))))):=by
 classical
 refine ar λ x=>?_
 simp only [List.count_append,List.count_cons]
 lia
theorem SRp.tab (S:SRp G c ρ σ Fz h m mf lo Mt Tb Ce led) {P c':Addr} {oc:Obj} {ps:Array Value} {vs:Array Value} {t:Tok} {pos:Pos} (hm:(P,tabObj ps)∈Tb) (ht:jV G (Hf G.kx Fz) P (tabObj ps)) (hx:Heap.ExtBut P h h') (hge:h.objs.size<=c') (hoc:h'.get? c'=some oc)
 (hd:oc.data=.fields vs) (hv:vs[1]?=some (.str (G.tq P) t)) (hP:h'.get? P=some (tabObj (ps++#[rawInt pos.line,rawInt pos.col,.ref c']))) :
 ∃ Tb' led',SRp G c ρ σ ((c',oc)::Fz) h' m mf lo Mt Tb' Ce led':=by
 refine pI (List.append_of_mem hm) ?_;intro pre post z2;obtain rfl:=z2
 have pm:=qu (f:=[]) S.pm
 have nd:=(pm.map (λ x=>x.1)).nodup_iff.mp S.nd
 rw [List.map_cons,List.nodup_cons] at nd
 have DP:=S.N _ (pm.mem_iff.mpr (.head _))
 have ne:∀ q∈lo++(Mt++((pre++post)++(Ce++(c.Ex++Fz)))),q.1≠P:=λ q hq e=>nd.1 (by show P∈_;refine rwB e ?_;exact List.mem_map_of_mem hq)
 have old:∀ b o,c.g.get? b=some o->h'.get? b=some o:=λ b o e=>hx b o (λ q=>by rw [q,DP.2.2] at e;exact J e) (S.F.keep b o e)
 have cn:h.get? c'=none:=aM _ hge
 have k:∀ a' b,Hf G.kx Fz a' b->Hf G.kx ((c',oc)::Fz) a' b:=Hf.mono λ u' h=>.tail _ h
 refine cu ht ?_;clear ht;intro ps' e t1 t2
 have e:ps=ps':=by
  have:=congrArg Obj.data e
  cases this
  rfl
 subst e
 refine ⟨_,_,⟨S.F.ns.extBut hx DP.2.1.symm,old,S.F.above⟩,λ q hq=>?_,?_,oN (pre:=pre) (post:=post) (x:=(P,tabObj (ps++#[rawInt pos.line,rawInt pos.col,.ref c']))),S.loc,S.mt.mono k,⟨?_,λ q hq=>?_⟩,S.er.mono k,S.ce,S.fk.cons⟩
 ·rcases List.mem_cons.mp hq with rfl | hq
  ·refine ⟨hoc,λ q=>?_,?_⟩
   ·have:=S.F.ns.lt
    rw [← show c'=c.L from q] at this;exact absurd this (Nat.not_lt.mpr hge)
   ·induction q:c.g.get? c' using Option.casesOn with
    | none=>rfl
    | some o=>have:=S.F.keep _ _ q;rw [cn] at this;exact J this
  ·rcases List.mem_cons.mp hq with rfl | hq
   ·exact ⟨hP,DP.2⟩
   ·have n:=S.N q (pm.mem_iff.mpr (.tail _ hq))
    exact ⟨hx _ _ (ne q hq) n.1,n.2⟩
 ·refine rwE List.map_cons ?_;rewrite [List.nodup_cons];refine rwE List.map_cons ?_;rewrite [List.nodup_cons]
  refine ⟨λ q=>?_,nd⟩
  have:c'∈((P,tabObj ps)::(lo++(Mt++((pre++post)++(Ce++(c.Ex++Fz)))))).map (λ x=>x.1):=q
  refine au (List.mem_map.mp this) ?_;intro p hp e
  have:=(S.N p (pm.mem_iff.mpr hp)).1
  rw [e,cn] at this;exact J this
 ·have:=S.tbr.1
  refine rwB this ?_
  simp
 ·rcases List.mem_append.mp hq with hq | hq
  ·exact (S.tbr.2 q (List.mem_append_left _ hq)).mono k
  ·rcases List.mem_cons.mp hq with rfl | hq
   ·refine ⟨_,rfl,by refine rwE Array.toList_append ?_;exact TriplesOk_snoc _ _ _ _ t1,λ pos' cv h=>?_⟩
    rw [Array.toList_append] at h
    rcases iz _ (Nat.le_refl _) t1 h with h | rfl
    ·refine yY (t2 pos' cv h) ?_;intro c₁ oc₁ vs₁ t₁ a1 a2 a3
     exact ⟨c₁,oc₁,vs₁,t₁,a1,k _ _ a2,a3⟩
    ·exact ⟨c',oc,vs,t,rfl,.inr (.head _),hd,hv⟩
   ·exact (S.tbr.2 q (List.mem_append_right _ (.tail _ hq))).mono k
theorem vX {P:Params} {H:Hp} {env:Env} {scope:Scope} (nd:(scope.names.map (λ x=>x.1)).Nodup) (er:ER P H env m ρ) (hs:∀ p∈scope.names,p.2=.free->env.scope.names.lookup p.1=some .cell) {cap:List Nat}:∀ {capV:List (Nat×V)},fg ρ cap=some capV->(∀ x∈cap,scope.names.lookup (nm x)=some .free) ->
 capV.map (λ x=>x.1)=cap/\VRc P H capV (bJ env scope.names []):=by
 induction cap with
 | nil =>
  intro capV h u'
  cases h;exact ⟨rfl,trivial⟩
 | cons x r ih =>
  intro capV h hc
  have h':(match ρ x,fg ρ r with | some v,some l=>some ((x,v)::l) | _,_=>none)=some capV:=h
  induction e1:ρ x using Option.casesOn with
  | none=>rw [e1] at h';exact J h'
  | some V =>
   induction e2:fg ρ r using Option.casesOn with
   | none=>rw [e1,e2] at h';exact J h'
   | some l =>
    rw [e1,e2] at h'
    cases h'
    refine al (ih e2 λ y hy=>hc y (.tail _ hy)) ?_;intro i1 i2
    refine ⟨by (refine rwE List.map_cons ?_;refine rwE i1 ?_;rfl),?_,i2⟩
    have hm:=aq (hc x (.head _))
    have:=er x V e1
    rw [show env.kindOf (nm x)=some .cell from hs _ hm rfl] at this
    refine eT this ?_;clear this;intro a o v h1 h2 h3 h4
    exact ⟨a,o,v,(dl hm nd (λ p hp=>by cases hp)).trans h1,h2,h3,h4⟩
theorem rJ (KL:∀ p∈G.tabs,codeHdIn G.K p.1 p.2=true/\20<=(G.tq p.2).cps.size/\(G.tq p.2).cps.size<=35):j4 G:=by
 intro c A ρ σ Fz s k cap capV args body scope pos Q E C S h hcap q
 have h':(b9 G c.env k cap args body scope&&decide (pos.line<2 ^ 60)&&decide (pos.col<2 ^ 60)&&scope.names.all (λ p=>p.2 != .free||c.env.scope.names.lookup p.1==some .cell))=true:=h
 refine b4 h' λ h1 _ _ hfree=>b2 h1 λ hl ht=>?_
 clear h' h1
 refine au (List.any_eq_true.mp ht) ?_;intro z0 hmem ht;obtain ⟨c₀,P⟩:=z0
 refine b2 ht λ ht1 ht2=>?_
 have hcode:c.env.code=.ref c₀:=ru ht1 λ a h=>congrArg Value.ref (beq_iff_eq.mp h)
 have hq:c.env.qual++("<lambda>" : Str)=G.tq P:=beq_iff_eq.mp ht2
 have hl0:=hl
 refine iO hl λ ps e as _ harg hl=>b2 hl λ hl _=>b2 hl λ hl _=>b2 hl λ hl hcp=>b8 hl λ _ _ _ _ _ _ _ hnd=>?_
 replace hnd:=of_decide_eq_true hnd
 subst harg
 have hfree':∀ p∈scope.names,p.2=.free->c.env.scope.names.lookup p.1=some .cell:=λ p hp e=>by
  have:=List.all_eq_true.mp hfree p hp
  rw [e] at this
  simpa using this
 have hcl:=eC (scope:=scope) (env:=c.env) λ p hp e=>C.fr _ (.inl (hfree' p hp e))
 have hcp':∀ x∈cap,scope.names.lookup (nm x)=some .free:=λ x hx=>by
  have:=List.all_eq_true.mp hcp x hx
  have this:=an2 this
  exact beq_iff_eq.mp this.1
 obtain ⟨hg0,m,mf,lo,Mt,Tb,Ce,led,S⟩:=S
 obtain ⟨⟨P',oP⟩,hPm,hP⟩:∃ p∈Tb,p.1=P:=by
  have:P∈Tb.map (λ x=>x.1):=by refine rwE S.tbr.1 ?_;exact List.mem_map_of_mem (f:=(λ x=>x.2)) hmem
  refine au (List.mem_map.mp this) ?_;intro p hp e
  exact ⟨p,hp,e⟩
 obtain rfl:P'=P:=hP
 have tk:=S.tbr.2 _ hPm
 have tk0:=tk
 refine cu tk ?_;clear tk;intro ps e t1 t2
 subst e
 have DP:=S.N _ (S.pm.mem_iff.mpr (List.mem_append_right _ (List.mem_append_right _ (List.mem_append_left _ hPm))))
 have CH:=(codeHd_of_K C.X (KL _ hmem).1).keeps S.F.keep
 have hgs:=C.T.g.keeps S.F.keep
 refine yX (C.T.bmain) ?_;intro bm ob b1 b2 b3 b4 b5 b6
 have hgP:mainGlobals≠P':=λ q=>by
  refine pJ hgs ?_;clear hgs;intro o es ep e hd z5
  rw [q,DP.1] at e;cases e;cases hd
 have hbP:bm≠P':=λ q=>by
  have e:=S.F.keep _ _ b3
  rw [q,DP.1] at e;cases e;(first | exact J b4 | exact ad b4 | exact False.elim b4 | cases b4)
 have hbG:bm≠mainGlobals:=λ q=>by
  refine pJ (C.T.g) ?_;intro o es ep e hd z5
  rw [q,e] at b3;cases b3;rw [hd] at b6;cases b6
 have fin:∀ {Fz':List (Addr×Obj)} {f:Addr} {ctv:Value} {c':Addr} {oc:Obj} {vs:Array Value} {t:Tok} {pm:Value} {h₁:Heap} {tk:Tok} {Tb' led':List (Addr×Obj)},sub Fz Fz'->SRp G c ρ σ Fz' h₁ m mf lo Mt Tb' Ce led'->Hf G.kx Fz' c' oc->oc.data=.fields vs->vs[1]?=some (.str (G.tq P') t) ->
  PV' G c ρ Fz Q (.ref h₁.objs.size) { s with heap:=h₁.push (kla_obj "<lambda>" (c.env.qual ++ "<lambda>") { posonlyargs:=[],args:=as,vararg:=none,kwonlyargs:=[],kw_defaults:=[],kwarg:=none,defaults:=[] } body scope (bJ c.env scope.names []) pm c' ctv),toks:=tk }:=by
  intro Fz' f ctv c' oc vs t pm h₁ tk Tb' led' sb S' hc' hd hv
  refine al (vX hnd S'.er hfree' hcap hcp') ?_;intro i1 i2
  have up:sub Fz' ((h₁.objs.size,kla_obj "<lambda>" (c.env.qual ++ "<lambda>") { posonlyargs:=[],args:=as,vararg:=none,kwonlyargs:=[],kw_defaults:=[],kwarg:=none,defaults:=[] } body scope (bJ c.env scope.names []) pm c' ctv)::Fz'):=sub.cons sub.refl
  refine ⟨.clo k capV,σ,_,sb.trans up,⟨_,_,_,rfl,.inr (.head _),⟨_,_,_,_,_,_,_,_,oc,vs,t,rfl,by refine rwE i1 ?_;exact hl0,Hf.mono up _ _ hc',hd,by refine rwE hq ?_;exact hv,by refine rwE hq ?_;exact (KL _ hmem).2.1⟩,VRc.mono (Hf.mono up) i2⟩,⟨hg0,_,_,_,_,_,_,_,S'.frz rfl⟩,q⟩
 refine kla_eval rfl ?_
 induction hca:codeAmong pos ps.toList using Option.casesOn with
 | none =>
  refine kla_makeFunction (mg:=G.mg) hcl C.eg hgs hcode CH DP.1 t1 hca hgP ⟨bm,ob,b1,b2,hbG,hbP,S.F.keep _ _ b3,b4,b5,b6⟩ λ c' ctv h' tk hx hge hlt hrec htb=>?_
  refine xr hrec ?_;clear hrec;intro c₂ oc vs t e2 hoc hd hv
  cases e2
  rw [hq] at hv
  refine pI (S.tab hPm tk0 hx hge hoc hd hv htb) ?_;intro Tb' led' S'
  exact fin (f:=0) (sub.cons sub.refl) S' (.inr (.head _)) hd hv
 | some cv =>
  refine xr (t2 pos cv hca) ?_;intro c' oc vs t z4 hc' hd hv;obtain rfl:=z4
  refine kla_makeFunctionHit (mg:=G.mg) hcl C.eg hgs hcode CH DP.1 t1 hca ⟨bm,ob,b1,b2,hbG,hbP,S.F.keep _ _ b3,b4,b5,b6⟩ λ ctv h' tk hk hsz=>?_
  exact fin (f:=0) sub.refl (S.grow hk) hc' hd hv
end
noncomputable def j8 (G:Gl):Prop:=∀ p∈G.tabs,codeHdIn G.K p.1 p.2=true/\20<=(G.tq p.2).cps.size/\(G.tq p.2).cps.size<=35
theorem tx (a b:Str):(a++b).cps=a.cps++b.cps:=rfl
theorem oO (KL:j8 G) {qual:Str} (h:20<=qual.cps.size) {cd:Value}:rv G.tabs G.tq cd (qual ++ ".<locals>.")=λ u' u' u' u' u'=>false:=by
 funext k cap args body scope
 delta rv
 rw [Bool.and_eq_false_iff]
 right
 rw [List.any_eq_false]
 intro p hp e
 have e:=an2 e
 have e1:=congrArg (λ s:Str=>s.cps.size) (beq_iff_eq.mp e.2)
 have e2:=(KL p hp).2.2
 simp only [tx,Array.size_append] at e1
 have e3:(Str.ofString "<lambda>").cps.size=8:=by decide +kernel
 have e4:(Str.ofString ".<locals>.").cps.size=10:=by decide +kernel
 rw [e3,e4] at e1
 lia
theorem bz {P:List Str} {xs:List Value} {x:Str} {v:Value} (hP:P.Nodup) (hm:(x,v)∈P.zip xs):(P.zip xs).reverse.lookup x=some v:=by
 have nd:((P.zip xs).map (λ x=>x.1)).Nodup:=hP.sublist (by
  clear hm hP
  induction P generalizing xs with
  | nil=>simp
  | cons p r ih =>
   induction xs using List.casesOn with
   | nil=>simp
   | cons y ys=>(refine rwE List.zip_cons_cons ?_;refine rwE List.map_cons ?_);exact .cons_cons _ ih)
 have nd':((P.zip xs).reverse.map (λ x=>x.1)).Nodup:=by refine rwE List.map_reverse ?_;exact List.pairwise_reverse.mpr (nd.imp λ h=>h.symm)
 have:∀ {l:List (Str×Value)},(l.map (λ x=>x.1)).Nodup->(x,v)∈l->l.lookup x=some v:=by
  intro l
  induction l with
  | nil=>intro _ h;cases h
  | cons p r ih =>
   intro hn h
   rw [List.map_cons,List.nodup_cons] at hn
   refine rwE List.lookup_cons ?_
   rcases List.mem_cons.mp h with rfl | h
   ·simp
   ·have:(x==p.1)=false:=beq_eq_false_iff_ne.mpr λ e=>hn.1 (by refine rwB e ?_;exact List.mem_map_of_mem (f:=(λ x=>x.1)) h)
    refine rwE this ?_;exact ih hn.2 h
 exact this nd' (List.mem_reverse.mpr hm)
theorem lh {x:Nat} {V:V} {ρ₀:Rho}:∀ {cap:List (Nat×Mine.Internal.V)},(cap.foldr (λ p ρ=>upd p.1 p.2 ρ) ρ₀) x=some V->(x,V)∈cap\/(x∉cap.map (λ x=>x.1)/\ρ₀ x=some V)
 | [],h=>.inr ⟨by simp,h⟩
 | (y,W)::r,h=>by
  rw [List.foldr_cons] at h
  delta upd at h
  by_cases e:x=y
  ·dsimp only at h
   rw [if_pos e] at h;cases h;refine rwE e ?_;exact .inl (.head _)
  ·dsimp only at h
   rw [if_neg e] at h
   rcases lh h with h | ⟨h1,h2⟩
   ·exact .inl (.tail _ h)
   ·exact .inr ⟨by (refine rwE List.map_cons ?_;rewrite [List.mem_cons,not_or]);exact ⟨e,h1⟩,h2⟩
theorem nG {P:Params} {H:Hp} {x:Nat} {V:V} {cap:List (Nat×Mine.Internal.V)} {cl:List (Str×Addr)} (h:VRc P H cap cl) (hm:(x,V)∈cap):xR H x (λ y=>VR P H V y) cl:=by
 induction cap with
 | nil=>exact absurd hm List.not_mem_nil
 | cons p r ih =>
  rcases List.mem_cons.mp hm with e | hm
  ·subst e;exact h.1
  ·exact ih h.2 hm
section
variable {n d:Nat}
theorem mh (KL:j8 G) {call:ah} (HE:∀ e,SE G call n e) {c:Cx} {A:Around} {ρ:Rho} {σ:St} {Fz:List (Addr×Obj)} {s:Shared} {k:Nat} {cap:List (Nat×V)} {fi:FnI} {Vs:List V} {vs:List Value} {fv:Value} {ρ₀:Rho} {back:V->St->Prop} {Q:PV} {X:PX} {R:Result->Shared->Prop}
 (C:COK G c) (hA:A.frames=some (c.fenv::c.outer)) (hh:A.handled=none) (hdp:A.depth+1+2*n<=900) (hun:A.units+3+20*n<=9000) (S:SR G c ρ σ Fz s) (hf:tb.fns k=some fi) (hfv:VR G.w.params (Hf G.kx Fz) (.clo k cap) fv) (hv:VRs G.w.params (Hf G.kx Fz) Vs vs)
 (hb:ck fi.params fi.dflts Vs=some ρ₀) (hback:∀ v σ',back v σ'->∃ j,Q v (σ'.drop j)) (HR:∀ v s',PV' G c ρ Fz Q v s'->R (.ok (.ret v)) s') (HX:∀ e s',PX' G c ρ X e s'->R (.error e) s')
 (e:Mine.Internal.execs tb call fi.body (cap.foldr (λ p ρ=>upd p.1 p.2 ρ) ρ₀) σ (λ u' σ'=>back .none σ') back X):codeAny (model G.prog G.w) A (.call fv ⟨vs,[]⟩) R s:=by
 obtain ⟨hgens,m,mf,lo,Mt,Tb,Ce,led,S⟩:=S
 obtain ⟨f,o,cl,rfl,hfo,⟨name,qual,params,body,scope,pm,c',ctv,oc,ws,t,rfl,hl,hoc,hod,hw,hq20⟩,hcl⟩:=hfv
 refine iO hl λ ps e' as hfn harg hl=>b2 hl λ hl hchk=>b2 hl λ hl hfree=>b2 hl λ hl hcap=>b8 hl λ hnames hps hpar hkind hgen hco hcell hsn=>?_
 replace hnames:=of_decide_eq_true hnames
 replace hps:=of_decide_eq_true hps
 replace hsn:=of_decide_eq_true hsn
 replace hgen:=lR hgen
 replace hco:=lR hco
 obtain rfl:=Option.some.inj (hf.symm.trans hfn)
 subst harg
 have hkind:scope.kind=.function:=beq_iff_eq.mp hkind
 refine ao (C.B) ?_;intro A₀ B
 refine yX (lg hb hps hv (show VRs G.w.params (Hf G.kx Fz) [] [] from rfl) (Nat.zero_le _)) ?_;intro W xs hxs hWx hWl l1 l2 hρ
 have hxs:xs=vs:=by refine rwE hxs ?_;simp
 subst hxs
 have hpl:as.length=ps.length:=by have:=congrArg List.length hnames;simpa using this
 have hnm:(ps.map nm).Nodup:=List.pairwise_map.mpr (hps.imp λ h e=>h (bI e))
 have hbind:bindArgs (kla_fn name qual { posonlyargs:=[],args:=as,vararg:=none,kwonlyargs:=[],kw_defaults:=[],kwarg:=none,defaults:=[] } body scope cl pm (.ref c') ctv) ⟨xs,[]⟩=pure ((ps.map nm).zip xs):=by
  refine au (fq (fd:=kla_fn name qual { posonlyargs:=[],args:=as,vararg:=none,kwonlyargs:=[],kw_defaults:=[],kwarg:=none,defaults:=[] } body scope cl pm (.ref c') ctv) (vs:=xs) rfl (by refine rwE hnames ?_;exact hnm) (by refine rwE hpl ?_;exact l1)) ?_;intro kk hk1 hk2
  refine hk1.trans ((?_:_=kk none).trans ((hk2 none (Nat.zero_le _) (by have:=l2;simp only [List.length_nil] at this;show as.length - xs.length<=0;refine rwE hpl ?_;exact this)).trans ?_))
  ·rfl
  ·delta j6
   refine rwE hnames ?_
   simp
 have hlc:∀ x∈ps,scope.names.lookup (nm x)=some .local:=λ x hx=>beq_iff_eq.mp (List.all_eq_true.mp hpar x hx)
 have hget:=S.get C hfo
 refine xp (groundX (R:=R) B S.F S.N hA C.hf C.hke) ?_;intro FG BG st lv
 refine kla_callFunE (by show A.depth<1000;lia) hget rfl hco hgen rfl ⟨c',oc,ws,t,rfl,S.get C hoc,hod,hw⟩ ?_
 refine rwE hbind ?_
 refine wpAny_pure (wpAny_newFunctionEnv (λ x hx e=>?_) (λ y hy=>?_) (λ h₁ hns hsb=>⟨((C.T.nolimit).keeps S.F.keep).fresh _ hsb,?_⟩) hkind)
 ·have:=List.all_eq_true.mp hcell x hx
  rw [e] at this;simp at this
 ·refine au (List.mem_map.mp (List.of_mem_zip (show (y.1,y.2)∈_ from hy)).1) ?_;intro z hz e
  refine rwB e ?_;exact hlc z hz
 show codeAny _ _ (.expr body (envX qual scope s.heap.objs.size f (.ref c') cl)) _ _
 have hk₁:∀ b o,s.heap.get? b=some o->h₁.get? b=some o:=λ b o e=>hsb.extBut b o (Nat.ne_of_lt (Heap.lt_size e)) (Heap.get?_push_of_some _ e)
 have F':Fr (hideAll s.heap (led.map (λ x=>x.1))) s.heap.objs.size h₁ (λ y=>((ps.map nm).zip xs).reverse.lookup y):=⟨hns,λ b o e=>hk₁ b o (of_hideAll _ e),Nat.le_of_eq (hideAll_size _ _)⟩
 have N':News (hideAll s.heap (led.map (λ x=>x.1))) s.heap.objs.size h₁ led:=λ p hp=>⟨hk₁ _ _ (S.N p hp).1,Nat.ne_of_lt (Heap.lt_size (S.N p hp).1),hideAll_none _ (List.mem_map_of_mem hp)⟩
 have fre:∀ x,scope.names.lookup x=some .cell\/scope.names.lookup x=some .free->(cl.lookup x).isSome=true:=λ x hx=>by
  rcases hx with hx | hx
  ·have:=List.all_eq_true.mp hcell _ (aq hx)
   simp at this
  ·have:=List.all_eq_true.mp hfree _ (aq hx)
   simp only [bne_self_eq_false,Bool.false_or] at this
   refine au (List.any_eq_true.mp this) ?_;intro y hy e
   refine au (List.mem_map.mp hy) ?_;intro z0 hm e';obtain ⟨y',V⟩:=z0
   obtain ⟨a,_,_,h1,_⟩:=nG hcl hm
   (refine rwE (beq_iff_eq.mp e) ?_;refine rwB e' ?_;refine rwE h1 ?_);rfl
 have C':COK G (c.call (lo++(Ce++c.Ex)) (envX qual scope s.heap.objs.size f (.ref c') cl) (hideAll s.heap (led.map (λ x=>x.1))) s.heap.objs.size Fz):=C.call FG BG st rfl hkind rfl rfl rfl (λ ⟨x,hx⟩=>by
  have:=List.all_eq_true.mp hcell _ (aq hx)
  simp at this) fre
 have S':SRp G (c.call (lo++(Ce++c.Ex)) (envX qual scope s.heap.objs.size f (.ref c') cl) (hideAll s.heap (led.map (λ x=>x.1))) s.heap.objs.size Fz) (cap.foldr (λ p ρ=>upd p.1 p.2 ρ) ρ₀) σ Fz h₁ (λ y=>((ps.map nm).zip xs).reverse.lookup y) (λ y=>((ps.map nm).zip xs).reverse.lookup y) [] Mt Tb [] led:=by
  refine ⟨F',N',S.nd,?_,⟨rfl,rfl⟩,S.mt,S.tbr,λ x V hx=>?_,⟨λ u'=>rfl,λ u' x hx hkx=>?_⟩,sub.refl⟩
  ·have:=iY (cells:=[]) (em:=[]) (fi:=[]) S.pm .nil
   exact this
  ·show match scope.names.lookup (nm x) with | some .local=>_ | some .cell | some .free=>_ | _=>_
   rcases lh hx with hm | ⟨hn,hx⟩
   ·have:=List.all_eq_true.mp hcap x (List.mem_map_of_mem (f:=(λ x=>x.1)) hm)
    have this:=an2 this
    refine rwE (beq_iff_eq.mp this.1) ?_
    obtain ⟨a,o,y,h1,h2,h3,h4⟩:=nG hcl hm
    exact ⟨a,o,y,h1,h2,h3,h4⟩
   ·rw [hρ x] at hx
    refine au (nF hWx hx) ?_;intro v hm hv'
    refine rwE (hlc x (List.of_mem_zip (j7 hx)).1) ?_
    exact ⟨v,bz hnm hm,hv'⟩
  ·have:=List.all_eq_true.mp hcell _ (aq hkx)
   simp at this
 have HA':AOK (c.call (lo++(Ce++c.Ex)) (envX qual scope s.heap.objs.size f (.ref c') cl) (hideAll s.heap (led.map (λ x=>x.1))) s.heap.objs.size Fz) (A.deeper (envX qual scope s.heap.objs.size f (.ref c') cl)) n :=
  ⟨Around.frames_deeper hA,hh,by show A.depth+1+_<=_;lia,by show A.units+3+_<=_;lia⟩
 have hchk':aE (b9 G (envX qual scope s.heap.objs.size f (.ref c') cl)) scope.names e' body=true:=by
  show aE (rv G.tabs G.tq (.ref c') (qual ++ ".<locals>.")) scope.names e' body=true
  refine rwE (oO KL hq20) ?_;exact hchk
 have ev:evE tb call e' (cap.foldr (λ p ρ=>upd p.1 p.2 ρ) ρ₀) σ back X:=e
 refine kla_codeExpr (wpAny_mono (HE e' body _ _ _ σ _ _ back X (λ e s'=>wpAny (model G.prog G.w) (A.deeper (envX qual scope s.heap.objs.size f (.ref c') cl)) (leaving (envX qual scope s.heap.objs.size f (.ref c') cl) e) (λ u' s''=>R (.error e) s'') (λ e' s''=>R (.error e') s'') s') C' HA' ⟨hgens,_,_,_,_,_,_,_,S'⟩ ?_ hchk' ev) ?_ λ u' u' y=>y)
 ·rintro e₁ s₁ ⟨a,σ₁,Fz₁,rfl,⟨g1,h₂,Bh,m1,mf1,lo1,Mt1,Tb1,Ce1,led1,X'⟩,hx⟩
  refine iW HA'.fr rfl X'.fl λ h'' a0 fl up2=>?_
  refine pI (jz.back S X'.fk FG X' fl up2) ?_;intro Fz₂ Mt₂ X₂
  exact HX _ _ ⟨a,σ₁,Fz₂,rfl,⟨g1,_,_,_,_,_,_,_,_,_,X₂⟩,hx⟩
 ·rintro v s₁ ⟨V,σ₁,Fz₁,sb,hV,⟨g1,m1,mf1,lo1,Mt1,Tb1,Ce1,led1,S₁⟩,hq⟩
  refine lv _ _ (leaveK_ S₁.F S₁.N λ F₂ N₂=>?_)
  refine ao (hback _ _ hq) ?_;intro j hj
  refine fX (SRp.back S sb S₁ j F₂ N₂) ?_;intro Fz₂ Mt₂ sb₂ S₂
  exact HR _ _ ⟨V,_,Fz₂,sb.trans sb₂,hV.mono (Hf.mono sb₂),⟨g1,_,_,_,_,_,_,_,S₂⟩,hj⟩
end
noncomputable def sz (G:Gl):Prop:=∀ k fi,tb.fns k=some fi->k<79->xU G k fi
noncomputable def uL (G:Gl):Prop:=∀ k ci,tb.clss k=some ci->(tb.fns ci.init).isSome=true->ci.init<79/\makesIn G.K (ca k)=true/\findIn G.K (.ref (ca k)) "__init__" = some (some (.ref (fa ci.init)))/\typeIn G.K (.ref (fa ci.init))=some (.type "function")
theorem fR {d k:Nat} {cap:List (Nat×V)} {Vs:List V} {σ:St} {Q:PV} {X:PX} (h:U tb (d+1) k cap Vs σ Q X):∃ fi ρ₀,∃ back:V->St->Prop,tb.fns k=some fi/\ck fi.params fi.dflts Vs=some ρ₀/\(∀ v σ',back v σ'->∃ j,Q v (σ'.drop j)) /\
 Mine.Internal.execs tb (U tb d) fi.body (cap.foldr (λ p ρ=>upd p.1 p.2 ρ) ρ₀) σ (λ u' σ'=>back .none σ') back X:=by
 change gk tb (U tb d) _ _ _ _ _ _ at h
 delta gk at h
 induction hf:tb.fns k using Option.casesOn with
 | none=>rw [hf] at h;exact h.elim
 | some fi =>
  rw [hf] at h
  dsimp only at h
  induction hb:ck fi.params fi.dflts Vs using Option.casesOn with
  | none=>rw [hb] at h;exact h.elim
  | some ρ₀ =>
   rw [hb] at h
   refine ⟨fi,ρ₀,λ v σ'=>if fi.gc then Q v (σ'.drop (σ'.length - σ.length)) else Q v σ',rfl,hb,λ v σ' q=>?_,h⟩
   induction hg:fi.gc using Bool.casesOn with
   | true=>rw [hg] at q;exact ⟨_,q⟩
   | false=>rw [hg] at q;exact ⟨0,q⟩
section
variable {d:Nat}
theorem oQ:c8 G (U tb 0) 0:=λ u' u' u' u' u' u' u' u' u' u' u' u' u' u' u' u' u' u' u' u' e=>e.elim
theorem qv:gn G (U tb 0) 0:=by
 intro c A ρ σ Fz s k Vs vs Q E C HA S hv e
 have this:∀ {l:List Nat} {a:Nat},a∈l->a<l.foldr (λ a b=>a+b+1) 0:=by
  intro l
  induction l with
  | nil=>intro a h;exact absurd h List.not_mem_nil
  | cons b r ih =>
   intro a h
   refine rwE List.foldr_cons ?_
   rcases List.mem_cons.mp h with rfl | h
   ·lia
   ·have:=ih h;lia
 refine aI (λ ci hci e=>?_) e
 refine (e ((σ.map (λ x=>x.1)).foldr (λ a b=>a+b+1) 0) (λ p hp=>Nat.ne_of_lt (this (List.mem_map_of_mem (f:=(λ x=>x.1)) hp)))).elim
theorem oR (KF:sz G) (KL:j8 G) (HS:∀ sts,SSs G (U tb d) d sts) (HE:∀ e,SE G (U tb d) d e):c8 G (U tb (d+1)) (d+1):=by
 intro c A ρ σ Fz s k cap Vs vs fv Q X E C HA S hf hv HX e
 refine eT (fR e) ?_;intro fi ρ₀ back h1 h2 h3 h4
 have dp:=HA.dp
 have un:=HA.un
 refine wpAny_call ?_
 rcases hf with ⟨rfl,rfl,_,h80⟩ | hf
 ·exact iZ KF HS C HA.fr HA.ha (n:=d) (by lia) (by lia) S h1 h80 hv h2 h3 (λ v s' h=>h) (λ e s' h=>HX e s' h) h4
 ·exact mh KL HE C HA.fr HA.ha (n:=d) (by lia) (by lia) S h1 hf hv h2 h3 (λ v s' h=>h) (λ e s' h=>HX e s' h) h4
set_option tactic.hygienic true in
theorem qw (KF:sz G) (KM:uL G) (HS:∀ sts,SSs G (U tb d) d sts):gn G (U tb (d+1)) (d+1):=by
 intro c A ρ σ Fz s k Vs vs Q E C HA S hv e
 have dp:=HA.dp
 have un:=HA.un
 replace e:aW (tb.clss k) _:=e
 induction hc:tb.clss k using Option.casesOn with
 | none=>rw [hc] at e;exact e.elim
 | some ci =>
  rw [hc] at e
  obtain ⟨hg0,m,mf,lo,Mt,Tb,Ce,led,S⟩:=S
  have Kin:=S.kin C
  have hfn:(tb.fns ci.init).isSome=true:=by
   refine sD (fR (e s.heap.objs.size λ p hp=>S.fresh p hp)) ?_;intro fi ρ₀ back h1 z4
   refine rwE h1 ?_;rfl
  refine xp (KM k ci hc hfn) ?_;intro h80 m1 m2 m3
  refine wpAny_call (make_K S.F S.N Kin m1 m2 m3 λ x dx h' F' N' lt1 lt2=>?_)
  have hx:∀ p∈led,p.1≠x:=λ p hp=>Nat.ne_of_lt (Nat.lt_trans (lt1 p hp) lt2)
  have hdx:∀ p∈led,p.1≠dx:=λ p hp=>Nat.ne_of_lt (lt1 p hp)
  have S':SRp G c ρ ((x,.ob k [])::σ) Fz h' m mf lo ([(x,instObj (ca k) dx),(dx,emptyDict)]++Mt) Tb Ce ((x,instObj (ca k) dx)::(dx,emptyDict)::led):=by
   refine ⟨F',N',?_,?_,S.loc,⟨_,_,rfl,⟨dx,[],_,rfl,rfl,rfl,List.nodup_nil,by refine rwE hc ?_;rfl⟩,S.mt⟩,S.tbr,S.er,S.ce,S.fk⟩
   ·refine rwE List.map_cons ?_;rewrite [List.nodup_cons];refine rwE List.map_cons ?_;rewrite [List.nodup_cons]
    refine ⟨λ q=>?_,λ q=>?_,S.nd⟩
    ·rcases List.mem_cons.mp q with q | q
     ·exact absurd lt2 (by refine rwE (show x=dx from q) ?_;exact Nat.lt_irrefl _)
     ·refine au (List.mem_map.mp q) ?_;intro p hp e
      exact hx p hp e
    ·refine au (List.mem_map.mp q) ?_;intro p hp e
     exact hdx p hp e
   ·classical
    refine ar λ y=>?_
    have:=List.perm_iff_count.mp S.pm y
    simp only [List.count_append,List.count_cons,List.count_nil] at this ⊢
    lia
  have fresh:∀ p∈σ,p.1≠x:=λ p hp e=>by
   refine ao (S.mt.mem p hp) ?_;intro o ho
   exact hx _ (S.memM ho) e
  refine eT (fR (Q:=so ci x Q) (e x fresh)) ?_;intro fi ρ₀ back h1 h2 h3 h4
  refine iZ KF HS C (A:=A.under _) HA.fr HA.ha (n:=d) (by show A.depth+1+1+2*d<=900;lia) (by show A.units+1+3+20*d<=9000;lia) (s:={ s with heap:=h' }) ⟨hg0,_,_,_,_,_,_,_,S'⟩ h1 h80 (Vs:=.loc x::Vs) ⟨_,_,rfl,rfl,hv⟩ (Q:=so ci x Q) h2 h3 (λ v s' h=>?_) (λ e s' h=>?_) h4
  ·obtain ⟨V,σ',Fz',sb,hV,S₁,q⟩:=h
   refine nj (λ eV q=>?_) q
   subst eV
   have q:(if ci.frozen=true then aW (look x σ') λ m=>obP m λ c' fs=>Q (.ob c' fs) (rem x σ') else Q (.loc x) σ'):=q
   refine ⟨hV,?_⟩
   show PV' G c ρ Fz Q (.ref x) s'
   induction hfr:ci.frozen using Bool.casesOn with
   | false =>
    rw [hfr] at q
    exact ⟨.loc x,σ',Fz',sb,rfl,S₁,q⟩
   | true =>
    rw [hfr] at q
    rw [if_pos rfl] at q
    refine aI (λ mm hl q=>mI (λ c' fs em q=>?_) q) q
    subst em
    obtain ⟨g1,m1,mf1,lo1,Mt1,Tb1,Ce1,led1,S₁⟩:=S₁
    obtain ⟨pre,f,post,rfl,hf,_,hr⟩:=S₁.mt.look hl
    have S₂:=S₁.rm rfl hr
    obtain ⟨dx',es,nn,rfl,q1,q2,q3,q4⟩:=hf
    refine ⟨.ob c' fs,rem x σ',_,sb.trans (sub.app sub.refl),⟨x,dx',es,nn,rfl,.inr (by simp),.inr (by simp),q1.mono (Hf.mono (sub.app sub.refl)),q2,q3,q4⟩,⟨g1,_,_,_,_,_,_,_,S₂⟩,q⟩
  ·obtain ⟨a,σ',Fz',rfl,_,q⟩:=h
   exact q.elim
end
noncomputable abbrev bmE:List Value:=[.type "Exception",.type "BaseException",.type "object"]
section
variable {prog:Program} {w:World} {A:Around} {h:Heap} {g:Array GenState} {d:Drawn} {t:Nat} {os:OsState} {K:Frag}
variable {nm q:Str} {C N P:Addr} {bs:List Value} {sn:List Str} {sub:List Value} {ab:Bool} {col:Option Bool} {dd:Option Addr} {k0 k1 k2 k3 k5:Option Value}
theorem pS (X:String) (b:Bool) (e:bmE.contains (.type X)=b):(Value.ref C::Value.ref P::bmE).contains (.type X)=b:=by
 (refine rwE List.contains_cons ?_;refine rwE List.contains_cons ?_;refine rwE e ?_);rfl
theorem iA {M:Model} {E:Value->Shared->Prop} {rest:List Value} {Q:Unit->Shared->Prop} (hC:h.get? C=some (excClassObj nm q C N bs (Value.ref P::bmE) true sn sub ab col dd k0 k1 k2 k3 k5 "Exception.__new__")) (hq:Q () ⟨h,g,d,t,os⟩):wpAny M A (checkBuiltinCall "Exception.__new__" ⟨.ref C::rest,[]⟩) Q E ⟨h,g,d,t,os⟩:=by
 have F:=PySem.F.excBase_Exception
 have hcont:=pS (C:=C) (P:=P) "Exception" true F.hasB
 have hstar:=F.noStar
 delta checkBuiltinCall
 refine rwE F.newKind ?_
 refine rwE F.newSplit ?_
 refine rwE F.newRow ?_
 repeat (first | refine wpAny_loadPart_at hC ?_ | (refine wpAny_isSubtype_exc hC ?_;refine rwE hcont ?_) | refine wpAny_staticBase_exc hC ?_ | refine wpAny_madeBy_exc hC ?_ | refine wpAny_ite_false (decide_eq_false (by rw [bne_self_eq_false];exact Bool.false_ne_true)) ?_ | wp_step)
 exact hq
theorem tz {R:Result->Shared->Prop} {rest:List Value} (hC:h.get? C=some (excClassObj nm q C N bs (Value.ref P::bmE) true sn sub ab col dd k0 k1 k2 k3 k5 "Exception.__new__"))
 (hq:R (.ok (.ret (.ref (h.objs.size+1)))) ⟨(h.push { cls:=.type "tuple",data:=.seq rest.toArray }).push { cls:=.ref C,data:=.fields #[.ref h.objs.size,.none,.none,.none,.bool false,.none] },g,d,t,os⟩) (hrest:rest.length<=sizeLine) :
 codeAny (model prog w) A (.builtin "Exception.__new__" ⟨.ref C::rest,[]⟩) R ⟨h,g,d,t,os⟩:=by
 have F:=PySem.F.excBase_Exception
 have hends:=F.ends
 have hcB:=pS (C:=C) (P:=P) "Exception" true F.hasB
 have hcA:=pS (C:=C) (P:=P) "AttributeError" false F.noAttr
 have hcN:=pS (C:=C) (P:=P) "NameError" false F.noName
 refine codeAny_builtinAt F.entry ?_
 delta Builtin.«BaseException.__new__»
 refine PySem.wpAt_bind ?_
 show PySem.wpAt _ _ _ (stack >>= _) _ _ _
 refine PySem.wpAt_bind (PySem.wpAt_stack λ p below=>PySem.wpAt_of_wpAny ?_)
 wp_walk
 refine PySem.wpAt_of_wpAny ?_
 refine rwE F.owner ?_
 repeat (first | with_reducible refine wpAny_madeHere_exc F.canon hC ?_ | with_reducible refine wpAny_loadPart_at hC ?_ | (with_reducible refine wpAny_isSubtype_exc hC ?_;first | refine rwE hcB ?_ | rw [hcA] | rw [hcN]) | wp_step)
 show R _ _
 refine rwE (Heap.size_push ..) ?_
 exact hq
theorem iB {E:Value->Shared->Prop} {rest:List Value} {fI:Addr} {oI:Obj} {Q:Fin->Shared->Prop} (X:K.In h) (hC:h.get? C=some (excClassObj nm q C N bs (Value.ref P::bmE) true sn sub ab col dd k0 k1 k2 k3 k5 "Exception.__new__")) (hi:findIn K (.ref C) "__init__" = some (some (.ref fI))) (hfI:h.get? fI=some oI) (hfc:oI.cls=.type "function")
 (hq:∀ h' e,Heap.MadeExcOf h h' e (.ref C) rest->wpAny (model prog w) A (call (.ref fI) (.ref e::rest)) (λ r s'=>r=.none/\Q (.done (.ret (.ref e))) s') E ⟨h',g,d,t,os⟩) (hrest:rest.length<=sizeLine) :
 wpAny (model prog w) A (Builtin.«type.__call__» ⟨.ref C::rest,[]⟩) Q E ⟨h,g,d,t,os⟩:=by
 have F:=PySem.F.excBase_Exception
 repeat (first | with_reducible refine wpAny_loadPart_at hC ?_ | with_reducible refine wpAny_madeBy_exc hC ?_ | wp_step)
 refine codeAny_call_builtin_code (Code.quiet_builtin _ F.quiet) (iA hC ?_)
 refine tz hC ?_ hrest
 show wpAny _ _ _ _ _ _
 have k:∀ b o,h.get? b=some o->((h.push { cls:=.type "tuple",data:=.seq rest.toArray }).push { cls:=.ref C,data:=.fields #[.ref h.objs.size,.none,.none,.none,.bool false,.none] }).get? b=some o:=λ b o hb=>Heap.get?_push_of_some _ (Heap.get?_push_of_some _ hb)
 have hC₁:=k _ _ hC
 have hfI₁:=k _ _ hfI
 have hget:((h.push { cls:=.type "tuple",data:=.seq rest.toArray }).push { cls:=.ref C,data:=.fields #[.ref h.objs.size,.none,.none,.none,.bool false,.none] }).get? (h.objs.size+1)=some
  { cls:=.ref C,data:=.fields #[.ref h.objs.size,.none,.none,.none,.bool false,.none] }:=by heap_get
 have hcC:(Value.ref C::Value.ref P::bmE).contains (.ref C)=true:=by simp
 delta isInstance
 repeat (first | with_reducible refine wpAny_loadPart_at hget ?_ | (with_reducible refine wpAny_isSubtype_exc hC₁ ?_;refine rwE hcC ?_) | wp_step)
 show wpAny _ _ (typeLookup (.ref C) _) _ _ _
 refine (looks_findIn (X.keeps k) hi).here ?_
 refine wpAny_holding (wpAny_bind ?_)
 delta bindSpecial
 refine wpAny_bind (wpAny_typeOf (T := "function") ⟨_,hfI₁,hfc⟩ ?_)
 refine rwE (if_pos (by decide)) ?_
 refine wpAny_pure (wpAny_bind (wpAny_mono (hq _ (h.objs.size+1) ⟨k,Heap.get?_none_of_le (Nat.le_succ _),h.objs.size,hget,Heap.get?_none_of_le (Nat.le_refl _),?_⟩) (λ r s' hr=>?_) λ u' u' x=>x))
 ·exact Heap.get?_push_of_some _ (Heap.get?_push_at rfl rfl)
 ·refine al hr ?_;clear hr;intro z0 hQ;obtain rfl:=z0
  wp_walk
  exact hQ
theorem qy {E:Value->Shared->Prop} {rest:List Value} {fI:Addr} {oI:Obj} {Q:Value->Shared->Prop} (X:K.In h) (hC:h.get? C=some (excClassObj nm q C N bs (Value.ref P::bmE) true sn sub ab col dd k0 k1 k2 k3 k5 "Exception.__new__")) (hi:findIn K (.ref C) "__init__" = some (some (.ref fI))) (hfI:h.get? fI=some oI) (hfc:oI.cls=.type "function")
 (hq:∀ h' e,Heap.MadeExcOf h h' e (.ref C) rest->wpAny (model prog w) (A.under (.builtin "type.__call__" ⟨.ref C::rest,[]⟩)) (call (.ref fI) (.ref e::rest)) (λ r s'=>r=.none/\Q (.ref e) s') E ⟨h',g,d,t,os⟩) (hrest:rest.length<=sizeLine) :
 wpAny (model prog w) A (call (.ref C) rest) Q E ⟨h,g,d,t,os⟩:=by
 have f1:=tc_lookup
 have f2:=tc_bind (.ref C)
 have hT:(⟨h,g,d,t,os⟩:Shared).TypeIs (.ref C) "type" := ⟨_,hC,rfl⟩
 refine wpAny_call (codeAny_of_tree ?_)
 show wpAny _ _ (callAny (.ref C) _) _ _ _
 repeat (any_goals (first | assumption | with_reducible refine wpAny_loadPart_at hC ?_ | wp_step))
 refine ⟨rfl,?_⟩
 refine codeAny_call_builtin_at (Code.quiet_builtin _ (by decide +kernel)) entry_typeCall (wpAny_check_type_call_sub hC (iB X hC hi hfI hfc (λ h' e hm=>?_) hrest))
 exact hq h' e hm
noncomputable def jD (h:Heap) (x:Addr) (name:Str) (v:Value) (C:Addr) (mA:Str->Option Value) (h':Heap):Prop :=
 h'.InstFk x C (λ y=>if y=name then some v else mA y)/\(∀ b o,b≠x->(∀ o₀ dx,h.get? x=some o₀->o₀.dict=some dx->b≠dx)->h.get? b=some o->h'.get? b=some o) /\
  (∀ o₀,h.get? x=some o₀->∃ o₁,h'.get? x=some o₁/\o₁.cls=o₀.cls/\o₁.data=o₀.data/\∀ dx,o₁.dict=some dx->o₀.dict=some dx\/(o₀.dict=none/\h.objs.size<=dx))
theorem gp {E:Value->Shared->Prop} {Q:Fin->Shared->Prop} {ns:List Str} {x:Addr} {name:Str} {v:Value} {tk:Tok} {mA:Str->Option Value} (X:K.In h) (hC:h.get? C=some (excClassObj nm q C N bs (Value.ref P::bmE) true sn sub ab col dd k0 k1 k2 k3 k5 "Exception.__new__")) (hna:findIn K (.ref C) name=some none) (I:h.InstFk x C mA)
 (hq:∀ h' tk',jD h x name v C mA h'->Q (.done (.ret .none)) ⟨h',g,d,tk',os⟩) (hw:Within mA ns) (hsz:ns.length+1<=sizeLine) :
 wpAny (model prog w) A (Builtin.«object.__setattr__» ⟨[.ref x,.str name tk,v],[]⟩) Q E ⟨h,g,d,t,os⟩:=by
 refine lJ I ?_;clear I;intro o hx hc hnc hd
 have hpass:=PySem.F.store_Exception.passes (.ref x)
 delta Builtin.«object.__setattr__»
 repeat (first | refine rwE (refuse_eq ..) ?_ | ((refine rwE (refuseLoop_ref ..) ?_;refine rwE (refuseLoop_ref ..) ?_;refine rwE hpass ?_)) | (with_reducible refine wpAny_loadPart_at hx ?_;refine rwE hc ?_) | with_reducible refine wpAny_mroOf_exc hC ?_ | with_reducible refine (looks_findIn X hna).here ?_ | wp_step)
 rcases hd with ⟨hdn,hmA⟩ | ⟨dx,hdx,hne,hns,hed⟩
 ·refine rwE hdn ?_;refine rwE (if_neg (by simp [typeHasDict])) ?_
  split
  ·rename_i hcd
   exact J hcd
  split
  ·rename_i c hcd
   exact absurd hcd (hnc c)
  ·have hx₁:(h.push { cls:=.type "dict",data:=.dict #[] }).get? x=some o:=Heap.get?_push_of_some _ hx
   have hxs:x≠h.objs.size:=Nat.ne_of_lt (Heap.lt_size hx)
   refine wpAny_bind (wpAny_alloc' ?_)
   refine wpAny_bind (wpAny_update' hx₁ ?_)
   refine wpAny_pure ?_
   have hgd:((h.push { cls:=.type "dict",data:=.dict #[] }).update x λ o=>{ cls:=o.cls,dict:=some h.objs.size,data:=o.data,slots:=o.slots }).get? h.objs.size
    = some { cls:=.type "dict",data:=.dict #[] } :=
    (Heap.get?_update_ne _ _ _ _ hxs.symm).trans (Heap.get?_push_at rfl rfl)
   have hnd:((h.push { cls:=.type "dict",data:=.dict #[] }).update x λ o=>{ cls:=o.cls,dict:=some h.objs.size,data:=o.data,slots:=o.slots }).Ns h.objs.size (λ u'=>none) :=
    ⟨_,#[],_,hgd,rfl,λ e he=>absurd he (by simp),λ u'=>rfl⟩
   show wpAny _ _ (PySem.Builtin.ObjectAttr.storeInDict h.objs.size (.str name tk) name v) _ _ _
   delta PySem.Builtin.ObjectAttr.storeInDict PySem.Builtin.ObjectAttr.newKeyGuard
   refine wpAny_bind (wpAny_pure (wpAny_bind (wpAny_nsSet1EFk (Heap.Ns1.of_empty hnd) λ h' hn' hs hkeepD=>?_)))
   refine pJ (hn'.count (Within.cons name v Within.nil)) ?_;intro oD esD epD hoD hdD hcD
   refine wpAny_bind (wpAny_lookBehind hoD (by refine rwE hdD ?_;exact pastItsLine_dict (Nat.le_trans hcD (by (refine rwE List.length_cons ?_;refine rwE List.length_nil ?_;refine rwE sizeLine_eq ?_);lia))) ?_)
   wp_walk
   have hx':h'.get? x=some { cls:=o.cls,dict:=some h.objs.size,data:=o.data,slots:=o.slots }:=by
    refine (hs.2 x hxs).trans (Heap.get?_update_self _ hx₁ ?_)
    have hfr:=(Heap.get?_some_iff.mp hx).2
    obtain ⟨oc,od,odt,osl⟩:=o
    cases odt<;>first | rfl | exact hfr
   refine hq h' _ ⟨⟨{ cls:=o.cls,dict:=some h.objs.size,data:=o.data,slots:=o.slots },hx',hc,hnc,.inr ⟨h.objs.size,rfl,hxs.symm,?_,(let ⟨od',e',c',d'⟩:=hkeepD _ hgd;⟨od',e',c',d'⟩)⟩⟩,λ b ob hbx u' hb=>?_,
    λ o₀ h₀=>by obtain rfl:o=o₀:=Option.some.inj (hx.symm.trans h₀);exact ⟨_,hx',rfl,rfl,λ dx e=>.inr ⟨hdn,by cases e;exact Nat.le_refl _⟩⟩⟩
   ·refine rg hn' ?_;clear hn';intro o' es ep e1 e2 e3 eu e4
    exact ⟨o',es,ep,e1,e2,e3,eu,λ y=>by refine rwE (e4 y) ?_;by_cases hy:y=name<;>simp [hy,hmA]⟩
   ·exact (hs.2 b (Nat.ne_of_lt (Heap.lt_size hb))).trans ((Heap.get?_update_ne _ _ _ _ hbx).trans (Heap.get?_push_of_some _ hb))
 ·refine rwE hdx ?_
  refine wpAny_pure ?_
  show wpAny _ _ (PySem.Builtin.ObjectAttr.storeInDict dx (.str name tk) name v) _ _ _
  delta PySem.Builtin.ObjectAttr.storeInDict PySem.Builtin.ObjectAttr.newKeyGuard
  refine wpAny_bind (wpAny_pure (wpAny_bind (wpAny_nsSet1EFk hns λ h' hn' hs hkeepD=>?_)))
  refine pJ (hn'.count (Within.cons name v hw)) ?_;intro oD esD epD hoD hdD hcD
  refine wpAny_bind (wpAny_lookBehind hoD (by refine rwE hdD ?_;exact pastItsLine_dict (Nat.le_trans hcD (by refine rwE List.length_cons ?_;lia))) ?_)
  wp_walk
  refine hq h' _ ⟨⟨o,(hs.2 x hne.symm).trans hx,hc,hnc,.inr ⟨dx,hdx,hne,hn',(let ⟨od,e,c,dd⟩:=hed;let ⟨od',e',c',d'⟩:=hkeepD od e;⟨od',e',c'.trans c,d'.trans dd⟩)⟩⟩,λ b ob u' hbd hb=>?_,
   λ o₀ h₀=>⟨o₀,(hs.2 x hne.symm).trans h₀,rfl,rfl,λ u' e=>.inl e⟩⟩
  exact (hs.2 b (hbd o dx hx hdx)).trans hb
theorem jg {M:Model} {E:Value->Shared->Prop} {x:Addr} {o:Obj} {bL v:Value} {Q:Unit->Shared->Prop} (hC:h.get? C=some (excClassObj nm q C N bs (Value.ref P::bmE) true sn sub ab col dd k0 k1 k2 k3 k5 "Exception.__new__")) (hx:h.get? x=some o) (hc:o.cls=.ref C) (hq:Q () ⟨h,g,d,t,os⟩) :
 wpAny M A (checkBuiltinCall "object.__setattr__" ⟨[.ref x,bL,v],[]⟩) Q E ⟨h,g,d,t,os⟩:=by
 have SF:=PySem.F.store_Exception
 have hcB:(Value.ref C::Value.ref P::bmE).contains (.type "object")=true:=pS "object" true SF.hasOwner
 have ha:=SF.args (.ref x) bL v
 delta checkBuiltinCall
 refine rwE SF.kind ?_
 refine rwE SF.split ?_
 refine wpAny_bind ?_
 delta isInstance
 repeat (first | (with_reducible refine wpAny_loadPart_at hx ?_;refine rwE hc ?_) | (with_reducible refine wpAny_isSubtype_exc hC ?_;refine rwE hcB ?_) | wp_step)
 exact hq
theorem oS {E:Value->Shared->Prop} {Q:Unit->Shared->Prop} {ns:List Str} {x:Addr} {name:Str} {v:Value} {mA:Str->Option Value} (X:K.In h) (hC:h.get? C=some (excClassObj nm q C N bs (Value.ref P::bmE) true sn sub ab col dd k0 k1 k2 k3 k5 "Exception.__new__")) (hsa:findIn K (.ref C) "__setattr__" = some (some (.builtin "object.__setattr__"))) (hna:findIn K (.ref C) name=some none) (I:h.InstFk x C mA)
 (hq:∀ h' tk',jD h x name v C mA h'->Q () ⟨h',g,d,tk',os⟩) (hw:Within mA ns) (hsz:ns.length+1<=sizeLine) :
 wpAny (model prog w) A (setAttr (.ref x) name v) Q E ⟨h,g,d,t,os⟩:=by
 have SF:=PySem.F.store_Exception
 refine cu (id I) ?_;intro o hx hc z3
 have f3:=SF.slot.bind (.ref x)
 delta setAttr callSpecial? specialOf
 repeat (any_goals (first | assumption | (with_reducible refine wpAny_loadPart_at hx ?_;refine rwE hc ?_) | (with_reducible refine (looks_findIn X hsa).here ?_) | wp_step))
 refine codeAny_call_builtin SF.slot.plain SF.entry (jg hC hx hc (gp X hC hna I (λ h' tk' I'=>?_) hw hsz))
 repeat (any_goals (first | assumption | wp_step))
 exact hq h' tk' I'
end
structure XF (g:Heap) (L:Addr) (led:List (Addr×Obj)) (e:Addr) (m mA:Str->Option Value) (h:Heap):Prop where
 F:Fr g L h m
 N:News g L h led
 I:h.InstFk e pfA mA
 o:∃ oe vs a0,h.get? e=some oe/\oe.data=.fields vs/\vs[0]?=some a0/\vs[1]?=some .none/\∀ dx,oe.dict=some dx->g.get? dx=none/\dx≠L/\∀ p∈led,p.1≠dx
 ge:g.get? e=none
 le:e≠L
 ne:∀ p∈led,p.1≠e
section
variable {g h h':Heap} {L e:Addr} {led:List (Addr×Obj)} {m mA:Str->Option Value}
theorem XF.keepsBut (x:XF g L led e m mA h) (k:∀ b o,b≠e->(∀ o₀ dx,h.get? e=some o₀->o₀.dict=some dx->b≠dx)->h.get? b=some o->h'.get? b=some o):Fr g L h' m/\News g L h' led:=by
 refine rg (x.o) ?_;intro oe vs a0 h1 h2 h3 h4 h5
 have nd:∀ {b:Addr},(∀ dx,oe.dict=some dx->b≠dx)->∀ o₀ dx,h.get? e=some o₀->o₀.dict=some dx->b≠dx:=λ hb o₀ dx e1 e2=>by
  rw [h1] at e1;cases e1;exact hb dx e2
 refine ⟨⟨x.F.ns.at λ o ho=>k _ _ (Ne.symm x.le) (nd λ dx e=>Ne.symm (h5 dx e).2.1) ho,λ b o hb=>k _ _ (λ q=>?_) (nd λ dx e q=>?_) (x.F.keep b o hb),x.F.above⟩,
  λ p hp=>⟨k _ _ (x.ne p hp) (nd λ dx e=>(h5 dx e).2.2 p hp) (x.N p hp).1,(x.N p hp).2⟩⟩
 ·rw [q,x.ge] at hb;exact J hb
 ·rw [q,(h5 dx e).1] at hb;cases hb
theorem XF.store (x:XF g L led e m mA h) {name:Str} {v:Value} (s:jD h e name v pfA mA h'):XF g L led e m (λ y=>if y=name then some v else mA y) h':=by
 refine bq s ?_;clear s;intro s1 s2 s3
 refine al (x.keepsBut s2) ?_;intro F N
 refine rg (x.o) ?_;intro oe vs a0 h1 h2 h3 h4 h5
 refine lJ (s3 _ h1) ?_;intro o₁ q1 q2 q3 q4
 refine ⟨F,N,s1,⟨o₁,vs,a0,q1,by (refine rwE q3 ?_;refine rwE h2 ?_;rfl),h3,h4,λ dx hd=>?_⟩,x.ge,x.le,x.ne⟩
 rcases q4 dx hd with q | ⟨_,q⟩
 ·exact h5 dx q
 ·have hL:=x.F.ns.lt
  refine ⟨Heap.get?_none_of_le (Nat.le_trans x.F.above (Nat.le_trans (Nat.le_of_lt hL) q)),λ r=>absurd hL (by refine rwB r ?_;exact Nat.not_lt.mpr q),λ p hp r=>?_⟩
  have:=Heap.lt_size (x.N p hp).1
  rw [r] at this
  exact absurd this (Nat.not_lt.mpr q)
theorem XF.grow (x:XF g L led e m mA h) (k:∀ b o,h.get? b=some o->h'.get? b=some o):XF g L led e m mA h':=by
 refine sD (x.o) ?_;intro oe vs a0 h1 h2
 refine lJ (x.I) ?_;intro o i1 i2 i3 i4
 exact ⟨x.F.keeps k,x.N.grown k,⟨o,k _ _ i1,i2,i3,i4.imp id λ ⟨d,d1,d2,d3,d4⟩=>⟨d,d1,d2,d3.at λ o=>k _ o,d4.keeps k⟩⟩,⟨oe,vs,a0,k _ _ h1,h2⟩,x.ge,x.le,x.ne⟩
theorem XF.args (x:XF g L led e m mA h) {v:Value}:XF g L led e m mA (h.update e (Obj.mapFields (·.setIfInBounds 0 v))):=by
 refine rg (x.o) ?_;intro oe vs a0 h1 h2 h3 h4 h5
 have hd:=Obj.data_mapFields h2 (·.setIfInBounds 0 v)
 have he:=Heap.get?_update_self (Obj.mapFields (·.setIfInBounds 0 v)) h1 (Obj.isFreed_of_fields hd)
 have ot:∀ b o,b≠e->(∀ o₀ dx,h.get? e=some o₀->o₀.dict=some dx->b≠dx)->h.get? b=some o->(h.update e (Obj.mapFields (·.setIfInBounds 0 v))).get? b=some o:=λ b o hb u' ho=>(Heap.get?_update_other _ _ (Ne.symm hb)).trans ho
 refine al (x.keepsBut ot) ?_;intro F N
 refine lJ (x.I) ?_;intro o i1 i2 i3 i4
 rw [h1] at i1
 cases i1
 have hcls:(Obj.mapFields (·.setIfInBounds 0 v) oe).cls=oe.cls/\(Obj.mapFields (·.setIfInBounds 0 v) oe).dict=oe.dict:=by
  obtain ⟨oc,od,odt,osl⟩:=oe
  cases odt<;>exact ⟨rfl,rfl⟩
 have sz0:=(Array.getElem?_eq_some_iff.mp h3).1
 refine ⟨F,N,⟨_,he,by (refine rwE hcls.1 ?_;refine rwE i2 ?_;rfl),λ c hc=>(by rw [hd] at hc;cases hc),by refine rwE hcls.2 ?_;exact i4.imp id λ ⟨d,d1,d2,d3,d4⟩=>⟨d,d1,d2,d3.at λ o ho=>(Heap.get?_update_other _ _ (Ne.symm d2)).trans ho,d4.at λ o ho=>(Heap.get?_update_other _ _ (Ne.symm d2)).trans ho⟩⟩,
  ⟨_,_,v,he,hd,by simp [sz0],by simp [h4],λ dx e=>h5 dx (by refine rwB hcls.2 ?_;exact e)⟩,x.ge,x.le,x.ne⟩
end
@[elab_as_elim] theorem cz {x:Str} {P:PySem.Expr->Prop} {e:PySem.Expr} (h:gv x e=true) (k:∀ p,P (.Name x p)):P e :=
 iN h λ id p h=>rwE (beq_iff_eq.mp h) (k p)
theorem gb {a:Str} {P:Stmt->Prop} {st:Stmt} (h:js a st=true) (k:∀ p q r t,P (.Assign [.Attribute (.Name ("self":Str) p) a q] (.Name a r) t)):P st :=
 xG h λ ts v q h=>j1 h λ t h=>sH h λ o s r h=>b3 h λ h1 h2 h3=>rwE (beq_iff_eq.mp h2) (cz h1 λ p1=>cz h3 λ p2=>k _ _ _ _)
theorem iC {P:Stmt->Prop} {st:Stmt} (h:iP st=true) (k:∀ p1 ap p2 p3 cp p4,ap.endLine=cp.line->P (.Expr (.Call (.Attribute (.Name ("Exception":Str) p1) ("__init__":Str) ap) [.Name ("self":Str) p2,.Name ("what":Str) p3] [] cp) p4)):P st :=
 xH h λ e p4 h=>pO h λ f as ks cp h=>b2 h λ h0 h=>j0 h0 (j2 h λ a b h=>sH h λ o ini ap h=>b5 h λ h1 h2 h3 h4 h5=>rwE (beq_iff_eq.mp h2) (cz h1 λ p1=>cz h3 λ p2=>cz h4 λ p3=>k _ _ _ _ _ _ (of_decide_eq_true h5)))
theorem jh {P:List Stmt->Prop} {b:List Stmt} (h:fh b=true) (k:∀ p1 ap p2 p3 cp p4 p5 p6 p7 p8 p9 p10 p11 p12,ap.endLine=cp.line->P [.Expr (.Call (.Attribute (.Name ("Exception":Str) p1) ("__init__":Str) ap) [.Name ("self":Str) p2,.Name ("what":Str) p3] [] cp) p4,
 .Assign [.Attribute (.Name ("self":Str) p5) ("what":Str) p6] (.Name ("what":Str) p7) p8,.Assign [.Attribute (.Name ("self":Str) p9) ("at":Str) p10] (.Name ("at":Str) p11) p12]):P b :=
 jC h λ x l h=>j2 h λ y z h=>b3 h λ h1 h2 h3=>iC (P:=λ x=>P [x,y,z]) h1 λ p1 ap p2 p3 cp p4 hl=>gb (P:=λ y=>P [_,y,z]) h2 λ p5 p6 p7 p8=>gb (P:=λ z=>P [_,_,z]) h3 λ p9 p10 p11 p12=>k _ _ _ _ _ _ _ _ _ _ _ _ _ _ hl
inductive KPf (K:Frag):Prop
 | mk (nm q:Str) (N:Addr) (bs:List Value) (P:Addr) (sn:List Str) (sub:List Value) (ab:Bool) (col:Option Bool) (dd:Option Addr) (k0 k1 k2 k3 k5:Option Value) (h:K.lookup pfA=some (excClassObj nm q pfA N bs (.ref P::bmE) true sn sub ab col dd k0 k1 k2 k3 k5 "Exception.__new__"))
inductive uM (K:Frag) (f:Addr):Prop
 | mk (od:Option Addr) (osl:Array (Option Value)) (name qual:Str) (params:Arguments) (body:List Stmt) (scope:Scope) (kV doc pm:Value) (ann:Option Addr) (cdv ct:Value) (T:Addr) (oT:Obj) (n:Nat) (tk:Tok)
  (h1:K.lookup f=some ⟨.type "function",od,.func (fnX name qual params body scope [] (.ref T) kV doc pm ann cdv ct),osl⟩) (h2:codeIn K cdv qual=true) (h3:fM params scope=true) (h4:fh body=true) (h5:K.lookup T=some oT) (h6:oT.data=.seq #[.int (-1) tk] n)
inductive KR (G:Gl):Prop
 | mk (cl:KPf G.K) (fI:Addr) (h1:findIn G.K (.ref pfA) "__init__" = some (some (.ref fI))) (h2:findIn G.K (.ref pfA) "__setattr__" = some (some (.builtin "object.__setattr__"))) (h3:findIn G.K (.ref pfA) "what" = some none) (h4:findIn G.K (.ref pfA) "at" = some none)
  (i:uM G.K fI) (h5:nsIn G.K mainGlobals "Exception" = some none) (h6:bootBuiltins "Exception" = some (.type "Exception"))
  (h7:findCls G.K (.type "Exception") (.type "type") "__init__" = some (.val (.builtin "Exception.__init__"))) (h8:nsIn G.K mainGlobals "PaintFault" = some (some (.ref pfA)))
section
set_option backward.match.sparseCases true
theorem gC:typeOf (.type "Exception")=pure (.type "type"):=by show pure _=_;kernel_rfl
theorem gD:Manifest.isStub "Exception" = false:=by decide +kernel
section
variable {c:Cx} {ρ:Rho} {σ:St} {Fz:List (Addr×Obj)} {A:Around} {E:Value->Shared->Prop} {s:Shared} {h:Heap} {m mf:Str->Option Value} {lo Mt Tb Ce led:List (Addr×Obj)}
theorem oU {M:Model} {g:Heap} {L e:Addr} {led:List (Addr×Obj)} {m mA:Str->Option Value} {v:Value} {Q:Value->Shared->Prop} (hM:M=model G.prog G.w) (x:XF g L led e m mA s.heap) {nm q:Str} {N P:Addr} {bs:List Value} {sn:List Str} {sub:List Value} {ab:Bool} {col:Option Bool} {dd:Option Addr} {k0 k1 k2 k3 k5:Option Value}
 (hC:s.heap.get? pfA=some (excClassObj nm q pfA N bs (.ref P::bmE) true sn sub ab col dd k0 k1 k2 k3 k5 "Exception.__new__"))
 (hq:∀ h' tk,XF g L led e m mA h'->(∀ b o,b≠e->s.heap.get? b=some o->h'.get? b=some o)->Q .none { s with heap:=h',toks:=tk }):wpAny M A (PySem.call (.builtin "Exception.__init__") [.ref e,v]) Q E s:=by
 subst hM
 have F:=PySem.F.excBase_Exception
 refine rg (x.o) ?_;intro oe vs a0 h1 h2 h3 h4 h5
 refine lJ (x.I) ?_;intro o i1 i2 i3 i4
 rw [h1] at i1
 cases i1
 obtain ⟨hp,gg,d,t,os⟩:=s
 have hcB:=pS (C:=pfA) (P:=P) "Exception" true F.hasB
 have hshort:=F.noStar
 refine wpAny_call (codeAny_call_builtin F.init.plain F.initEntry ?_)
 have chk:∀ {M:Model} {A:Around} {E:Value->Shared->Prop} {Q:Unit->Shared->Prop},Q () ⟨hp,gg,d,t,os⟩->wpAny M A (checkBuiltinCall "Exception.__init__" ⟨[.ref e,v],[]⟩) Q E ⟨hp,gg,d,t,os⟩:=by
  intro M A E Q hq
  delta checkBuiltinCall
  refine rwE F.initKind ?_
  refine rwE F.initSplit ?_
  refine rwE F.initRow ?_
  repeat (first | (with_reducible refine wpAny_loadPart_at h1 ?_;refine rwE i2 ?_) | with_reducible refine wpAny_loadPart_at hC ?_ | (with_reducible refine wpAny_isSubtype_exc hC ?_;refine rwE hcB ?_) | wp_step)
  exact hq
 refine chk ?_
 delta Builtin.«BaseException.__init__»
 have xg:=x.grow (h':=hp.push { cls:=.type "tuple",data:=.seq #[v] }) λ b o e=>Heap.get?_push_of_some _ e
 have hg:=Heap.get?_push_of_some { cls:=.type "tuple",data:=.seq #[v] } h1
 have fin:=hq ((hp.push { cls:=.type "tuple",data:=.seq #[v] }).update e (Obj.mapFields (·.setIfInBounds 0 (.ref hp.objs.size)))) t xg.args λ b o hb ho=>(Heap.get?_update_other _ _ (Ne.symm hb)).trans (Heap.get?_push_of_some _ ho)
 wp_walk
 refine rwE h2 ?_
 refine wpAny_pure ?_
 refine rwE h3 ?_
 refine wpAny_pure (wpAny_bind (wpAny_setField hg h2 (Array.getElem?_eq_some_iff.mp h3).1 ?_))
 have last:∀ {M:Model} {A:Around} {E:Value->Shared->Prop} {Q:Unit->Shared->Prop} {s:Shared},Q () s->wpAny M A (match a0 with | .ref _=>letGo [a0] | _=>pure ()) Q E s:=by
  intro M A E Q s hq
  induction a0 using Value.casesOn with
  | ref _=>?_
  | _=>exact wpAny_pure hq
  unfold letGo
  refine wpAny_bind (wpAny_holding (wpAny_point ?_))
  unfold letGo
  exact wpAny_pure hq
 exact last (wpAny_pure fin)
end
end
section
variable {c:Cx} {ρ:Rho} {σ:St} {Fz:List (Addr×Obj)} {A:Around} {E:Value->Shared->Prop} {s:Shared} {h:Heap} {m mf:Str->Option Value} {lo Mt Tb Ce led:List (Addr×Obj)}
theorem Au {M:Model} {E:Value->Shared->Prop} {env:Env} {pos p2 p3:Pos} {x y:Str} {v w:Value} {Q:List Value->Shared->Prop} (h1:∀ {Q:Value->Shared->Prop},Q v s->wpAny M A (eval (.Name x p2) env) Q E s) (h2:∀ {Q:Value->Shared->Prop},Q w s->wpAny M A (eval (.Name y p3) env) Q E s)
 (h:Q [v,w] s):wpAny M A (spliced (backTo pos (starEach [.Name x p2,.Name y p3] env))) Q E s:=by
 refine rwE (cV rfl) ?_
 refine spliced_cons (h1 ?_)
 refine rwE (cV rfl) ?_
 refine spliced_cons (h2 ?_)
 exact spliced_nil h
theorem oW (K:KR G) {g:Heap} {L e f:Addr} {led:List (Addr×Obj)} {m:Str->Option Value} {v w:Value} {qual:Str} {params:Arguments} {scope:Scope} {cdv:Value} {body:List Stmt} {Q:Flow->Shared->Prop} {E:Value->Shared->Prop} (Kg:G.K.In g) (T:Top G.p G.loose G.mean G.mg G.mb g) (hb:fh body=true) (hs:fM params scope=true)
 (x:XF g L led e m (λ u'=>none) s.heap) (ms:m ("self":Str)=some (.ref e)) (mw:m ("what":Str)=some v) (ma:m ("at":Str)=some w)
 (hq:∀ s' mA,XF g L led e m mA s'.heap->(s'.gens=s.gens/\s'.os=s.os)->Q .next s'):wpAny (model G.prog G.w) A (PySem.execs body (envX qual scope L f cdv [])) Q E s:=by
 obtain ⟨⟨nm,q,N,bs,P,sn,sub,ab,col,dd,k0,k1,k2,k3,k5,hcls⟩,fI,hinit,hsa,hwhat,hat,-,hns,hboot,hfc,-⟩:=K
 refine jh (P:=λ body=>wpAny (model G.prog G.w) A (PySem.execs body (envX qual scope L f cdv [])) Q E s) hb λ p1 ap p2 p3 cp p4 p5 p6 p7 p8 p9 p10 p11 p12 hline=>?_
 refine b4 hs λ hs hwh hatn hex=>b7 hs λ u' u' hk u' u' u' hself=>?_
 have hk:=beq_iff_eq.mp hk
 have hself:=beq_iff_eq.mp hself
 have hwh:=beq_iff_eq.mp hwh
 have hatn:=beq_iff_eq.mp hatn
 have hex:=beq_iff_eq.mp hex
 have KIn:∀ {h:Heap} {mA},XF g L led e m mA h->G.K.In h:=λ x=>Kg.keeps x.F.keep
 have nS:∀ {s:Shared} {mA:Str->Option Value} {p:Pos} {A:Around} {E:Value->Shared->Prop} {Q:Value->Shared->Prop},XF g L led e m mA s.heap->Q (.ref e) s->wpAny (model G.prog G.w) A (eval (.Name ("self":Str) p) (envX qual scope L f cdv [])) Q E s:=λ x h=>nameX_L x.F ms h hk hself (by decide +kernel)
 have nW:∀ {s:Shared} {mA:Str->Option Value} {p:Pos} {A:Around} {E:Value->Shared->Prop} {Q:Value->Shared->Prop},XF g L led e m mA s.heap->Q v s->wpAny (model G.prog G.w) A (eval (.Name ("what":Str) p) (envX qual scope L f cdv [])) Q E s:=λ x h=>nameX_L x.F mw h hk hwh (by decide +kernel)
 have nA:∀ {s:Shared} {mA:Str->Option Value} {p:Pos} {A:Around} {E:Value->Shared->Prop} {Q:Value->Shared->Prop},XF g L led e m mA s.heap->Q w s->wpAny (model G.prog G.w) A (eval (.Name ("at":Str) p) (envX qual scope L f cdv [])) Q E s:=λ x h=>nameX_L x.F ma h hk hatn (by decide +kernel)
 have str:∀ {s:Shared} {mA:Str->Option Value} {ns:List Str} {a:Str} {u:Value} {p q r t:Pos} {id:Str} {E:Value->Shared->Prop} {Q:Flow->Shared->Prop},XF g L led e m mA s.heap->findIn G.K (.ref pfA) a=some none->Within mA ns->ns.length+1<=sizeLine ->
  (∀ {s:Shared} {mA:Str->Option Value} {p:Pos} {A:Around} {E:Value->Shared->Prop} {Q:Value->Shared->Prop},XF g L led e m mA s.heap->Q u s->wpAny (model G.prog G.w) A (eval (.Name id p) (envX qual scope L f cdv [])) Q E s) ->
  (∀ s':Shared,XF g L led e m (λ y=>if y=a then some u else mA y) s'.heap->(s'.gens=s.gens/\s'.os=s.os)->Q .next s')->wpAny (model G.prog G.w) A (PySem.exec (.Assign [.Attribute (.Name ("self":Str) p) a q] (.Name id r) t) (envX qual scope L f cdv [])) Q E s:=by
  intro s mA ns a u p q r t id E Q x hna hw hsz hid hQ
  refine wpAny_Assign_stores (hid x ?_) rfl rfl
  show wpAny _ _ (assign (.Attribute (.Name ("self":Str) p) a q) (envX qual scope L f cdv []) u) _ _ _
  refine rwE (assign_Attribute ..) ?_
  refine wpAny_bind (wpAny_holding (nS x (wpAny_bind (wpAny_standAt (wpAny_bind (wpAny_holding ?_))))))
  obtain ⟨hp,gg,d,t,os⟩:=s
  refine oS (KIn x) (KIn x _ _ hcls) hsa hna x.I (λ h' tk' S=>?_) hw hsz
  exact wpAny_release (hQ _ (x.store S) ⟨rfl,rfl⟩)
 refine wpAny_execs_cons (wpAny_Expr_any ?_ (by delta interactive;refine rwE (show (envX qual scope L f cdv []).scope.kind=.function from hk) ?_;rfl) rfl)
 refine rwE (arm_eval_Call ..) ?_
 refine wpAny_bind (jA rfl (nameX_B x.F Kg (topRead_of T) hns hboot (by decide +kernel) ?_ hk hex (by decide +kernel)))
 refine wpAny_bind (wpAny_standAt ?_)
 have hform:methodCallForm (2+([]:List Keyword).length) (backTo cp (starEach [.Name ("self":Str) p2,.Name ("what":Str) p3] (envX qual scope L f cdv []))) (backToKw cp (keywordEach [] (envX qual scope L f cdv [])))=true:=nv rfl (by decide)
 delta methodCall
 (refine rwE (show ([.Name ("self":Str) p2,.Name ("what":Str) p3]:List PySem.Expr).length=2 from rfl) ?_;refine rwE hform ?_)
 refine wpAny_bind (wpAny_holding (method_type x.F Kg gC gD hfc (by first | rfl | decide +kernel) ?_))
 have hpos:methodCallPos true (.Name ("Exception":Str) p1) (envX qual scope L f cdv []) ap cp=pure cp:=by
  delta methodCallPos
  refine rwE hline ?_
  simp
 refine rwE hpos ?_
 refine wpAny_bind (wpAny_pure ?_)
 have x1:XF g L led e m (λ u'=>none) ({ s with toks:=s.toks+1 }:Shared).heap:=x
 refine callWith_of (P:=λ u'=>True) rfl (λ h' u'=>⟨.machine,.inr (.inl rfl),Looks.of_pure rfl⟩) (gS rfl (Au (nS x1) (nW x1) ⟨trivial,?_⟩))
 refine oU rfl x1 (KIn x1 _ _ hcls) λ h' tk x2 u'=>?_
 refine wpAny_execs_cons (str (s:={ s with heap:=h',toks:=tk }) x2 hwhat Within.nil (by decide +kernel) nW λ s₂ x3 g3=>?_)
 refine wpAny_execs_cons (str x3 hat (Within.cons _ _ Within.nil) (by decide +kernel) nA λ s₃ x4 g4=>?_)
 exact wpAny_execs_nil (hq _ _ x4 ⟨g4.1.trans g3.1,g4.2.trans g3.2⟩)
end
section
variable {c:Cx} {ρ:Rho} {σ:St} {Fz:List (Addr×Obj)} {A:Around} {E:Value->Shared->Prop} {s:Shared} {m mf:Str->Option Value} {lo Mt Tb Ce led:List (Addr×Obj)}
theorem qz (K:KR G) (C:COK G c) (hA:A.frames=some (c.fenv::c.outer)) (hd:A.depth<=900) (F:Fr c.g c.L s.heap mf) (N:News c.g c.L s.heap led) {v:Value} {Q:Value->Shared->Prop}
 (hq:∀ s' e oe vs a0,Fr c.g c.L s'.heap mf->News c.g c.L s'.heap ((e,oe)::led)->(∀ p∈led,p.1≠e)->oe.cls=.ref pfA->oe.data=.fields vs->vs[0]?=some a0->vs[1]?=some .none->(s'.gens=s.gens/\s'.os=s.os)->Q (.ref e) s') :
 wpAny (model G.prog G.w) A (PySem.call (.ref pfA) [v]) Q E s:=by
 have K0:=K
 obtain ⟨⟨nm,q,N',bs,P,sn,sub,ab,col,dd,k0,k1,k2,k3,k5,hcls⟩,fI,hinit,-,-,-,⟨od,osl,name,qual,params,body,scope,kV,doc,pm,an,cdv,ct,T,oT,n,tk,hfn,hcode,hsc,hbd,hT,hTd⟩,-,-,-,-⟩:=K
 have hsc0:=hsc
 refine b4 hsc λ hsc hwh hatn u'=>b7 hsc λ hpos hnames hk hgen hco hcell hself=>?_
 have hnames:=of_decide_eq_true hnames
 have hk:=beq_iff_eq.mp hk
 have hgen:=nf hgen
 have hco:=nf hco
 have hself:=beq_iff_eq.mp hself
 have hwh:=beq_iff_eq.mp hwh
 have hatn:=beq_iff_eq.mp hatn
 have Kin:=C.X.keeps F.keep
 refine ao (C.B) ?_;intro A₀ B
 obtain ⟨h,gg,d,t,os⟩:=s
 refine qy Kin (Kin _ _ hcls) hinit (Kin _ _ hfn) rfl (λ h' e hm=>?_) (show 1<=sizeLine by decide +kernel)
 refine cu (hm.there) ?_;intro t0 he z2 z3;obtain -:=z2;obtain -:=z3
 have F₁:Fr c.g c.L h' mf:=F.keeps hm.keeps
 have ne:∀ p∈led,p.1≠e:=λ p hp r=>by have:=(N p hp).1;rw [r,hm.new] at this;exact J this
 have N₁:News c.g c.L h' ((e,{ cls:=.ref pfA,data:=.fields #[.ref t0,.none,.none,.none,.bool false,.none] })::led):=λ p hp=>by
  rcases List.mem_cons.mp hp with rfl | hp
  ·refine ⟨he,λ r=>?_,?_⟩
   ·refine sD (F.ns) ?_;intro oL z1 z2 hL z4
    dsimp only at r
    rw [← r,hm.new] at hL;exact J hL
   ·induction r:c.g.get? e using Option.casesOn with
    | none=>rfl
    | some o=>have:=F.keep _ _ r;rw [hm.new] at this;exact J this
  ·exact ⟨hm.keeps _ _ (N p hp).1,(N p hp).2⟩
 have hP:([("self":Str),("what":Str),("at":Str)]:List Str).Nodup:=by decide +kernel
 have hl3:params.args.length=3:=by have:=congrArg List.length hnames;simpa using this
 have Kin':G.K.In h':=Kin.keeps hm.keeps
 have hbind:BindsTo ({ heap:=h',gens:=gg,drawn:=d,toks:=t,os:=os }:Shared) (fnX name qual params body scope [] (.ref T) kV doc pm an cdv ct) ⟨[.ref e,v],[]⟩ ([("self":Str),("what":Str),("at":Str)].zip [.ref e,v,.int (-1) tk]):=by
  refine au (fq (fd:=fnX name qual params body scope [] (.ref T) kV doc pm an cdv ct) (vs:=[.ref e,v]) hpos (by refine rwE hnames ?_;exact hP) (by refine rwE hl3 ?_;exact (by decide:2<=3))) ?_;intro kk hk1 hk2
  refine BindsTo.of_defaults rfl (Kin' _ _ hT) hTd hk1 ?_
  refine rwE (hk2 (some _) (by refine rwE hl3 ?_;exact (by decide:1<=3)) (by refine rwE hl3 ?_;exact (by decide:3 - 2<=1))) ?_
  delta j6
  refine rwE hnames ?_
  rfl
 refine wpAny_call (callX_plain B F₁ N₁ C.T.nolimit hA C.hf C.hke (Kin' _ _ hfn) rfl (codeRec_of Kin' hcode) (by show A.depth+1<1000;omega) hbind (λ y hy=>?_) (λ g L' h₁ FG F₂ N₂ BG st lt=>?_) (λ x hx e=>?_) hco hgen hk)
 ·rcases List.mem_cons.mp hy with rfl | hy
  ·exact hself
  ·rcases List.mem_cons.mp hy with rfl | hy
   ·exact hwh
   ·rcases List.mem_cons.mp hy with rfl | hy
    ·exact hatn
    ·cases hy
 ·have x:XF g L' led e (λ y=>([("self":Str),("what":Str),("at":Str)].zip [.ref e,v,.int (-1) tk]).reverse.lookup y) (λ u'=>none) h₁:=by
   have e2:=N₂ _ (.head _)
   exact ⟨F₂,λ p hp=>N₂ p (.tail _ hp),⟨_,e2.1,rfl,λ c hc=>(by cases hc),.inl ⟨rfl,λ u'=>rfl⟩⟩,⟨_,_,_,e2.1,rfl,rfl,rfl,λ dx hd=>(by exact J hd)⟩,e2.2.2,e2.2.1,ne⟩
  refine wpAny_mono (oW K0 (C.X.keeps st) (C.T.keeps st) hbd hsc0 x (bz hP (.head _)) (bz hP (.tail _ (.head _))) (bz hP (.tail _ (.tail _ (.head _)))) (E:=λ u' u'=>False) (Q:=λ f s'=>f=.next/\(∃ mA,XF g L' led e _ mA s'.heap)/\s'.gens=gg/\s'.os=os) λ s' mA x' g'=>⟨rfl,⟨mA,x'⟩,g'⟩) (λ f s' hf=>?_) (λ u' u' x=>x.elim)
  refine bq hf ?_;clear hf;intro z0 z1 g';obtain rfl:=z0;refine ao z1 ?_;clear z1;intro mA x'
  refine rg (x'.o) ?_;intro oe vs a0 h1 h2 h3 h4 z7;obtain -:=z7
  refine cu (x'.I) ?_;intro oe' i1 i2 z3;obtain -:=z3
  rw [h1] at i1
  cases i1
  refine leaveK_ x'.F (news':=(e,oe)::led) (λ p hp=>?_) λ F₃ N₃=>?_
  ·rcases List.mem_cons.mp hp with rfl | hp
   ·exact ⟨h1,x'.le,x'.ge⟩
   ·exact x'.N p hp
  ·exact ⟨rfl,hq s' e oe vs a0 F₃ N₃ ne i2 h2 h3 h4 g'⟩
 ·have:=List.all_eq_true.mp hcell x hx
  rw [e] at this;simp at this
theorem i0 {M:Model} {env:Env} {x:Sem Value} {Q:Flow->Shared->Prop} (hh:A.handled=none) {nm q:Str} {N P:Addr} {bs:List Value} {sn:List Str} {sub:List Value} {ab:Bool} {col:Option Bool} {dd:Option Addr} {k0 k1 k2 k3 k5:Option Value}
 (h:wpAny M A x (λ v s₁=>∃ e oe vs,v=.ref e/\s₁.heap.get? pfA=some (excClassObj nm q pfA N bs (.ref P::bmE) true sn sub ab col dd k0 k1 k2 k3 k5 "Exception.__new__")/\s₁.heap.get? e=some oe/\oe.cls=.ref pfA/\oe.data=.fields vs/\vs[1]?=some .none/\E (.ref e) s₁) E s) :
 wpAny M A (raiseStmt env (some x) none) Q E s:=by
 have hcB:=pS (C:=pfA) (P:=P) "BaseException" true (by decide +kernel)
 delta raiseStmt
 refine wpAny_bind (wpAny_mono h (λ v s₁ h₁=>?_) λ u' u' x=>x)
 refine zU h₁ ?_;clear h₁;intro e oe vs z3 hC he hcls hd h1 hE;obtain rfl:=z3
 obtain ⟨hp,g,d,tk,os⟩:=s₁
 repeat (first | (with_reducible refine wpAny_loadPart_at he ?_;refine rwE hcls ?_) | with_reducible refine wpAny_loadPart_at hC ?_ | (with_reducible refine wpAny_isSubtype_exc hC ?_;refine rwE hcB ?_) | wp_step)
 refine rwE hd ?_
 refine wpAny_pure ?_
 refine rwE h1 ?_
 refine wpAny_pure ?_
 refine rwE (if_neg (show ¬ (((Value.none:Value) != .none)=true) from by simp)) ?_
 exact wpAny_pure (wpAny_raiseNew_none hh hE)
theorem lk (K:KR G) {call:ah} {n:Nat} (e:Mine.Internal.E) (he:SE G call n e):SSt G call n (.raise 12 e):=by
 intro st' c A ρ σ Fz s N R X E C HA hm hT S HX h ev
 refine og (P:=λ st'=>wpAny (model G.prog G.w) A (PySem.exec st' c.env) (PF G c Fz N R) E s) (λ e' np cp pos h2 h3 h4=>?_) h
 have K0:=K
 obtain ⟨⟨nm,q,N',bs,P,sn,sub',ab,col,dd,k0,k1,k2,k3,k5,hcls⟩,-,-,-,-,-,-,-,-,-,hpf⟩:=K
 obtain ⟨-,ev⟩:_/\evE tb call e ρ σ (λ v σ=>match v with | .str _=>X σ | .msg _=>X σ | _=>False) X:=ev
 have pl:([e']:List PySem.Expr).all av=true:=by (refine rwE List.all_cons ?_;refine rwE h3 ?_);rfl
 have fin:wpAny (model G.prog G.w) A (PySem.eval (.Call (.Name ("PaintFault":Str) np) [e'] [] cp) c.env) (λ v s₁=>∃ e oe vs,v=.ref e/\s₁.heap.get? pfA=some (excClassObj nm q pfA N' bs (.ref P::bmE) true sn sub' ab col dd k0 k1 k2 k3 k5 "Exception.__new__")/\s₁.heap.get? e=some oe/\oe.cls=.ref pfA/\oe.data=.fields vs/\vs[1]?=some .none/\E (.ref e) s₁) E s:=by
  have S0:=S
  obtain ⟨g0,m,mf,lo,Mt,Tb,Ce,led,S⟩:=S
  refine rwE (arm_eval_Call_Name' ..) ?_
  refine wpAny_bind (Name_function_global C.ek h2 (loadGlobal_global (env:=c.env) (by refine rwE C.eg ?_;exact C.T.g.keeps S.F.keep) (mg_of C.X C.T.g hpf) ?_) (by decide +kernel))
  refine callWith_of (P:=G.K.In) (by refine rwE (cy pl) ?_;rfl) (λ h' X'=>⟨.machine,.inr (.inl rfl),?_⟩) (gS pl ?_)
  ·intro A Q E s k hq
   obtain ⟨hp,g,d,t,os⟩:=s
   exact wpAny_keeperOf_exc (k _ _ (X' _ _ hcls)) hq
  ·refine rwE (cV h3) ?_
   refine spliced_cons (wpAny_mono (he e' c A ρ σ Fz s _ X E C HA S0 (HX ρ) h4 ev) (λ v s₁ hv=>?_) λ u' u' x=>x)
   refine spliced_nil ?_
   obtain ⟨V,σ₁,Fz₁,sb,hV,⟨g1,m1,mf1,lo1,Mt1,Tb1,Ce1,led1,S₁⟩,hq⟩:=hv
   refine ⟨S₁.kin C,?_⟩
   have hX:X σ₁:=by
    clear hV
    induction V using Mine.Internal.V.casesOn with
    | str _=>exact hq
    | msg _=>exact hq
    | _=>exact hq.elim
   have dp:=HA.dp
   refine qz K0 C HA.fr (by omega) S₁.F S₁.N λ s' e oe vs a0 F' N' ne q1 q2 q3 q4 g'=>?_
   have he:=N' _ (.head _)
   refine ⟨e,oe,vs,rfl,(C.X.keeps F'.keep) _ _ hcls,he.1,q1,q2,q4,HX ρ _ _ ?_⟩
   refine ao (C.B) ?_;intro A₀ B
   have B':=pushX B F' C.hf C.hke
   have hin:∀ env∈c.fenv::c.outer,∀ b,env.frame=some b->b∈e::(c.fenv::c.outer).filterMap (·.frame):=λ env he b hb=>.tail _ (List.mem_filterMap.mpr ⟨env,he,hb⟩)
   refine ⟨e,σ₁,Fz₁,rfl,⟨⟨g'.1.trans g1.1,g'.2.trans g1.2⟩,s'.heap,hideAll s'.heap (e::(c.fenv::c.outer).filterMap (·.frame)),m1,mf1,lo1,Mt1,Tb1,Ce1,led1,F',Heap.UpToSlots.refl _,λ b o q=>hideAll_get _ (B'.stays b o q) λ hm'=>?_,λ p hp=>⟨hideAll_get _ (N' p (.tail _ hp)).1 λ hm'=>?_,fresh_of_stays B.stays (N' p (.tail _ hp)).2.2⟩,S₁.nd,S₁.pm,S₁.loc,S₁.mt,S₁.tbr,S₁.er,S₁.ce,S₁.fk,
    .fresh (λ b o q=>of_hideAll _ q) (hideAll_none _ (.head _)) (funFrames_hide B'.frames hin) he.1 q1 q2 q3 q4⟩,hX⟩
   ·rcases List.mem_cons.mp hm' with r | r
    ·have:=B.stays b o q
     rw [r,he.2.2] at this;exact J this
    ·rw [(B'.frames.mem r).1] at q;exact J q
   ·rcases List.mem_cons.mp hm' with r | r
    ·exact ne p hp r
    ·refine au (List.mem_filterMap.mp r) ?_;intro env henv hf
     rcases List.mem_cons.mp henv with rfl | henv
     ·rw [C.hf] at hf
      exact (N' p (.tail _ hp)).2.1 (Option.some.inj hf).symm
     ·refine au (B.frames.mem (List.mem_filterMap.mpr ⟨env,henv,hf⟩)).2 ?_;intro o ho z2
      rw [(N' p (.tail _ hp)).2.2] at ho;exact J ho
 refine rwE (arm_exec_Raise ..) ?_
 first
  | exact wpAny_bind (wpAny_standAt (i0 HA.ha (wpAny_bind (wpAny_mono fin (λ v s₃ h₃=>wpAny_bind (wpAny_standAt (wpAny_pure h₃))) λ u' u' x=>x))))
  | (simp only [evalOpt,Option.map];exact wpAny_bind (wpAny_standAt (i0 HA.ha (wpAny_bind (wpAny_mono fin (λ v s₃ h₃=>wpAny_bind (wpAny_standAt (wpAny_pure h₃))) λ u' u' x=>x)))))
end
structure uN (G:Gl):Prop where
 k:KOK G
 x:KX G
 r:KR G
 f:sz G
 m:uL G
 l:j8 G
section
theorem ig (H:uN G):∀ d,c8 G (U tb d) d/\gn G (U tb d) d
 | 0=>⟨oQ,qv⟩
 | d+1=>by
  refine al (ig H d) ?_;intro h1 h2
  have hL:=rJ H.l
  have hE:=λ e=>(sET H.k h1 h2 hL e).1
  have hS:=λ sts=>sSs H.k H.x h1 h2 hL (λ e he=>lk H.r e he) sts
  exact ⟨oR H.f H.l hS hE,qw H.f H.m hS⟩
theorem tA (H:uN G) (d:Nat) (sts:List Mine.Internal.S):SSs G (U tb d) d sts :=
 sSs H.k H.x (ig H d).1 (ig H d).2 (rJ H.l) (λ e he=>lk H.r e he) sts
end
section
variable {K:Frag} {x0:Addr×Obj} {P:Params} {Fz:List (Addr×Obj)}
theorem ln {v:V} {x:Value} (h:pA K v x=true):VR P (Hf (K,x0) Fz) v x:=by
 induction v using Mine.Internal.V.casesOn with
 | none=>exact beq_iff_eq.mp h
 | bool b=>exact beq_iff_eq.mp h
 | int i=>exact zp h λ a t h=>rwE (of_decide_eq_true h) ⟨_,rfl⟩
 | str k=>exact Al h λ a t h=>rwE (beq_iff_eq.mp h) ⟨_,rfl⟩
 | fn k=>exact b3 h λ h1 h2 h3=>⟨beq_iff_eq.mp h1,h2,of_decide_eq_true h3⟩
 | cls k=>exact b2 h λ h1 h2=>⟨beq_iff_eq.mp h1,h2⟩
 | _=>exact ad h
theorem oX {l:List V}:∀ {xs:List Value},mM K l xs=true->VRs P (Hf (K,x0) Fz) l xs:=by
 induction l with
 | nil=>intro xs h;exact j0 h rfl
 | cons v r ih=>intro xs h;exact jC h λ x s h=>b2 h λ h1 h2=>⟨x,s,rfl,ln h1,ih h2⟩
theorem nH {v:V} {x:Value} (h:us K v x=true):VR P (Hf (K,x0) Fz) v x:=by
 have k:pA K v x=true->VR P (Hf (K,x0) Fz) v x:=ln
 induction v using Mine.Internal.V.casesOn with
 | tup l=>exact ru h λ a h=>xN h λ c e d n sl he h=>b3 h λ h1 h2 h3=>⟨a,_,d,n,rfl,.inl (.inl he),beq_iff_eq.mp h1,rfl,oX h2,of_decide_eq_true h3⟩
 | _=>exact k h
theorem qA {l:List V}:∀ {xs:List Value},sv K l xs=true->VRs P (Hf (K,x0) Fz) l xs:=by
 induction l with
 | nil=>intro xs h;exact j0 h rfl
 | cons v r ih=>intro xs h;exact jC h λ x s h=>b2 h λ h1 h2=>⟨x,s,rfl,nH h1,ih h2⟩
end
section
variable {K:Frag}
theorem rK {c:Nat} {ci:kL} (h:tb.clss c=some ci):c<11:=(List.getElem?_eq_some_iff.mp h).1
theorem tB (h:kM K=true) {c:Nat} {ci:kL} (hc:tb.clss c=some ci):xO K c ci=true:=by
 have:=List.all_eq_true.mp h c (List.mem_range.mpr (rK hc))
 rw [hc] at this
 exact this
structure zL (K:Frag) (c:Nat) (ci:kL):Prop where
 pg:plainGet K (ca c) Str.empty=true
 hd:hasDictIn K (ca c)=true
 fld:∀ x∈pM.getD c [],findIn K (.ref (ca c)) (nm x)=some none/\takerIn K (ca c) (nm x)=some none
 me:∀ p∈ci.meths,findIn K (.ref (ca c)) (nm p.1)=some (some (.ref (fa p.2)))/\isFn K (.ref (fa p.2))=true/\(tb.fns p.2).isSome=true/\p.2<79
 sa:findIn K (.ref (ca c)) "__setattr__" = some (some (.builtin "object.__setattr__"))
 po:plainOver K (ca c)=true
 bt:∀ T∈["int", "bool", "str", "list", "dict", "tuple", "NoneType"],isNotIn K T (ca c)=true
 cc:∀ k<11,if ci.bases.contains k then isIn K (.ref (ca c)) (ca k)=true else kin_not K (ca c) (ca k)=true
 ct:∀ T∈["int", "bool", "str", "list", "dict", "tuple"],kin_notT K (ca c) T=true
 cl:findIn K (.ref (ca c)) "__class__" = some (some (.builtin "object.__class__"))
 mr:mroIn K (ca c) (.type "object")=some true
 kp:keepIn K (.ref (ca c))=true
 ini:(tb.fns ci.init).isSome=true->ci.init<79/\makesIn K (ca c)=true/\findIn K (.ref (ca c)) "__init__" = some (some (.ref (fa ci.init)))/\typeIn K (.ref (fa ci.init))=some (.type "function")
theorem mj {c:Nat} {ci:kL} (h:xO K c ci=true):zL K c ci:=by
 refine b6 h λ h h9 h10 h11 h12 h13=>b8 h λ h1 h2 h3 h4 h5 h6 h7 h8=>?_
 refine ⟨h1,h2,λ x hx=>b2 (List.all_eq_true.mp h3 x hx) λ a b=>⟨beq_iff_eq.mp a,beq_iff_eq.mp b⟩,λ p hp=>b4 (List.all_eq_true.mp h4 p hp) λ a b c d=>⟨beq_iff_eq.mp a,b,c,of_decide_eq_true d⟩,beq_iff_eq.mp h5,h6,List.all_eq_true.mp h7,λ k hk=>?_,List.all_eq_true.mp h9,beq_iff_eq.mp h10,beq_iff_eq.mp h11,h12,λ hi=>(orB h13).elim (λ h=>by rw [hi] at h;exact ad h) λ h=>b4 h λ a b c d=>⟨of_decide_eq_true a,b,beq_iff_eq.mp c,beq_iff_eq.mp d⟩⟩
 have this:=List.all_eq_true.mp h8 k (List.mem_range.mpr hk)
 by_cases q:ci.bases.contains k=true
 ·rw [if_pos q] at this;refine rwE (if_pos q) ?_;exact this
 ·rw [if_neg q] at this;refine rwE (if_neg q) ?_;exact this
theorem qB {P:Params} {x0:Addr×Obj} {l:List V} {v:Value} (h:uv K l v=true):(v=.none/\l=[])\/∃ T o items n,v=.ref T/\K.lookup T=some o/\o.data=.seq items n/\∀ Fz,VRs P (Hf (K,x0) Fz) l items.toList:=by
 rcases orB h with h | h
 ·exact .inl (b2 h λ h1 h2=>⟨beq_iff_eq.mp h1,List.isEmpty_iff.mp h2⟩)
 ·exact .inr (ru h λ T h=>xN h λ c e d n sl he h=>⟨T,_,d,n,rfl,he,rfl,λ Fz=>qA h⟩)
theorem vY {k:Nat} {fi:FnI} (h:fnB G.K G.tabs G.tq k fi=true):xU G k fi:=by
 refine zt h λ oc od d osl he h=>?_
 obtain ⟨name,qual,params,bd,scope,gl,cl,dV,kV,doc,pm,an,cdv,ct,bu⟩:=d
 revert he
 refine zr (x:=bd) h λ body h=>b6 h λ x1 x2 x3 x4 x5 x6 he=>?_
 rw [show gl=mainGlobals from beq_iff_eq.mp x2,show bu=builtinsNs from beq_iff_eq.mp x3,show cl=[] from List.isEmpty_iff.mp x1] at he
 refine ⟨oc,od,osl,name,qual,params,body,scope,dV,kV,doc,pm,an,cdv,ct,he,x4,x5,qB x6⟩
end
noncomputable def uO:V->Bool
 | .dct _=>true
 | _=>false
noncomputable def rL:List (Nat×V):=[(56,.str 254),(283,.str 254),(284,.str 254),(52,.str 254),(285,.str 253),(286,.str 253),(287,.str 253)]
theorem qC:lQ.filter (λ p=>uO p.2)=[(257,.dct rL)]:=rfl
theorem qD {K:Frag} {x0:Addr×Obj} {P:Params} {a:Addr} (h:fD K P a) {Fz:List (Addr×Obj)}:VR P (Hf (K,x0) Fz) (.dct rL) (.ref a):=by
 refine bq h ?_;clear h;intro z0 h2 h3
 refine ⟨a,_,_,rfl,.inl (.inl h3),?_,(by decide),(by decide),h2⟩
 exact ⟨_,_,_,rfl,⟨_,rfl⟩,_,_,_,rfl,⟨_,rfl⟩,_,_,_,rfl,⟨_,rfl⟩,_,_,_,rfl,⟨_,rfl⟩,_,_,_,rfl,⟨_,rfl⟩,_,_,_,rfl,⟨_,rfl⟩,_,_,_,rfl,⟨_,rfl⟩,rfl⟩
theorem qE {K:Frag} {P:Params} {x:Nat} {v:V} (h:(onO (nsIn K mainGlobals (nm x)) λ y=>onO y λ w=>us K v w)=true):∃ y,nsIn K mainGlobals (nm x)=some (some y)/\∀ (x0:Addr×Obj) Fz,VR P (Hf (K,x0) Fz) v y:=by
 revert h
 induction nsIn K mainGlobals (nm x) using Option.casesOn with
 | none=>exact λ h=>ad h
 | some y=>exact λ h=>jO (P:=λ y=>∃ z,some y=some (some z)/\∀ (x0:Addr×Obj) Fz,VR P (Hf (K,x0) Fz) v z) h λ z h=>⟨z,rfl,λ u' u'=>nH h⟩
theorem qF {K:Frag} {P:Params} {a:Addr} (h:uu K=true) (hF:fD K P a):KG K P:=by
 intro x v hx
 have hm:(x,v)∈lQ:=j7 hx
 have hb:ut K x v=true:=List.all_eq_true.mp h _ hm
 have k:=λ h=>Or.inl (b:=∃ b,v=.bi b/\nsIn K mainGlobals (nm x)=some none/\bootBuiltins (nm x)=some (d5 b)/\nm x≠("__name__":Str)) (qE (P:=P) (v:=v) (x:=x) (K:=K) h)
 induction v using Mine.Internal.V.casesOn with
 | bi b=>exact .inr (b3 hb λ h1 h2 h3=>⟨b,rfl,beq_iff_eq.mp h1,beq_iff_eq.mp h2,beq_eq_false_iff_ne.mp (lR h3)⟩)
 | dct l =>
  have:(x,V.dct l)∈lQ.filter (λ p=>uO p.2):=List.mem_filter.mpr ⟨hm,rfl⟩
  rw [qC,List.mem_singleton] at this
  cases this
  exact .inl ⟨_,hF.1,λ x0 Fz=>qD hF⟩
 | _=>exact k hb
@[elab_as_elim] theorem oY {P:List (Option Value)->Prop} {l:List (Option Value)} (h:uw l=true) (k:∀ k0 k1 k2 k3 k5,P [k0,k1,k2,k3,some (.builtin "Exception.__new__"),k5]):P l :=
 jC h λ a l h=>jC h λ b l h=>jC h λ c l h=>jC h λ d l h=>jC h λ e l h=>j1 h λ f h=>rwE (beq_iff_eq.mp h) (k a b c d f)
@[elab_as_elim] theorem qG {P:List Value->Prop} {l:List Value} (h:zv l=true) (k:∀ A,P (.ref pfA::.ref A::bmE)):P l :=
 jC h λ a l h=>jC h λ b l h=>jC h λ c l h=>jC h λ d l h=>j1 h λ e h=>b5 h λ h1 h2 h3 h4 h5=>rwE (beq_iff_eq.mp h1) (rwE (beq_iff_eq.mp h2) (rwE (beq_iff_eq.mp h3) (rwE (beq_iff_eq.mp h4) (ru h5 λ A h=>k A))))
theorem qH {K:Frag} (h:zw K=true):KPf K:=by
 refine Am h λ oc od d osl he h=>?_
 obtain ⟨nm,bs,mro,ns,q,hdct,sn,sub,ab,col,hdel⟩:=d
 obtain ⟨l⟩:=osl
 revert he
 refine b5 h λ x1 x2 x3 x4 x5=>?_
 rw [show oc=.type "type" from beq_iff_eq.mp x1,show hdct=true from x2,show hdel=false from lR x3]
 exact qG (l:=mro) x4 λ P=>oY (l:=l) x5 λ k0 k1 k2 k3 k5 he=>⟨_,_,_,_,_,_,_,_,_,_,_,_,_,_,_,he⟩
theorem oZ {K:Frag} {f:Addr} (h:ux K f=true):uM K f:=by
 refine zt h λ oc od d osl he h=>?_
 obtain ⟨name,qual,params,bd,scope,gl,cl,dV,kV,doc,pm,an,cdv,ct,bu⟩:=d
 revert he
 refine zr (x:=bd) h λ body h=>ru (x:=dV) h λ T h=>b8 h λ x1 x2 x3 x4 x5 x6 x7 x8=>?_
 rw [show oc=.type "function" from beq_iff_eq.mp x1,show gl=mainGlobals from beq_iff_eq.mp x3,show bu=builtinsNs from beq_iff_eq.mp x4,show cl=[] from List.isEmpty_iff.mp x2]
 refine λ he=>xN x8 λ c e xs n sl e1 h=>?_
 obtain ⟨l⟩:=xs
 revert e1
 refine j1 (l:=l) h λ v h=>zp h λ i t h=>?_
 rw [of_decide_eq_true h]
 exact λ e1=>⟨_,_,_,_,_,_,_,_,_,_,_,_,_,T,_,n,t,he,x5,x6,x7,e1,rfl⟩
theorem tC {x:Option CFound} (h:eiB x=true):x=some (.val (.builtin "Exception.__init__")) :=
 jO (P:=λ x=>x=some (.val (.builtin "Exception.__init__"))) h λ y h=>by
  induction y using CFound.casesOn with
  | val v=>exact congrArg (λ v=>some (CFound.val v)) (beq_iff_eq.mp h)
  | get _ _ _ _=>exact ad h
theorem tD {a:Addr} (h:sw G.K G.tabs G.tq=true) (hF:fD G.K G.w.params a):uN G:=by
 refine b6 h λ h1 h2 h3 h4 h5 h6=>b2 h3 λ h3 r9=>b8 h3 λ r1 r2 r3 r4 r5 r6 r7 r8=>?_
 have r3:=beq_iff_eq.mp r3
 have r4:=beq_iff_eq.mp r4
 have r5:=beq_iff_eq.mp r5
 have r6:=beq_iff_eq.mp r6
 have r7:=beq_iff_eq.mp r7
 have r8:=beq_iff_eq.mp r8
 have h4:=And.intro (beq_iff_eq.mp (an2 h4).1) (beq_iff_eq.mp (an2 h4).2)
 have hc:∀ {c ci},tb.clss c=some ci->zL G.K c ci:=λ h=>mj (tB h1 h)
 have hfn:∀ {k fi},tb.fns k=some fi->k<79->fnB G.K G.tabs G.tq k fi=true/\keepIn G.K (.ref (fa k))=true:=λ {k fi} hk hl=>by
  have:=List.all_eq_true.mp h2 k (List.mem_range.mpr hl)
  rw [hk] at this
  exact an2 this
 have hpf:=qH r1
 have hKR:KR G:=An r2 λ f hf r2=>⟨hpf,f,hf,r3,r4,r5,oZ r2,r6,r7,tC r9,r8⟩
 obtain ⟨nm0,q,N,bs,P,sn,sub,ab,col,dd,k0,k1,k2,k3,k5,hcls⟩:=hpf
 refine ⟨⟨λ c ci h=>⟨λ n=>(hc h).pg,(hc h).hd,λ x hx=>(hc h).fld x (List.contains_iff_mem.mp hx),λ m k hm=>?_,(hc h).sa,(hc h).po⟩,⟨λ c ci h=>(hc h).bt,λ c ci h k cj hk=>(hc h).cc k (rK hk),λ c ci h=>(hc h).ct,λ c ci h=>⟨(hc h).cl,(hc h).mr⟩,h4.1,h4.2⟩,qF h6 hF,λ k hk hl=>?_,λ c ci h m k hm=>?_,λ k hk=>?_⟩,
  ⟨r8,⟨_,_,_,_,_,_,_,_,_,_,_,_,_,_,_,_,_,hcls,rfl⟩⟩,hKR,λ k fi hk hl=>vY (hfn hk hl).1,λ k ci hk hi=>(hc hk).ini hi,λ p hp=>?_⟩
 ·have:=(hc h).me _ (aq hm)
  exact ⟨this.1,this.2.1⟩
 ·refine ao (Option.isSome_iff_exists.mp hk) ?_;intro fi hfi
  exact (hfn hfi hl).2
 ·have:=(hc h).me _ (aq hm)
  exact ⟨this.2.2.1,this.2.2.2⟩
 ·refine ao (Option.isSome_iff_exists.mp hk) ?_;intro ci hci
  exact (hc hci).kp
 ·have:=List.all_eq_true.mp h5 p hp
  have this:=an3 this
  exact ⟨this.1.1,Nat.ble_eq.mp this.1.2,Nat.ble_eq.mp this.2⟩
theorem tE {P:Params} {H:Hp} {vs:List Value} {ns:List Int} (h:IntsAre vs ns):VRs P H (ns.map .int) vs:=by
 induction h with
 | nil=>rfl
 | cons n t h ih=>exact ⟨_,_,rfl,⟨t,rfl⟩,ih⟩
theorem vZ:fE G:=by
 intro gh h₁ L f m qual scope body cdv oP vs ns n d tk Q E plain ht hK hF hB hm hs hcl hoP X T B F N hl1 hl2 hl3 hi hlen hlt hQ
 have G0:uN G:=tD hK hF
 refine b6 hB λ b1 b2 b3 b4 b5 b6=>?_
 have b2:=nf b2
 have b3:=nf b3
 have b5:=of_decide_eq_true b5
 have b1:scope.kind=.function:=beq_iff_eq.mp b1
 have C:COK G ⟨envOfC qual scope L f cdv,envOfC qual scope L f cdv,[],gh,gh,L,[],none,[]⟩ :=
  ⟨X,T,hl1,rfl,b1,rfl,b1,rfl,rfl,⟨_,B⟩,λ u'=>rfl,λ h=>(by exact ad h),λ u' u'=>(lb _ _).1,λ u'=>rfl,λ x hx=>by
   rcases hx with hx | hx
   ·exact cr _ _ _ (.inl hx) b5
   ·have:=List.all_eq_true.mp b6 _ (aq hx)
    simp at this⟩
 have HA:AOK ⟨envOfC qual scope L f cdv,envOfC qual scope L f cdv,[],gh,gh,L,[],none,[]⟩ (callerA.deeper (envOfC qual scope L f cdv)) 40 :=
  ⟨Around.frames_deeper B.stack,rfl,by show callerA.depth+1+_<=_;decide,by show callerA.units+3+_<=_;decide⟩
 have n275:nm 275=("script":Str):=by kernel_rfl
 have S:SRp G ⟨envOfC qual scope L f cdv,envOfC qual scope L f cdv,[],gh,gh,L,[],none,[]⟩ (λ x=>if x=275 then some (.lst (ns.map .int)) else none) [] [] h₁ m m [] [] [(582,tabObj #[]),(575,tabObj #[])] [(L+1,oP)] [(L+1,oP),(582,tabObj #[]),(575,tabObj #[])]:=by
  refine ⟨F,N,?_,?_,⟨rfl,rfl⟩,rfl,⟨by refine rwE ht ?_;rfl,λ q hq=>?_⟩,λ x V hx=>?_,⟨λ h=>(by exact ad h),λ u' x hx hk=>?_⟩,sub.refl⟩
  ·refine al hlt ?_;clear hlt;intro l1 l2
   have e1:L+1≠582:=λ e=>absurd l1 (by refine rwB e ?_;exact Nat.not_lt.mpr (Nat.le_succ _))
   have e2:L+1≠575:=λ e=>absurd l2 (by refine rwB e ?_;exact Nat.not_lt.mpr (Nat.le_succ _))
   refine rwE List.map_cons ?_;rewrite [List.nodup_cons]
   refine ⟨λ h=>?_,by decide⟩
   rcases List.mem_cons.mp h with h | h
   ·exact e1 h
   ·rcases List.mem_cons.mp h with h | h
    ·exact e2 h
    ·cases h
  ·exact List.perm_append_comm (l₁:=[(L+1,oP)]) (l₂:=[(582,tabObj #[]),(575,tabObj #[])])
  ·have:∀ (a:Addr),jV G (Hf G.kx []) a (tabObj #[]):=λ a=>⟨#[],rfl,trivial,λ pos cv h=>(by exact J h)⟩
   rcases List.mem_cons.mp hq with rfl | hq
   ·exact this _
   ·rcases List.mem_cons.mp hq with rfl | hq
    ·exact this _
    ·cases hq
  ·split at hx
   ·rename_i e
    cases hx
    subst e
    show match scope.names.lookup (nm 275) with | some .local=>_ | some .cell | some .free=>_ | _=>_
    refine rwE n275 ?_;refine rwE hs ?_
    exact ⟨_,hm,G.x0.1,G.x0.2,vs.toArray,n,rfl,.inl (.inr rfl),hl2,hl3,by simpa using tE hi,by refine rwE (List.length_map ..) ?_;lia⟩
   ·exact J hx
  ·have h1:=cr scope.names (L+1) [] (.inl hk) b5
   show ∃ a o,(cellsFrom (L+1) scope.names []).lookup (nm x)=some a/\_
   rw [hcl] at h1 ⊢
   rw [List.lookup_cons] at h1 ⊢
   induction e:nm x==("pool":Str) using Bool.casesOn with
   | true=>exact ⟨L+1,oP,rfl,.head _,hoP⟩
   | false=>rw [e] at h1;exact ad h1
 refine wpAny_mono (tA G0 40 jS body _ _ _ _ _ _ _ _ (λ u'=>False) E C HA rfl (λ u'=>rfl) ⟨⟨rfl,rfl⟩,_,_,_,_,_,_,_,S⟩ (λ ρ e s' h=>?_) b4 (plain ns hlen)) (λ f s' h=>?_) λ u' u' x=>x
 ·obtain ⟨_,_,_,_,_,h⟩:=h
  exact h.elim
 ·induction f using PySem.Flow.casesOn with
  | next=>obtain ⟨_,_,_,_,_,h⟩:=h;exact h.elim
  | brk=>exact h.elim
  | cont=>exact h.elim
  | ret v =>
   refine ao h ?_;clear h;intro ρ' zz;obtain ⟨V,σ',Fz',_,hV,⟨g',m',mf',lo',Mt',Tb',Ce',led',S'⟩,rfl⟩:=zz
   obtain rfl:v=.bool true:=hV
   refine hQ s' S'.F.keep g'.1 g'.2 ?_
   have grown:∀ P∈[(582:Addr),575],GrownAt P s'.heap:=λ P hP=>by
    rw [show [(582:Addr),575]=Tb'.map (λ x=>x.1) from (S'.tbr.1.trans (by refine rwE ht ?_;rfl)).symm] at hP
    refine au (List.mem_map.mp hP) ?_;intro q hq e
    refine au (S'.tbr.2 q hq) ?_;intro ps h1 z2
    have:=(S'.N q (S'.pm.mem_iff.mpr (List.mem_append_right _ (List.mem_append_right _ (List.mem_append_left _ hq))))).1
    rw [h1] at this
    exact ⟨ps,by refine rwB e ?_;exact this⟩
   exact ⟨grown _ (.head _),grown _ (.tail _ (.head _)),trivial⟩
theorem law_walk (plain:∀ ns:List Int,ns.length<=63->Mine.Internal.execs tb (U tb 40) jS (λ x=>if x=275 then some (.lst (ns.map .int)) else none) [] (λ u' u'=>False) (λ v u'=>v=.bool true) (λ u'=>False))
 {prog:Program} {w:World} {K:Frag} {p:Program} {loose:List Str} {mean:ExcName->Option Value} {mg mb:Str->Option Value} {gh h₁:Heap} {L f l:Addr} {m:Str->Option Value} {qual:Str} {scope:Scope} {body:List Stmt} {cdv:Value} {oP:Obj} {vs:List Value} {ns:List Int} {gens:Array GenState} {d:Drawn} {tk:Tok} {os:OsState} {Q:Flow->Shared->Prop} {E:Value->Shared->Prop}
 (hK:sw K jU tq0=true) (hF:fD K w.params 719) (hB:∀ cdv,zx jU tq0 body qual scope cdv=true) (hm:m ("script":Str)=some (.ref l)) (hs:scope.names.lookup ("script":Str)=some .local) (hcl:cellsFrom (L+1) scope.names []=[(("pool":Str),L+1)]) {v0:Option Value} (hoP:oP.data=.cell v0) (hv0:v0=none)
 (X:K.In gh) (T:Top p loose mean mg mb gh) (B:Below callerA gh [] gh) (F:Fr gh L h₁ m) (N:News gh L h₁ [(L+1,oP),(582,tabObj #[]),(575,tabObj #[])]) (hl:gh.IsList l vs.toArray) (hi:IntsAre vs ns) (hlen:ns.length<=63) (hlt:582<L/\575<L) (hg:gens=#[])
 (hQ:∀ s':Shared,(∀ b o,gh.get? b=some o->s'.heap.get? b=some o)->s'.gens=#[]->s'.os=os->GrownAll jU s'.heap->Q (.ret (.bool true)) s') :
 wpAny (model prog w) (callerA.deeper (envOfC qual scope L f cdv)) (PySem.execs body (envOfC qual scope L f cdv)) Q E ⟨h₁,gens,d,tk,os⟩:=by
 refine ao hl ?_;clear hl;intro ol zz;refine al zz ?_;clear zz;intro hl1 zz;(refine al zz ?_;clear zz;intro hl2 zz;obtain ⟨n,hl3⟩:=zz)
 subst hg
 exact sI vZ ⟨prog,w,K,p,loose,mean,mg,mb,jU,tq0,os,(l,ol)⟩ gh h₁ L f m qual scope body cdv oP vs ns n d tk Q E plain rfl hK hF (hB cdv) hm hs hcl (hoP.trans (by (refine rwE hv0 ?_;rfl))) X T B F N hl1 hl2 hl3 hi hlen hlt hQ
end
section
theorem Y {d k:Nat} {vs:List V} {σ:St} {Q:PV} {X:PX} (f:FnI) {ρ:Rho} (hf:tb.fns k=some f) (hg:f.gc=false) (hb:ck f.params f.dflts vs=some ρ) {call':ah} (hc:call'=U tb (d+1)) (h:∀ call,call=U tb d->execs tb call f.body ρ σ (λ u' σ'=>Q .none σ') Q X):call' k [] vs σ Q X:=by
 subst hc
 change gk tb (U tb d) _ _ _ _ _ _
 delta gk
 refine rwE hf ?_
 dsimp only
 refine rwE hb ?_
 dsimp only
 refine rwE hg ?_
 exact h _ rfl
theorem lq {d k:Nat} {vs:List V} {σ:St} {Q:PV} {X:PX} (f:FnI) {ρ:Rho} (hf:tb.fns k=some f) (hg:f.gc=true) (hb:ck f.params f.dflts vs=some ρ) {call':ah} (hc:call'=U tb (d+1)) (h:∀ call,call=U tb d->execs tb call f.body ρ σ (λ u' σ'=>Q .none (σ'.drop (σ'.length - σ.length))) (λ v σ'=>Q v (σ'.drop (σ'.length - σ.length))) X):call' k [] vs σ Q X:=by
 subst hc
 change gk tb (U tb d) _ _ _ _ _ _
 delta gk
 refine rwE hf ?_
 dsimp only
 refine rwE hb ?_
 dsimp only
 refine rwE hg ?_
 exact h _ rfl
theorem lr {p:Nat×M} {σ:St}:(p::σ).drop ((p::σ).length - σ.length)=σ:=by
 (refine rwE List.length_cons ?_;refine rwE (Nat.add_sub_cancel_left ..) ?_);rfl
section
variable {l a b c x k:Nat} {v w:V} {fs:List (Nat×V)} {σ σ':St} {m m':M}
theorem aw (h:look b σ=some m) (hf:∀ p∈σ,p.1≠a):b≠a:=by
 induction σ with
 | nil=>cases h
 | cons p r ih =>
  intro e
  subst e
  obtain ⟨c,n⟩:=p
  replace h:=jM.symm.trans h
  by_cases q:b=c
  ·exact hf (c,n) (.head _) q.symm
  ·rw [if_neg q] at h
   exact ih h (λ p hp=>hf p (.tail _ hp)) rfl
theorem af:∀ {σ:St},look a σ=some m->look a (put a m' σ)=some m'
 | (c,n)::r,h=>by
  replace h:=jM.symm.trans h
  refine rwE t9 ?_
  by_cases q:a=c
  ·refine rwE (if_pos q) ?_;refine rwE q ?_;refine rwE am ?_;rfl
  ·rw [if_neg q] at h ⊢
   refine rwE (aD q) ?_;exact af h
theorem ac (h:a≠b):∀ {σ:St},look a (put b m' σ)=look a σ
 | []=>rfl
 | (c,n)::r=>by
  refine rwE t9 ?_
  by_cases q:b=c
  ·subst q;refine rwE (if_pos rfl) ?_;refine rwE (aD h) ?_;refine rwE (aD h) ?_;rfl
  ·refine rwE (if_neg q) ?_
   refine rwE jM ?_;refine rwE (jM (r:=r)) ?_
   by_cases e:a=c
   ·refine rwE (if_pos e) ?_;refine rwE (if_pos e) ?_;rfl
   ·(refine rwE (if_neg e) ?_;refine rwE (if_neg e) ?_);exact ac h
noncomputable def az (σ σ':St):Prop:=∀ a m,look a σ=some m->look a σ'=some m
noncomputable def Upd (l:Nat) (m:M) (σ σ':St):Prop:=look l σ'=some m/\∀ a n,a≠l->look a σ=some n->look a σ'=some n
theorem az.refl:az σ σ:=λ u' u' h=>h
theorem az.trans {σ'':St} (h:az σ σ') (k:az σ' σ''):az σ σ'':=λ a m e=>k a m (h a m e)
theorem az.cons (h:∀ p∈σ,p.1≠a):az σ ((a,m)::σ):=λ b n e=>(aD (aw e h)).trans e
theorem ak (h:look l σ=some (.ob c fs)):br (.loc l) x σ=aY x fs:=by delta br;dsimp only;refine rwE h ?_;rfl
theorem o0 (h:look l σ=some (.ob c fs)):dY (.loc l) σ=some (c,fs):=by delta dY;dsimp only;refine rwE h ?_;rfl
theorem aA (h:look l σ=some (.ob c fs)):dX tb (.loc l) x σ=match aY x fs with | some _=>none | none=>(tb.clss c).bind λ ci=>(ci.meths.lookup x).map MK.fn:=by delta dX;(refine rwE (o0 h) ?_)<;>rfl
theorem j9 {xs:List V} (h:look l σ=some (.lst xs)):dX tb (.loc l) x σ=(if x=tb.append then some .append else if x=tb.pop then some .pop else if x=tb.extend then some BM.extend else none).map .b:=by
 delta dX dY sF;dsimp only;refine rwE h ?_;rfl
theorem v7 {xs:List (Nat×V)} (h:look l σ=some (.dct xs)):dX tb (.loc l) x σ=(if x=tb.get then some BM.get else none).map .b:=by
 delta dX dY sF;dsimp only;refine rwE h ?_;rfl
theorem rM {xs:List (Int×V)} (h:look l σ=some (.dci xs)):dX tb (.loc l) x σ=(if x=tb.get then some BM.get else none).map .b:=by
 delta dX dY sF;dsimp only;refine rwE h ?_;rfl
theorem d8 (h:look l σ=some (.ob c fs)) (hb:(decide (fs.length<900)&&tb.fld c x)=true):setAt tb (.loc l) x v σ=some (put l (.ob c (bN x v fs)) σ):=by
 delta setAt;dsimp only;refine rwE h ?_;dsimp only;refine rwE (if_pos hb) ?_;rfl
theorem ae (hb:(decide (fs.length<900)&&tb.fld c x)=true):setAt tb (.loc l) x v ((l,.ob c fs)::σ)=some ((l,.ob c (bN x v fs))::σ):=by (refine rwE (d8 am hb) ?_;refine rwE cC ?_;rfl)
theorem be {kvs:List (Nat×V)} (h:look l σ=some (.dct kvs)) (hn:kvs.length<1000):bn (.loc l) (.str k) v σ=some (put l (.dct (bN k v kvs)) σ):=by
 delta bn;dsimp only;refine rwE h ?_
 cases kvs<;>exact if_pos hn
theorem kI {i:Int} (h:look l σ=some (.dct [])):bn (.loc l) (.int i) v σ=some (put l (.dci [(i,v)]) σ):=by
 delta bn;dsimp only;refine rwE h ?_;rfl
theorem mn {i:Int} {kvs:List (Int×V)} (h:look l σ=some (.dci kvs)) (hn:kvs.length<1000):bn (.loc l) (.int i) v σ=some (put l (.dci (gF i v kvs)) σ):=by
 delta bn;dsimp only;refine rwE h ?_;exact if_pos hn
theorem gX {i:Int} {xs:List V} (h:look l σ=some (.lst xs)) (hn:(decide (0<=i)&&decide (i<xs.length))=true):bn (.loc l) (.int i) v σ=some (put l (.lst (xs.set i.toNat v)) σ):=by
 delta bn;dsimp only;refine rwE h ?_;exact if_pos hn
theorem aQ {kvs:List (Nat×V)} (h:look l σ=some (.dct kvs)):cU tb (.loc l) (.str k) σ=aY k kvs:=by delta cU bl;dsimp only;refine rwE h ?_;rfl
theorem bR {i:Int} {xs:List V} (h:look l σ=some (.lst xs)):cU tb (.loc l) (.int i) σ=(bD i xs.length).bind λ k=>xs[k]?:=by delta cU bg;dsimp only;refine rwE h ?_;rfl
theorem o4 {kvs:List (Nat×V)} (h:look l σ=some (.dct kvs)):bl (.loc l) σ=some kvs:=by delta bl;dsimp only;refine rwE h ?_;rfl
theorem d9 {xs:List V} (h:look l σ=some (.lst xs)):bg (.loc l) σ=some xs:=by delta bg;dsimp only;refine rwE h ?_;rfl
theorem fS {xs:List V} (h:look l σ=some (.lst xs)):aL (.loc l) σ=.lst xs:=by delta aL;dsimp only;refine rwE h ?_;rfl
theorem qI {i:Int} {kvs:List (Int×V)} (h:look l σ=some (.dci kvs)):ip (.loc l) (.int i) σ=some (fB i kvs):=by delta ip dq;dsimp only;refine rwE h ?_;rfl
theorem ji {xs:List V} {Q:PV} (h:look l σ=some (.lst xs)) (hn:xs.length<100000) (q:Q .none (put l (.lst (xs++[v])) σ)):gI tb .append (.loc l) [v] σ Q:=by
 show aW (look l σ) λ m=>gG m _
 refine rwE h ?_;exact And.intro hn q
theorem o5 {xs:List V} {Q:PV} (h:look l σ=some (.lst xs)) (hl:xs.getLast?=some v) (q:Q v (put l (.lst xs.dropLast) σ)):gI tb .pop (.loc l) [] σ Q:=by
 show aW (look l σ) λ m=>gG m λ l=>aW l.getLast? _
 refine rwE h ?_;show aW xs.getLast? _;refine rwE hl ?_;exact q
theorem jk {xs ys:List V} {Q:PV} (h:look a σ=some (.lst xs)) (h':look b σ=some (.lst ys)) (hne:a≠b) (hn:xs.length+ys.length<100000) (q:Q .none (put a (.lst (xs++ys)) σ)):gI tb .extend (.loc a) [.loc b] σ Q:=by
 show aW (look a σ) λ m=>gG m λ l=>aW (look b σ) _
 refine rwE h ?_;show aW (look b σ) λ m=>gG m _;refine rwE h' ?_;exact And.intro hne (And.intro hn q)
end
theorem i5 {n:Nat} (ih:∀ {v:V},vok v n=true->veq v v=some true) {l:List V} (h:im l n=true):veq.veqs l l=some true:=by
 induction l with
 | nil=>rfl
 | cons v r ihl =>
  refine Eq.trans (b:=match veq v v,veq.veqs r r with | some x,some y=>some (x&&y) | _,_=>none) rfl ?_
  have h':(vok v n&&im r n)=true:=h
  rw [ih (Bool.and_eq_true_iff.mp h').1,ihl (Bool.and_eq_true_iff.mp h').2];rfl
theorem bS {α:Type} [BEq α] [LawfulBEq α] {a:α}:some (a==a)=some true:=congrArg some (beq_self_eq_true a)
theorem qJ {n:Nat}:∀ {v:V},vok v n=true->veq v v=some true:=by
 induction n with
 | zero =>
  intro v h
  induction v using V.casesOn with
  | none=>rfl
  | bool b=>exact bS
  | int b=>exact bS
  | str b=>exact bS
  | _=>exact ad h
 | succ n ih =>
  intro v h
  induction v using V.casesOn with
  | none=>rfl
  | bool b=>exact bS
  | int b=>exact bS
  | str b=>exact bS
  | tup l=>exact i5 ih h
  | lst l=>exact i5 ih h
  | _=>exact ad h
theorem qK {v:V} (h:vok v 20=true):eqS v v=some true:=by
 delta eqS;rw [h];exact qJ h
theorem lu {v:V} (h:vok v 20=true):eqV v v=some true:=by
 have k:=qK h
 induction v using V.casesOn with
 | int i=>exact bS
 | str i=>exact bS
 | tup l=>induction l using List.casesOn with | nil=>rfl | cons _ _=>exact k
 | lst l=>induction l using List.casesOn with | nil=>rfl | cons _ _=>exact k
 | _=>exact k
noncomputable abbrev dec (a p:Int):V:=.ob 0 [(1,.int a),(0,.int p)]
noncomputable def tn (t:Int):V:=if Int.fmod t 10=0 then dec (Int.fdiv t 10) 0 else dec t 1
noncomputable def dz (t:Int):V:=if Int.fmod t 10=0 then .tup [.int (Int.fdiv t 10),.int 0] else .tup [.int t,.int 1]
theorem eG {a b:Int} (h:bE a=true) (hb:bE b=true):gA .mul (.int a) (.int b)=some (.int (a*b)):=by
 show (if bE a&&bE b then some (a*b) else none).map V.int=_
 (refine rwE h ?_;refine rwE hb ?_);rfl
theorem iD {a:Int} (h1:-(2 ^ 200)<a) (h2:a<2 ^ 200):bE a=true:=by
 delta bE
 refine rwE (Bool.and_eq_true ..) ?_;refine rwE decide_eq_true_eq ?_;refine rwE decide_eq_true_eq ?_
 have:(2:Int) ^ 200<=2 ^ 2000:=by decide +kernel
 generalize (2:Int) ^ 200=x at h1 h2 this
 generalize (2:Int) ^ 2000=y at this ⊢
 lia
section
variable {call:ah} {d:Nat} {a b p:Int} {σ:St} {Q:PV} {X:PX}
theorem ke (hc:call=U tb (d+1)) (h:Q (dec a 0) σ):bO tb call 0 [.int a,.int 0] σ Q:=by
 intro l _
 refine Y ⟨[2,1,0],[],cf,false⟩ rfl rfl rfl hc λ call hc=>?_
 conv=>whnf
 refine rwE (ae (by rfl)) ?_
 conv=>whnf
 refine rwE (ae (by rfl)) ?_
 conv=>whnf
 refine rwE am ?_
 conv=>whnf
 refine rwE aG ?_
 exact h
theorem uP (hc:call=U tb (d+1)) (h:Q (tn a) σ):bO tb call 0 [.int a,.int 1] σ Q:=by
 intro l _
 refine Y ⟨[2,1,0],[],cf,false⟩ rfl rfl rfl hc λ call hc=>?_
 delta tn at h
 by_cases q:Int.fmod a 10=0
 ·rw [if_pos q] at h
  have q':(Int.fmod a 10==0)=true:=by simp [q]
  conv=>whnf
  refine rwE q' ?_
  conv=>whnf
  refine rwE (ae (by rfl)) ?_
  conv=>whnf
  refine rwE (ae (by rfl)) ?_
  conv=>whnf
  refine rwE am ?_
  conv=>whnf
  refine rwE aG ?_
  exact h
 ·rw [if_neg q] at h
  have q':(Int.fmod a 10==0)=false:=by simp [q]
  conv=>whnf
  refine rwE q' ?_
  conv=>whnf
  refine rwE (ae (by rfl)) ?_
  conv=>whnf
  refine rwE (ae (by rfl)) ?_
  conv=>whnf
  refine rwE am ?_
  conv=>whnf
  refine rwE aG ?_
  exact h
theorem aB (hc:call=U tb (d+1)) (h:Q (dec a p) σ):call 8 [] [dec a p] σ Q X:=by
 refine Y ⟨[13],[],dh,false⟩ rfl rfl rfl hc λ call hc=>?_
 exact h
theorem ag (hc:call=U tb (d+2)) (h:Q (dec a 0) σ):call 8 [] [.int a] σ Q X:=by
 refine Y ⟨[13],[],dh,false⟩ rfl rfl rfl hc λ call hc=>?_
 exact ke hc h
theorem o6 (hc:call=U tb (d+2)) (h:Q (.tup [.int (a*1),.int (b*1),.int 0]) σ) (ha:bE a=true) (hb:bE b=true):call 9 [] [dec a 0,dec b 0] σ Q X:=by
 refine Y ⟨[3,6],[],bx,false⟩ rfl rfl rfl hc λ call hc=>?_
 refine aB hc ?_
 refine aB hc ?_
 conv=>whnf
 refine rwE (eG ha (by decide +kernel)) ?_
 conv=>whnf
 refine rwE (eG hb (by decide +kernel)) ?_
 exact h
theorem bf (hc:call=U tb (d+3)) (h:Q (dec (a+b) 0) σ) (ha:bE a=true) (hb:bE b=true):call 1 [] [dec a 0,dec b 0] σ Q X:=by
 refine Y ⟨[2,6],[],dF,false⟩ rfl rfl rfl hc λ call hc=>?_
 refine o6 hc ?_ ha hb
 refine rwE (Int.mul_one ..) ?_;refine rwE (Int.mul_one ..) ?_
 refine ⟨rfl,?_⟩
 exact ke hc h
theorem aH (hc:call=U tb (d+3)) (h:Q (dec (a*b) 0) σ) (ha:bE a=true) (hb:bE b=true):call 2 [] [dec a 0,dec b 0] σ Q X:=by
 refine Y ⟨[2,6],[],dt,false⟩ rfl rfl rfl hc λ call hc=>?_
 refine aB hc ?_
 conv=>whnf
 refine rwE (eG ha hb) ?_
 exact ke hc h
end
noncomputable def sm (n:Nat) (a:Int):Prop:=a.natAbs<=2 ^ n
theorem sm.mono {n k:Nat} {a:Int} (h:sm n a) (hk:n<=k):sm k a:=Nat.le_trans h (Nat.pow_le_pow_right (by decide) hk)
theorem sm.mul {n k:Nat} {a b:Int} (h:sm n a) (h':sm k b):sm (n+k) (a*b):=by
 delta sm at *
 refine rwE (Int.natAbs_mul ..) ?_;refine rwE (Nat.pow_add ..) ?_
 exact Nat.mul_le_mul h h'
theorem sm.add {n:Nat} {a b:Int} (h:sm n a) (h':sm n b):sm (n+1) (a+b):=Nat.le_trans (Int.natAbs_add_le a b) (Nat.le_trans (Nat.add_le_add h h') (Nat.le_of_eq ((Nat.mul_two _).symm.trans (Nat.pow_succ ..).symm)))
theorem sm.big {n:Nat} {a:Int} (h:sm n a) (hn:n<=199:=by decide):bE a=true:=by
 have h2:a.natAbs<=2 ^ 199:=h.mono hn
 have e:(2:Nat) ^ 200=2 ^ 199*2:=by decide +kernel
 have e1:((2:Nat) ^ 200:Nat)=((2:Int) ^ 200):=by norm_cast
 have p:0<(2:Nat) ^ 199:=Nat.two_pow_pos 199
 refine iD ?_ ?_<;>refine rwB e1 ?_<;>omega
noncomputable def mat (a b c d e f:Int):V:=.ob 7 [(51,dec a 0),(52,dec b 0),(53,dec c 0),(54,dec d 0),(55,dec e 0),(56,dec f 0)]
section
variable {call:ah} {d:Nat} {σ:St} {Q:PV} {X:PX} {a b c e f a' b' c' e' f' g g':Int}
theorem qL {l:Nat} (hc:call=U tb (d+2)) (h:Q .none ((l,.ob 7 [(51,dec a 0),(52,dec b 0),(53,dec c 0),(54,dec e 0),(55,dec f 0),(56,dec g 0)])::σ)):call 19 [] [.loc l,dec a 0,dec b 0,dec c 0,dec e 0,dec f 0,dec g 0] ((l,.ob 7 [])::σ) Q X:=by
 refine Y ⟨[2,51,52,53,54,55,56],[],cJ,false⟩ rfl rfl rfl hc λ call hc=>?_
 refine aB hc ?_
 conv=>whnf
 refine rwE (ae (by rfl)) ?_
 refine aB hc ?_
 conv=>whnf
 refine rwE (ae (by rfl)) ?_
 refine aB hc ?_
 conv=>whnf
 refine rwE (ae (by rfl)) ?_
 refine aB hc ?_
 conv=>whnf
 refine rwE (ae (by rfl)) ?_
 refine aB hc ?_
 conv=>whnf
 refine rwE (ae (by rfl)) ?_
 refine aB hc ?_
 conv=>whnf
 refine rwE (ae (by rfl)) ?_
 exact h
theorem rN (hc:call=U tb (d+2)) (h:Q (mat a b c e f g) σ):bO tb call 7 [dec a 0,dec b 0,dec c 0,dec e 0,dec f 0,dec g 0] σ Q:=by
 intro l _
 refine qL hc ?_
 conv=>whnf
 refine rwE am ?_
 conv=>whnf
 refine rwE aG ?_
 exact h
theorem dU (hc:call=U tb (d+4)) {x y:Int} (ha:sm 90 a) (hb:sm 90 b) (hcc:sm 90 c) (he:sm 90 e) (hf:sm 90 f) (hg:sm 90 g) (hx:sm 90 x) (hy:sm 90 y)
 (h:Q (.tup [dec (a*x+c*y+f) 0,dec (b*x+e*y+g) 0]) σ):call 21 [] [mat a b c e f g,dec x 0,dec y 0] σ Q X:=by
 refine Y ⟨[2,62,63],[],cP,false⟩ rfl rfl rfl hc λ call hc=>?_
 refine aH hc ?_ ha.big hx.big
 refine aH hc ?_ hcc.big hy.big
 refine bf hc ?_ (ha.mul hx).big (hcc.mul hy).big
 refine bf hc ?_ ((ha.mul hx).add (hcc.mul hy)).big hf.big
 refine aH hc ?_ hb.big hx.big
 refine aH hc ?_ he.big hy.big
 refine bf hc ?_ (hb.mul hx).big (he.mul hy).big
 refine bf hc ?_ ((hb.mul hx).add (he.mul hy)).big hg.big
 exact h
theorem o7 (hc:call=U tb (d+5)) (ha:sm 90 a) (hb:sm 90 b) (hcc:sm 90 c) (he:sm 90 e) (hf:sm 90 f) (hg:sm 90 g) (ha':sm 90 a') (hb':sm 90 b') (hc':sm 90 c') (he':sm 90 e') (hf':sm 90 f') (hg':sm 90 g')
 (h:Q (mat (a*a'+b*c') (a*b'+b*e') (c*a'+e*c') (c*b'+e*e') (a'*f+c'*g+f') (b'*f+e'*g+g')) σ):call 20 [] [mat a b c e f g,mat a' b' c' e' f' g'] σ Q X:=by
 refine Y ⟨[2,6],[],dH,false⟩ rfl rfl rfl hc λ call hc=>?_
 refine aH hc ?_ ha.big ha'.big
 refine aH hc ?_ hb.big hc'.big
 refine bf hc ?_ (ha.mul ha').big (hb.mul hc').big
 refine aH hc ?_ ha.big hb'.big
 refine aH hc ?_ hb.big he'.big
 refine bf hc ?_ (ha.mul hb').big (hb.mul he').big
 refine aH hc ?_ hcc.big ha'.big
 refine aH hc ?_ he.big hc'.big
 refine bf hc ?_ (hcc.mul ha').big (he.mul hc').big
 refine aH hc ?_ hcc.big hb'.big
 refine aH hc ?_ he.big he'.big
 refine bf hc ?_ (hcc.mul hb').big (he.mul he').big
 refine dU hc ha' hb' hc' he' hf' hg' hf hg ?_
 refine ⟨rfl,?_⟩
 exact rN hc h
theorem o8 (hc:call=U tb (d+1)) (h:Q (.lst [dec a 0,dec b 0,dec c 0,dec e 0,dec f 0,dec g 0]) σ):call 22 [] [mat a b c e f g] σ Q X:=by
 refine Y ⟨[2],[],dI,false⟩ rfl rfl rfl hc λ call hc=>?_
 exact h
theorem aN (hc:call=U tb (d+1)) {p:Int} (h:Q (.tup [.int a,.int p]) σ):call 6 [] [dec a p] σ Q X:=by
 refine Y ⟨[2],[],dG,false⟩ rfl rfl rfl hc λ call hc=>?_
 exact h
end
noncomputable abbrev bL (k:Nat):V:=.ob 1 [(20,.str k)]
noncomputable abbrev uQ:V:=.ob 2 [(21,.byt),(22,.bool false)]
inductive lw:V->V->Prop
 | int (a:Int):lw (.int a) (dec a 0)
 | dec (a p:Int):lw (dec a p) (dec a p)
inductive gq:List V->List V->Prop
 | nil:gq [] []
 | cons {v w:V} {r s:List V}:lw v w->gq r s->gq (v::r) (w::s)
noncomputable def sgn (x:Int):Int:=if x=0 then 0 else if 0<x then 1 else -1
section
variable {call:ah} {d:Nat} {σ:St} {Q:PV} {X:PX} {a b p:Int} {ρ:Rho} {N:PN} {R:PV}
theorem tF {k:Nat} (hc:call=U tb (d+1)) (h:Q (bL k) σ):bO tb call 1 [.str k] σ Q:=by
 intro l _
 refine Y ⟨[2,20],[],fY,false⟩ rfl rfl rfl hc λ call hc=>?_
 conv=>whnf
 refine rwE (ae (by rfl)) ?_
 conv=>whnf
 refine rwE am ?_
 conv=>whnf
 refine rwE aG ?_
 exact h
theorem v8 (hc:call=U tb (d+1)) (h:Q uQ σ):bO tb call 2 [.byt] σ Q:=by
 intro l _
 refine Y ⟨[2,21,22],[.bool false],ej,false⟩ rfl rfl rfl hc λ call hc=>?_
 conv=>whnf
 refine rwE (ae (by rfl)) ?_
 conv=>whnf
 refine rwE (ae (by rfl)) ?_
 conv=>whnf
 refine rwE am ?_
 conv=>whnf
 refine rwE aG ?_
 exact h
noncomputable abbrev fF (n g:Int):V:=.ob 4 [(11,.int n),(23,.int g)]
theorem v9 (hc:call=U tb (d+1)) (h:Q (fF a b) σ):bO tb call 4 [.int a,.int b] σ Q:=by
 intro l _
 refine Y ⟨[2,11,23],[],cO,false⟩ rfl rfl rfl hc λ call hc=>?_
 conv=>whnf
 refine rwE (ae (by rfl)) ?_
 conv=>whnf
 refine rwE (ae (by rfl)) ?_
 conv=>whnf
 refine rwE am ?_
 conv=>whnf
 refine rwE aG ?_
 exact h
theorem qM (hc:call=U tb (d+1)) (h:Q (.str 26) σ):call 13 [] [dec a p] σ Q X:=by
 refine Y ⟨[13],[],fK,false⟩ rfl rfl rfl hc λ call hc=>?_
 exact h
theorem qN (hc:call=U tb (d+1)) (h:Q (.str 15) σ):call 13 [] [.int a] σ Q X:=by
 refine Y ⟨[13],[],fK,false⟩ rfl rfl rfl hc λ call hc=>?_
 exact h
theorem yA (hc:call=U tb (d+2)) {v w:V} (hv:lw v w) (h:Q (.bool true) σ):call 14 [] [v] σ Q X:=by
 refine Y ⟨[13],[],fZ,false⟩ rfl rfl rfl hc λ call hc=>?_
 cases hv with
 | int a=>exact qN hc h
 | dec a p=>exact qM hc h
theorem mo (hc:call=U tb (d+2)) {v w:V} (hv:lw v w) (h:Q w σ):call 8 [] [v] σ Q X:=by
 cases hv with
 | int a=>exact ag hc h
 | dec a p=>exact aB (d:=d+1) hc h
theorem jl (hc:call=U tb (d+2)) {W:V} (hN:∀ ρ':Rho,ρ' 99=some W->N ρ' σ) {vs ds:List V} {ρ:Rho} (n:gq vs ds) (hρ:ρ 99=some W) :
 exF (λ ρ σ N R X=>execs tb call [.if_ (.not (.call (.g 127) [.v 13])) [.raise 12 (.cS 128)] []] ρ σ N R X) (λ v ρ σ N X=>asT tb call (.x 13) v ρ σ N X) vs ρ σ N R X:=by
 induction n generalizing ρ with
 | nil=>exact hN ρ hρ
 | @cons v w r s h hr ih =>
  refine yA hc h ?_
  exact ih (show upd 13 v ρ 99=some W from hρ)
theorem jm (hc:call=U tb (d+2)) {vs ds:List V} {Q:List V->St->Prop} (n:gq vs ds) (h:Q ds σ):evC (λ ρ σ Q=>evE tb call (.call (.g 9) [.v 13]) ρ σ Q λ u'=>False) (.x 13) vs ρ σ Q:=by
 induction n generalizing Q with
 | nil=>exact h
 | cons hv hr ih=>exact mo hc hv (ih h)
theorem aO (hc:call=U tb (d+3)) {vs ds:List V} {n:Int} (hn:(vs.length:Int)=n) (hv:gq vs ds) (h:Q (.lst ds) σ):call 42 [] [.lst vs,.int n] σ Q X:=by
 refine Y ⟨[99,124],[],e8,false⟩ rfl rfl rfl hc λ call hc=>?_
 have e:((vs.length:Int)==n)=true:=by simp [hn]
 conv=>whnf
 refine rwE e ?_
 refine jl hc (W:=.lst vs) (λ ρ' hρ=>?_) hv rfl
 conv=>whnf
 refine rwE hρ ?_
 exact jm hc hv h
theorem jE (hc:call=U tb (d+1)) {k:Nat} (h:Q (.str k) σ):call 43 [] [.lst [bL k]] σ Q X:=by
 refine Y ⟨[99],[],iL,false⟩ rfl rfl rfl hc λ call hc=>?_
 exact h
theorem nI (hc:call=U tb (d+1)) (h:Q (.int (sgn a)) σ):call 7 [] [.int a] σ Q X:=by
 refine Y ⟨[11],[],iI,false⟩ rfl rfl rfl hc λ call hc=>?_
 delta sgn at h
 conv=>whnf
 by_cases q:a=0
 ·rw [if_pos q] at h
  refine rwE (show (a==0)=true from by simp [q]) ?_
  exact h
 ·rw [if_neg q] at h
  refine rwE (show (a==0)=false from by simp [q]) ?_
  conv=>whnf
  by_cases q2:0<a
  ·rw [if_pos q2] at h
   refine rwE (decide_eq_true q2) ?_
   exact h
  ·rw [if_neg q2] at h
   refine rwE (decide_eq_false q2) ?_
   exact h
theorem i6 (hc:call=U tb (d+4)) (ha:bE a=true) (h:Q (.int (sgn (a*1 - 1*1))) σ):call 3 [] [dec a 0,.int 1] σ Q X:=by
 refine Y ⟨[2,6],[],bj,false⟩ rfl rfl rfl hc λ call hc=>?_
 refine Y ⟨[3,6],[],bx,false⟩ rfl rfl rfl hc λ call' hc'=>?_
 refine aB hc' ?_
 refine ag hc' ?_
 conv=>whnf
 refine rwE (eG ha (by decide +kernel)) ?_
 refine ⟨rfl,?_⟩
 exact nI hc h
theorem i7 (hc:call=U tb (d+4)) (ha:bE a=true) (h:Q (.int (sgn (a*1 - 1*10))) σ):call 3 [] [dec a 1,.int 1] σ Q X:=by
 refine Y ⟨[2,6],[],bj,false⟩ rfl rfl rfl hc λ call hc=>?_
 refine Y ⟨[3,6],[],bx,false⟩ rfl rfl rfl hc λ call' hc'=>?_
 refine aB hc' ?_
 refine ag hc' ?_
 conv=>whnf
 refine rwE (eG ha (by decide +kernel)) ?_
 refine ⟨rfl,?_⟩
 exact nI hc h
end
theorem i8 {d k:Nat} {cap:List (Nat×V)} {vs:List V} {σ:St} {Q:PV} {X:PX} (f:FnI) {ρ:Rho} (hf:tb.fns k=some f) (hg:f.gc=false) (hb:ck f.params f.dflts vs=some ρ) {call':ah} (hc:call'=U tb (d+1)) (h:∀ call,call=U tb d->execs tb call f.body (cap.foldr (λ p ρ=>upd p.1 p.2 ρ) ρ) σ (λ u' σ'=>Q .none σ') Q X):call' k cap vs σ Q X:=by
 subst hc
 change gk tb (U tb d) _ _ _ _ _ _
 delta gk
 refine rwE hf ?_
 dsimp only
 refine rwE hb ?_
 dsimp only
 refine rwE hg ?_
 exact h _ rfl
noncomputable abbrev pnt (x y:Int):V:=.tup [dec x 0,dec y 0]
noncomputable abbrev dQ (x y:Int):V:=.tup [.tup [.int x,.int 0],.tup [.int y,.int 0]]
noncomputable abbrev aa (l:List V):V:=.ob 8 [(65,.tup l)]
noncomputable abbrev box (p0 p1 p2 p3:V):List V:=[.tup [.tup [.str 73,p0],.tup [.str 80,p1],.tup [.str 80,p2],.tup [.str 80,p3],.tup [.str 67]]]
section
variable {call:ah} {d:Nat} {σ:St} {Q:PV} {X:PX} {a b p:Int} {ρ:Rho} {N:PN} {R:PV} {x y:Int}
theorem fT {a:Nat} (hc:call=U tb (d+1)) {l:List V} (h:Q .none ((a,.ob 8 [(65,.tup l)])::σ)):call 24 [] [.loc a,.tup l] ((a,.ob 8 [])::σ) Q X:=by
 refine Y ⟨[2,65],[.tup []],cE,false⟩ rfl rfl rfl hc λ call hc=>?_
 conv=>whnf
 refine rwE (ae (by rfl)) ?_
 exact h
theorem eH (hc:call=U tb (d+1)) {l:List V} (h:Q (aa l) σ):bO tb call 8 [.tup l] σ Q:=by
 intro l _
 refine fT hc ?_
 conv=>whnf
 refine rwE am ?_
 conv=>whnf
 refine rwE aG ?_
 exact h
theorem qO (hc:call=U tb (d+1)) (h:Q (aa []) σ):bO tb call 8 [] σ Q:=by
 intro l _
 refine Y ⟨[2,65],[.tup []],cE,false⟩ rfl rfl rfl hc λ call hc=>?_
 conv=>whnf
 refine rwE (ae (by rfl)) ?_
 conv=>whnf
 refine rwE am ?_
 conv=>whnf
 refine rwE aG ?_
 exact h
theorem fG (hc:call=U tb (d+2)) (h:Q (pnt x y) σ):call 25 [] [dec x 0,dec y 0] σ Q X:=by
 refine Y ⟨[62,63],[],iJ,false⟩ rfl rfl rfl hc λ call hc=>?_
 refine aB hc ?_
 refine aB hc ?_
 exact h
theorem uR (hc:call=U tb (d+1)) {p:V} (h:Q (.bool false) σ):call 26 [] [.tup [.tup [.str 73,p]]] σ Q X:=by
 refine Y ⟨[66],[],co,false⟩ rfl rfl rfl hc λ call hc=>?_
 exact h
theorem uS (hc:call=U tb (d+1)) {p q:V} (h:Q (.bool false) σ):call 26 [] [.tup [.tup [.str 73,p],.tup [.str 80,q]]] σ Q X:=by
 refine Y ⟨[66],[],co,false⟩ rfl rfl rfl hc λ call hc=>?_
 exact h
theorem uT (hc:call=U tb (d+1)) {p q r:V} (h:Q (.bool false) σ):call 26 [] [.tup [.tup [.str 73,p],.tup [.str 80,q],.tup [.str 80,r]]] σ Q X:=by
 refine Y ⟨[66],[],co,false⟩ rfl rfl rfl hc λ call hc=>?_
 exact h
theorem yB (hc:call=U tb (d+1)) {p q r s:V} (h:Q (.bool false) σ):call 26 [] [.tup [.tup [.str 73,p],.tup [.str 80,q],.tup [.str 80,r],.tup [.str 80,s]]] σ Q X:=by
 refine Y ⟨[66],[],co,false⟩ rfl rfl rfl hc λ call hc=>?_
 exact h
theorem yC (hc:call=U tb (d+1)) {p q r s:V} (h:Q (.bool true) σ):call 26 [] [.tup [.tup [.str 73,p],.tup [.str 80,q],.tup [.str 80,r],.tup [.str 80,s],.tup [.str 67]]] σ Q X:=by
 refine Y ⟨[66],[],co,false⟩ rfl rfl rfl hc λ call hc=>?_
 exact h
theorem nJ (hc:call=U tb (d+3)) (h:Q (aa [.tup [.tup [.str 73,pnt x y]]]) σ):call 29 [] [aa [],dec x 0,dec y 0] σ Q X:=by
 refine Y ⟨[68,62,63],[],iK,false⟩ rfl rfl rfl hc λ call hc=>?_
 refine Y ⟨[68],[],bF,false⟩ rfl rfl rfl hc λ call' hc'=>?_
 refine fG hc ?_
 exact eH hc h
theorem yD (hc:call=U tb (d+4)) {p:List V} (h:Q (aa [.tup [.tup [.str 73,.tup p],.tup [.str 80,pnt x y]]]) σ):call 31 [] [aa [.tup [.tup [.str 73,.tup p]]],dec x 0,dec y 0] σ Q X:=by
 refine Y ⟨[68,62,63],[],dZ,false⟩ rfl rfl rfl hc λ call hc=>?_
 refine fG hc ?_
 refine Y ⟨[68,78],[],cF,false⟩ rfl rfl rfl hc λ call hc=>?_
 refine Y ⟨[68],[],bh,false⟩ rfl rfl rfl hc λ call' hc'=>?_
 refine uR hc' ?_
 refine uR hc ?_
 exact eH hc h
theorem yE (hc:call=U tb (d+4)) {p:List V} {q:List V} (h:Q (aa [.tup [.tup [.str 73,.tup p],.tup [.str 80,.tup q],.tup [.str 80,pnt x y]]]) σ):call 31 [] [aa [.tup [.tup [.str 73,.tup p],.tup [.str 80,.tup q]]],dec x 0,dec y 0] σ Q X:=by
 refine Y ⟨[68,62,63],[],dZ,false⟩ rfl rfl rfl hc λ call hc=>?_
 refine fG hc ?_
 refine Y ⟨[68,78],[],cF,false⟩ rfl rfl rfl hc λ call hc=>?_
 refine Y ⟨[68],[],bh,false⟩ rfl rfl rfl hc λ call' hc'=>?_
 refine uS hc' ?_
 refine uS hc ?_
 exact eH hc h
theorem yF (hc:call=U tb (d+4)) {p:List V} {q:List V} {r:List V} (h:Q (aa [.tup [.tup [.str 73,.tup p],.tup [.str 80,.tup q],.tup [.str 80,.tup r],.tup [.str 80,pnt x y]]]) σ):call 31 [] [aa [.tup [.tup [.str 73,.tup p],.tup [.str 80,.tup q],.tup [.str 80,.tup r]]],dec x 0,dec y 0] σ Q X:=by
 refine Y ⟨[68,62,63],[],dZ,false⟩ rfl rfl rfl hc λ call hc=>?_
 refine fG hc ?_
 refine Y ⟨[68,78],[],cF,false⟩ rfl rfl rfl hc λ call hc=>?_
 refine Y ⟨[68],[],bh,false⟩ rfl rfl rfl hc λ call' hc'=>?_
 refine uT hc' ?_
 refine uT hc ?_
 exact eH hc h
theorem wb (hc:call=U tb (d+2)) {p q r s:V} (h:Q (aa (box p q r s)) σ):call 32 [] [aa [.tup [.tup [.str 73,p],.tup [.str 80,q],.tup [.str 80,r],.tup [.str 80,s]]]] σ Q X:=by
 refine Y ⟨[68],[],di,false⟩ rfl rfl rfl hc λ call hc=>?_
 refine yB hc ?_
 exact eH hc h
theorem wc (hc:call=U tb (d+2)) {p q r s:V} (h:Q (aa (box p q r s)) σ):call 32 [] [aa (box p q r s)] σ Q X:=by
 refine Y ⟨[68],[],di,false⟩ rfl rfl rfl hc λ call hc=>?_
 refine yC hc ?_
 exact h
theorem jn (hc:call=U tb (d+5)) {w t:Int} (hx:sm 90 x) (hy:sm 90 y) (hw:sm 90 w) (ht:sm 90 t) (h:Q (aa (box (pnt x y) (pnt (x+w) y) (pnt (x+w) (y+t)) (pnt x (y+t)))) σ) :
 call 33 [] [aa [],dec x 0,dec y 0,dec w 0,dec t 0] σ Q X:=by
 refine Y ⟨[68,62,63,83,85],[],f0,false⟩ rfl rfl rfl hc λ call hc=>?_
 refine fG hc ?_
 refine ⟨rfl,?_⟩
 refine bf hc ?_ hx.big hw.big
 refine bf hc ?_ hy.big ht.big
 refine nJ hc ?_
 refine yD hc ?_
 refine yE hc ?_
 refine yF hc ?_
 exact wb hc h
theorem gY (hc:call=U tb (d+2)) {k:Nat} {cap:List (Nat×V)} {p0 p1 p2 p3 q0 q1 q2 q3:V}
 (hT:∀ {p q:V},(p=p0/\q=q0)\/(p=p1/\q=q1)\/(p=p2/\q=q2)\/(p=p3/\q=q3)->∀ {call:ah} {σ:St} {Q:PV} {X:PX},call=U tb (d+1)->Q q σ->call k cap [p] σ Q X)
 (h:Q (aa (box q0 q1 q2 q3)) σ):call 34 [] [aa (box p0 p1 p2 p3),.clo k cap] σ Q X:=by
 refine lq ⟨[68,92],[],eY,true⟩ rfl rfl rfl hc λ call hc=>?_
 intro a ha
 conv=>whnf
 refine rwE (j9 am) ?_
 refine hT (.inl ⟨rfl,rfl⟩) hc ?_
 refine hT (.inr (.inl ⟨rfl,rfl⟩)) hc ?_
 refine hT (.inr (.inr (.inl ⟨rfl,rfl⟩))) hc ?_
 refine hT (.inr (.inr (.inr ⟨rfl,rfl⟩))) hc ?_
 conv=>whnf
 refine rwE am ?_
 refine ⟨by decide,?_⟩
 refine rwE cC ?_
 conv=>whnf
 refine rwE (d9 am) ?_
 intro b hb
 refine fT hc ?_
 conv=>whnf
 refine rwE am ?_
 conv=>whnf
 refine rwE aG ?_
 refine rwE lr ?_
 exact h
theorem fu (hc:call=U tb (d+5)) {c e f g:Int} (ha:sm 90 a) (hb:sm 90 b) (hcc:sm 90 c) (he:sm 90 e) (hf:sm 90 f) (hg:sm 90 g) (hx:sm 90 x) (hy:sm 90 y) (h:Q (pnt (a*x+c*y+f) (b*x+e*y+g)) σ):call 80 [(95,mat a b c e f g)] [pnt x y] σ Q X:=by
 refine i8 ⟨[93],[],bv,false⟩ rfl rfl rfl hc λ call hc=>?_
 exact dU hc ha hb hcc he hf hg hx hy h
theorem ed (hc:call=U tb (d+2)) (h:Q (dQ x y) σ):call 81 [] [pnt x y] σ Q X:=by
 refine i8 ⟨[93],[],bH,false⟩ rfl rfl rfl hc λ call hc=>?_
 refine aN hc ?_
 exact aN hc h
end
set_option genCtorIdx false
inductive Ob where
 | m (m:M) | b (b:Bool) | v (x:Nat) (v:V) | i (n:Nat) | s (v:V) | f | g
noncomputable def aj:List Prop->Prop
 | []=>True
 | a::r=>a/\aj r
theorem a1 {a:Prop} {r:List Prop} (h:a) (k:aj r):aj (a::r):=⟨h,k⟩
noncomputable abbrev KV:=V->St->List Ob->List Prop->Prop
noncomputable abbrev KL:=List V->St->List Ob->List Prop->Prop
noncomputable abbrev KB:=Bool->St->List Ob->List Prop->Prop
noncomputable abbrev KN:=Rho->St->List Ob->List Prop->Prop
noncomputable abbrev dC:=Nat->List (Nat×V)->List V->St->List Ob->List Prop->KV->PX->Prop
noncomputable def mv:M->V
 | .lst l=>.lst l
 | .dct l=>.dct l
 | .dci l=>.dci l
 | .ob c fs=>.ob c fs
noncomputable def tG:Nat->Nat->St->List Prop->(M->(M->St)->St->List Prop->Prop)->Prop
 | 0,a,s,p,k=>match s with
  | (b,m)::r=>k m (λ m'=>(b,m')::r) r ((a=b)::p)
  | []=>False
 | n+1,a,s,p,k=>match s with
  | (b,m)::r=>tG n a r ((a≠b)::p) (λ m0 pt rm p=>k m0 (λ m'=>(b,m)::pt m') ((b,m)::rm) p)
  | []=>False
noncomputable def lkO (a:Nat) (σ:St) (o:List Ob) (p:List Prop) (k:M->(M->St)->St->List Ob->List Prop->Prop):Prop:=match o with
 | .m m::o=>k m (λ m'=>put a m' σ) (rem a σ) o ((look a σ=some m)::p)
 | .i n::o=>tG n a σ p (λ m pt rm p=>k m pt rm o p)
 | _=>False
noncomputable def dr (v:V) (σ:St) (o:List Ob) (p:List Prop) (k:V->List Ob->List Prop->Prop):Prop:=match v with
 | .loc a=>lkO a σ o p (λ m u' u' o p=>k (mv m) o p)
 | v=>k v o p
noncomputable def vrD (x:Nat) (ρ:Rho) (o:List Ob) (p:List Prop) (k:V->List Ob->List Prop->Prop):Prop:=match ρ x with
 | some w=>k w o p
 | none=>False
noncomputable def vrO (x:Nat) (ρ:Rho) (o:List Ob) (p:List Prop) (k:V->List Ob->List Prop->Prop):Prop:=match o with
 | .v y w::o=>if y=x then k w o ((ρ x=some w)::p) else vrD x ρ (.v y w::o) p k
 | o=>vrD x ρ o p k
noncomputable def cmO (op:Cm) (a b:V) (σ:St) (o:List Ob) (p:List Prop) (k:Bool->List Ob->List Prop->Prop):Prop:=match o with
 | .b r::o=>k r o ((bB op a b σ=some r)::p)
 | o=>match bB op a b [] with
  | some r=>k r o p
  | none=>False
noncomputable def trO (v:V) (σ:St) (o:List Ob) (p:List Prop) (k:Bool->List Ob->List Prop->Prop):Prop:=match o with
 | .b r::o=>k r o ((aT v σ=some r)::p)
 | o=>match aT v [] with
  | some r=>k r o p
  | none=>False
noncomputable def biD (op:Op) (a b:V) (o:List Ob) (p:List Prop) (k:V->List Ob->List Prop->Prop):Prop:=match op with
 | .mul=>cw a λ x=>cw b λ y=>k (.int (x*y)) o ((bE x=true)::(bE y=true)::p)
 | op=>aW (gA op a b) λ v=>k v o p
noncomputable def biO (op:Op) (a b:V) (o:List Ob) (p:List Prop) (k:V->List Ob->List Prop->Prop):Prop:=match o with
 | .s w::o=>k w o ((gA op a b=some w)::p)
 | o=>biD op a b o p k
noncomputable def flO (o:List Ob) (a b:Prop):Prop:=match o with
 | .f::_=>a
 | _=>b
noncomputable def flC (o:List Ob) (a:Prop) (b:List Ob->Prop):Prop:=match o with
 | .f::_=>a
 | .g::o=>b o
 | o=>b o
noncomputable def fiO (v:V) (a:Nat) (σ:St) (o:List Ob) (p:List Prop) (k:V->List Ob->List Prop->Prop):Prop:=match o with
 | .s w::o=>k w o ((br v a σ=some w)::p)
 | o=>dr v σ o p (λ v o p=>match br v a [] with
  | some w=>k w o p
  | none=>False)
noncomputable def suO (tb:ng) (v j:V) (σ:St) (o:List Ob) (p:List Prop) (k:V->List Ob->List Prop->Prop):Prop:=match o with
 | .s w::o=>k w o ((cU tb v j σ=some w)::p)
 | o=>dr v σ o p (λ v o p=>match cU tb v j [] with
  | some w=>k w o p
  | none=>False)
noncomputable abbrev PfT:=Nat->List V->List Prop->(V->List Prop->Prop)->Prop->Prop
noncomputable abbrev pf0:PfT:=λ u' u' u' u' F=>F
section
variable (tb:ng) (pc:PfT) (cl:ah) (xc:dC)
noncomputable def itK (k:KL) (m:M) (_:M->St) (rm:St) (o:List Ob) (p:List Prop):Prop:=gG m λ l=>k l rm o p
noncomputable def itD (v:V) (σ:St) (o:List Ob) (p:List Prop) (k:KL):Prop:=match v with
 | .loc a=>lkO a σ o p (itK k)
 | v=>match aF v [] with
  | some (l,_)=>k l σ o p
  | none=>False
noncomputable def itO (v:V) (σ:St) (o:List Ob) (p:List Prop) (k:KL):Prop:=match o with
 | .s w::o=>(match w with
  | .lst l=>k l σ o ((aF v σ=some (l,σ))::p)
  | _=>False)
 | o=>itD v σ o p k
noncomputable def sqO (v:V) (σ:St) (o:List Ob) (p:List Prop) (k:List V->List Ob->List Prop->Prop):Prop :=
 dr v σ o p (λ v o p=>aW (bg v []) λ l=>k l o p)
noncomputable def diK (σ:St) (k:KV) (v:V) (o:List Ob) (p:List Prop):Prop:=ub v λ l=>aj p/\(l.length<1000/\∀ a,(∀ q∈σ,q.1≠a)->k (.loc a) ((a,.dct l)::σ) o [])
noncomputable def cbO (b:B) (vs:List V) (σ:St) (o:List Ob) (p:List Prop) (k:KV):Prop:=match b with
 | .len=>eU vs λ v=>sqO v σ o p (λ l o p=>k (.int l.length) σ o p)
 | .isinstance=>ua vs λ v c=>aW (c0 tb v c) λ r=>k (.bool r) σ o p
 | .range=>rgP vs (λ v=>cw v λ n=>k (.rng 0 n 1) σ o p) λ u v w=>cw u λ a=>cw v λ n=>cw w λ s=>k (.rng a n s) σ o ((0<s/\s<1000)::p)
 | .max=>mmP vs (λ v=>jP v λ l=>aj p/\aW (bV l) λ ns=>ns≠[]/\∀ M,M∈ns->(∀ a∈ns,a<=M)->∃ o,k (.int M) σ o []) λ v w=>cw v λ a=>cw w λ b=>k (.int (max a b)) σ o p
 | .min=>mmP vs (λ v=>jP v λ l=>aj p/\aW (bV l) λ ns=>ns≠[]/\∀ M,M∈ns->(∀ a∈ns,M<=a)->∃ o,k (.int M) σ o []) λ v w=>cw v λ a=>cw w λ b=>k (.int (min a b)) σ o p
 | .abs=>eU vs λ v=>cw v λ a=>k (.int a.natAbs) σ o p
 | .int=>eU vs λ v=>cw v λ a=>k (.int a) σ o p
 | .str=>eU vs λ v=>cw v λ i=>k (.msg 10) σ o ((0<=i/\i<20)::p)
 | .tuple=>eU vs λ v=>sqO v σ o p (λ l o p=>k (.tup l) σ o p)
 | .dict=>eU vs λ v=>dr v σ o p (diK σ k)
 | _=>False
noncomputable def frK (k:KV) (m:M) (_:M->St) (rm:St) (o:List Ob) (p:List Prop):Prop:=obP m λ c' fs=>k (.ob c' fs) rm o p
noncomputable def bkK (fz:Bool) (a:Nat) (k:KV) (r:V) (σ:St) (o:List Ob) (p:List Prop):Prop:=xu r (match fz with
 | true=>lkO a σ o p (frK k)
 | false=>k (.loc a) σ o p)
noncomputable def moO (c:Nat) (vs:List V) (σ:St) (o:List Ob) (p:List Prop) (k:KV):Prop:=pc c vs p (λ v p=>k v σ o p) <| match tb.clss c with
 | some ci=>aj p/\∀ a,(∀ q∈σ,q.1≠a)->xc ci.init [] (.loc a::vs) ((a,.ob c [])::σ) o [] (bkK ci.frozen a k) (λ u'=>False)
 | none=>False
noncomputable def cvO (f:V) (vs:List V) (σ:St) (o:List Ob) (p:List Prop) (k:KV) (X:PX):Prop:=match f with
 | .fn n=>xc n [] vs σ o p k X
 | .clo n cap=>xc n cap vs σ o p k X
 | .cls c=>moO tb pc xc c vs σ o p k
 | .bi b=>cbO tb b vs σ o p k
 | _=>False
noncomputable def mkM (m:M) (x:Nat):Option MK:=match m with
 | .lst _=>(if x=tb.append then some .append else if x=tb.pop then some .pop else if x=tb.extend then some BM.extend else none).map .b
 | m=>dX tb (mv m) x []
noncomputable def mfK (x:Nat) (k:MK->List Ob->List Prop->Prop) (m:M) (_:M->St) (_:St) (o:List Ob) (p:List Prop):Prop:=match mkM tb m x with
 | some mk=>k mk o p
 | none=>False
noncomputable def mfO (v:V) (x:Nat) (σ:St) (o:List Ob) (p:List Prop) (k:MK->List Ob->List Prop->Prop):Prop:=match v with
 | .loc a=>lkO a σ o p (mfK tb x k)
 | v=>match dX tb v x [] with
  | some mk=>k mk o p
  | none=>False
noncomputable def apK (w:V) (k:St->List Ob->List Prop->Prop) (m:M) (pt:M->St) (_:St) (o:List Ob) (p:List Prop):Prop:=gG m λ l=>k (pt (.lst (l++[w]))) o ((l.length<100000)::p)
noncomputable def exK (a b:Nat) (m':M) (k:St->List Ob->List Prop->Prop) (m:M) (pt:M->St) (_:St) (o:List Ob) (p:List Prop):Prop :=
 gG m λ l=>gG m' λ l'=>k (pt (.lst (l++l'))) o ((a≠b/\l.length+l'.length<100000)::p)
noncomputable def poK (w:V) (k:St->List Ob->List Prop->Prop) (m:M) (pt:M->St) (_:St) (o:List Ob) (p:List Prop):Prop:=gG m λ l=>k (pt (.lst l.dropLast)) o ((l.getLast?=some w)::p)
noncomputable def spO (o:List Ob) (k:V->List Ob->Prop):Prop:=match o with
 | .s w::o=>k w o
 | _=>False
noncomputable def geK (vs:List V) (σ:St) (k:KV) (v:V) (o:List Ob) (p:List Prop):Prop:=match vs with
 | [i]=>aW (ip v i []) λ r=>k (r.getD .none) σ o p
 | [i,d]=>aW (ip v i []) λ r=>k (r.getD d) σ o p
 | _=>False
noncomputable def mbO (b:BM) (v:V) (vs:List V) (σ:St) (o:List Ob) (p:List Prop) (k:KV):Prop:=match b with
 | .append=>jq v λ a=>eU vs λ w=>lkO a σ o p (apK w (λ σ o p=>k .none σ o p))
 | .get=>dr v σ o p (geK vs σ k)
 | .lower=>xt v λ j=>sE vs (aW (tb.lower j) λ j=>k (.str j) σ o p)
 | .extend=>jq v λ a=>eU vs λ w=>jq w λ b=>lkO b σ o p (λ m' u' u' o p=>lkO a σ o p (exK a b m' (λ σ o p=>k .none σ o p)))
 | .pop=>jq v λ a=>sE vs (spO o λ w o=>lkO a σ o p (poK w (λ σ o p=>k w σ o p)))
noncomputable def xV (mk:MK) (v:V) (vs:List V) (σ:St) (o:List Ob) (p:List Prop) (k:KV) (X:PX):Prop:=match mk with
 | .fn n=>xc n [] (v::vs) σ o p k X
 | .b x=>mbO tb x v vs σ o p k
noncomputable def ssK (i w:V) (k:St->List Ob->List Prop->Prop) (m:M) (pt:M->St) (_:St) (o:List Ob) (p:List Prop):Prop:=match m with
 | .dct l=>(match i with
  | .str n=>k (pt (.dct (bN n w l))) o ((l.length<1000)::p)
  | .int n=>(match l with
   | []=>k (pt (.dci [(n,w)])) o p
   | _=>False)
  | _=>False)
 | .dci l=>cw i λ n=>k (pt (.dci (gF n w l))) o ((l.length<1000)::p)
 | .lst l=>cw i λ n=>k (pt (.lst (l.set n.toNat w))) o (((decide (0<=n)&&decide (n<l.length))=true)::p)
 | _=>False
noncomputable def ssO (v i w:V) (σ:St) (o:List Ob) (p:List Prop) (k:St->List Ob->List Prop->Prop):Prop:=jq v λ a=>lkO a σ o p (ssK i w k)
noncomputable def saK (x:Nat) (w:V) (k:St->List Ob->List Prop->Prop) (m:M) (pt:M->St) (_:St) (o:List Ob) (p:List Prop):Prop :=
 obP m λ c fs=>ri (decide (fs.length<900)&&tb.fld c x) (k (pt (.ob c (bN x w fs))) o p)
noncomputable def saO (v:V) (x:Nat) (w:V) (σ:St) (o:List Ob) (p:List Prop) (k:St->List Ob->List Prop->Prop):Prop:=jq v λ a=>lkO a σ o p (saK tb x w k)
noncomputable def xC (elt:Rho->St->List Ob->List Prop->KV->Prop) (t:T):List V->Rho->St->List Ob->List Prop->KL->Prop
 | [],_,σ,o,p,k=>k [] σ o p
 | v::r,ρ,σ,o,p,k=>match aU t v ρ with
  | some ρ'=>elt ρ' σ o p (λ w σ o p=>xC elt t r ρ σ o p (λ ws σ o p=>k (w::ws) σ o p))
  | none=>False
mutual
noncomputable def xE:E->Rho->St->List Ob->List Prop->KV->PX->Prop
 | .cN,_,σ,o,p,k,_=>k .none σ o p
 | .cY,_,σ,o,p,k,_=>k .byt σ o p
 | .cB b,_,σ,o,p,k,_=>k (.bool b) σ o p
 | .cI i,_,σ,o,p,k,_=>k (.int i) σ o p
 | .cS n,_,σ,o,p,k,_=>k (.str n) σ o p
 | .v x,ρ,σ,o,p,k,_=>vrO x ρ o p (λ v o p=>k v σ o p)
 | .g x,_,σ,o,p,k,_=>match tb.glob x with
  | some v=>k v σ o p
  | none=>False
 | .at_ e a,ρ,σ,o,p,k,X=>xE e ρ σ o p (λ v σ o p=>fiO v a σ o p (λ w o p=>k w σ o p)) X
 | .call f as,ρ,σ,o,p,k,X=>xE f ρ σ o p (λ fv σ o p=>xL as ρ σ o p (λ vs σ o p=>cvO tb pc xc fv vs σ o p k X) X) X
 | .meth e m as,ρ,σ,o,p,k,X=>xE e ρ σ o p (λ ov σ o p=>mfO tb ov m σ o p (λ mk o p=>xL as ρ σ o p (λ vs σ o p=>xV tb xc mk ov vs σ o p k X) X)) X
 | .bin op l r,ρ,σ,o,p,k,X=>xE l ρ σ o p (λ a σ o p=>xE r ρ σ o p (λ b σ o p=>biO op a b o p (λ v o p=>k v σ o p)) X) X
 | .not e,ρ,σ,o,p,k,X=>xE e ρ σ o p (λ a σ o p=>trO a σ o p (λ b o p=>k (.bool (!b)) σ o p)) X
 | .neg e,ρ,σ,o,p,k,X=>xE e ρ σ o p (λ a σ o p=>cw a λ i=>k (.int (-i)) σ o p) X
 | .cmp l op r,ρ,σ,o,p,k,X=>xE l ρ σ o p (λ a σ o p=>xE r ρ σ o p (λ b σ o p=>cmO op a b σ o p (λ v o p=>k (.bool v) σ o p)) X) X
 | .ite t a b,ρ,σ,o,p,k,X=>xT t ρ σ o p (λ c σ o p=>match c with
  | true=>xE a ρ σ o p k X
  | false=>xE b ρ σ o p k X) X
 | .tup es,ρ,σ,o,p,k,X=>xL es ρ σ o p (λ vs σ o p=>k (.tup vs) σ o p) X
 | .lst fr es,ρ,σ,o,p,k,X=>xL es ρ σ o p (λ vs σ o p=>match fr with
  | true=>aj p/\∀ a,(∀ q∈σ,q.1≠a)->k (.loc a) ((a,.lst vs)::σ) o []
  | false=>k (.lst vs) σ o p) X
 | .dct fr es,ρ,σ,o,p,k,X=>xL es ρ σ o p (λ vs σ o p=>match dB vs with
  | some kvs=>(match fr with
   | true=>aj p/\((kvs.map (λ x=>x.1)).Nodup/\∀ a,(∀ q∈σ,q.1≠a)->k (.loc a) ((a,.dct kvs)::σ) o [])
   | false=>k (.dct kvs) σ o ((kvs.map (λ x=>x.1)).Nodup::p))
  | none=>False) X
 | .sub e i,ρ,σ,o,p,k,X=>xE e ρ σ o p (λ a σ o p=>xE i ρ σ o p (λ j σ o p=>suO tb a j σ o p (λ w o p=>k w σ o p)) X) X
 | .slc e l u,ρ,σ,o,p,k,X=>xE e ρ σ o p (λ a σ o p=>xE l ρ σ o p (λ b σ o p=>xE u ρ σ o p (λ c σ o p=>match rn a b c with
  | some v=>k v σ o p
  | none=>False) X) X) X
 | .comp elt t it,ρ,σ,o,p,k,X=>xE it ρ σ o p (λ v σ o p=>itO v σ o p (λ items σ o p=>flO o
  (aj p/\∀ Q:List V->St->Prop,(∀ ws σ o,k (.lst ws) σ o []->Q ws σ)->evC (λ ρ σ Q=>evE tb cl elt ρ σ Q λ u'=>False) t items ρ σ Q)
  (xC (λ ρ σ o p k=>xE elt ρ σ o p k (λ u'=>False)) t items ρ σ o p (λ vs σ o p=>k (.lst vs) σ o p)))) X
 | .lam n cap,ρ,σ,o,p,k,_=>match fg ρ cap with
  | some l=>k (.clo n l) σ o p
  | none=>False
 | .or es,ρ,σ,o,p,k,X=>xOr es ρ σ o p k X
 | .and es,ρ,σ,o,p,k,X=>xW es ρ σ o p k X
 | _,_,_,_,_,_,_=>False
noncomputable def xOr:List E->Rho->St->List Ob->List Prop->KV->PX->Prop
 | [],_,_,_,_,_,_=>False
 | [e],ρ,σ,o,p,k,X=>xE e ρ σ o p k X
 | e::r,ρ,σ,o,p,k,X=>xE e ρ σ o p (λ v σ o p=>trO v σ o p (λ b o p=>match b with
  | true=>k v σ o p
  | false=>xOr r ρ σ o p k X)) X
noncomputable def xW:List E->Rho->St->List Ob->List Prop->KV->PX->Prop
 | [],_,_,_,_,_,_=>False
 | [e],ρ,σ,o,p,k,X=>xE e ρ σ o p k X
 | e::r,ρ,σ,o,p,k,X=>xE e ρ σ o p (λ v σ o p=>trO v σ o p (λ b o p=>match b with
  | true=>xW r ρ σ o p k X
  | false=>k v σ o p)) X
noncomputable def xL:List E->Rho->St->List Ob->List Prop->KL->PX->Prop
 | [],_,σ,o,p,k,_=>k [] σ o p
 | e::r,ρ,σ,o,p,k,X=>xE e ρ σ o p (λ v σ o p=>xL r ρ σ o p (λ vs σ o p=>k (v::vs) σ o p) X) X
noncomputable def xT:E->Rho->St->List Ob->List Prop->KB->PX->Prop
 | .not e,ρ,σ,o,p,k,X=>xT e ρ σ o p (λ b σ o p=>k (!b) σ o p) X
 | .and es,ρ,σ,o,p,k,X=>xX es ρ σ o p k X
 | .or es,ρ,σ,o,p,k,X=>xY es ρ σ o p k X
 | .cmp l op r,ρ,σ,o,p,k,X=>xE l ρ σ o p (λ a σ o p=>xE r ρ σ o p (λ b σ o p=>cmO op a b σ o p (λ v o p=>k v σ o p)) X) X
 | .call f as,ρ,σ,o,p,k,X=>xE f ρ σ o p (λ fv σ o p=>xL as ρ σ o p (λ vs σ o p=>cvO tb pc xc fv vs σ o p (λ v σ o p=>trO v σ o p (λ b o p=>k b σ o p)) X) X) X
 | .meth e m as,ρ,σ,o,p,k,X=>xE e ρ σ o p (λ ov σ o p=>mfO tb ov m σ o p (λ mk o p=>xL as ρ σ o p (λ vs σ o p=>xV tb xc mk ov vs σ o p (λ v σ o p=>trO v σ o p (λ b o p=>k b σ o p)) X) X)) X
 | .v x,ρ,σ,o,p,k,_=>vrO x ρ o p (λ v o p=>trO v σ o p (λ b o p=>k b σ o p))
 | .cB b,_,σ,o,p,k,_=>k b σ o p
 | .cmp2 l o1 m o2 r,ρ,σ,o,p,k,X=>xE l ρ σ o p (λ a σ o p=>xE m ρ σ o p (λ b σ o p=>cmO o1 a b σ o p (λ v o p=>match v with
  | true=>xE r ρ σ o p (λ c σ o p=>cmO o2 b c σ o p (λ v o p=>k v σ o p)) X
  | false=>k false σ o p)) X) X
 | _,_,_,_,_,_,_=>False
noncomputable def xX:List E->Rho->St->List Ob->List Prop->KB->PX->Prop
 | [],_,σ,o,p,k,_=>k true σ o p
 | e::r,ρ,σ,o,p,k,X=>xT e ρ σ o p (λ b σ o p=>match b with
  | true=>xX r ρ σ o p k X
  | false=>k false σ o p) X
noncomputable def xY:List E->Rho->St->List Ob->List Prop->KB->PX->Prop
 | [],_,σ,o,p,k,_=>k false σ o p
 | e::r,ρ,σ,o,p,k,X=>xT e ρ σ o p (λ b σ o p=>match b with
  | true=>k true σ o p
  | false=>xY r ρ σ o p k X) X
end
mutual
noncomputable def xA:T->V->Rho->St->List Ob->List Prop->KN->PX->Prop
 | .x n,v,ρ,σ,o,p,k,_=>k (upd n v ρ) σ o p
 | .c n,v,ρ,σ,o,p,k,_=>match ρ n with
  | none=>k (upd n v ρ) σ o p
  | some _=>False
 | .tup ts,v,ρ,σ,o,p,k,X=>match v with
  | .tup l=>ri (ts.length==l.length) (xAs ts l ρ σ o p k X)
  | .lst l=>ri (ts.length==l.length) (xAs ts l ρ σ o p k X)
  | _=>False
 | .at_ e a,v,ρ,σ,o,p,k,X=>xE tb pc cl xc e ρ σ o p (λ ov σ o p=>saO tb ov a v σ o p (λ σ o p=>k ρ σ o p)) X
 | .sub e i,v,ρ,σ,o,p,k,X=>xE tb pc cl xc e ρ σ o p (λ ov σ o p=>xE tb pc cl xc i ρ σ o p (λ iv σ o p=>ssO ov iv v σ o p (λ σ o p=>k ρ σ o p)) X) X
noncomputable def xAs:List T->List V->Rho->St->List Ob->List Prop->KN->PX->Prop
 | [],[],ρ,σ,o,p,k,_=>k ρ σ o p
 | t::ts,v::vs,ρ,σ,o,p,k,X=>xA t v ρ σ o p (λ ρ σ o p=>xAs ts vs ρ σ o p k X) X
 | _,_,_,_,_,_,_,_=>False
end
noncomputable def rsO (v:V) (σ:St) (p:List Prop) (X:PX):Prop:=match v with
 | .str _=>aj p/\X σ
 | .msg _=>aj p/\X σ
 | _=>False
noncomputable def xF (body:Rho->St->List Ob->List Prop->KN->Prop) (bind:V->Rho->St->List Ob->List Prop->KN->Prop):List V->Rho->St->List Ob->List Prop->KN->Prop
 | [],ρ,σ,o,p,k=>k ρ σ o p
 | v::r,ρ,σ,o,p,k=>bind v ρ σ o p (λ ρ σ o p=>body ρ σ o p (λ ρ σ o p=>xF body bind r ρ σ o p k))
mutual
noncomputable def xS:S->Rho->St->List Ob->List Prop->KN->KV->PX->Prop
 | .ex e,ρ,σ,o,p,k,_,X=>xE tb pc cl xc e ρ σ o p (λ u' σ o p=>k ρ σ o p) X
 | .asg t e,ρ,σ,o,p,k,_,X=>xE tb pc cl xc e ρ σ o p (λ v σ o p=>xA tb pc cl xc t v ρ σ o p k X) X
 | .if_ c a b,ρ,σ,o,p,k,R,X=>xT tb pc cl xc c ρ σ o p (λ t σ o p=>match t with
  | true=>xSs a ρ σ o p k R X
  | false=>xSs b ρ σ o p k R X) X
 | .for_ t it b,ρ,σ,o,p,k,R,X=>xE tb pc cl xc it ρ σ o p (λ v σ o p=>itO v σ o p (λ items σ o p=>flO o
  (aj p/\∀ (N:PN) (R':PV),(∀ ρ σ o,k ρ σ o []->N ρ σ)->(∀ v σ o,R v σ o []->R' v σ)->exF (λ ρ σ N R X=>execs tb cl b ρ σ N R X) (λ v ρ σ N X=>asT tb cl t v ρ σ N X) items ρ σ N R' X)
  (xF (λ ρ σ o p k=>xSs b ρ σ o p k R X) (λ v ρ σ o p k=>xA tb pc cl xc t v ρ σ o p k X) items ρ σ o p k))) X
 | .ret e,ρ,σ,o,p,_,R,X=>xE tb pc cl xc e ρ σ o p R X
 | .raise c e,ρ,σ,o,p,_,_,X=>ri (c==12) (xE tb pc cl xc e ρ σ o p (λ v σ u' p=>rsO v σ p X) X)
 | _,_,_,_,_,_,_,_=>False
noncomputable def xSs:List S->Rho->St->List Ob->List Prop->KN->KV->PX->Prop
 | [],ρ,σ,o,p,k,_,_=>k ρ σ o p
 | s::r,ρ,σ,o,p,k,R,X=>xS s ρ σ o p (λ ρ σ o p=>xSs r ρ σ o p k R X) R X
end
end
noncomputable def bwO:List Nat->List V->Rho->(Rho->Prop)->Prop
 | [],_,ρ,k=>k ρ
 | _::_,[],_,_=>False
 | x::ps,v::vs,ρ,k=>bwO ps vs (upd x v ρ) k
noncomputable def bnO (ps:List Nat) (ds vs:List V) (k:Rho->Prop):Prop:=match ps.length - vs.length with
 | 0=>(match Nat.ble vs.length ps.length with
  | true=>bwO ps vs (λ u'=>none) k
  | false=>False)
 | n+1=>match Nat.ble (n+1) ds.length with
  | true=>bwO ps (vs++ds.drop (ds.length - (n+1))) (λ u'=>none) k
  | false=>False
noncomputable def cfO:List (Nat×V)->Rho->(Rho->Prop)->Prop
 | [],ρ,k=>k ρ
 | (x,v)::r,ρ,k=>cfO r ρ (λ ρ=>k (upd x v ρ))
noncomputable def inO (tb:ng) (pc:PfT) (cl:ah) (rc:dC) (k:Nat) (cap:List (Nat×V)) (vs:List V) (σ:St) (o:List Ob) (p:List Prop) (K:KV) (X:PX):Prop:=match tb.fns k with
 | some f=>(match f.gc with
  | true=>bnO f.params f.dflts vs (λ ρ=>cfO cap ρ (λ ρ=>xSs tb pc cl rc f.body ρ σ o p (λ u' σ' o p=>K .none (σ'.drop (σ'.length - σ.length)) o p) (λ v σ' o p=>K v (σ'.drop (σ'.length - σ.length)) o p) X))
  | false=>bnO f.params f.dflts vs (λ ρ=>cfO cap ρ (λ ρ=>xSs tb pc cl rc f.body ρ σ o p (λ u' σ o p=>K .none σ o p) K X)))
 | none=>False
noncomputable def xK (tb:ng) (pc pf:PfT) (d:Nat):Nat->dC
 | 0=>λ u' u' u' u' u' u' u' u'=>False
 | n+1=>λ k cap vs σ o p K X=>flC o (aj p/\∀ Q:PV,(∀ v σ o,K v σ o []->Q v σ)->U tb (d+(n+1)) k cap vs σ Q X) (λ o=>match cap with
  | []=>pf k vs p (λ v p=>K v σ o p) (inO tb pc (U tb (d+n)) (xK tb pc pf d n) k [] vs σ o p K X)
  | _::_=>inO tb pc (U tb (d+n)) (xK tb pc pf d n) k cap vs σ o p K X)
theorem eO {C:List Ob->Prop} (h0:C []) (hm:∀ m o,C (.m m::o)) (hb:∀ b o,C (.b b::o)) (hv:∀ x v o,C (.v x v::o)) (hi:∀ n o,C (.i n::o)) (hs:∀ v o,C (.s v::o)) (hf:∀ o,C (.f::o)) (hg:∀ o,C (.g::o)):∀ o,C o:=by
 intro o
 rcases o with _ | ⟨x,o⟩
 ·exact h0
 ·induction x using Ob.casesOn with
  | m m=>exact hm m o
  | b m=>exact hb m o
  | v x m=>exact hv x m o
  | i m=>exact hi m o
  | s m=>exact hs m o
  | f=>exact hf o
  | g=>exact hg o
theorem wd {C:Prop} {o:List Ob} {k:V->List Ob->Prop} (hk:∀ w o,k w o->C) (h:spO o k):C :=
 eO (C:=λ o=>spO o k->C) (λ h=>h.elim) (λ u' u' h=>h.elim) (λ u' u' h=>h.elim) (λ u' u' u' h=>h.elim) (λ u' u' h=>h.elim) (λ w o h=>hk w o h) (λ u' h=>h.elim) (λ u' h=>h.elim) o h
inductive DrR (σ:St):V->V->Prop
 | loc {a:Nat} {m:M} (h:look a σ=some m):DrR σ (.loc a) (mv m)
 | same {v:V} (h:∀ a,v≠.loc a):DrR σ v v
section
variable {a:Nat} {σ:St} {o:List Ob} {p:List Prop} {C:Prop}
theorem nK:∀ {n:Nat} {s:St} {p:List Prop} {k:M->(M->St)->St->List Prop->Prop} {C:Prop},(∀ m pt rm p',k m pt rm p'->aj p'/\(look a s=some m->(∀ m',pt m'=put a m' s)->rm=rem a s->C))->tG n a s p k->aj p/\C
 | 0,(b,m)::r,p,k,C,hk,h=>by
  refine al (hk _ _ _ _ h) ?_;intro z0 h2;refine al z0 ?_;clear z0;intro e h1
  subst e
  exact ⟨h1,h2 (if_pos rfl) (λ u'=>(if_pos rfl).symm) (if_pos rfl).symm⟩
 | n+1,(b,m)::r,p,k,C,hk,h=>by
  obtain ⟨⟨e,h1⟩,h2⟩:=nK (p:=(a≠b)::p) (C:=a≠b->C) (λ m0 pt rm p' hh=>by
   refine al (hk _ _ _ _ hh) ?_;intro g1 g2
   exact ⟨g1,λ e1 e2 e3 ne=>g2 ((if_neg ne).trans e1) (λ m'=>by refine rwE (e2 ..) ?_;exact (if_neg ne).symm) (by refine rwE e3 ?_;exact (if_neg ne).symm)⟩) h
  exact ⟨h1,h2 e⟩
 | 0,[],_,_,_,_,h=>h.elim
 | _+1,[],_,_,_,_,h=>h.elim
theorem c9 {k:M->(M->St)->St->List Ob->List Prop->Prop} (hk:∀ m pt rm o' p',k m pt rm o' p'->aj p'/\(look a σ=some m->(∀ m',pt m'=put a m' σ)->rm=rem a σ->C)) (h:lkO a σ o p k):aj p/\C :=
 eO (C:=λ o=>lkO a σ o p k->aj p/\C) (λ h=>h.elim) (λ m o h=>⟨(hk _ _ _ _ _ h).1.2,(hk _ _ _ _ _ h).2 (hk _ _ _ _ _ h).1.1 (λ u'=>rfl) rfl⟩) (λ u' u' h=>h.elim) (λ u' u' u' h=>h.elim)
  (λ n o h=>nK (λ m pt rm p' hh=>hk _ _ _ _ _ hh) h) (λ u' u' h=>h.elim) (λ u' h=>h.elim) (λ u' h=>h.elim) o h
theorem kg {α:Type} {F:α->Prop} {k:α->List Ob->List Prop->Prop} (hk:∀ w o' p',k w o' p'->aj p'/\(F w->C)) {w:α} (h:k w o (F w::p)):aj p/\C:=⟨(hk _ _ _ h).1.2,(hk _ _ _ h).2 (hk _ _ _ h).1.1⟩
theorem mq {v:V} {k:V->List Ob->List Prop->Prop} (hk:∀ v' o' p',k v' o' p'->aj p'/\(DrR σ v v'->C)) (h:dr v σ o p k):aj p/\C:=by
 induction v using V.casesOn with
 | loc a=>exact c9 (k:=λ m u' u' o p=>k (mv m) o p) (λ m pt rm o' p' hh=>⟨(hk _ _ _ hh).1,λ e u' u'=>(hk _ _ _ hh).2 (.loc e)⟩) h
 | _=>exact ⟨(hk _ _ _ h).1,(hk _ _ _ h).2 (.same λ u'=>V.noConfusion)⟩
theorem rO {x:Nat} {ρ:Rho} {k:V->List Ob->List Prop->Prop} (hk:∀ w o' p',k w o' p'->aj p'/\(ρ x=some w->C)) (h:vrO x ρ o p k):aj p/\C:=by
 have direct:∀ {o:List Ob},vrD x ρ o p k->aj p/\C:=λ {o} h=>by
  delta vrD at h
  generalize e:ρ x=r at h
  induction r using Option.casesOn with
  | none=>exact h.elim
  | some w=>exact ⟨(hk _ _ _ h).1,(hk _ _ _ h).2 e⟩
 refine eO (C:=λ o=>vrO x ρ o p k->aj p/\C) direct (λ u' u'=>direct) (λ u' u'=>direct) (λ y w o h=>?_) (λ u' u'=>direct) (λ u' u'=>direct) (λ u'=>direct) (λ u'=>direct) o h
 have h:(if y=x then k w o ((ρ x=some w)::p) else vrD x ρ (.v y w::o) p k):=h
 by_cases e:y=x
 ·rw [if_pos e] at h
  exact kg hk h
 ·rw [if_neg e] at h;exact direct h
set_option tactic.hygienic true in
theorem mu {v v':V} {x:Nat} {w:V} (d:DrR σ v v') (h:br v' x []=some w):br v x σ=some w:=by
 cases d with
 | loc e =>
  rename_i l m
  show (match look l σ with | some (.ob _ fs)=>aY x fs | _=>none)=_
  refine rwE e ?_
  induction m using M.casesOn with
  | ob c fs=>exact h
  | _=>exact h
 | same e =>
  induction v using V.casesOn with
  | loc a=>exact (e a rfl).elim
  | _=>exact h
set_option tactic.hygienic true in
theorem lA {v v':V} {w:List V} (d:DrR σ v v') (h:bg v' []=some w):bg v σ=some w:=by
 cases d with
 | loc e =>
  rename_i l m
  show (match look l σ with | some (.lst fs)=>some fs | _=>none)=_
  refine rwE e ?_
  induction m using M.casesOn with
  | lst fs=>exact h
  | _=>exact h
 | same e =>
  induction v using V.casesOn with
  | loc a=>exact (e a rfl).elim
  | _=>exact h
set_option tactic.hygienic true in
theorem ii {v v':V} {w:List (Nat×V)} (d:DrR σ v v') (h:bl v' []=some w):bl v σ=some w:=by
 cases d with
 | loc e =>
  rename_i l m
  show (match look l σ with | some (.dct fs)=>some fs | _=>none)=_
  refine rwE e ?_
  induction m using M.casesOn with
  | dct fs=>exact h
  | _=>exact h
 | same e =>
  induction v using V.casesOn with
  | loc a=>exact (e a rfl).elim
  | _=>exact h
set_option tactic.hygienic true in
theorem lB {v v':V} {w:List (Int×V)} (d:DrR σ v v') (h:dq v' []=some w):dq v σ=some w:=by
 cases d with
 | loc e =>
  rename_i l m
  show (match look l σ with | some (.dci fs)=>some fs | some (.dct [])=>some [] | _=>none)=_
  refine rwE e ?_
  induction m using M.casesOn with
  | dci fs=>exact h
  | _=>exact J h
 | same e =>
  induction v using V.casesOn with
  | loc a=>exact (e a rfl).elim
  | _=>exact h
set_option tactic.hygienic true in
theorem tH {v v' i w:V} (d:DrR σ v v') (h:cU tb v' i []=some w):cU tb v i σ=some w:=by
 cases d with
 | same e =>
  induction v using V.casesOn with
  | loc a=>exact (e a rfl).elim
  | _=>exact h
 | loc e =>
  rename_i l m
  induction i using V.casesOn with
  | int n =>
   induction m using M.casesOn with
   | lst xs =>
    show (match bg (.loc l) σ with | some l=>(bD n l.length).bind λ k=>l[k]? | none=>(dq (.loc l) σ).bind λ l=>fB n l)=_
    refine rwE (lA (.loc e) rfl) ?_;exact h
   | dci xs =>
    show (match bg (.loc l) σ with | some l=>(bD n l.length).bind λ k=>l[k]? | none=>(dq (.loc l) σ).bind λ l=>fB n l)=_
    (refine rwE (lB (.loc e) rfl) ?_;refine rwE (show bg (.loc l) σ=none by show (match look l σ with | some (.lst fs)=>some fs | _=>none)=_;(refine rwE e ?_;rfl)) ?_);exact h
   | _=>exact J h
  | str n =>
   induction m using M.casesOn with
   | dct xs =>
    show ((bl (.loc l) σ).bind λ l=>aY n l)=_
    refine rwE (ii (.loc e) rfl) ?_;exact h
   | _=>exact J h
  | _=>exact J h
theorem nL {v v' i:V} {w:Option V} (d:DrR σ v v') (h:ip v' i []=some w):ip v i σ=some w:=by
 induction i using V.casesOn with
 | int n =>
  have h':(dq v' []).map (λ l=>fB n l)=some w:=h
  show (dq v σ).map (λ l=>fB n l)=some w
  refine au (Option.map_eq_some_iff.mp h') ?_;intro x e z2;obtain rfl:=z2
  refine rwE (lB d e) ?_;rfl
 | str n =>
  have h':(bl v' []).map (λ l=>aY n l)=some w:=h
  show (bl v σ).map (λ l=>aY n l)=some w
  refine au (Option.map_eq_some_iff.mp h') ?_;intro x e z2;obtain rfl:=z2
  refine rwE (ii d e) ?_;rfl
 | _=>exact J h
theorem we {v:V} {a:Nat} {k:V->List Ob->List Prop->Prop} (hk:∀ w o' p',k w o' p'->aj p'/\(br v a σ=some w->C)) (h:fiO v a σ o p k):aj p/\C:=by
 have direct:∀ {o:List Ob},dr v σ o p (λ v o p=>match br v a [] with | some w=>k w o p | none=>False)->aj p/\C:=λ h=>mq (λ v' o' p' hh=>by
  generalize e:br v' a []=r at hh
  induction r using Option.casesOn with
  | none=>exact hh.elim
  | some w=>exact ⟨(hk _ _ _ hh).1,λ d=>(hk _ _ _ hh).2 (mu d e)⟩) h
 exact eO (C:=λ o=>fiO v a σ o p k->aj p/\C) direct (λ u' u'=>direct) (λ u' u'=>direct) (λ u' u' u'=>direct) (λ u' u'=>direct) (λ u' u' h=>kg hk h) (λ u'=>direct) (λ u'=>direct) o h
theorem wf {v j:V} {k:V->List Ob->List Prop->Prop} (hk:∀ w o' p',k w o' p'->aj p'/\(cU tb v j σ=some w->C)) (h:suO tb v j σ o p k):aj p/\C:=by
 have direct:∀ {o:List Ob},dr v σ o p (λ v o p=>match cU tb v j [] with | some w=>k w o p | none=>False)->aj p/\C:=λ h=>mq (λ v' o' p' hh=>by
  generalize e:cU tb v' j []=r at hh
  induction r using Option.casesOn with
  | none=>exact hh.elim
  | some w=>exact ⟨(hk _ _ _ hh).1,λ d=>(hk _ _ _ hh).2 (tH d e)⟩) h
 exact eO (C:=λ o=>suO tb v j σ o p k->aj p/\C) direct (λ u' u'=>direct) (λ u' u'=>direct) (λ u' u' u'=>direct) (λ u' u'=>direct) (λ u' u' h=>kg hk h) (λ u'=>direct) (λ u'=>direct) o h
theorem rP {a b:Prop} (ha:a->C) (hb:b->C) (h:flO o a b):C :=
 eO (C:=λ o=>flO o a b->C) hb (λ u' u'=>hb) (λ u' u'=>hb) (λ u' u' u'=>hb) (λ u' u'=>hb) (λ u' u'=>hb) (λ u'=>ha) (λ u'=>hb) o h
theorem wg {a:Prop} {b:List Ob->Prop} (ha:a->C) (hb:∀ o,b o->C) (h:flC o a b):C :=
 eO (C:=λ o=>flC o a b->C) (hb _) (λ u' u'=>hb _) (λ u' u'=>hb _) (λ u' u' u'=>hb _) (λ u' u'=>hb _) (λ u' u'=>hb _) (λ u'=>ha) (λ u'=>hb _) o h
theorem o9 {v:V} {r:Bool} (h:aT v []=some r):aT v σ=some r:=by
 induction v using V.casesOn with
 | loc a=>exact J h
 | _=>exact h
theorem mx {v:V} {l:List V} {s:St} (h:aF v []=some (l,s)):aF v σ=some (l,σ):=by
 induction v using V.casesOn with
 | tup xs=>(refine al (Prod.mk.inj (Option.some.inj h)) ?_;intro z0 z1;obtain rfl:=z0);rfl
 | lst xs=>(refine al (Prod.mk.inj (Option.some.inj h)) ?_;intro z0 z1;obtain rfl:=z0);rfl
 | rng x y z =>
  by_cases q:(decide (x=0)&&decide (0<z)&&decide (z<=1000)&&decide (-100000<=y)&&decide (y<=100000))=true
  ·have h':(if (decide (x=0)&&decide (0<z)&&decide (z<=1000)&&decide (-100000<=y)&&decide (y<=100000))=true then some (rk x y z,([]:St)) else none)=_:=h
   rw [if_pos q] at h'
   refine al (Prod.mk.inj (Option.some.inj h')) ?_;intro z0 z1;obtain rfl:=z0
   exact if_pos q
  ·have h':(if (decide (x=0)&&decide (0<z)&&decide (z<=1000)&&decide (-100000<=y)&&decide (y<=100000))=true then some (rk x y z,([]:St)) else none)=_:=h
   rw [if_neg q] at h'
   exact J h'
 | _=>exact J h
theorem tI {x:V} {l:Nat}:eqV x (.loc l)=none:=by
 have h:(if vok x 20&&false then veq x (.loc l) else none)=none:=by refine rwE (Bool.and_false ..) ?_;rfl
 induction x using V.casesOn with
 | _=>exact h
theorem mW (v:V):(∃ l,v=.loc l)\/(aL v σ=aL v []/\bl v σ=bl v []):=by
 induction v using V.casesOn with
 | loc l=>exact .inl ⟨l,rfl⟩
 | _=>exact .inr ⟨rfl,rfl⟩
theorem nM {a b:V} {r:Bool} (h:eqV (aL a []) (aL b [])=some r):eqV (aL a σ) (aL b σ)=some r:=by
 rcases mW (σ:=σ) b with ⟨l,rfl⟩ | ⟨e,_⟩
 ·exact J (tI.symm.trans h)
 ·rcases mW (σ:=σ) a with ⟨l,rfl⟩ | ⟨e',_⟩
  ·exact J h
  ·(refine rwE e ?_;refine rwE e' ?_);exact h
theorem lC {a b:V} {r:Bool} (h:lL a b []=some r):lL a b σ=some r:=by
 rcases mW (σ:=σ) b with ⟨l,rfl⟩ | ⟨_,e⟩
 ·induction a using V.casesOn with
  | str n=>exact J h
  | _=>exact h
 ·induction a using V.casesOn with
  | str n =>
   induction b using V.casesOn with
   | tup l=>exact h
   | _=>exact (congrArg (Option.map λ l=>(aY n l).isSome) e).trans h
  | _=>exact h
theorem qP {op:Cm} {a b:V} {r:Bool} (h:bB op a b []=some r):bB op a b σ=some r:=by
 cases op with
 | eq=>exact nM h
 | ne =>
  refine au (Option.map_eq_some_iff.mp (show (eqV (aL a []) (aL b [])).map (!·)=some r from h)) ?_;intro x e z2;obtain rfl:=z2
  show (eqV (aL a σ) (aL b σ)).map (!·)=_
  refine rwE (nM e) ?_;rfl
 | in_=>exact lC h
 | notin =>
  refine au (Option.map_eq_some_iff.mp (show (lL a b []).map (!·)=some r from h)) ?_;intro x e z2;obtain rfl:=z2
  show (lL a b σ).map (!·)=_
  refine rwE (lC e) ?_;rfl
 | _=>exact h
theorem kh {op:Cm} {a b:V} {k:Bool->List Ob->List Prop->Prop} (hk:∀ r o' p',k r o' p'->aj p'/\(bB op a b σ=some r->C)) (h:cmO op a b σ o p k):aj p/\C:=by
 have direct:∀ {o:List Ob},(match bB op a b [] with | some w=>k w o p | none=>False)->aj p/\C:=λ {o} h=>by
  generalize e:bB op a b []=r at h
  induction r using Option.casesOn with
  | none=>exact h.elim
  | some w=>exact ⟨(hk _ _ _ h).1,(hk _ _ _ h).2 (qP e)⟩
 exact eO (C:=λ o=>cmO op a b σ o p k->aj p/\C) direct (λ u' u'=>direct) (λ u' u' h=>kg hk h) (λ u' u' u'=>direct) (λ u' u'=>direct) (λ u' u'=>direct) (λ u'=>direct) (λ u'=>direct) o h
theorem gx {v:V} {k:Bool->List Ob->List Prop->Prop} (hk:∀ r o' p',k r o' p'->aj p'/\(aT v σ=some r->C)) (h:trO v σ o p k):aj p/\C:=by
 have direct:∀ {o:List Ob},(match aT v [] with | some w=>k w o p | none=>False)->aj p/\C:=λ {o} h=>by
  generalize e:aT v []=r at h
  induction r using Option.casesOn with
  | none=>exact h.elim
  | some w=>exact ⟨(hk _ _ _ h).1,(hk _ _ _ h).2 (o9 e)⟩
 exact eO (C:=λ o=>trO v σ o p k->aj p/\C) direct (λ u' u'=>direct) (λ u' u' h=>kg hk h) (λ u' u' u'=>direct) (λ u' u'=>direct) (λ u' u'=>direct) (λ u'=>direct) (λ u'=>direct) o h
theorem fc {op:Op} {a b:V} {k:V->List Ob->List Prop->Prop} (hk:∀ v o' p',k v o' p'->aj p'/\(gA op a b=some v->C)) (h:biD op a b o p k):aj p/\C:=by
 have direct:aW (gA op a b) (λ v=>k v o p)->aj p/\C:=aI λ w e h=>⟨(hk _ _ _ h).1,(hk _ _ _ h).2 e⟩
 induction op using Op.casesOn with
 | mul=>exact aP (λ x ex h=>aP (λ y ey h=>by
  refine al (hk _ _ _ h) ?_;intro z0 h2;refine bq z0 ?_;clear z0;intro e1 e2 h1
  refine ⟨h1,h2 ?_⟩
  refine rwE ex ?_;refine rwE ey ?_
  show (if bE x&&bE y then some (x*y) else none).map V.int=_
  (refine rwE e1 ?_;refine rwE e2 ?_);rfl) h) h
 | _=>exact direct h
theorem wi {op:Op} {a b:V} {k:V->List Ob->List Prop->Prop} (hk:∀ v o' p',k v o' p'->aj p'/\(gA op a b=some v->C)) (h:biO op a b o p k):aj p/\C :=
 eO (C:=λ o=>biO op a b o p k->aj p/\C) (fc hk) (λ u' u'=>fc hk) (λ u' u'=>fc hk) (λ u' u' u'=>fc hk) (λ u' u'=>fc hk) (λ u' u' h=>kg hk h) (λ u'=>fc hk) (λ u'=>fc hk) o h
theorem ff {v:V} {k:KL} (hk:∀ l s o' p',k l s o' p'->aj p'/\(aF v σ=some (l,s)->C)) (h:itD v σ o p k):aj p/\C:=by
 have direct:(match aF v [] with | some (l,_)=>k l σ o p | none=>False)->aj p/\C:=λ h=>by
  generalize e:aF v []=r at h
  induction r using Option.casesOn with
  | none=>exact h.elim
  | some w=>exact ⟨(hk _ _ _ _ h).1,(hk _ _ _ _ h).2 (mx e)⟩
 induction v using V.casesOn with
 | loc a =>
  exact c9 (k:=itK k) (λ m pt rm o' p' hh=>cx (λ l em hh=>⟨(hk _ _ _ _ hh).1,λ e u' er=>(hk _ _ _ _ hh).2 (by
   show (match look a σ with | some (.lst l)=>some (l,rem a σ) | _=>none)=_
   (refine rwE e ?_;refine rwE er ?_;refine rwE em ?_;rfl))⟩) hh) h
 | _=>exact direct h
theorem rQ {v:V} {k:KL} (hk:∀ l s o' p',k l s o' p'->aj p'/\(aF v σ=some (l,s)->C)) (h:itO v σ o p k):aj p/\C:=by
 refine eO (C:=λ o=>itO v σ o p k->aj p/\C) (ff hk) (λ u' u'=>ff hk) (λ u' u'=>ff hk) (λ u' u' u'=>ff hk) (λ u' u'=>ff hk) (λ w o h=>?_) (λ u'=>ff hk) (λ u'=>ff hk) o h
 induction w using V.casesOn with
 | lst l=>exact ⟨(hk _ _ _ _ h).1.2,(hk _ _ _ _ h).2 (hk _ _ _ _ h).1.1⟩
 | _=>exact h.elim
theorem rR {v:V} {k:List V->List Ob->List Prop->Prop} (hk:∀ l o' p',k l o' p'->aj p'/\(bg v σ=some l->C)) (h:sqO v σ o p k):aj p/\C :=
 mq (λ v' o' p' hh=>aI (λ w e hh=>⟨(hk _ _ _ hh).1,λ d=>(hk _ _ _ hh).2 (lA d e)⟩) hh) h
theorem rS {v:V} {x:Nat} {k:MK->List Ob->List Prop->Prop} (hk:∀ mk o' p',k mk o' p'->aj p'/\(dX tb v x σ=some mk->C)) (h:mfO tb v x σ o p k):aj p/\C:=by
 have direct:(∀ mk,dX tb v x []=some mk->dX tb v x σ=some mk)->(match dX tb v x [] with | some w=>k w o p | none=>False)->aj p/\C:=λ hh h=>by
  generalize e:dX tb v x []=r at h
  induction r using Option.casesOn with
  | none=>exact h.elim
  | some w=>exact ⟨(hk _ _ _ h).1,(hk _ _ _ h).2 (hh _ e)⟩
 induction v using V.casesOn with
 | loc a =>
  refine c9 (k:=mfK tb x k) (λ m pt rm o' p' hh=>?_) h
  unfold mfK at hh
  generalize e:mkM tb m x=r at hh
  induction r using Option.casesOn with
  | none=>exact hh.elim
  | some w =>
   refine ⟨(hk _ _ _ hh).1,λ el u' u'=>(hk _ _ _ hh).2 ?_⟩
   induction m using M.casesOn with
   | lst l=>exact (j9 el).trans e
   | dct l=>exact (v7 el).trans e
   | dci l=>exact (rM el).trans e
   | ob c fs=>exact (aA el).trans e
 | _=>exact direct (λ u' h=>h) h
theorem wj {v i w:V} {k:St->List Ob->List Prop->Prop} (hk:∀ s o' p',k s o' p'->aj p'/\(bn v i w σ=some s->C)) (h:ssO v i w σ o p k):aj p/\C :=
 bP (λ a ev h=>c9 (k:=ssK i w k) (λ m pt rm o' p' hh=>by
  subst ev
  induction m using M.casesOn with
  | dct l =>
   induction i using V.casesOn with
   | str n=>exact ⟨(hk _ _ _ hh).1.2,λ e ep u'=>(hk _ _ _ hh).2 (by refine rwE (ep ..) ?_;exact be e (hk _ _ _ hh).1.1)⟩
   | int n =>
    induction l using List.casesOn with
    | nil=>exact ⟨(hk _ _ _ hh).1,λ e ep u'=>(hk _ _ _ hh).2 (by refine rwE (ep ..) ?_;exact kI e)⟩
    | cons _ _=>exact hh.elim
   | _=>exact hh.elim
  | dci l=>exact aP (λ n ei hh=>by
   refine al (hk _ _ _ hh) ?_;intro z0 h2;refine al z0 ?_;clear z0;intro h0 h1
   exact ⟨h1,λ e ep u'=>h2 (by (refine rwE (ep ..) ?_;refine rwE ei ?_);exact mn e h0)⟩) hh
  | lst l=>exact aP (λ n ei hh=>by
   refine al (hk _ _ _ hh) ?_;intro z0 h2;refine al z0 ?_;clear z0;intro h0 h1
   exact ⟨h1,λ e ep u'=>h2 (by (refine rwE (ep ..) ?_;refine rwE ei ?_);exact gX e h0)⟩) hh
  | ob c l=>exact hh.elim) h) h
theorem wl {v:V} {x:Nat} {w:V} {k:St->List Ob->List Prop->Prop} (hk:∀ s o' p',k s o' p'->aj p'/\(setAt tb v x w σ=some s->C)) (h:saO tb v x w σ o p k):aj p/\C :=
 bP (λ a ev h=>c9 (k:=saK tb x w k) (λ m pt rm o' p' hh=>mI (λ c fs em hh=>jr (λ eb hh=>⟨(hk _ _ _ hh).1,λ e ep u'=>(hk _ _ _ hh).2 (by (refine rwE (ep ..) ?_;refine rwE ev ?_);exact d8 (em▸e) eb)⟩) hh) hh) h) h
end
noncomputable abbrev Vk (k:KV) (Q:PV):Prop:=∀ v σ o p,k v σ o p->aj p/\Q v σ
noncomputable def CX (xc:dC) (call:ah):Prop:=∀ n cap vs σ o p K X Q,Vk K Q->xc n cap vs σ o p K X->aj p/\call n cap vs σ Q X
noncomputable def rT (pc:PfT) (call:ah):Prop:=∀ c vs p K F,pc c vs p K F->F\/∃ v p',K v p'/\(aj p'->aj p/\∀ {σ:St} {Q:PV},Q v σ->bO tb call c vs σ Q)
section
variable {pc:PfT} {xc:dC} {call:ah} {σ:St} {o:List Ob} {p:List Prop} {k:KV} {Q:PV} {X:PX}
theorem wm {b:B} {vs:List V} (hk:Vk k Q) (h:cbO tb b vs σ o p k):aj p/\pu tb b vs σ Q:=by
 induction b using B.casesOn with
 | len=>exact bC (λ v e h=>rR (λ l o p hh=>⟨(hk _ _ _ _ hh).1,λ e'=>by
  refine rwE e ?_
  show aW (bg v σ) λ l=>Q (.int l.length) σ
  refine rwE e' ?_;exact (hk _ _ _ _ hh).2⟩) h) h
 | isinstance=>exact nh (λ v c e h=>aI (λ r e' h=>⟨(hk _ _ _ _ h).1,by
  refine rwE e ?_
  show aW (c0 tb v c) λ r=>Q (.bool r) σ
  refine rwE e' ?_;exact (hk _ _ _ _ h).2⟩) h) h
 | range=>exact rj (λ v e h=>aP (λ n e' h=>by (refine rwE e ?_;refine rwE e' ?_);exact hk _ _ _ _ h) h) (λ u v w e h=>aP (λ a e1 h=>aP (λ n e2 h=>aP (λ s e3 h=>by
  refine rwE e ?_;refine rwE e1 ?_;refine rwE e2 ?_;refine rwE e3 ?_
  refine al (hk _ _ _ _ h) ?_;intro z0 h2;refine al z0 ?_;clear z0;intro h0 h1
  exact ⟨h1,h0,h2⟩) h) h) h) h
 | max=>exact jQ (λ v e h=>hJ (λ l e1 h=>⟨h.1,by
  refine rwE e ?_;refine rwE e1 ?_
  show aW (bV l) λ ns=>ns≠[]/\∀ M,M∈ns->(∀ a∈ns,a<=M)->Q (.int M) σ
  exact aI (λ ns e2 h=>by refine rwE e2 ?_;exact ⟨h.1,λ M h1 h2=>(h.2 M h1 h2).elim λ o h=>(hk _ _ _ _ h).2⟩) h.2⟩) h) (λ v w e h=>aP (λ n e1 h=>aP (λ n e2 h=>by (refine rwE e ?_;refine rwE e1 ?_;refine rwE e2 ?_);exact hk _ _ _ _ h) h) h) h
 | min=>exact jQ (λ v e h=>hJ (λ l e1 h=>⟨h.1,by
  refine rwE e ?_;refine rwE e1 ?_
  show aW (bV l) λ ns=>ns≠[]/\∀ M,M∈ns->(∀ a∈ns,M<=a)->Q (.int M) σ
  exact aI (λ ns e2 h=>by refine rwE e2 ?_;exact ⟨h.1,λ M h1 h2=>(h.2 M h1 h2).elim λ o h=>(hk _ _ _ _ h).2⟩) h.2⟩) h) (λ v w e h=>aP (λ n e1 h=>aP (λ n e2 h=>by (refine rwE e ?_;refine rwE e1 ?_;refine rwE e2 ?_);exact hk _ _ _ _ h) h) h) h
 | abs=>exact bC (λ v e h=>aP (λ n e' h=>by (refine rwE e ?_;refine rwE e' ?_);exact hk _ _ _ _ h) h) h
 | int=>exact bC (λ v e h=>aP (λ n e' h=>by (refine rwE e ?_;refine rwE e' ?_);exact hk _ _ _ _ h) h) h
 | str=>exact bC (λ v e h=>aP (λ n e' h=>by
  refine rwE e ?_;refine rwE e' ?_
  refine al (hk _ _ _ _ h) ?_;intro z0 h2;refine al z0 ?_;clear z0;intro e h1
  exact ⟨h1,e,h2⟩) h) h
 | tuple=>exact bC (λ v e h=>rR (λ l o p hh=>⟨(hk _ _ _ _ hh).1,λ e'=>by
  refine rwE e ?_
  show aW (bg v σ) λ l=>Q (.tup l) σ
  refine rwE e' ?_;exact (hk _ _ _ _ hh).2⟩) h) h
 | dict=>exact bC (λ v e h=>mq (k:=diK σ k) (λ v' o' p' hh=>pT (λ l e' hh=>⟨hh.1,λ d=>by
  refine rwE e ?_
  show aW (bl v σ) λ l=>l.length<1000/\∀ a,(∀ p∈σ,p.1≠a)->Q (.loc a) ((a,.dct l)::σ)
  refine rwE (ii d (by refine rwE e' ?_;rfl)) ?_
  exact ⟨hh.2.1,λ a ha=>(hk _ _ _ _ (hh.2.2 a ha)).2⟩⟩) hh) h) h
 | _=>exact h.elim
theorem wn {b:BM} {v:V} {vs:List V} (hk:Vk k Q) (h:mbO tb b v vs σ o p k):aj p/\gI tb b v vs σ Q:=by
 induction b using BM.casesOn with
 | append=>exact bP (λ a ev h=>bC (λ w e h=>c9 (k:=apK w (λ σ o p=>k .none σ o p)) (λ m pt rm o' p' hh=>cx (λ l em hh=>by
  refine al (hk _ _ _ _ hh) ?_;intro z0 h2;refine al z0 ?_;clear z0;intro e1 h1
  exact ⟨h1,λ el ep u'=>by (refine rwE ev ?_;refine rwE e ?_);exact ji (em▸el) e1 (ep _▸h2)⟩) hh) h) h) h
 | get =>
  exact mq (k:=geK vs σ k) (λ v' o' p' hh=>by
   rcases vs with _ | ⟨i,_ | ⟨j,_ | ⟨_,_⟩⟩⟩
   ·exact hh.elim
   ·exact aI (λ r e hh=>⟨(hk _ _ _ _ hh).1,λ d=>by
     show aW (ip v i σ) _
     refine rwE (nL d e) ?_;exact (hk _ _ _ _ hh).2⟩) hh
   ·exact aI (λ r e hh=>⟨(hk _ _ _ _ hh).1,λ d=>by
     show aW (ip v i σ) _
     refine rwE (nL d e) ?_;exact (hk _ _ _ _ hh).2⟩) hh
   ·exact hh.elim) h
 | lower=>exact ni (λ j ev h=>gH (λ e h=>aI (λ r e' h=>⟨(hk _ _ _ _ h).1,by
  refine rwE ev ?_;refine rwE e ?_
  show aW (tb.lower j) _
  refine rwE e' ?_;exact (hk _ _ _ _ h).2⟩) h) h) h
 | extend=>exact bP (λ a ev h=>bC (λ w e h=>bP (λ b ew h=>c9 (λ m' pt rm o' p' hh=>by
  have key:aj p'/\(look b σ=some m'->gI tb .extend (.loc a) [.loc b] σ Q):=c9 (k:=exK a b m' (λ σ o p=>k .none σ o p)) (λ m pt rm o' p' hh=>cx (λ l em hh=>cx (λ l' em' hh=>by
   refine al (hk _ _ _ _ hh) ?_;intro z0 h2;refine al z0 ?_;clear z0;intro z0 h1;(refine al z0 ?_;clear z0;intro e1 e2)
   exact ⟨h1,λ el ep u' er=>jk (em▸el) (em'▸er) e1 e2 (ep _▸h2)⟩) hh) hh) hh
  exact ⟨key.1,λ e' u' u'=>by (refine rwE ev ?_;refine rwE e ?_;refine rwE ew ?_);exact key.2 e'⟩) h) h) h) h
 | pop=>exact bP (λ a ev h=>gH (λ e h=>wd (λ w o h=>c9 (k:=poK w (λ σ o p=>k w σ o p)) (λ m pt rm o' p' hh=>cx (λ l em hh=>by
  refine al (hk _ _ _ _ hh) ?_;intro z0 h2;refine al z0 ?_;clear z0;intro e1 h1
  exact ⟨h1,λ el ep u'=>by (refine rwE ev ?_;refine rwE e ?_);exact o5 (em▸el) e1 (ep _▸h2)⟩) hh) h) h) h) h
variable (HP:rT pc call) (HC:CX xc call)
include HP HC
theorem wo {c:Nat} {vs:List V} (hk:Vk k Q) (h:moO tb pc xc c vs σ o p k):aj p/\bO tb call c vs σ Q:=by
 rcases HP _ _ _ _ _ h with h | ⟨v,p',h1,h2⟩
 case inr=>exact ⟨(h2 (hk _ _ _ _ h1).1).1,(h2 (hk _ _ _ _ h1).1).2 (hk _ _ _ _ h1).2⟩
 show aj p/\aW (tb.clss c) _
 generalize tb.clss c=ci at h ⊢
 induction ci using Option.casesOn with
 | none=>exact h.elim
 | some ci =>
  refine ⟨h.1,λ a ha=>(HC _ _ _ _ _ _ _ _ _ (λ r s o p hh=>?_) (h.2 a ha)).2⟩
  refine nj (λ er hh=>?_) hh
  refine rwE er ?_
  have hh:(match ci.frozen with | true=>lkO a s o p (frK k) | false=>k (.loc a) s o p):=hh
  show aj p/\(if ci.frozen=true then aW (look a s) λ m=>obP m λ c' fs=>Q (.ob c' fs) (rem a s) else Q (.loc a) s)
  generalize ci.frozen=b at hh ⊢
  induction b using Bool.casesOn with
  | true=>exact c9 (k:=frK k) (λ m pt rm o' p' hh=>mI (λ c' fs em hh=>⟨(hk _ _ _ _ hh).1,λ el u' er=>by
   show aW (look a s) λ m=>obP m λ c' fs=>Q (.ob c' fs) (rem a s)
   (refine rwE el ?_;refine rwE em ?_;refine rwB er ?_);exact (hk _ _ _ _ hh).2⟩) hh) hh
  | false=>exact hk _ _ _ _ hh
theorem rU {f:V} {vs:List V} (hk:Vk k Q) (h:cvO tb pc xc f vs σ o p k X):aj p/\lM tb call f vs σ Q X:=by
 induction f using V.casesOn with
 | fn n=>exact HC _ _ _ _ _ _ _ _ _ hk h
 | clo n cap=>exact HC _ _ _ _ _ _ _ _ _ hk h
 | cls c=>exact wo HP HC hk h
 | bi b=>exact wm hk h
 | _=>exact h.elim
omit HP in
theorem nN {mk:MK} {v:V} {vs:List V} (hk:Vk k Q) (h:xV tb xc mk v vs σ o p k X):aj p/\ee tb call mk v vs σ Q X:=by
 induction mk using MK.casesOn with
 | fn n=>exact HC _ _ _ _ _ _ _ _ _ hk h
 | b x=>exact wn hk h
omit HP HC in
theorem uU {elt:Rho->St->List Ob->List Prop->KV->Prop} {elt':Rho->St->PV->Prop} {t:T} (he:∀ ρ σ o p k Q,Vk k Q->elt ρ σ o p k->aj p/\elt' ρ σ Q) :
 ∀ {l:List V} {ρ:Rho} {σ:St} {o:List Ob} {p:List Prop} {k:KL} {Q:List V->St->Prop},(∀ v σ o p,k v σ o p->aj p/\Q v σ)->xC elt t l ρ σ o p k->aj p/\evC elt' t l ρ σ Q
 | [],_,_,_,_,_,_,hk,h=>hk _ _ _ _ h
 | v::r,ρ,σ,o,p,k,Q,hk,h=>by
  have h:(match aU t v ρ with | some ρ'=>elt ρ' σ o p (λ w σ o p=>xC elt t r ρ σ o p (λ ws σ o p=>k (w::ws) σ o p)) | none=>False):=h
  show aj p/\match aU t v ρ with | some ρ'=>elt' ρ' σ (λ w σ=>evC elt' t r ρ σ (λ ws σ=>Q (w::ws) σ)) | none=>False
  generalize aU t v ρ=b at h ⊢
  induction b using Option.casesOn with
  | none=>exact h.elim
  | some ρ'=>exact he _ _ _ _ _ _ (λ w s o p hh=>uU he (λ ws s o p hh=>hk _ _ _ _ hh) hh) h
omit HP HC
noncomputable abbrev Bk (k:KB) (Q:Bool->St->Prop):Prop:=∀ v σ o p,k v σ o p->aj p/\Q v σ
noncomputable abbrev Lk (k:KL) (Q:List V->St->Prop):Prop:=∀ v σ o p,k v σ o p->aj p/\Q v σ
structure PE (pc:PfT) (xc:dC) (call:ah) (e:E):Prop where
 fe:∀ {ρ σ o p k X Q},Vk k Q->xE tb pc call xc e ρ σ o p k X->aj p/\evE tb call e ρ σ Q X
 ft:∀ {ρ σ o p k X Q},Bk k Q->xT tb pc call xc e ρ σ o p k X->aj p/\evT tb call e ρ σ Q X
structure PL (pc:PfT) (xc:dC) (call:ah) (es:List E):Prop where
 or:∀ {ρ σ o p k X Q},Vk k Q->xOr tb pc call xc es ρ σ o p k X->aj p/\ro tb call es ρ σ Q X
 an:∀ {ρ σ o p k X Q},Vk k Q->xW tb pc call xc es ρ σ o p k X->aj p/\jR tb call es ρ σ Q X
 l:∀ {ρ σ o p k X Q},Lk k Q->xL tb pc call xc es ρ σ o p k X->aj p/\evL tb call es ρ σ Q X
 all:∀ {ρ σ o p k X Q},Bk k Q->xX tb pc call xc es ρ σ o p k X->aj p/\pv tb call es ρ σ Q X
 any:∀ {ρ σ o p k X Q},Bk k Q->xY tb pc call xc es ρ σ o p k X->aj p/\pw tb call es ρ σ Q X
theorem oV {x:Option V} {w:V} {K:V->Prop} (e:x=some w) (h:K w):match (generalizing:=false) x with | some w=>K w | none=>False:=by
 subst e;exact h
theorem oB {x:Option Bool} {w:Bool} {K:Bool->Prop} (e:x=some w) (h:K w):match (generalizing:=false) x with | some w=>K w | none=>False:=by
 subst e;exact h
theorem oK {x:Option MK} {w:MK} {K:MK->Prop} (e:x=some w) (h:K w):match (generalizing:=false) x with | some w=>K w | none=>False:=by
 subst e;exact h
theorem oMV {x:Option (V)} {K K':V->Prop} (f:∀ v,K v->aj p/\K' v) (h:match (generalizing:=false) x with | some v=>K v | none=>False):aj p/\match (generalizing:=false) x with | some v=>K' v | none=>False:=by
 induction x using Option.casesOn with
 | none=>exact h.elim
 | some v=>exact f v h
theorem oML {x:Option (List (Nat×V))} {K K':List (Nat×V)->Prop} (f:∀ v,K v->aj p/\K' v) (h:match (generalizing:=false) x with | some v=>K v | none=>False):aj p/\match (generalizing:=false) x with | some v=>K' v | none=>False:=by
 induction x using Option.casesOn with
 | none=>exact h.elim
 | some v=>exact f v h
theorem noT {e:E} (h1:xT tb pc call xc e=λ _ _ _ _ _ _=>False):∀ {ρ σ o p k X Q},Bk k Q->xT tb pc call xc e ρ σ o p k X->aj p/\evT tb call e ρ σ Q X:=@λ ρ σ o p k X Q hk h=>by
 rw [h1] at h;exact h.elim
theorem PE.val {e:E} (v:V) (h1:xE tb pc call xc e=λ _ σ o p k _=>k v σ o p) (h2:evE tb call e=λ _ σ Q _=>Q v σ) (h3:∀ {ρ σ o p k X Q},Bk k Q->xT tb pc call xc e ρ σ o p k X->aj p/\evT tb call e ρ σ Q X):PE pc xc call e :=
 ⟨@λ ρ σ o p k X Q hk h=>by rw [h1] at h;refine rwE h2 ?_;exact hk _ _ _ _ h,h3⟩
include HP HC
theorem tJ {e:E} {r:List E} (he:PE pc xc call e) (hr:PL pc xc call r):PL pc xc call (e::r):=by
 refine ⟨?_,?_,@λ ρ σ o p k X Q hk h=>he.fe (λ v s o p hh=>hr.l (λ vs s o p hh=>hk _ _ _ _ hh) hh) h,@λ ρ σ o p k X Q hk h=>he.ft (λ b s o p hh=>?_) h,@λ ρ σ o p k X Q hk h=>he.ft (λ b s o p hh=>?_) h⟩
 ·induction r using List.casesOn with
  | nil=>exact he.fe
  | cons e' r =>
   exact @λ ρ σ o p k X Q hk h=>he.fe (λ v s o p hh=>gx (λ b o p hh=>by
    induction b using Bool.casesOn with
    | true=>exact ⟨(hk _ _ _ _ hh).1,λ e=>by
     show match aT v s with | some true=>Q v s | some false=>ro tb call (e'::r) ρ s Q X | none=>False
     refine rwE e ?_;exact (hk _ _ _ _ hh).2⟩
    | false=>exact ⟨(hr.or hk hh).1,λ e=>by
     show match aT v s with | some true=>Q v s | some false=>ro tb call (e'::r) ρ s Q X | none=>False
     refine rwE e ?_;exact (hr.or hk hh).2⟩) hh) h
 ·induction r using List.casesOn with
  | nil=>exact he.fe
  | cons e' r =>
   exact @λ ρ σ o p k X Q hk h=>he.fe (λ v s o p hh=>gx (λ b o p hh=>by
    induction b using Bool.casesOn with
    | false=>exact ⟨(hk _ _ _ _ hh).1,λ e=>by
     show match aT v s with | some true=>jR tb call (e'::r) ρ s Q X | some false=>Q v s | none=>False
     refine rwE e ?_;exact (hk _ _ _ _ hh).2⟩
    | true=>exact ⟨(hr.an hk hh).1,λ e=>by
     show match aT v s with | some true=>jR tb call (e'::r) ρ s Q X | some false=>Q v s | none=>False
     refine rwE e ?_;exact (hr.an hk hh).2⟩) hh) h
 ·induction b using Bool.casesOn with
  | true=>exact hr.all hk hh
  | false=>exact hk _ _ _ _ hh
 ·induction b using Bool.casesOn with
  | true=>exact hk _ _ _ _ hh
  | false=>exact hr.any hk hh
theorem fw (e:E):PE pc xc call e:=by
 refine @E.rec (PE pc xc call) (λ _=>True) (PL pc xc call) (λ _=>True) ?_ ?_ ?_ ?_ ?_ ?_ ?_ ?_ ?_ ?_ ?_ ?_ ?_ ?_ ?_ ?_ ?_ ?_ ?_ ?_ ?_ ?_ ?_ ?_ ?_ (λ _=>trivial) (λ _=>trivial) (λ _ _=>trivial) (λ _ _ _=>trivial) (λ _ _ _ _=>trivial) ⟨λ _ h=>h.elim,λ _ h=>h.elim,λ hk h=>hk _ _ _ _ h,λ hk h=>hk _ _ _ _ h,λ hk h=>hk _ _ _ _ h⟩ (λ e r he hr=>tJ HP HC he hr) trivial (λ _ _ _ _=>trivial) e
 ·exact .val .none rfl rfl (noT rfl)
 ·exact .val .byt rfl rfl (noT rfl)
 ·exact λ b=>.val (.bool b) rfl rfl λ hk h=>hk _ _ _ _ h
 ·exact λ i=>.val (.int i) rfl rfl (noT rfl)
 ·exact λ n=>.val (.str n) rfl rfl (noT rfl)
 ·refine λ x=>⟨@λ ρ σ o p k X Q hk h=>rO (λ w o p hh=>⟨(hk _ _ _ _ hh).1,λ e=>by exact oV (K:=λ v=>Q v σ) e (hk _ _ _ _ hh).2⟩) h,@λ ρ σ o p k X Q hk h=>rO (λ w o p hh=>?_) h⟩
  have:=gx (C:=match aT w σ with | some b=>Q b σ | none=>False) (λ b o p hh=>⟨(hk _ _ _ _ hh).1,λ e=>by exact oB (K:=λ b=>Q b σ) e (hk _ _ _ _ hh).2⟩) hh
  exact ⟨this.1,λ e=>by exact oV (K:=λ v=>match aT v σ with | some b=>Q b σ | none=>False) e this.2⟩
 ·exact λ x=>⟨@λ ρ σ o p k X Q hk h=>by exact oMV (x:=tb.glob x) (K:=λ v=>k v σ o p) (K':=λ v=>Q v σ) (λ v h=>hk _ _ _ _ h) h,noT rfl⟩
 ·exact λ e a he=>⟨@λ ρ σ o p k X Q hk h=>he.fe (λ v s o p hh=>we (λ w o p hh=>⟨(hk _ _ _ _ hh).1,λ e=>by exact oV (K:=λ w=>Q w s) e (hk _ _ _ _ hh).2⟩) hh) h,noT rfl⟩
 ·exact λ f as hf ha=>⟨@λ ρ σ o p k X Q hk h=>hf.fe (λ fv s o p hh=>ha.l (λ vs s o p hh=>rU HP HC hk hh) hh) h,
   @λ ρ σ o p k X Q hk h=>hf.fe (λ fv s o p hh=>ha.l (λ vs s o p hh=>rU HP HC (λ v s o p hh=>gx (λ b o p hh=>⟨(hk _ _ _ _ hh).1,λ e=>by exact oB (K:=λ b=>Q b s) e (hk _ _ _ _ hh).2⟩) hh) hh) hh) h⟩
 ·refine λ e m as he ha=>⟨@λ ρ σ o p k X Q hk h=>he.fe (λ ov s o p hh=>rS (λ mk o p hh=>?_) hh) h,@λ ρ σ o p k X Q hk h=>he.fe (λ ov s o p hh=>rS (λ mk o p hh=>?_) hh) h⟩
  ·have this:=ha.l (X:=X) (Q:=λ vs s=>ee tb call mk ov vs s Q X) (λ vs s o p hh=>nN HC hk hh) hh
   exact ⟨this.1,λ e=>by exact oK (K:=λ mk=>evL tb call as ρ s (λ vs σ=>ee tb call mk ov vs σ Q X) X) e this.2⟩
  ·have this:=ha.l (X:=X) (Q:=λ vs s=>ee tb call mk ov vs s (λ v σ=>match aT v σ with | some b=>Q b σ | none=>False) X) (λ vs s o p hh=>nN HC (λ v s o p hh=>gx (λ b o p hh=>⟨(hk _ _ _ _ hh).1,λ e=>by exact oB (K:=λ b=>Q b s) e (hk _ _ _ _ hh).2⟩) hh) hh) hh
   exact ⟨this.1,λ e=>by exact oK (K:=λ mk=>evL tb call as ρ s (λ vs σ=>ee tb call mk ov vs σ (λ v σ=>match aT v σ with | some b=>Q b σ | none=>False) X) X) e this.2⟩
 ·exact λ op l r hl hr=>⟨@λ ρ σ o p k X Q hk h=>hl.fe (λ a s o p hh=>hr.fe (λ b s o p hh=>wi (λ v o p hh=>⟨(hk _ _ _ _ hh).1,λ e=>by exact oV (K:=λ v=>Q v s) e (hk _ _ _ _ hh).2⟩) hh) hh) h,noT rfl⟩
 ·exact λ e he=>⟨@λ ρ σ o p k X Q hk h=>he.fe (λ a s o p hh=>gx (λ b o p hh=>⟨(hk _ _ _ _ hh).1,λ e=>by exact oB (K:=λ b=>Q (.bool (!b)) s) e (hk _ _ _ _ hh).2⟩) hh) h,@λ ρ σ o p k X Q hk h=>he.ft (λ b s o p hh=>hk _ _ _ _ hh) h⟩
 ·exact λ e he=>⟨@λ ρ σ o p k X Q hk h=>he.fe (λ a s o p hh=>aP (λ i e hh=>by refine rwE e ?_;exact hk _ _ _ _ hh) hh) h,noT rfl⟩
 ·exact λ l op r hl hr=>⟨@λ ρ σ o p k X Q hk h=>hl.fe (λ a s o p hh=>hr.fe (λ b s o p hh=>kh (λ v o p hh=>⟨(hk _ _ _ _ hh).1,λ e=>by exact oB (K:=λ v=>Q (.bool v) s) e (hk _ _ _ _ hh).2⟩) hh) hh) h,
   @λ ρ σ o p k X Q hk h=>hl.fe (λ a s o p hh=>hr.fe (λ b s o p hh=>kh (λ v o p hh=>⟨(hk _ _ _ _ hh).1,λ e=>by exact oB (K:=λ v=>Q v s) e (hk _ _ _ _ hh).2⟩) hh) hh) h⟩
 ·refine λ l o1 m o2 r hl hm hr=>⟨λ _ h=>h.elim,@λ ρ σ o p k X Q hk h=>hl.fe (λ a s o p hh=>hm.fe (λ b s o p hh=>kh (λ v o p hh=>?_) hh) hh) h⟩
  induction v using Bool.casesOn with
  | true =>
   have this:=hr.fe (X:=X) (Q:=λ c σ=>match bB o2 b c σ with | some v=>Q v σ | none=>False) (λ c s o p hh=>kh (λ v o p hh=>⟨(hk _ _ _ _ hh).1,λ e=>by exact oB (K:=λ v=>Q v s) e (hk _ _ _ _ hh).2⟩) hh) hh
   exact ⟨this.1,λ e=>by
    show match bB o1 a b s with | some true=>evE tb call r ρ s (λ c σ=>match bB o2 b c σ with | some v=>Q v σ | none=>False) X | some false=>Q false s | none=>False
    refine rwE e ?_;exact this.2⟩
  | false =>
   exact ⟨(hk _ _ _ _ hh).1,λ e=>by
    show match bB o1 a b s with | some true=>evE tb call r ρ s (λ c σ=>match bB o2 b c σ with | some v=>Q v σ | none=>False) X | some false=>Q false s | none=>False
    refine rwE e ?_;exact (hk _ _ _ _ hh).2⟩
 ·exact λ es ih=>⟨ih.an,ih.all⟩
 ·exact λ es ih=>⟨ih.or,ih.any⟩
 ·refine λ t a b ht ha hb=>⟨@λ ρ σ o p k X Q hk h=>ht.ft (λ c s o p hh=>?_) h,noT rfl⟩
  induction c using Bool.casesOn with
  | true=>exact ha.fe hk hh
  | false=>exact hb.fe hk hh
 ·exact λ es ih=>⟨@λ ρ σ o p k X Q hk h=>ih.l (λ vs s o p hh=>hk _ _ _ _ hh) h,noT rfl⟩
 ·refine λ fr es ih=>⟨@λ ρ σ o p k X Q hk h=>ih.l (λ vs s o p hh=>?_) h,noT rfl⟩
  induction fr using Bool.casesOn with
  | true=>exact ⟨hh.1,λ a ha=>(hk _ _ _ _ (hh.2 a ha)).2⟩
  | false=>exact hk _ _ _ _ hh
 ·refine λ fr es ih=>⟨@λ ρ σ o p k X Q hk h=>ih.l (λ vs s o p hh=>?_) h,noT rfl⟩
  refine oML (x:=dB vs) (K':=λ kvs=>(kvs.map (λ x=>x.1)).Nodup/\xv fr kvs s Q) (λ kvs hh=>?_) hh
  induction fr using Bool.casesOn with
  | true=>exact ⟨hh.1,hh.2.1,λ a ha=>(hk _ _ _ _ (hh.2.2 a ha)).2⟩
  | false=>exact ⟨(hk _ _ _ _ hh).1.2,(hk _ _ _ _ hh).1.1,(hk _ _ _ _ hh).2⟩
 ·exact λ e i he hi=>⟨@λ ρ σ o p k X Q hk h=>he.fe (λ a s o p hh=>hi.fe (λ j s o p hh=>wf (λ w o p hh=>⟨(hk _ _ _ _ hh).1,λ e=>by exact oV (K:=λ w=>Q w s) e (hk _ _ _ _ hh).2⟩) hh) hh) h,noT rfl⟩
 ·exact λ e l u he hl hu=>⟨@λ ρ σ o p k X Q hk h=>he.fe (λ a s o p hh=>hl.fe (λ b s o p hh=>hu.fe (λ c s o p hh=>by exact oMV (x:=rn a b c) (K:=λ v=>k v s o p) (K':=λ v=>Q v s) (λ v hh=>hk _ _ _ _ hh) hh) hh) hh) h,noT rfl⟩
 ·refine λ elt t it he _ hi=>⟨@λ ρ σ o p k X Q hk h=>hi.fe (λ v s o p hh=>rQ (λ l s' o p hh=>?_) hh) h,noT rfl⟩
  have this:aj p/\evC (λ ρ σ Q=>evE tb call elt ρ σ Q λ u'=>False) t l ρ s' (λ vs σ=>Q (.lst vs) σ):=rP (λ hh=>by exact ⟨hh.1,hh.2 _ λ ws s o hh=>(hk _ _ _ _ hh).2⟩) (λ hh=>uU (elt:=λ ρ σ o p k=>xE tb pc call xc elt ρ σ o p k λ u'=>False) (elt':=λ ρ σ Q=>evE tb call elt ρ σ Q λ u'=>False) (λ ρ σ o p k Q hk h=>he.fe hk h) (λ vs s o p hh=>hk _ _ _ _ hh) hh) hh
  exact ⟨this.1,λ e=>by
   show match aF v s with | some (items,σ)=>evC (λ ρ σ Q=>evE tb call elt ρ σ Q λ u'=>False) t items ρ σ (λ vs σ=>Q (.lst vs) σ) | none=>False
   refine rwE e ?_;exact this.2⟩
 ·exact λ n cap=>⟨@λ ρ σ o p k X Q hk h=>by exact oML (x:=fg ρ cap) (K:=λ l=>k (.clo n l) σ o p) (K':=λ l=>Q (.clo n l) σ) (λ l h=>hk _ _ _ _ h) h,noT rfl⟩
end
section
variable {pc:PfT} {xc:dC} {call:ah} {σ:St} {o:List Ob} {p:List Prop}
noncomputable abbrev Nk (k:KN) (N:PN):Prop:=∀ ρ σ o p,k ρ σ o p->aj p/\N ρ σ
variable (HP:rT pc call) (HC:CX xc call)
include HP HC
noncomputable def PA (pc:PfT) (xc:dC) (call:ah) (t:T):Prop:=∀ v ρ σ o p k X N,Nk k N->xA tb pc call xc t v ρ σ o p k X->aj p/\asT tb call t v ρ σ N X
noncomputable def PAs (pc:PfT) (xc:dC) (call:ah) (ts:List T):Prop:=∀ vs ρ σ o p k X N,Nk k N->xAs tb pc call xc ts vs ρ σ o p k X->aj p/\pL tb call ts vs ρ σ N X
theorem uV (t:T):PA pc xc call t:=by
 refine T.ind (P:=PA pc xc call) (Ps:=PAs pc xc call) ?_ ?_ ?_ ?_ ?_ ?_ ?_ t
 ·exact λ n=>λ v ρ σ o p k X N hk h=>hk _ _ _ _ h
 ·refine λ n=>λ v ρ σ o p k X N hk h=>?_
  have h:(match ρ n with | none=>k (upd n v ρ) σ o p | some _=>False):=h
  show aj p/\match ρ n with | none=>N (upd n v ρ) σ | some _=>False
  generalize ρ n=r at h ⊢
  induction r using Option.casesOn with
  | none=>exact hk _ _ _ _ h
  | some w=>exact h.elim
 ·refine λ ts ih=>λ v ρ σ o p k X N hk h=>?_
  have key:∀ l,ri (ts.length==l.length) (xAs tb pc call xc ts l ρ σ o p k X)->aj p/\ts.length=l.length/\pL tb call ts l ρ σ N X:=λ l h =>
   jr (λ e h=>⟨(ih _ _ _ _ _ _ _ _ hk h).1,beq_iff_eq.mp e,(ih _ _ _ _ _ _ _ _ hk h).2⟩) h
  induction v using V.casesOn with
  | tup l=>exact key l h
  | lst l=>exact key l h
  | _=>exact h.elim
 ·exact λ e a=>λ v ρ σ o p k X N hk h=>(fw HP HC e).fe (λ ov s o p hh=>wl (λ s' o p hh=>⟨(hk _ _ _ _ hh).1,λ e=>by
   show match setAt tb ov a v s with | some σ'=>N ρ σ' | none=>False
   refine rwE e ?_;exact (hk _ _ _ _ hh).2⟩) hh) h
 ·exact λ e i=>λ v ρ σ o p k X N hk h=>(fw HP HC e).fe (λ ov s o p hh=>(fw HP HC i).fe (λ iv s o p hh=>wj (λ s' o p hh=>⟨(hk _ _ _ _ hh).1,λ e=>by
   show match bn ov iv v s with | some σ'=>N ρ σ' | none=>False
   refine rwE e ?_;exact (hk _ _ _ _ hh).2⟩) hh) hh) h
 ·refine λ vs ρ σ o p k X N hk h=>?_
  induction vs using List.casesOn with
  | nil=>exact hk _ _ _ _ h
  | cons v vs=>exact h.elim
 ·refine λ t ts ht hts=>λ vs ρ σ o p k X N hk h=>?_
  induction vs using List.casesOn with
  | nil=>exact h.elim
  | cons v vs=>exact ht _ _ _ _ _ _ _ _ (λ ρ s o p hh=>hts _ _ _ _ _ _ _ _ hk hh) h
omit HP HC in
theorem uW {body:Rho->St->List Ob->List Prop->KN->Prop} {bind:V->Rho->St->List Ob->List Prop->KN->Prop} {body':Rho->St->PN->PV->PX->Prop} {bind':V->Rho->St->PN->PX->Prop} {R:PV} {X:PX}
 (hb:∀ ρ σ o p k N,Nk k N->body ρ σ o p k->aj p/\body' ρ σ N R X) (ht:∀ v ρ σ o p k N,Nk k N->bind v ρ σ o p k->aj p/\bind' v ρ σ N X) :
 ∀ {l:List V} {ρ:Rho} {σ:St} {o:List Ob} {p:List Prop} {k:KN} {N:PN},Nk k N->xF body bind l ρ σ o p k->aj p/\exF body' bind' l ρ σ N R X
 | [],_,_,_,_,_,_,hk,h=>hk _ _ _ _ h
 | v::r,ρ,σ,o,p,k,N,hk,h=>ht _ _ _ _ _ _ _ (λ ρ s o p hh=>hb _ _ _ _ _ _ (λ ρ s o p hh=>uW hb ht hk hh) hh) h
noncomputable def PS0 (pc:PfT) (xc:dC) (call:ah) (st:S):Prop:=∀ ρ σ o p k kr X N R,Nk k N->Vk kr R->xS tb pc call xc st ρ σ o p k kr X->aj p/\exec tb call st ρ σ N R X
noncomputable def PSs (pc:PfT) (xc:dC) (call:ah) (st:List S):Prop:=∀ ρ σ o p k kr X N R,Nk k N->Vk kr R->xSs tb pc call xc st ρ σ o p k kr X->aj p/\execs tb call st ρ σ N R X
omit HP HC in
theorem nO:PSs pc xc call []:=λ ρ σ o p k kr X N R hk hr h=>hk _ _ _ _ h
omit HP HC in
theorem lD {s:S} {r:List S} (hs:PS0 pc xc call s) (ih:PSs pc xc call r):PSs pc xc call (s::r):=λ ρ σ o p k kr X N R hk hr h=>hs _ _ _ _ _ _ _ _ _ (λ ρ s o p hh=>ih _ _ _ _ _ _ _ _ _ hk hr hh) hr h
theorem yG (s:S):PS0 pc xc call s:=by
 refine @S.rec (PS0 pc xc call) (PSs pc xc call) ?_ ?_ ?_ (λ c b u'=>λ ρ σ o p k kr X N R hk hr h=>h.elim) ?_ ?_ ?_ (λ b c h u' u'=>λ ρ σ o p k kr X N R hk hr h=>h.elim) nO (λ s r hs ih=>lD hs ih) s
 ·exact λ e=>λ ρ σ o p k kr X N R hk hr h=>(fw HP HC e).fe (λ u' s o p hh=>hk _ _ _ _ hh) h
 ·exact λ t e=>λ ρ σ o p k kr X N R hk hr h=>(fw HP HC e).fe (λ v s o p hh=>uV HP HC t _ _ _ _ _ _ _ _ hk hh) h
 ·refine λ c a b ha hb=>λ ρ σ o p k kr X N R hk hr h=>(fw HP HC c).ft (λ t s o p hh=>?_) h
  induction t using Bool.casesOn with
  | true=>exact ha _ _ _ _ _ _ _ _ _ hk hr hh
  | false=>exact hb _ _ _ _ _ _ _ _ _ hk hr hh
 ·refine λ t it b ih=>λ ρ σ o p k kr X N R hk hr h=>(fw HP HC it).fe (λ v s o p hh=>rQ (λ l s' o p hh=>?_) hh) h
  have this:aj p/\exF (λ ρ σ N R X=>execs tb call b ρ σ N R X) (λ v ρ σ N X=>asT tb call t v ρ σ N X) l ρ s' N R X:=rP (λ hh=>⟨hh.1,hh.2 _ _ (λ ρ s o hh=>(hk _ _ _ _ hh).2) λ v s o hh=>(hr _ _ _ _ hh).2⟩) (λ hh=>uW (body:=λ ρ σ o p k=>xSs tb pc call xc b ρ σ o p k kr X) (bind:=λ v ρ σ o p k=>xA tb pc call xc t v ρ σ o p k X) (λ ρ σ o p k N hk h=>ih _ _ _ _ _ _ _ _ _ hk hr h) (λ v ρ σ o p k N hk h=>uV HP HC t _ _ _ _ _ _ _ _ hk h) hk hh) hh
  exact ⟨this.1,λ e=>by
   show match aF v s with | some (items,σ)=>exF (λ ρ σ N R X=>execs tb call b ρ σ N R X) (λ v ρ σ N X=>asT tb call t v ρ σ N X) items ρ σ N R X | none=>False
   refine rwE e ?_;exact this.2⟩
 ·exact λ e=>λ ρ σ o p k kr X N R hk hr h=>(fw HP HC e).fe hr h
 ·refine λ c e=>λ ρ σ o p k kr X N R hk hr h=>jr (λ e1 h=>?_) h
  have this:=(fw HP HC e).fe (X:=X) (Q:=λ v σ=>match v with | .str _=>X σ | .msg _=>X σ | _=>False) (λ v s o p hh=>by
   induction v using V.casesOn with
   | str _=>exact hh
   | msg _=>exact hh
   | _=>exact hh.elim) h
  exact ⟨this.1,beq_iff_eq.mp e1,this.2⟩
theorem ki (ss:List S):PSs pc xc call ss:=by
 induction ss with
 | nil=>exact nO
 | cons s r ih=>exact lD (yG HP HC s) ih
end
noncomputable def xZ (pf:PfT) (D:Nat):Prop:=∀ d k vs p K F,D<=d->pf k vs p K F->F\/∃ v p',K v p'/\(aj p'->aj p/\∀ {σ:St} {Q:PV} {X:PX},Q v σ->U tb d k [] vs σ Q X)
theorem mX {D:Nat}:xZ pf0 D:=λ u' u' u' u' u' u' u' h=>.inl h
theorem gy {call:ah}:rT pf0 call:=λ u' u' u' u' u' h=>.inl h
theorem mY {C:Prop}:∀ {ps:List Nat} {vs:List V} {ρ:Rho} {k:Rho->Prop},(k ((ps.zip vs).foldl (λ ρ p=>upd p.1 p.2 ρ) ρ)->C)->bwO ps vs ρ k->C
 | [],_,_,_,hk,h=>hk h
 | _::_,[],_,_,_,h=>h.elim
 | x::ps,v::vs,ρ,k,hk,h=>mY (ps:=ps) (ρ:=upd x v ρ) hk h
theorem rV {C:Prop} {ps:List Nat} {ds vs:List V} {k:Rho->Prop} (hk:∀ ρ,ck ps ds vs=some ρ->k ρ->C) (h:bnO ps ds vs k):C:=by
 delta bnO at h
 generalize e:ps.length - vs.length=n at h
 match n,h with
 | 0,h =>
  dsimp only at h
  generalize e2:Nat.ble vs.length ps.length=b at h
  match b,h with
  | true,h =>
   have hl:=Nat.le_of_ble_eq_true e2
   refine mY (λ hh=>hk _ ?_ hh) h
   show (if decide (vs.length<=ps.length)&&decide (ps.length - vs.length<=ds.length) then some ((ps.zip (vs++ds.drop (ds.length - (ps.length - vs.length)))).foldl (λ ρ p=>upd p.1 p.2 ρ) λ u'=>none) else none)=_
   refine rwE e ?_;refine rwE (decide_eq_true hl) ?_;refine rwE (decide_eq_true (Nat.zero_le ds.length)) ?_;refine rwE (Nat.sub_zero ..) ?_;refine rwE List.drop_length ?_;refine rwE (List.append_nil ..) ?_
   rfl
 | n+1,h =>
  dsimp only at h
  generalize e2:Nat.ble (n+1) ds.length=b at h
  match b,h with
  | true,h =>
   have hl:=Nat.le_of_ble_eq_true e2
   refine mY (λ hh=>hk _ ?_ hh) h
   show (if decide (vs.length<=ps.length)&&decide (ps.length - vs.length<=ds.length) then some ((ps.zip (vs++ds.drop (ds.length - (ps.length - vs.length)))).foldl (λ ρ p=>upd p.1 p.2 ρ) λ u'=>none) else none)=_
   refine rwE e ?_;refine rwE (decide_eq_true hl) ?_;refine rwE (decide_eq_true (Nat.le_of_lt (Nat.lt_of_sub_pos (by refine rwE e ?_;exact Nat.succ_pos n)))) ?_
   rfl
theorem mZ {C:Prop}:∀ {cap:List (Nat×V)} {ρ:Rho} {k:Rho->Prop},(k (cap.foldr (λ p ρ=>upd p.1 p.2 ρ) ρ)->C)->cfO cap ρ k->C
 | [],_,_,hk,h=>hk h
 | (x,v)::r,ρ,k,hk,h=>mZ (cap:=r) (k:=λ ρ=>k (upd x v ρ)) hk h
theorem kj {pc:PfT} {rc:dC} {d:Nat} (HP:rT pc (U tb d)) (HC:CX rc (U tb d)) {k:Nat} {cap:List (Nat×V)} {vs:List V} {σ:St} {o:List Ob} {p:List Prop} {K:KV} {X:PX} {Q:PV} (hk:Vk K Q) (h:inO tb pc (U tb d) rc k cap vs σ o p K X):aj p/\U tb (d+1) k cap vs σ Q X:=by
 delta inO at h
 show aj p/\match tb.fns k with
  | some f=>(match ck f.params f.dflts vs with
   | some ρ =>
    let back (v:V) (σ':St):Prop:=if f.gc then Q v (σ'.drop (σ'.length - σ.length)) else Q v σ'
    execs tb (U tb d) f.body (cap.foldr (λ p ρ=>upd p.1 p.2 ρ) ρ) σ (λ u' σ'=>back .none σ') back X
   | none=>False)
  | none=>False
 generalize tb.fns k=fi at h ⊢
 induction fi using Option.casesOn with
 | none=>exact h.elim
 | some f =>
  dsimp only at h ⊢
  generalize f.gc=g at h ⊢
  induction g using Bool.casesOn with
  | false =>
   refine rV (λ ρ e h=>?_) h
   refine rwE e ?_
   exact mZ (λ h=>ki HP HC _ _ _ _ _ _ _ _ _ _ (λ ρ s o p hh=>hk _ _ _ _ hh) (λ v s o p hh=>hk _ _ _ _ hh) h) h
  | true =>
   refine rV (λ ρ e h=>?_) h
   refine rwE e ?_
   exact mZ (λ h=>ki HP HC _ _ _ _ _ _ _ _ _ _ (λ ρ s o p hh=>hk _ _ _ _ hh) (λ v s o p hh=>hk _ _ _ _ hh) h) h
section
variable {pc pf:PfT} {D:Nat} (hq:∀ d,D<=d->rT pc (U tb d)) (hp:xZ pf D) {d:Nat} (hd:D<=d)
include hq hp hd
theorem iG:∀ n:Nat,CX (xK tb pc pf d n) (U tb (d+n))
 | 0=>λ k cap vs σ o p K X Q hk h=>h.elim
 | n+1=>λ k cap vs σ o p K X Q hk h=>wg (λ h=>⟨h.1,h.2 Q λ v s o hh=>(hk _ _ _ _ hh).2⟩) (λ o h=>by
  match cap,h with
  | _::_,h=>exact kj (hq _ (Nat.le_trans hd (Nat.le_add_right _ _))) (iG n) hk h
  | [],h =>
   rcases hp (d+(n+1)) k vs p _ _ (Nat.le_trans hd (Nat.le_add_right _ _)) h with h | ⟨v,p',h1,h2⟩
   ·exact kj (hq _ (Nat.le_trans hd (Nat.le_add_right _ _))) (iG n) hk h
   ·exact ⟨(h2 (hk _ _ _ _ h1).1).1,(h2 (hk _ _ _ _ h1).1).2 (hk _ _ _ _ h1).2⟩) h
end
section
variable {d k:Nat} {cap:List (Nat×V)} {vs:List V} {σ:St} {Q:PV} {X:PX} {ss:List S} {ρ:Rho} {N:PN} {R:PV} {call:ah}
theorem wk0 (n:Nat) (o:List Ob) (hc:call=U tb (d+(n+1))) (h:inO tb pf0 (U tb (d+n)) (xK tb pf0 pf0 d n) k cap vs σ o [] (λ v σ u' p=>aj p/\Q v σ) X):call k cap vs σ Q X:=by
 subst hc
 exact (kj gy (iG (pf:=pf0) (D:=0) (λ u' u'=>gy) mX (Nat.zero_le _) n) (λ u' u' u' u' h=>h) h).2
theorem ws0 (n:Nat) (o:List Ob) (hc:call=U tb (d+n)) (h:xSs tb pf0 (U tb (d+n)) (xK tb pf0 pf0 d n) ss ρ σ o [] (λ ρ σ u' p=>aj p/\N ρ σ) (λ v σ u' p=>aj p/\R v σ) X):execs tb call ss ρ σ N R X:=by
 subst hc
 exact (ki gy (iG (pf:=pf0) (D:=0) (λ u' u'=>gy) mX (Nat.zero_le _) n) _ _ _ _ _ _ _ _ _ _ (λ u' u' u' u' h=>h) (λ u' u' u' u' h=>h) h).2
theorem we0 {e:E} (n:Nat) (o:List Ob) (h:xE tb pf0 (U tb (d+n)) (xK tb pf0 pf0 d n) e ρ σ o [] (λ v σ u' p=>aj p/\Q v σ) X):evE tb (U tb (d+n)) e ρ σ Q X :=
 ((fw gy (iG (pf:=pf0) (D:=0) (λ u' u'=>gy) mX (Nat.zero_le _) n) _).fe (λ u' u' u' u' h=>h) h).2
end
noncomputable def asI:V->Option Int
 | .int a=>some a
 | _=>none
noncomputable def asS:V->Option Nat
 | .str a=>some a
 | _=>none
noncomputable def asO:V->Option (Nat×List (Nat×V))
 | .ob c fs=>some (c,fs)
 | _=>none
noncomputable def isY:V->Bool
 | .byt=>true
 | _=>false
noncomputable def isZ:Int->Bool
 | .ofNat 0=>true
 | _=>false
theorem cQ {v:V} {a:Int} (h:asI v=some a):v=.int a:=by
 induction v using V.casesOn with
 | int b=>exact congrArg V.int (Option.some.inj h)
 | _=>exact J h
theorem tK {v:V} {a:Nat} (h:asS v=some a):v=.str a:=by
 induction v using V.casesOn with
 | str b=>exact congrArg V.str (Option.some.inj h)
 | _=>exact J h
theorem tL {v:V} {x:Nat×List (Nat×V)} (h:asO v=some x):v=.ob x.1 x.2:=by
 induction v using V.casesOn with
 | ob c fs=>refine rwB (Option.some.inj h) ?_;rfl
 | _=>exact J h
theorem tM {v:V} (h:isY v=true):v=.byt:=by
 induction v using V.casesOn with
 | byt=>rfl
 | _=>exact ad h
theorem nP {z:Int} (h:isZ z=true):z=0:=by
 match z,h with
 | .ofNat 0,_=>rfl
noncomputable def zM:Int->Bool
 | .ofNat 1=>true
 | _=>false
theorem tN {z:Int} (h:zM z=true):z=1:=by
 match z,h with
 | .ofNat 1,_=>rfl
noncomputable def opO {α:Type} (x:Option α) (F:Prop) (k:α->Prop):Prop:=match x with
 | some a=>k a
 | none=>F
noncomputable def ifO (b:Bool) (F:Prop) (k:Prop):Prop:=match b with
 | true=>k
 | false=>F
noncomputable def Res (p:List Prop) (K:V->List Prop->Prop) (F:Prop) (G:V->Prop):Prop:=F\/∃ v p',K v p'/\(aj p'->aj p/\G v)
theorem dD {α:Type} {x:Option α} {F:Prop} {k:α->Prop} {p:List Prop} {K:V->List Prop->Prop} {G:V->Prop} (hk:∀ a,x=some a->k a->Res p K F G) (h:opO x F k):Res p K F G:=by
 induction x using Option.casesOn with
 | none=>exact .inl h
 | some a=>exact hk a rfl h
theorem m7 {b:Bool} {F k:Prop} {p:List Prop} {K:V->List Prop->Prop} {G:V->Prop} (hk:b=true->k->Res p K F G) (h:ifO b F k):Res p K F G:=by
 induction b using Bool.casesOn with
 | false=>exact .inl h
 | true=>exact hk rfl h
noncomputable def a1O (vs:List V) (F:Prop) (k:V->Prop):Prop:=match vs with
 | [v]=>k v
 | _=>F
noncomputable def a2O (vs:List V) (F:Prop) (k:V->V->Prop):Prop:=match vs with
 | [v,w]=>k v w
 | _=>F
theorem rW {vs:List V} {F:Prop} {k:V->Prop} {p:List Prop} {K:V->List Prop->Prop} {G:V->Prop} (hk:∀ v,vs=[v]->k v->Res p K F G) (h:a1O vs F k):Res p K F G:=by
 match vs,h with
 | [],h=>exact .inl h
 | [v],h=>exact hk v rfl h
 | _::_::_,h=>exact .inl h
theorem kl {vs:List V} {F:Prop} {k:V->V->Prop} {p:List Prop} {K:V->List Prop->Prop} {G:V->Prop} (hk:∀ v w,vs=[v,w]->k v w->Res p K F G) (h:a2O vs F k):Res p K F G:=by
 match vs,h with
 | [],h=>exact .inl h
 | [_],h=>exact .inl h
 | [v,w],h=>exact hk v w rfl h
 | _::_::_::_,h=>exact .inl h
noncomputable def dcO (v:V) (F:Prop) (k:Int->Prop):Prop:=opO (asO v) F λ x=>a2f x.2 F λ y z=>opO (asI y.2) F λ a=>opO (asI z.2) F λ b=>ifO (x.1==0&&y.1==1&&z.1==0&&isZ b) F (k a)
where a2f (fs:List (Nat×V)) (F:Prop) (k:Nat×V->Nat×V->Prop):Prop:=match fs with
 | [y,z]=>k y z
 | _=>F
theorem wq {fs:List (Nat×V)} {F:Prop} {k:Nat×V->Nat×V->Prop} {p:List Prop} {K:V->List Prop->Prop} {G:V->Prop} (hk:∀ v w,fs=[v,w]->k v w->Res p K F G) (h:dcO.a2f fs F k):Res p K F G:=by
 match fs,h with
 | [],h=>exact .inl h
 | [_],h=>exact .inl h
 | [v,w],h=>exact hk v w rfl h
 | _::_::_::_,h=>exact .inl h
theorem dc {v:V} {F:Prop} {k:Int->Prop} {p:List Prop} {K:V->List Prop->Prop} {G:V->Prop} (hk:∀ a,v=dec a 0->k a->Res p K F G) (h:dcO v F k):Res p K F G :=
 dD (λ x e1 h=>wq (λ y z e2 h=>dD (λ a e3 h=>dD (λ b e4 h=>m7 (λ e5 h=>by
  obtain ⟨c,fs⟩:=x
  obtain ⟨y1,y2⟩:=y
  obtain ⟨z1,z2⟩:=z
  obtain rfl:fs=[(y1,y2),(z1,z2)]:=e2
  have e5:=an4 e5
  obtain rfl:c=0:=beq_iff_eq.mp e5.1.1.1
  obtain rfl:y1=1:=beq_iff_eq.mp e5.1.1.2
  obtain rfl:z1=0:=beq_iff_eq.mp e5.1.2
  obtain rfl:=nP e5.2
  obtain rfl:y2=.int a:=cQ e3
  obtain rfl:z2=.int 0:=cQ e4
  exact hk a (tL e1) h) h) h) h) h) h
noncomputable def a6O (vs:List V) (F:Prop) (k:V->V->V->V->V->V->Prop):Prop:=match vs with
 | [a,b,c,d,e,f]=>k a b c d e f
 | _=>F
theorem wr {vs:List V} {F:Prop} {k:V->V->V->V->V->V->Prop} {p:List Prop} {K:V->List Prop->Prop} {G:V->Prop} (hk:∀ a b c d e f,vs=[a,b,c,d,e,f]->k a b c d e f->Res p K F G) (h:a6O vs F k):Res p K F G:=by
 refine (?_:∀ ws,vs=ws->a6O ws F k->Res p K F G) vs rfl h
 clear h
 intro ws e h
 induction ws using List.casesOn with
 | nil=>exact .inl h
 | cons a ws =>
  induction ws using List.casesOn with
  | nil=>exact .inl h
  | cons b ws =>
   induction ws using List.casesOn with
   | nil=>exact .inl h
   | cons c ws =>
    induction ws using List.casesOn with
    | nil=>exact .inl h
    | cons d ws =>
     induction ws using List.casesOn with
     | nil=>exact .inl h
     | cons x ws =>
      induction ws using List.casesOn with
      | nil=>exact .inl h
      | cons y ws =>
       induction ws using List.casesOn with
       | nil=>exact hk a b c d x y e h
       | cons _ _=>exact .inl h
noncomputable def zN:V->Option (List V)
 | .tup l=>some l
 | _=>none
theorem qQ {v:V} {l:List V} (h:zN v=some l):v=.tup l:=by
 induction v using V.casesOn with
 | tup b=>exact congrArg V.tup (Option.some.inj h)
 | _=>exact J h
noncomputable def phO (vs:List V) (F:Prop) (k:List V->Prop):Prop:=match vs with
 | []=>k []
 | [v]=>opO (zN v) F k
 | _=>F
theorem wt {vs:List V} {F:Prop} {k:List V->Prop} {p:List Prop} {K:V->List Prop->Prop} {G:V->Prop} (hk:∀ l,vs=[.tup l]\/(vs=[]/\l=[])->k l->Res p K F G) (h:phO vs F k):Res p K F G:=by
 match vs,h with
 | [],h=>exact hk [] (.inr ⟨rfl,rfl⟩) h
 | [v],h=>exact dD (λ l e h=>hk l (.inl (by (refine rwE (qQ e) ?_;rfl))) h) h
 | _::_::_,h=>exact .inl h
noncomputable def pcD:PfT:=λ c vs p K F=>match c with
 | 0=>a2O vs F λ v w=>opO (asI v) F λ a=>opO (asI w) F λ b=>ifO (isZ b) (ifO (zM b) F (K (tn a) p)) (K (dec a 0) p)
 | 1=>a1O vs F λ v=>opO (asS v) F λ k=>K (bL k) p
 | 2=>a1O vs F λ v=>ifO (isY v) F (K uQ p)
 | 4=>a2O vs F λ v w=>opO (asI v) F λ a=>opO (asI w) F λ b=>K (fF a b) p
 | 7=>a6O vs F λ v1 v2 v3 v4 v5 v6=>dcO v1 F λ a=>dcO v2 F λ b=>dcO v3 F λ c=>dcO v4 F λ e=>dcO v5 F λ f=>dcO v6 F λ g=>K (mat a b c e f g) p
 | 8=>phO vs F λ l=>K (aa l) p
 | _=>F
noncomputable def pfD:PfT:=λ k vs p K F=>match k with
 | 1=>a2O vs F λ v w=>dcO v F λ a=>dcO w F λ b=>K (dec (a+b) 0) ((bE a=true)::(bE b=true)::p)
 | 2=>a2O vs F λ v w=>dcO v F λ a=>dcO w F λ b=>K (dec (a*b) 0) ((bE a=true)::(bE b=true)::p)
 | _=>F
theorem km {d:Nat} (hd:3<=d):rT pcD (U tb d):=by
 refine ao (Nat.exists_eq_add_of_le' hd) ?_;intro d z1;obtain rfl:=z1
 intro c vs p K F h
 match c,h with
 | 0,h=>exact kl (G:=λ v=>∀ {σ:St} {Q:PV},Q v σ->bO tb (U tb (d+3)) 0 vs σ Q) (λ v w e h=>dD (λ a e1 h=>dD (λ b e2 h=>by
  generalize e3:isZ b=z at h
  induction z using Bool.casesOn with
  | true=>exact .inr ⟨_,_,h,λ hp=>⟨hp,λ q=>by (refine rwE e ?_;refine rwE (cQ e1) ?_;refine rwE (cQ e2) ?_;refine rwE (nP e3) ?_);exact ke rfl q⟩⟩
  | false=>exact m7 (λ e4 h=>.inr ⟨_,_,h,λ hp=>⟨hp,λ q=>by (refine rwE e ?_;refine rwE (cQ e1) ?_;refine rwE (cQ e2) ?_;refine rwE (tN e4) ?_);exact uP rfl q⟩⟩) h) h) h) h
 | 1,h=>exact rW (G:=λ v=>∀ {σ:St} {Q:PV},Q v σ->bO tb (U tb (d+3)) 1 vs σ Q) (λ v e h=>dD (λ a e1 h=>.inr ⟨_,_,h,λ hp=>⟨hp,λ q=>by
  (refine rwE e ?_;refine rwE (tK e1) ?_);exact tF rfl q⟩⟩) h) h
 | 2,h=>exact rW (G:=λ v=>∀ {σ:St} {Q:PV},Q v σ->bO tb (U tb (d+3)) 2 vs σ Q) (λ v e h=>m7 (λ e1 h=>.inr ⟨_,_,h,λ hp=>⟨hp,λ q=>by
  (refine rwE e ?_;refine rwE (tM e1) ?_);exact v8 rfl q⟩⟩) h) h
 | 3,h=>exact .inl h
 | 4,h=>exact kl (G:=λ v=>∀ {σ:St} {Q:PV},Q v σ->bO tb (U tb (d+3)) 4 vs σ Q) (λ v w e h=>dD (λ a e1 h=>dD (λ b e2 h=>.inr ⟨_,_,h,λ hp=>⟨hp,λ q=>by
  (refine rwE e ?_;refine rwE (cQ e1) ?_;refine rwE (cQ e2) ?_);exact v9 rfl q⟩⟩) h) h) h
 | 5,h=>exact .inl h
 | 6,h=>exact .inl h
 | 7,h=>exact wr (G:=λ v=>∀ {σ:St} {Q:PV},Q v σ->bO tb (U tb (d+3)) 7 vs σ Q) (λ v1 v2 v3 v4 v5 v6 e h=>dc (λ a e1 h=>dc (λ b e2 h=>dc (λ c e3 h=>dc (λ f e4 h=>dc (λ g e5 h=>dc (λ i e6 h=>.inr ⟨_,_,h,λ hp=>⟨hp,λ q=>by
  (refine rwE e ?_;refine rwE e1 ?_;refine rwE e2 ?_;refine rwE e3 ?_;refine rwE e4 ?_;refine rwE e5 ?_;refine rwE e6 ?_);exact rN (d:=d+1) rfl q⟩⟩) h) h) h) h) h) h) h
 | 8,h=>exact wt (G:=λ v=>∀ {σ:St} {Q:PV},Q v σ->bO tb (U tb (d+3)) 8 vs σ Q) (λ l e h=>.inr ⟨_,_,h,λ hp=>⟨hp,λ q=>by
  rcases e with e | ⟨e,e'⟩
  ·refine rwE e ?_;exact eH rfl q
  ·subst e';refine rwE e ?_;exact qO rfl q⟩⟩) h
 | _+9,h=>exact .inl h
theorem rX:xZ pfD 3:=by
 intro d k vs p K F hd h
 refine ao (Nat.exists_eq_add_of_le' hd) ?_;intro d z1;obtain rfl:=z1
 match k,h with
 | 0,h=>exact .inl h
 | 1,h=>exact kl (G:=λ v=>∀ {σ:St} {Q:PV} {X:PX},Q v σ->U tb (d+3) 1 [] vs σ Q X) (λ v w e h=>dc (λ a e1 h=>dc (λ b e2 h=>.inr ⟨_,(bE a=true)::(bE b=true)::p,h,λ hp=>⟨hp.2.2,λ q=>by
  (refine rwE e ?_;refine rwE e1 ?_;refine rwE e2 ?_);exact bf rfl q hp.1 hp.2.1⟩⟩) h) h) h
 | 2,h=>exact kl (G:=λ v=>∀ {σ:St} {Q:PV} {X:PX},Q v σ->U tb (d+3) 2 [] vs σ Q X) (λ v w e h=>dc (λ a e1 h=>dc (λ b e2 h=>.inr ⟨_,(bE a=true)::(bE b=true)::p,h,λ hp=>⟨hp.2.2,λ q=>by
  (refine rwE e ?_;refine rwE e1 ?_;refine rwE e2 ?_);exact aH rfl q hp.1 hp.2.1⟩⟩) h) h) h
 | _+3,h=>exact .inl h
section
variable {p1 p2 p3 p4 p5 p6 p7 p8:Prop} {r:List Prop}
theorem a2 (h1:p1) (h2:p2) (k:aj r):aj (p1::p2::r):=⟨h1,h2,k⟩
theorem a3 (h1:p1) (h2:p2) (h3:p3) (k:aj r):aj (p1::p2::p3::r):=⟨h1,h2,h3,k⟩
theorem a4 (h1:p1) (h2:p2) (h3:p3) (h4:p4) (k:aj r):aj (p1::p2::p3::p4::r):=⟨h1,h2,h3,h4,k⟩
theorem a6 (h1:p1) (h2:p2) (h3:p3) (h4:p4) (h5:p5) (h6:p6) (k:aj r):aj (p1::p2::p3::p4::p5::p6::r):=⟨h1,h2,h3,h4,h5,h6,k⟩
theorem a8 (h1:p1) (h2:p2) (h3:p3) (h4:p4) (h5:p5) (h6:p6) (h7:p7) (h8:p8) (k:aj r):aj (p1::p2::p3::p4::p5::p6::p7::p8::r):=⟨h1,h2,h3,h4,h5,h6,h7,h8,k⟩
theorem a0:aj []:=trivial
theorem Av:13<1000:=by decide
theorem lm8:8<1000:=by decide
theorem lk0:0<100000:=by decide
theorem lk1:1<100000:=by decide
end
theorem bM {call:ah} {N:PN} {R:PV} {X:PX} {b:List S}:∀ {a:List S} {ρ:Rho} {σ:St},execs tb call (a++b) ρ σ N R X=execs tb call a ρ σ (λ ρ σ=>execs tb call b ρ σ N R X) R X
 | [],_,_=>rfl
 | s::r,ρ,σ=>congrArg (λ K=>exec tb call s ρ σ K R X) (funext λ ρ=>funext λ σ=>bM (a:=r))
section
variable {d k:Nat} {cap:List (Nat×V)} {vs:List V} {σ:St} {Q:PV} {X:PX} {ss:List S} {ρ:Rho} {N:PN} {R:PV} {call:ah}
theorem wk (n:Nat) (o:List Ob) (hc:call=U tb (d+3+(n+1))) (h:inO tb pcD (U tb (d+3+n)) (xK tb pcD pfD (d+3) n) k cap vs σ o [] (λ v σ u' p=>aj p/\Q v σ) X):call k cap vs σ Q X:=by
 subst hc
 exact (kj (km (Nat.le_trans (Nat.le_add_left 3 d) (Nat.le_add_right _ _))) (iG (λ u' h=>km h) rX (Nat.le_add_left 3 d) n) (λ u' u' u' u' h=>h) h).2
theorem ws (n:Nat) (o:List Ob) (hc:call=U tb (d+3+n)) (h:xSs tb pcD (U tb (d+3+n)) (xK tb pcD pfD (d+3) n) ss ρ σ o [] (λ ρ σ u' p=>aj p/\N ρ σ) (λ v σ u' p=>aj p/\R v σ) X):execs tb call ss ρ σ N R X:=by
 subst hc
 exact (ki (km (Nat.le_trans (Nat.le_add_left 3 d) (Nat.le_add_right _ _))) (iG (λ u' h=>km h) rX (Nat.le_add_left 3 d) n) _ _ _ _ _ _ _ _ _ _ (λ u' u' u' u' h=>h) (λ u' u' u' u' h=>h) h).2
end
noncomputable def bX (t:Int):Int:=min 10 (max 0 t)
theorem wu (t:Int):lw (tn t) (tn t):=by delta tn;split<;>exact .dec _ _
theorem gZ:∀ ts:List Int,gq (ts.map tn) (ts.map tn)
 | []=>.nil
 | t::r=>.cons (wu t) (gZ r)
noncomputable def inR (ts:List Int):Prop:=∀ t∈ts,-3<=t/\t<=12
noncomputable abbrev stV (m fi sk:V) (vd:Nat):M:=.ob 9 [(95,m),(96,.tup []),(97,fi),(98,sk),(99,.loc vd)]
noncomputable abbrev x9 (k:Nat) (ts:List Int):V:=.tup [.str k,.tup (ts.map λ t=>tn (bX t))]
noncomputable abbrev ya (ts:List Int):V:=.tup [.str 295,.tup (ts.map tn++[.str 300])]
section
variable {call:ah} {d:Nat} {σ:St} {Q:PV} {X:PX} {ρ:Rho} {N:PN} {R:PV}
theorem qR {t:Int} (h:-3<=t/\t<=12):t=0\/t=10\/(tn t=dec t 1/\(t<0\/10<t\/(0<t/\t<10))):=by
 by_cases q:Int.fmod t 10=0
 ·have:t.fmod 10=t % 10:=Int.fmod_eq_emod_of_nonneg t (by decide)
  lia
 ·have:tn t=dec t 1:=if_neg q
  by_cases q0:t=0
  ·exact .inl q0
  ·by_cases q1:t=10
   ·exact .inr (.inl q1)
   ·exact .inr (.inr ⟨this,by lia⟩)
noncomputable abbrev nQ:List S:=[.if_ (.cmp (.at_ (.v 11) 1) .lt (.cI 0)) [.ex (.meth (.v 46) 90 [.call (.g 9) [.cI 0]])] [.if_ (.cmp (.meth (.v 11) 135 [.cI 1]) .gt (.cI 0)) [.ex (.meth (.v 46) 90 [.call (.g 9) [.cI 1]])] [.ex (.meth (.v 46) 90 [.v 11])]]]
theorem kJ (hc:call=U tb (d+4)) {a:Nat} {t:Int} {acc:List V} (ht:-3<=t/\t<=12) (h11:ρ 11=some (tn t)) (h46:ρ 46=some (.loc a)) (hl:acc.length<100) (h:N ρ ((a,.lst (acc++[tn (bX t)]))::σ)):execs tb call nQ ρ ((a,.lst acc)::σ) N R X:=by
 subst hc
 have lt:acc.length<100000:=Nat.lt_trans hl (by decide)
 have kb:bE t=true:=sm.big (n:=4) (show t.natAbs<=2 ^ 4 by lia)
 rcases qR ht with rfl | rfl | ⟨e,q | q | q⟩
 ·exact ws (d:=d) 1 [.v 11 (dec 0 0),.v 11 (dec 0 0),.f] rfl (And.intro (a2 h11 h11 a0) λ Q hq=>i6 rfl (by decide +kernel) (hq _ _ [.v 46 (.loc a),.i 0,.v 11 (dec 0 0),.i 0] (And.intro (a4 lt rfl h11 rfl (a1 h46 a0)) h)))
 ·exact ws (d:=d) 1 [.v 11 (dec 1 0),.v 11 (dec 1 0),.f] rfl (And.intro (a2 h11 h11 a0) λ Q hq=>i6 rfl (by decide +kernel) (hq _ _ [.v 46 (.loc a),.i 0,.v 11 (dec 1 0),.i 0] (And.intro (a4 lt rfl h11 rfl (a1 h46 a0)) h)))
 ·have ec:bX t=0:=by delta bX;lia
  rw [ec] at h
  rw [e] at h11
  exact ws (d:=d) 1 [.v 11 (dec t 1),.b true,.v 46 (.loc a),.i 0,.i 0] rfl (And.intro (a4 lt rfl rfl h46 (a2 (congrArg some (decide_eq_true q)) h11 a0)) h)
 ·have ec:bX t=10:=by delta bX;lia
  rw [ec] at h
  rw [e] at h11
  have es:sgn (t*1 - 1*10)=1:=by delta sgn;refine rwE (if_neg (by lia)) ?_;refine rwE (if_pos (by lia)) ?_;rfl
  exact ws (d:=d) 1 [.v 11 (dec t 1),.b false,.v 11 (dec t 1),.f] rfl (And.intro (a3 h11 (congrArg some (decide_eq_false (by lia))) h11 a0) λ Q hq=>i7 rfl kb (by
   refine rwE es ?_;exact hq _ _ [.v 46 (.loc a),.i 0,.i 0] (And.intro (a4 lt rfl rfl h46 a0) h)))
 ·have ec:bX t=t:=by delta bX;lia
  rw [ec,e] at h
  rw [e] at h11
  have es:sgn (t*1 - 1*10)=-1:=by delta sgn;refine rwE (if_neg (by lia)) ?_;refine rwE (if_neg (by lia)) ?_;rfl
  exact ws (d:=d) 1 [.v 11 (dec t 1),.b false,.v 11 (dec t 1),.f] rfl (And.intro (a3 h11 (congrArg some (decide_eq_false (by lia))) h11 a0) λ Q hq=>i7 rfl kb (by
   refine rwE es ?_;exact hq _ _ [.v 46 (.loc a),.i 0,.v 11 (dec t 1),.i 0] (And.intro (a4 lt rfl h11 rfl (a1 h46 a0)) h)))
theorem gd (hc:call=U tb (d+4)) {a:Nat}:∀ {ts:List Int} {acc:List V} {ρ:Rho},inR ts->acc.length+ts.length<100->ρ 46=some (.loc a)->(∀ ρ':Rho,ρ' 46=some (.loc a)->N ρ' ((a,.lst (acc++ts.map λ t=>tn (bX t)))::σ)) ->
 exF (λ ρ σ N R X=>execs tb call nQ ρ σ N R X) (λ v ρ σ N X=>asT tb call (.x 11) v ρ σ N X) (ts.map tn) ρ ((a,.lst acc)::σ) N R X
 | [],acc,ρ,_,_,h46,h=>by
  have:=h ρ h46
  rw [List.map_nil,List.append_nil] at this
  exact this
 | t::r,acc,ρ,hr,hl,h46,h=>by
  rw [List.length_cons] at hl
  refine kJ hc (hr t (.head _)) (ρ:=upd 11 (tn t) ρ) rfl h46 (by lia) ?_
  refine gd hc (λ x hx=>hr x (.tail _ hx)) (by (refine rwE List.length_append ?_;refine rwE List.length_singleton ?_);lia) h46 λ ρ' hρ=>?_
  have:=h ρ' hρ
  rw [List.map_cons] at this
  refine rwE (List.append_assoc ..) ?_
  exact this
theorem dm (hc:call=U tb (d+5)) {ts:List Int} {n:Int} (hn:(ts.length:Int)=n) (hr:inR ts) (hl:ts.length<100) (h:Q (.tup (ts.map λ t=>tn (bX t))) σ):call 45 [] [.lst (ts.map tn),.int n] σ Q X:=by
 refine lq ⟨[99,124],[],dK,true⟩ rfl rfl rfl hc λ call hc=>?_
 intro a ha
 refine aO (d:=d+1) hc (by refine rwE (List.length_map ..) ?_;exact hn) (gZ ts) ?_
 refine gd hc hr (by refine rwE List.length_nil ?_;lia) rfl λ ρ' hρ=>?_
 conv=>whnf
 refine rwE hρ ?_
 conv=>whnf
 refine rwE (d9 am) ?_
 conv=>whnf
 refine rwE lr ?_
 exact h
theorem tO (hc:call=U tb (d+6)) {ts:List Int} (hr:inR ts) {k:Nat} (hk:(k=102/\ts.length=1)\/(k=103/\ts.length=3)\/(k=104/\ts.length=4)) (h:Q (x9 k ts) σ):call 47 [] [.str k,.lst (ts.map tn)] σ Q X:=by
 have hl:ts.length<100:=by lia
 rcases hk with ⟨rfl,e⟩ | ⟨rfl,e⟩ | ⟨rfl,e⟩
 ·refine Y ⟨[101,99],[],bA,false⟩ rfl rfl rfl hc λ call hc=>?_
  refine Y ⟨[101],[],ba,false⟩ rfl rfl rfl hc λ call' hc'=>?_
  refine ⟨by decide,?_⟩
  refine dm (n:=1) hc (by lia) hr hl ?_
  exact h
 ·refine Y ⟨[101,99],[],bA,false⟩ rfl rfl rfl hc λ call hc=>?_
  refine Y ⟨[101],[],ba,false⟩ rfl rfl rfl hc λ call' hc'=>?_
  refine ⟨by decide,?_⟩
  refine dm (n:=3) hc (by lia) hr hl ?_
  exact h
 ·refine Y ⟨[101,99],[],bA,false⟩ rfl rfl rfl hc λ call hc=>?_
  refine Y ⟨[101],[],ba,false⟩ rfl rfl rfl hc λ call' hc'=>?_
  refine ⟨by decide,?_⟩
  refine dm (n:=4) hc (by lia) hr hl ?_
  exact h
theorem tP (hc:call=U tb (d+6)) {a b:Int} (h:Q (ya [a,b]) σ):call 47 [] [.str 295,.lst [tn a,tn b,bL 300]] σ Q X:=by
 refine Y ⟨[101,99],[],bA,false⟩ rfl rfl rfl hc λ call hc=>?_
 refine Y ⟨[101],[],ba,false⟩ rfl rfl rfl hc λ call' hc'=>?_
 refine ⟨by decide,?_⟩
 refine aO hc (vs:=[tn a,tn b]) rfl (gZ [a,b]) ?_
 exact h
theorem bY (hc:call=U tb (d+3)) {k:Nat} {v:V} (hk:(k=102/\v=.tup [.str 102,.tup [dec 0 0]])\/(k=103/\v=.tup [.str 103,.tup [dec 0 0,dec 0 0,dec 0 0]])\/(k=104/\v=.tup [.str 104,.tup [dec 0 0,dec 0 0,dec 0 0,dec 1 0]])\/(k=295/\v=.tup [.str 295,.tup []])) (h:Q v σ):call 38 [] [.str k] σ Q X:=by
 rcases hk with ⟨rfl,rfl⟩ | ⟨rfl,rfl⟩ | ⟨rfl,rfl⟩ | ⟨rfl,rfl⟩
 ·refine Y ⟨[101],[],aZ,false⟩ rfl rfl rfl hc λ call hc=>?_
  refine ag hc ?_
  exact h
 ·refine Y ⟨[101],[],aZ,false⟩ rfl rfl rfl hc λ call hc=>?_
  refine ag hc ?_
  exact h
 ·refine Y ⟨[101],[],aZ,false⟩ rfl rfl rfl hc λ call hc=>?_
  refine ag hc ?_
  refine ag hc ?_
  exact h
 ·refine Y ⟨[101],[],aZ,false⟩ rfl rfl rfl hc λ call hc=>?_
  refine ag hc ?_
  exact h
end
noncomputable abbrev vdM (w:V) (c j:Int) (mi da:V):M:=.dct [(83,w),(105,.int c),(106,.int j),(107,mi),(108,da),(110,dec 0 0),(111,dec 0 0),(112,dec 0 0),(113,dec 0 0),(114,dec 0 0),(115,dec 100 0),(116,.str 117),(118,.int 0)]
noncomputable abbrev rY (ps:List (Int×Int)):List V:=ps.map λ q=>dec q.1 q.2
section
variable {call:ah} {d:Nat} {σ:St} {Q:PV} {X:PX} {ρ:Rho} {N:PN} {R:PV} {st vd:Nat} {m fi sk w mi da:V} {c j:Int}
theorem fU:∀ {ps:List (Int×Int)} {Q:List V->St->Prop},Q (ps.map λ q=>.int q.1) σ->evC (λ ρ σ Q=>evE tb call (.at_ (.v 155) 1) ρ σ Q λ u'=>False) (.x 155) (rY ps) ρ σ Q
 | [],Q,h=>h
 | q::r,Q,h=>fU (ps:=r) (Q:=λ ws σ=>Q (.int q.1::ws) σ) h
theorem eP:∀ ps:List (Int×Int),bV (ps.map λ q=>V.int q.1)=some (ps.map (λ x=>x.1))
 | []=>rfl
 | q::r=>by
  show (bV (r.map λ q=>V.int q.1)).map (q.1::·)=_
  refine rwE (eP r) ?_;rfl
theorem jF (hc:call=U tb (d+4)) (hs:look st σ=some (stV m fi sk vd)) (hv:look vd σ=some (vdM w c j mi da)) {vs:List V} {ps:List (Int×Int)} {p:V} {q:Int×Int} (hn:gq vs (rY ps)) (hp:lw p (dec q.1 q.2)) (hpos:∀ q∈ps,0<q.1)
 (h:Q .none (put vd (vdM w c j mi (.tup [.tup (rY ps),dec q.1 q.2])) σ)):call 49 [] [.loc st,.lst vs,p] σ Q X:=by
 refine Y ⟨[123,150,153],[],gK,false⟩ rfl rfl rfl hc λ call hc=>?_
 refine aO hc rfl hn ?_
 refine aO hc (vs:=[p]) (ds:=[dec q.1 q.2]) rfl (.cons hp .nil) ?_
 induction ps using List.casesOn with
 | nil =>
  conv=>whnf
  refine rwE (ak hs) ?_
  conv=>whnf
  refine rwE (be hv (show 13<1000 by decide)) ?_
  exact h
 | cons q0 r =>
  refine fU ?_
  conv=>whnf
  refine rwE (eP ..) ?_
  refine ⟨by simp,λ M hM u'=>?_⟩
  refine au (List.mem_map.mp hM) ?_;intro q1 hq1 e1
  have hM0:0<M:=by refine rwB e1 ?_;exact hpos q1 hq1
  conv=>whnf
  refine rwE (decide_eq_false (show ¬ M<0 by lia)) ?_
  refine fU ?_
  conv=>whnf
  refine rwE (eP ..) ?_
  refine ⟨by simp,λ M hM u'=>?_⟩
  refine au (List.mem_map.mp hM) ?_;intro q1 hq1 e1
  have hM0:0<M:=by refine rwB e1 ?_;exact hpos q1 hq1
  conv=>whnf
  refine rwE (show (M==0)=false from by simp;lia) ?_
  conv=>whnf
  refine rwE (ak hs) ?_
  conv=>whnf
  refine rwE (be hv (show 13<1000 by decide)) ?_
  exact h
theorem i9 (hc:call=U tb (d+4)) {n:Int} (hn:n=0\/n=1\/n=2) (h:Q (.int n) σ):call 44 [] [.lst [.int n],.int 3] σ Q X:=by
 refine Y ⟨[99,124],[],f5,false⟩ rfl rfl rfl hc λ call hc=>?_
 refine aO hc (vs:=[.int n]) (ds:=[dec n 0]) rfl (.cons (.int n) .nil) ?_
 refine Y ⟨[2],[],bZ,false⟩ rfl rfl rfl (hc:call=U tb (d+2+1)) λ u' u'=>?_
 refine Y ⟨[2],[],aV,false⟩ rfl rfl rfl (hc:call=U tb (d+2+1)) λ u' u'=>?_
 rcases hn with rfl | rfl | rfl
 ·refine Y ⟨[2],[],aV,false⟩ rfl rfl rfl (hc:call=U tb (d+2+1)) λ u' u'=>?_
  exact h
 ·refine Y ⟨[2],[],aV,false⟩ rfl rfl rfl (hc:call=U tb (d+2+1)) λ u' u'=>?_
  exact h
 ·refine Y ⟨[2],[],aV,false⟩ rfl rfl rfl (hc:call=U tb (d+2+1)) λ u' u'=>?_
  exact h
theorem rZ (hc:call=U tb (d+5)) (hs:look st σ=some (stV m fi sk vd)) (hv:look vd σ=some (vdM w c j mi da)) {n:Int} (hn:n=0\/n=1\/n=2) (h:Q .none (put vd (vdM w n j mi da) σ)):call 50 [] [.loc st,.str 159,.lst [.int n]] σ Q X:=by
 refine Y ⟨[123,109,99],[],bG,false⟩ rfl rfl rfl hc λ call hc=>?_
 refine i9 hc hn ?_
 conv=>whnf
 refine rwE (ak hs) ?_
 conv=>whnf
 refine rwE (be hv (show 13<1000 by decide)) ?_
 exact h
theorem sd (hc:call=U tb (d+5)) (hs:look st σ=some (stV m fi sk vd)) (hv:look vd σ=some (vdM w c j mi da)) {n:Int} (hn:n=0\/n=1\/n=2) (h:Q .none (put vd (vdM w c n mi da) σ)):call 50 [] [.loc st,.str 161,.lst [.int n]] σ Q X:=by
 refine Y ⟨[123,109,99],[],bG,false⟩ rfl rfl rfl hc λ call hc=>?_
 refine i9 hc hn ?_
 conv=>whnf
 refine rwE (ak hs) ?_
 conv=>whnf
 refine rwE (be hv (show 13<1000 by decide)) ?_
 exact h
theorem m8 (hc:call=U tb (d+5)) (hs:look st σ=some (stV m fi sk vd)) (hv:look vd σ=some (vdM w c j mi da)) {v:V} {a p:Int} (hn:lw v (dec a p)) (h0:0<=a) (h:Q .none (put vd (vdM (dec a p) c j mi da) σ)):call 50 [] [.loc st,.str 163,.lst [v]] σ Q X:=by
 refine Y ⟨[123,109,99],[],bG,false⟩ rfl rfl rfl hc λ call hc=>?_
 refine aO (d:=d+1) hc (vs:=[v]) (ds:=[dec a p]) rfl (.cons hn .nil) ?_
 conv=>whnf
 refine rwE (decide_eq_false (show ¬ a<0 by lia)) ?_
 conv=>whnf
 refine rwE (ak hs) ?_
 conv=>whnf
 refine rwE (be hv (show 13<1000 by decide)) ?_
 exact h
theorem se (hc:call=U tb (d+5)) (hs:look st σ=some (stV m fi sk vd)) (hv:look vd σ=some (vdM w c j mi da)) {v:V} {a p:Int} (hn:lw v (dec a p)) (h0:0<=a) (h:Q .none (put vd (vdM w c j (dec a p) da) σ)):call 50 [] [.loc st,.str 169,.lst [v]] σ Q X:=by
 refine Y ⟨[123,109,99],[],bG,false⟩ rfl rfl rfl hc λ call hc=>?_
 refine aO (d:=d+1) hc (vs:=[v]) (ds:=[dec a p]) rfl (.cons hn .nil) ?_
 conv=>whnf
 refine rwE (decide_eq_false (show ¬ a<0 by lia)) ?_
 conv=>whnf
 refine rwE (ak hs) ?_
 conv=>whnf
 refine rwE (be hv (show 13<1000 by decide)) ?_
 exact h
theorem wv (hc:call=U tb (d+5)) (hs:look st σ=some (stV m fi sk vd)) (hv:look vd σ=some (vdM w c j mi da)) {vs:List V} {ps:List (Int×Int)} {p:V} {q:Int×Int} (hn:gq vs (rY ps)) (hp:lw p (dec q.1 q.2)) (hpos:∀ q∈ps,0<q.1)
 (h:Q .none (put vd (vdM w c j mi (.tup [.tup (rY ps),dec q.1 q.2])) σ)):call 50 [] [.loc st,.str 54,.lst [.lst vs,p]] σ Q X:=by
 refine Y ⟨[123,109,99],[],bG,false⟩ rfl rfl rfl hc λ call hc=>?_
 exact jF hc hs hv hn hp hpos h
end
noncomputable abbrev pC:V:=.dct [(165,.int 7),(166,.int 1),(290,.int 5)]
noncomputable abbrev kn:V:=.dct [(173,.lst [fF 5 0,.int 3]),(165,fF 6 0)]
noncomputable abbrev pD:V:=.dct [(167,.int 2),(168,dec 35 1),(173,.lst [.lst [fF 6 0,.int 1],.int 2])]
noncomputable abbrev lE:M:=.dci [(3,.tup [.int 0,pC]),(4,.tup [.int 0,pD]),(5,.tup [.int 0,.lst [.int 1,dec 5 1]]),(6,.tup [.int 0,dec 25 1])]
noncomputable abbrev nR:V:=.dct [(292,fF 3 0),(284,kn),(293,fF 4 0)]
noncomputable abbrev uX:V:=.dct [(232,nR)]
noncomputable abbrev shM (tbl tr:Nat):M:=.ob 6 [(40,.loc tbl),(41,.loc tr)]
noncomputable abbrev ptM (sh st pl o mk cl:Nat) (path:V):M:=.ob 10 [(170,.loc sh),(175,uX),(176,.none),(123,.loc st),(178,.loc pl),(132,.int 0),(68,path),(179,.str 117),(20,.none),(180,.int 0),(181,.loc o),(182,.loc mk),(96,.loc cl)]
section
variable {call:ah} {d:Nat} {σ:St} {Q:PV} {X:PX} {ρ:Rho} {N:PN} {R:PV} {st vd sh tbl tr:Nat} {m fi sk w mi da v:V} {c j:Int}
theorem aC (hc:call=U tb (d+1)) (hv:c0 tb v (.cls 4)=some false) (h:Q v σ):call 16 [] [.loc sh,v] σ Q X:=by
 refine Y ⟨[2,13],[],cg,false⟩ rfl rfl rfl hc λ call hc=>?_
 conv=>whnf
 refine rwE hv ?_
 exact h
theorem cX (hc:call=U tb (d+1)) (hs:look sh σ=some (shM tbl tr)) (ht:look tbl σ=some lE) {n:Int} (hn:fB n [(3,.tup [.int 0,pC]),(4,.tup [.int 0,pD]),(5,.tup [.int 0,.lst [.int 1,dec 5 1]]),(6,.tup [.int 0,dec 25 1])]=some (.tup [.int 0,v])) (hv:c0 tb v (.cls 4)=some false) (h:Q v σ):call 16 [] [.loc sh,fF n 0] σ Q X:=by
 refine Y ⟨[2,13],[],cg,false⟩ rfl rfl rfl hc λ call hc=>?_
 conv=>whnf
 refine rwE (ak hs) ?_
 conv=>whnf
 refine rwE (rM ht) ?_
 conv=>whnf
 refine rwE (qI ht) ?_;refine rwE hn ?_
 refine ⟨rfl,?_⟩
 conv=>whnf
 refine rwE hv ?_
 exact h
theorem dE (hc:call=U tb (d+2)) (hs:look sh σ=some (shM tbl tr)) {kvs:List (Nat×V)} {k:Nat} {u:V} (hk:(aY k kvs).getD .none=u) (hf:∀ {call:ah} {Q:PV} {X:PX},call=U tb (d+1)->Q v σ->call 16 [] [.loc sh,u] σ Q X) (h:Q v σ):call 17 [] [.loc sh,.dct kvs,.str k] σ Q X:=by
 refine Y ⟨[2,49,50],[],eW,false⟩ rfl rfl rfl hc λ call hc=>?_
 conv=>whnf
 refine rwE (aA hs) ?_
 conv=>whnf
 refine rwE hk ?_
 exact hf hc h
theorem cA {l:Nat} {m m':M}:∀ {σ:St},put l m (put l m' σ)=put l m σ
 | []=>rfl
 | (b,n)::r=>by
  by_cases q:l=b
  ·subst q;refine rwE cC ?_;refine rwE cC ?_;refine rwE cC ?_;rfl
  ·have e:∀ x s,put l x ((b,n)::s)=(b,n)::put l x s:=λ x s=>if_neg q
   refine rwE (e ..) ?_;refine rwE (e ..) ?_;refine rwE (e ..) ?_;refine rwE cA ?_;rfl
theorem bT (hc:call=U tb (d+2)) (hs:look sh σ=some (shM tbl tr)) {kvs:List (Nat×V)} {k:Nat} (hk:aY k kvs=none) (h:Q .none σ):call 17 [] [.loc sh,.dct kvs,.str k] σ Q X :=
 dE hc hs (u:=.none) (by refine rwE hk ?_;rfl) (λ hc=>aC hc rfl) h
theorem tQ (hc:call=U tb (d+6)) (hs:look sh σ=some (shM tbl tr)) (hst:look st σ=some (stV m fi sk vd)) (hv:look vd σ=some (vdM w c j mi da)) (n1:sh≠vd) (n3:st≠vd) (h:Q .none (put vd (vdM (dec 7 0) 1 j mi da) σ)):call 51 [] [.loc sh,.loc st,pC] σ Q X:=by
 refine Y ⟨[170,123,49],[],cG,false⟩ rfl rfl rfl hc λ call hc=>?_
 refine ⟨by decide,?_⟩
 conv=>whnf
 refine rwE (aA hs) ?_
 refine dE (d:=d+3) hc hs (v:=.int 7) rfl (λ hc=>aC hc rfl) ?_
 refine m8 hc hst hv (.int 7) (by decide) ?_
 have hs':look sh (put vd (vdM (dec 7 0) c j mi da) σ)=some (shM tbl tr):=(ac n1).trans hs
 have hst':look st (put vd (vdM (dec 7 0) c j mi da) σ)=some (stV m fi sk vd):=(ac n3).trans hst
 have hv':look vd (put vd (vdM (dec 7 0) c j mi da) σ)=some (vdM (dec 7 0) c j mi da):=af hv
 conv=>whnf
 refine rwE (aA hs') ?_
 refine dE (d:=d+3) hc hs' (v:=.int 1) rfl (λ hc=>aC hc rfl) ?_
 refine rZ hc hst' hv' (.inr (.inl rfl)) ?_
 refine rwE cA ?_
 have hs'':look sh (put vd (vdM (dec 7 0) 1 j mi da) σ)=some (shM tbl tr):=(ac n1).trans hs
 conv=>whnf
 refine rwE (aA hs'') ?_
 refine bT (d:=d+3) hc hs'' rfl ?_
 conv=>whnf
 refine rwE (aA hs'') ?_
 refine bT (d:=d+3) hc hs'' rfl ?_
 conv=>whnf
 refine rwE (aA hs'') ?_
 refine bT (d:=d+3) hc hs'' rfl ?_
 exact h
theorem tR (hc:call=U tb (d+6)) (hs:look sh σ=some (shM tbl tr)) (ht:look tbl σ=some lE) (hst:look st σ=some (stV m fi sk vd)) (hv:look vd σ=some (vdM w c j mi da)) (n1:sh≠vd) (n2:tbl≠vd) (n3:st≠vd) (h:Q .none (put vd (vdM (dec 25 1) c j mi (.tup [.tup [dec 1 0,dec 5 1],dec 3 0])) σ)):call 51 [] [.loc sh,.loc st,kn] σ Q X:=by
 refine Y ⟨[170,123,49],[],cG,false⟩ rfl rfl rfl hc λ call hc=>?_
 refine ⟨by decide,?_⟩
 conv=>whnf
 refine rwE (aA hs) ?_
 refine dE (d:=d+3) hc hs (v:=dec 25 1) rfl (λ hc=>cX hc hs ht rfl rfl) ?_
 refine m8 hc hst hv (.dec 25 1) (by decide) ?_
 have hs':look sh (put vd (vdM (dec 25 1) c j mi da) σ)=some (shM tbl tr):=(ac n1).trans hs
 have ht':look tbl (put vd (vdM (dec 25 1) c j mi da) σ)=some lE:=(ac n2).trans ht
 have hst':look st (put vd (vdM (dec 25 1) c j mi da) σ)=some (stV m fi sk vd):=(ac n3).trans hst
 have hv':look vd (put vd (vdM (dec 25 1) c j mi da) σ)=some (vdM (dec 25 1) c j mi da):=af hv
 conv=>whnf
 refine rwE (aA hs') ?_
 refine bT (d:=d+3) hc hs' rfl ?_
 conv=>whnf
 refine rwE (aA hs') ?_
 refine bT (d:=d+3) hc hs' rfl ?_
 conv=>whnf
 refine rwE (aA hs') ?_
 refine bT (d:=d+3) hc hs' rfl ?_
 conv=>whnf
 refine rwE (aA hs') ?_
 refine dE (d:=d+3) hc hs' (v:=.lst [fF 5 0,.int 3]) rfl (λ hc=>aC hc rfl) ?_
 conv=>whnf
 refine rwE (aA hs') ?_
 refine cX (d:=d+4) hc hs' ht' (v:=.lst [.int 1,dec 5 1]) rfl rfl ?_
 conv=>whnf
 refine rwE (aA hs') ?_
 refine aC (d:=d+4) hc (v:=.int 1) rfl ?_
 conv=>whnf
 refine rwE (aA hs') ?_
 refine aC (d:=d+4) hc (v:=dec 5 1) rfl ?_
 conv=>whnf
 refine rwE (aA hs') ?_
 refine aC (d:=d+4) hc (v:=.int 3) rfl ?_
 refine jF (d:=d+1) hc hst' hv' (ps:=[(1,0),(5,1)]) (q:=(3,0)) (.cons (.int 1) (.cons (.dec 5 1) .nil)) (.int 3) (by simp) ?_
 refine rwE cA ?_
 exact h
theorem tS (hc:call=U tb (d+6)) (hs:look sh σ=some (shM tbl tr)) (ht:look tbl σ=some lE) (hst:look st σ=some (stV m fi sk vd)) (hv:look vd σ=some (vdM w c j mi da)) (n1:sh≠vd) (n2:tbl≠vd) (n3:st≠vd) (h:Q .none (put vd (vdM w c 2 (dec 35 1) (.tup [.tup [dec 25 1,dec 1 0],dec 2 0])) σ)):call 51 [] [.loc sh,.loc st,pD] σ Q X:=by
 refine Y ⟨[170,123,49],[],cG,false⟩ rfl rfl rfl hc λ call hc=>?_
 refine ⟨by decide,?_⟩
 conv=>whnf
 refine rwE (aA hs) ?_
 refine bT (d:=d+3) hc hs rfl ?_
 conv=>whnf
 refine rwE (aA hs) ?_
 refine bT (d:=d+3) hc hs rfl ?_
 conv=>whnf
 refine rwE (aA hs) ?_
 refine dE (d:=d+3) hc hs (v:=.int 2) rfl (λ hc=>aC hc rfl) ?_
 refine sd hc hst hv (.inr (.inr rfl)) ?_
 have hs':look sh (put vd (vdM w c 2 mi da) σ)=some (shM tbl tr):=(ac n1).trans hs
 have hst':look st (put vd (vdM w c 2 mi da) σ)=some (stV m fi sk vd):=(ac n3).trans hst
 have hv':look vd (put vd (vdM w c 2 mi da) σ)=some (vdM w c 2 mi da):=af hv
 conv=>whnf
 refine rwE (aA hs') ?_
 refine dE (d:=d+3) hc hs' (v:=dec 35 1) rfl (λ hc=>aC hc rfl) ?_
 refine se hc hst' hv' (.dec 35 1) (by decide) ?_
 refine rwE cA ?_
 have hs2:look sh (put vd (vdM w c 2 (dec 35 1) da) σ)=some (shM tbl tr):=(ac n1).trans hs
 have ht2:look tbl (put vd (vdM w c 2 (dec 35 1) da) σ)=some lE:=(ac n2).trans ht
 have hst2:look st (put vd (vdM w c 2 (dec 35 1) da) σ)=some (stV m fi sk vd):=(ac n3).trans hst
 have hv2:look vd (put vd (vdM w c 2 (dec 35 1) da) σ)=some (vdM w c 2 (dec 35 1) da):=af hv
 conv=>whnf
 refine rwE (aA hs2) ?_
 refine dE (d:=d+3) hc hs2 (v:=.lst [.lst [fF 6 0,.int 1],.int 2]) rfl (λ hc=>aC hc rfl) ?_
 conv=>whnf
 refine rwE (aA hs2) ?_
 refine aC (d:=d+4) hc (v:=.lst [fF 6 0,.int 1]) rfl ?_
 conv=>whnf
 refine rwE (aA hs2) ?_
 refine cX (d:=d+4) hc hs2 ht2 (v:=dec 25 1) rfl rfl ?_
 conv=>whnf
 refine rwE (aA hs2) ?_
 refine aC (d:=d+4) hc (v:=.int 1) rfl ?_
 conv=>whnf
 refine rwE (aA hs2) ?_
 refine aC (d:=d+4) hc (v:=.int 2) rfl ?_
 refine jF (d:=d+1) hc hst2 hv2 (ps:=[(25,1),(1,0)]) (q:=(2,0)) (.cons (.dec 25 1) (.cons (.int 1) .nil)) (.int 2) (by simp) ?_
 refine rwE cA ?_
 exact h
end
section
variable {call:ah} {d:Nat} {σ:St} {Q:PV} {X:PX} {ρ:Rho} {N:PN} {R:PV} {pt st vd sh tbl tr pl o mk cl:Nat} {m fi sk w mi da v path:V} {c j:Int}
theorem aS (hc:call=U tb (d+1)) {k:Nat} (hp:look pt σ=some (ptM sh st pl o mk cl (aa []))) (h:Q .none σ):call 54 [] [.loc pt,.str k] σ Q X:=by
 by_cases h1:[238,239,53,240,63,241,242].contains k=true
 ·exact wk0 0 [.b true,.m (ptM sh st pl o mk cl (aa [])),.m (ptM sh st pl o mk cl (aa []))] hc (And.intro (a3 hp hp (congrArg some h1) a0) h)
 ·have h1:=Bool.eq_false_iff.mpr h1
  by_cases h2:[307,252].contains k=true
  ·exact wk0 0 [.b false,.b false,.b true,.m (ptM sh st pl o mk cl (aa [])),.m (ptM sh st pl o mk cl (aa []))] hc (And.intro (a4 hp hp (congrArg some h2) rfl (a1 (congrArg some h1) a0)) h)
  ·have h2:=Bool.eq_false_iff.mpr h2
   exact wk0 0 [.b false,.b false,.b false,.b false,.m (ptM sh st pl o mk cl (aa [])),.m (ptM sh st pl o mk cl (aa []))] hc (And.intro (a6 hp hp rfl (congrArg some h2) rfl (congrArg some h1) a0) h)
theorem aJ (hc:call=U tb (d+1)) {k:Nat} (hk:([238,239,53,240,63,241,242].contains k||[307,252].contains k||[312,313,56,283,285,284,286,52,287,320].contains k)=true) {u:V} {l:List V} (hp:look pt σ=some (ptM sh st pl o mk cl (aa (u::l)))) (h:Q .none σ):call 54 [] [.loc pt,.str k] σ Q X:=by
 by_cases h1:[238,239,53,240,63,241,242].contains k=true
 ·exact wk0 0 [.b true,.m (ptM sh st pl o mk cl (aa (u::l))),.m (ptM sh st pl o mk cl (aa (u::l)))] hc (And.intro (a3 hp hp (congrArg some h1) a0) h)
 ·have h1:=Bool.eq_false_iff.mpr h1
  by_cases h2:[307,252].contains k=true
  ·exact wk0 0 [.b false,.b false,.b true,.m (ptM sh st pl o mk cl (aa (u::l))),.m (ptM sh st pl o mk cl (aa (u::l)))] hc (And.intro (a4 hp hp (congrArg some h2) rfl (a1 (congrArg some h1) a0)) h)
  ·have h2:=Bool.eq_false_iff.mpr h2
   rw [h1,h2,Bool.false_or,Bool.false_or] at hk
   exact wk0 0 [.b false,.b false,.b false,.b false,.b true,.m (ptM sh st pl o mk cl (aa (u::l))),.m (ptM sh st pl o mk cl (aa (u::l)))] hc (And.intro (a6 hp hp (congrArg some hk) rfl (congrArg some h2) rfl (a1 (congrArg some h1) a0)) h)
theorem ww (hc:call=U tb (d+2)) (hst:look st σ=some (stV m fi sk vd)) (hv:look vd σ=some (vdM w c j mi da)) (h:∀ a b,(∀ p∈σ,p.1≠a)->(∀ p∈(a,vdM w c j mi da)::σ,p.1≠b)->Q (.loc b) ((b,stV m fi sk a)::(a,vdM w c j mi da)::σ)):call 41 [] [.loc st] σ Q X:=by
 refine wk0 1 [.m (stV m fi sk vd),.m (stV m fi sk vd),.m (stV m fi sk vd),.m (stV m fi sk vd),.m (stV m fi sk vd),.m (vdM w c j mi da),.i 0,.i 0,.i 0,.i 0,.i 0] hc ?_
 exact And.intro (a6 hv hst hst hst hst hst a0) (And.intro Av λ a ha=>And.intro a0 λ b hb=>And.intro (a4 rfl rfl rfl rfl (a1 rfl a0)) (h a b ha hb))
theorem wx (hc:call=U tb (d+4)) (hp:look pt σ=some (ptM sh st pl o mk cl (aa []))) (hst:look st σ=some (stV m fi sk vd)) (hv:look vd σ=some (vdM w c j mi da)) {xs:List V} (hpl:look pl σ=some (.lst xs)) (hn:xs.length<1000)
 (h:∀ a b,(∀ p∈σ,p.1≠a)->(∀ p∈(a,vdM w c j mi da)::σ,p.1≠b)->Q .none (put pl (.lst (xs++[.loc b])) ((b,stV m fi sk a)::(a,vdM w c j mi da)::σ))):call 55 [] [.loc pt,.str 224,.lst []] σ Q X:=by
 refine wk0 3 [.f] hc (And.intro a0 λ Q1 hq1=>aS (d:=d+2) rfl hp (hq1 _ _ [.m (ptM sh st pl o mk cl (aa [])),.m (.lst xs),.m (ptM sh st pl o mk cl (aa [])),.f] (And.intro (a3 hp hpl hp a0) λ Q2 hq2=>ww rfl hst hv λ a b ha hb=>hq2 _ _ [.m (.lst xs)] (And.intro (a2 (Nat.lt_trans hn (by decide)) ?_ a0) (h a b ha hb)))))
 have e1:look pl ((a,vdM w c j mi da)::σ)=some (.lst xs):=(aD (aw hpl ha)).trans hpl
 exact (aD (aw e1 hb)).trans e1
theorem wy (hc:call=U tb (d+3)) (hp:look pt σ=some (ptM sh st pl o mk cl (aa []))) {xs:List V} {s':Nat} (hpl:look pl σ=some (.lst (xs++[.loc s']))) (n1:pt≠pl) (h:Q .none (put pt (ptM sh s' pl o mk cl (aa [])) (put pl (.lst xs) σ))):call 55 [] [.loc pt,.str 226,.lst []] σ Q X:=by
 have hp':look pt (put pl (.lst xs) σ)=some (ptM sh st pl o mk cl (aa [])):=(ac n1).trans hp
 have hl:¬ (((xs++[V.loc s']).length:Nat):Int)<=0:=by (refine rwE List.length_append ?_;refine rwE List.length_singleton ?_);lia
 refine wk0 2 [.f] hc (And.intro a0 λ Q1 hq1=>aS (d:=d+1) rfl hp (hq1 _ _ [.m (ptM sh st pl o mk cl (aa [])),.m (.lst (xs++[.loc s'])),.m (ptM sh st pl o mk cl (aa [])),.b false,.m (ptM sh st pl o mk cl (aa [])),.m (.lst (xs++[.loc s'])),.s (.loc s'),.m (.lst (xs++[.loc s'])),.m (ptM sh st pl o mk cl (aa []))] (And.intro (a8 ?_ List.getLast?_concat hpl hpl hp (congrArg some (decide_eq_false hl)) hp hpl (a1 hp a0)) ?_)))
 ·refine rwE List.dropLast_concat ?_;exact hp'
 ·refine rwE List.dropLast_concat ?_;exact h
theorem tT (hc:call=U tb (d+8)) {a b c' e f g a' b' c'' e' f' g':Int} (hp:look pt σ=some (ptM sh st pl o mk cl (aa []))) (hst:look st σ=some (stV (mat a' b' c'' e' f' g') fi sk vd))
 (ha:sm 90 a) (hb:sm 90 b) (hcc:sm 90 c') (he:sm 90 e) (hf:sm 90 f) (hg:sm 90 g) (ha':sm 90 a') (hb':sm 90 b') (hcc':sm 90 c'') (he':sm 90 e') (hf':sm 90 f') (hg':sm 90 g')
 (h:Q .none (put st (stV (mat (a*a'+b*c'') (a*b'+b*e') (c'*a'+e*c'') (c'*b'+e*e') (a'*f+c''*g+f') (b'*f+e'*g+g')) fi sk vd) σ)) :
 call 55 [] [.loc pt,.str 305,.lst [.int a,.int b,.int c',.int e,.int f,.int g]] σ Q X:=by
 refine wk 4 [.f] hc (And.intro a0 λ Q1 hq1=>aS (d:=d+6) rfl hp (hq1 _ _ [.g,.g,.f] (And.intro a0 λ Q2 hq2=>aO (d:=d+2) rfl (n:=6) rfl (.cons (.int a) (.cons (.int b) (.cons (.int c') (.cons (.int e) (.cons (.int f) (.cons (.int g) .nil)))))) (hq2 _ _ [.m (ptM sh st pl o mk cl (aa [])),.m (stV (mat a' b' c'' e' f' g') fi sk vd),.f] (And.intro (a2 hst hp a0) λ Q3 hq3=>o7 (d:=d+1) rfl ha hb hcc he hf hg ha' hb' hcc' he' hf' hg' (hq3 _ _ [.m (ptM sh st pl o mk cl (aa [])),.m (stV (mat a' b' c'' e' f' g') fi sk vd)] (And.intro (a2 hst hp a0) h)))))))
theorem ij {k:Nat} (hk:k=143\/k=322\/k=144\/k=323\/k=145\/k=324\/k=148\/k=325\/k=303\/k=326\/k=327\/k=328) {vs:V} (hp:look pt σ=some (ptM sh st pl o mk cl (aa [])))
 (ho:∀ Q':PV,(∀ v σ'',Q .none σ''->Q' v σ'')->U tb (d+7) 48 [] [.loc st,.str k,vs] σ Q' X):U tb (d+8) 55 [] [.loc pt,.str k,vs] σ Q X:=by
 rcases hk with rfl | rfl | rfl | rfl | rfl | rfl | rfl | rfl | rfl | rfl | rfl | rfl
 all_goals exact wk 4 [.f] rfl (And.intro a0 λ Q1 hq1=>aS (d:=d+6) rfl hp (hq1 _ _ [.m (ptM sh st pl o mk cl (aa [])),.f] (And.intro (a1 hp a0) λ Q2 hq2=>ho Q2 λ v s h=>hq2 _ _ [] (And.intro a0 h))))
theorem cZ {k:Nat} (hk:k=163\/k=159\/k=161\/k=169\/k=54) {vs:V} (hp:look pt σ=some (ptM sh st pl o mk cl (aa [])))
 (ho:∀ Q':PV,(∀ v σ'',Q .none σ''->Q' v σ'')->U tb (d+5) 50 [] [.loc st,.str k,vs] σ Q' X):U tb (d+7) 55 [] [.loc pt,.str k,vs] σ Q X:=by
 rcases hk with rfl | rfl | rfl | rfl | rfl
 all_goals exact wk 3 [.f] rfl (And.intro a0 λ Q1 hq1=>aS (d:=d+5) rfl hp (hq1 _ _ [.m (ptM sh st pl o mk cl (aa [])),.f] (And.intro (a1 hp a0) λ Q2 hq2=>ho Q2 λ v s h=>hq2 _ _ [] (And.intro a0 h))))
theorem jG {k:Nat} {u v:V} (hp:look pt σ=some (ptM sh st pl o mk cl (aa []))) (hs:look sh σ=some (shM tbl tr)) (hk:aY k [(292,fF 3 0),(284,kn),(293,fF 4 0)]=some u) {kvs:List (Nat×V)} (hv:v=.dct kvs)
 (hf:∀ {Q:PV} {X:PX},Q v σ->U tb (d+6) 16 [] [.loc sh,u] σ Q X) (ho:∀ Q':PV,(∀ v σ'',Q .none σ''->Q' v σ'')->U tb (d+6) 51 [] [.loc sh,.loc st,v] σ Q' X):U tb (d+8) 55 [] [.loc pt,.str 230,.lst [bL k]] σ Q X:=by
 subst hv
 refine wk 4 [.f] rfl (And.intro a0 λ Q1 hq1=>aS (d:=d+6) rfl hp (hq1 _ _ [.m (ptM sh st pl o mk cl (aa [])),.m (shM tbl tr),.f] (And.intro (a2 hs hp a0) λ Q2 hq2=>jE (d:=d+5) rfl (hq2 _ _ [.m (ptM sh st pl o mk cl (aa [])),.m (shM tbl tr),.m (ptM sh st pl o mk cl (aa [])),.f] (And.intro (a3 hp hs hp a0) λ Q3 hq3=>dE (d:=d+3) rfl hs (v:=nR) rfl (λ hc=>aC hc rfl) (hq3 _ _ [.f] (And.intro a0 λ Q4 hq4=>?_)))))))
 show U tb (d+6) 16 [] [V.loc sh,(aY k [(292,fF 3 0),(284,kn),(293,fF 4 0)]).getD V.none] σ _ _
 refine rwE hk ?_
 exact hf (hq4 _ _ [.m (ptM sh st pl o mk cl (aa [])),.m (ptM sh st pl o mk cl (aa [])),.f] (And.intro (a2 hp hp a0) λ Q5 hq5=>ho Q5 λ v s h=>hq5 _ _ [] (And.intro a0 h)))
end
section
variable {call:ah} {d:Nat} {σ:St} {Q:PV} {X:PX} {ρ:Rho} {N:PN} {R:PV} {pt st vd sh tbl tr pl o mk cl:Nat} {m fi sk w mi da v path:V} {a b c e f g x y t u:Int}
theorem g5 {a:Nat} (hc:call=U tb (d+1)) (h:Q .none ((a,.ob 8 [(65,.tup [])])::σ)):call 24 [] [.loc a] ((a,.ob 8 [])::σ) Q X:=by
 refine Y ⟨[2,65],[.tup []],cE,false⟩ rfl rfl rfl hc λ call hc=>?_
 conv=>whnf
 refine rwE (ae (by rfl)) ?_
 exact h
theorem wz (hc:call=U tb (d+1)) (h:Q (.tup []) σ):call 28 [] [aa []] σ Q X:=by
 refine Y ⟨[68],[],bF,false⟩ rfl rfl rfl hc λ call hc=>?_
 exact h
theorem wA (hc:call=U tb (d+1)) {p:V} (h:Q (.tup []) σ):call 28 [] [aa [.tup [p]]] σ Q X:=by
 refine Y ⟨[68],[],bF,false⟩ rfl rfl rfl hc λ call hc=>?_
 exact h
noncomputable abbrev pX (a c f x y:Int):Int:=a*x+c*y+f
noncomputable abbrev tpt (a b c e f g x y:Int):V:=pnt (a*x+c*y+f) (b*x+e*y+g)
theorem gE (hc:call=U tb (d+7)) (ha:sm 90 a) (hb:sm 90 b) (hcc:sm 90 c) (he:sm 90 e) (hf:sm 90 f) (hg:sm 90 g) {x0 y0 x1 y1 x2 y2 x3 y3:Int} (h0:sm 90 x0/\sm 90 y0) (h1:sm 90 x1/\sm 90 y1) (h2:sm 90 x2/\sm 90 y2) (h3:sm 90 x3/\sm 90 y3)
 (h:Q (aa (box (tpt a b c e f g x0 y0) (tpt a b c e f g x1 y1) (tpt a b c e f g x2 y2) (tpt a b c e f g x3 y3))) σ):call 35 [] [aa (box (pnt x0 y0) (pnt x1 y1) (pnt x2 y2) (pnt x3 y3)),mat a b c e f g] σ Q X:=by
 refine Y ⟨[68,95],[],eo,false⟩ rfl rfl rfl hc λ call hc=>?_
 refine gY (d:=d+4) hc (q0:=tpt a b c e f g x0 y0) (q1:=tpt a b c e f g x1 y1) (q2:=tpt a b c e f g x2 y2) (q3:=tpt a b c e f g x3 y3) (λ hpq=>?_) h
 intro call σ Q X hc h
 rcases hpq with ⟨rfl,rfl⟩ | ⟨rfl,rfl⟩ | ⟨rfl,rfl⟩ | ⟨rfl,rfl⟩
 ·exact fu hc ha hb hcc he hf hg h0.1 h0.2 h
 ·exact fu hc ha hb hcc he hf hg h1.1 h1.2 h
 ·exact fu hc ha hb hcc he hf hg h2.1 h2.2 h
 ·exact fu hc ha hb hcc he hf hg h3.1 h3.2 h
noncomputable abbrev sf (a b c e f g x y w t:Int):List V:=box (tpt a b c e f g x y) (tpt a b c e f g (x+w) y) (tpt a b c e f g (x+w) (y+t)) (tpt a b c e f g x (y+t))
theorem uY (hc:call=U tb (d+9)) {w:Int} {l:List V} (hp:look pt σ=some (ptM sh st pl o mk cl (aa l))) (hst:look st σ=some (stV (mat a b c e f g) fi sk vd)) (ha:sm 90 a) (hb:sm 90 b) (hcc:sm 90 c) (he:sm 90 e) (hf:sm 90 f) (hg:sm 90 g) (hx:sm 80 x) (hy:sm 80 y) (hw:sm 80 w) (ht:sm 80 t)
 (hd:∀ {call:ah} {Q:PV},call=U tb (d+8)->Q (.tup []) σ->call 28 [] [aa l] σ Q X) (h:Q .none (put pt (ptM sh st pl o mk cl (aa (sf a b c e f g x y w t))) σ)):call 61 [] [.loc pt,.str 242,.lst [.int x,.int y,.int w,.int t]] σ Q X:=by
 refine Y ⟨[183,109,99],[],fL,false⟩ rfl rfl rfl hc λ call hc=>?_
 conv=>whnf
 refine rwE (ak hp) ?_
 refine ⟨by decide,?_⟩
 refine aO (d:=d+5) hc (n:=4) rfl (.cons (.int x) (.cons (.int y) (.cons (.int w) (.cons (.int t) .nil)))) ?_
 conv=>whnf
 refine rwE (ak hp) ?_
 conv=>whnf
 refine rwE (ak hst) ?_
 intro n hn
 refine g5 (d:=d+7) hc ?_
 conv=>whnf
 refine rwE am ?_
 conv=>whnf
 refine rwE aG ?_
 refine jn (d:=d+3) hc (hx.mono (by decide)) (hy.mono (by decide)) (hw.mono (by decide)) (ht.mono (by decide)) ?_
 conv=>whnf
 refine rwE (ak hp) ?_
 refine hd hc ?_
 refine gE (d:=d+1) hc ha hb hcc he hf hg ⟨hx.mono (by decide),hy.mono (by decide)⟩ ⟨(hx.add hw).mono (by decide),hy.mono (by decide)⟩ ⟨(hx.add hw).mono (by decide),(hy.add ht).mono (by decide)⟩ ⟨hx.mono (by decide),(hy.add ht).mono (by decide)⟩ ?_
 intro n hn
 refine fT (d:=d+7) hc ?_
 conv=>whnf
 refine rwE am ?_
 conv=>whnf
 refine rwE aG ?_
 conv=>whnf
 refine rwE (d8 hp (by rfl)) ?_
 exact h
theorem Aw (hc:call=U tb (d+9)) (hp:look pt σ=some (ptM sh st pl o mk cl (aa []))) (hst:look st σ=some (stV (mat a b c e f g) fi sk vd)) (ha:sm 90 a) (hb:sm 90 b) (hcc:sm 90 c) (he:sm 90 e) (hf:sm 90 f) (hg:sm 90 g)
 (h:∀ p,Q .none (put pt (ptM sh st pl o mk cl (aa [.tup [.tup [.str 73,p]]])) σ)):call 61 [] [.loc pt,.str 238,.lst [.int 7,.int 7]] σ Q X:=by
 refine Y ⟨[183,109,99],[],fL,false⟩ rfl rfl rfl hc λ call hc=>?_
 conv=>whnf
 refine rwE (ak hp) ?_
 refine ⟨by decide,?_⟩
 refine aO (d:=d+5) hc (n:=2) rfl (.cons (.int 7) (.cons (.int 7) .nil)) ?_
 conv=>whnf
 refine rwE (ak hp) ?_
 conv=>whnf
 refine rwE (ak hst) ?_
 refine ⟨by decide,?_⟩
 refine dU (d:=d+4) hc ha hb hcc he hf hg (show sm 90 7 by delta sm;decide) (show sm 90 7 by delta sm;decide) ?_
 conv=>whnf
 refine rwE (ak hp) ?_
 refine nJ (d:=d+5) hc ?_
 conv=>whnf
 refine rwE (d8 hp (by rfl)) ?_
 exact h _
theorem wB (hc:call=U tb (d+10)) (hp:look pt σ=some (ptM sh st pl o mk cl (aa []))) (hst:look st σ=some (stV (mat a b c e f g) fi sk vd)) (ha:sm 90 a) (hb:sm 90 b) (hcc:sm 90 c) (he:sm 90 e) (hf:sm 90 f) (hg:sm 90 g)
 (h:∀ p,Q .none (put pt (ptM sh st pl o mk cl (aa [.tup [.tup [.str 73,p]]])) σ)):call 55 [] [.loc pt,.str 238,.lst [.int 7,.int 7]] σ Q X:=by
 refine Y ⟨[183,109,99],[],d0,false⟩ rfl rfl rfl hc λ call hc=>?_
 refine aS (d:=d+8) hc hp ?_
 exact Aw hc hp hst ha hb hcc he hf hg h
theorem qS (hc:call=U tb (d+10)) {w:Int} (hp:look pt σ=some (ptM sh st pl o mk cl (aa []))) (hst:look st σ=some (stV (mat a b c e f g) fi sk vd)) (ha:sm 90 a) (hb:sm 90 b) (hcc:sm 90 c) (he:sm 90 e) (hf:sm 90 f) (hg:sm 90 g) (hx:sm 80 x) (hy:sm 80 y) (hw:sm 80 w) (ht:sm 80 t)
 (h:Q .none (put pt (ptM sh st pl o mk cl (aa (sf a b c e f g x y w t))) σ)):call 55 [] [.loc pt,.str 242,.lst [.int x,.int y,.int w,.int t]] σ Q X:=by
 refine Y ⟨[183,109,99],[],d0,false⟩ rfl rfl rfl hc λ call hc=>?_
 refine aS (d:=d+8) hc hp ?_
 exact uY hc hp hst ha hb hcc he hf hg hx hy hw ht (λ hc h=>wz hc h) h
theorem qT (hc:call=U tb (d+10)) {w:Int} {p:V} (hp:look pt σ=some (ptM sh st pl o mk cl (aa [.tup [.tup [.str 73,p]]]))) (hst:look st σ=some (stV (mat a b c e f g) fi sk vd)) (ha:sm 90 a) (hb:sm 90 b) (hcc:sm 90 c) (he:sm 90 e) (hf:sm 90 f) (hg:sm 90 g) (hx:sm 80 x) (hy:sm 80 y) (hw:sm 80 w) (ht:sm 80 t)
 (h:Q .none (put pt (ptM sh st pl o mk cl (aa (sf a b c e f g x y w t))) σ)):call 55 [] [.loc pt,.str 242,.lst [.int x,.int y,.int w,.int t]] σ Q X:=by
 refine Y ⟨[183,109,99],[],d0,false⟩ rfl rfl rfl hc λ call hc=>?_
 refine aJ (d:=d+8) hc rfl hp ?_
 exact uY hc hp hst ha hb hcc he hf hg hx hy hw ht (λ hc h=>wA hc h) h
end
section
variable {call:ah} {d:Nat} {σ:St} {Q:PV} {X:PX} {ρ:Rho} {N:PN} {R:PV} {pt st vd sh tbl tr pl o mk cl:Nat} {m fi sk w mi da v path p0 p1 p2 p3:V} {c j:Int} {ms cs:List V}
theorem lG (hc:call=U tb (d+1)) (hp:look pt σ=some (ptM sh st pl o mk cl path)) (hst:look st σ=some (stV m fi sk vd)) (hm:look mk σ=some (.lst ms)) (hl:look cl σ=some (.lst cs)) (n1:mk≠cl) (n2:pt≠mk) (n3:st≠mk) (l1:ms.length<1000) (l2:cs.length<1000)
 (h:Q .none (put cl (.lst (cs++[.tup []])) (put mk (.lst (ms++[v])) σ))):call 53 [] [.loc pt,v] σ Q X:=by
 have hp':look pt (put mk (.lst (ms++[v])) σ)=some (ptM sh st pl o mk cl path):=(ac n2).trans hp
 have hl':look cl (put mk (.lst (ms++[v])) σ)=some (.lst cs):=(ac n1.symm).trans hl
 refine wk0 0 [.m (ptM sh st pl o mk cl path),.m (.lst ms),.m (.lst ms),.m (ptM sh st pl o mk cl path),.m (.lst cs),.m (ptM sh st pl o mk cl path),.m (stV m fi sk vd),.m (.lst cs)] hc ?_
 refine And.intro (a8 (Nat.lt_trans l2 (by decide)) hl' ((ac n3).trans hst) hp' hl' hp' (Nat.lt_trans l1 (by decide)) hm (a2 hm hp a0)) h
noncomputable def kq (k:Nat) (l:List V) (fi sk w:V):List V :=
 (if [56,283,284,52].contains k then [.tup [.str 97,.str 254,aa l,fi]] else if [285,286,287].contains k then [.tup [.str 97,.str 253,aa l,fi]] else []) ++
 (if [312,313,284,286,52,287].contains k then [.tup [.str 98,aa l,sk,w]] else [])
structure jI (pt st sh pl o mk cl:Nat) (ms cs new:List V) (σ σ':St):Prop where
 p:look pt σ'=some (ptM sh st pl o mk cl (aa []))
 m:look mk σ'=some (.lst (ms++new))
 c:look cl σ'=some (.lst (cs++new.map λ u'=>.tup []))
 r:∀ a n,a≠pt->a≠mk->a≠cl->look a σ=some n->look a σ'=some n
structure PD (pt st vd mk cl:Nat):Prop where
 n1:mk≠cl
 n2:pt≠mk
 n3:st≠mk
 n4:pt≠cl
 n5:st≠cl
 n6:vd≠mk
 n7:vd≠cl
structure PS (pt st vd sh pl o mk cl:Nat) (m fi sk w mi da path:V) (c j:Int) (ms cs:List V) (σ:St):Prop where
 hp:look pt σ=some (ptM sh st pl o mk cl path)
 hst:look st σ=some (stV m fi sk vd)
 hv:look vd σ=some (vdM w c j mi da)
 hm:look mk σ=some (.lst ms)
 hl:look cl σ=some (.lst cs)
theorem PS.step (D:PD pt st vd mk cl) (P:PS pt st vd sh pl o mk cl m fi sk w mi da path c j ms cs σ):PS pt st vd sh pl o mk cl m fi sk w mi da path c j (ms++[v]) (cs++[.tup []]) (put cl (.lst (cs++[.tup []])) (put mk (.lst (ms++[v])) σ)) :=
 ⟨(ac D.n4).trans ((ac D.n2).trans P.hp),(ac D.n5).trans ((ac D.n3).trans P.hst),(ac D.n7).trans ((ac D.n6).trans P.hv),(ac D.n1).trans (af P.hm),af ((ac D.n1.symm).trans P.hl)⟩
noncomputable abbrev Rl (mk cl:Nat) (σ σ':St):Prop:=∀ a n,a≠mk->a≠cl->look a σ=some n->look a σ'=some n
theorem Rl.step {v u:V}:Rl mk cl σ (put cl (.lst (cs++[u])) (put mk (.lst (ms++[v])) σ)):=λ u' u' e1 e2 e=>(ac e2).trans ((ac e1).trans e)
noncomputable abbrev flL:List (Nat×V):=[(56,.str 254),(283,.str 254),(284,.str 254),(52,.str 254),(285,.str 253),(286,.str 253),(287,.str 253)]
noncomputable abbrev skL:List Nat:=[312,313,284,286,52,287]
noncomputable abbrev m9:List S:=[.if_ (.cmp (.v 109) .in_ (.g 257)) [
 .ex (.call (.g 215) [.v 183,.tup [.cS 97,.sub (.g 257) (.v 109),.v 68,.at_ (.v 123) 97]])] []]
noncomputable abbrev fy:List S:=[.if_ (.cmp (.v 109) .in_ (.g 258)) [
 .ex (.call (.g 215) [.v 183,.tup [.cS 98,.v 68,.at_ (.v 123) 98,.sub (.at_ (.v 123) 99) (.cS 83)]])] []]
noncomputable abbrev sg:List S:=[.if_ (.cmp (.at_ (.at_ (.v 183) 68) 65) .eq (.tup [])) [
 .raise 12 (.bin .add (.v 109) (.cS 255))] [],
 .asg (.x 68) (.ite (.cmp (.v 109) .in_ (.g 256)) (.call (.g 89) [.at_ (.v 183) 68]) (.at_ (.v 183) 68)),
 .asg (.x 123) (.at_ (.v 183) 123)]
noncomputable abbrev pE:List S:=[.if_ (.cmp (.at_ (.v 183) 179) .ne (.cS 117)) [
 .ex (.call (.g 259) [.v 183,.at_ (.v 183) 179,.v 68])] [],
 .asg (.at_ (.v 183) 68) (.call (.g 71) []),
 .asg (.at_ (.v 183) 179) (.cS 117)]
theorem tU {k:Nat} {u:V} {F:List V} (D:PD pt st vd mk cl) (P:PS pt st vd sh pl o mk cl m fi sk w mi da path c j ms cs σ) (h1:ρ 109=some (.str k)) (h2:ρ 183=some (.loc pt)) (h3:ρ 68=some u) (h4:ρ 123=some (.loc st)) (l1:ms.length<900) (l2:cs.length<900)
 (hF:(aY k flL=none/\F=[])\/∃ z,aY k flL=some (.str z)/\F=[.tup [.str 97,.str z,u,fi]])
 (h:∀ σ',PS pt st vd sh pl o mk cl m fi sk w mi da path c j (ms++F) (cs++F.map λ u'=>.tup []) σ'->Rl mk cl σ σ'->N ρ σ'):execs tb (U tb (d+1)) m9 ρ σ N R X:=by
 rcases hF with ⟨e,rfl⟩ | ⟨z,e,rfl⟩
 ·refine ws0 1 [.v 109 (.str k),.b false] rfl (And.intro (a2 (congrArg (λ x=>some (Option.isSome x)) e) h1 a0) (h σ ?_ λ u' u' u' u' e=>e))
  (refine rwE (List.append_nil ..) ?_;refine rwE List.map_nil ?_;refine rwE (List.append_nil ..) ?_);exact P
 ·refine ws0 1 [.v 109 (.str k),.b true,.v 183 (.loc pt),.v 109 (.str k),.s (.str z),.v 68 u,.v 123 (.loc st),.m (stV m fi sk vd),.f] rfl ?_
  refine And.intro (a8 P.hst h4 h3 e h1 h2 (congrArg (λ x=>some (Option.isSome x)) e) h1 a0) λ Q hq=>lG rfl P.hp P.hst P.hm P.hl D.n1 D.n2 D.n3 (Nat.lt_trans l1 (by decide)) (Nat.lt_trans l2 (by decide)) (hq _ _ [] (And.intro a0 (h _ (P.step D) Rl.step)))
theorem pb {k:Nat} {u:V} {F:List V} (D:PD pt st vd mk cl) (P:PS pt st vd sh pl o mk cl m fi sk w mi da path c j ms cs σ) (h1:ρ 109=some (.str k)) (h2:ρ 183=some (.loc pt)) (h3:ρ 68=some u) (h4:ρ 123=some (.loc st)) (l1:ms.length<910) (l2:cs.length<910)
 (hF:(skL.contains k=false/\F=[])\/(skL.contains k=true/\F=[.tup [.str 98,u,sk,w]]))
 (h:∀ σ',PS pt st vd sh pl o mk cl m fi sk w mi da path c j (ms++F) (cs++F.map λ u'=>.tup []) σ'->Rl mk cl σ σ'->N ρ σ'):execs tb (U tb (d+1)) fy ρ σ N R X:=by
 rcases hF with ⟨e,rfl⟩ | ⟨e,rfl⟩
 ·refine ws0 1 [.v 109 (.str k),.b false] rfl (And.intro (a2 (congrArg some e) h1 a0) (h σ ?_ λ u' u' u' u' e=>e))
  (refine rwE (List.append_nil ..) ?_;refine rwE List.map_nil ?_;refine rwE (List.append_nil ..) ?_);exact P
 ·refine ws0 1 [.v 109 (.str k),.b true,.v 183 (.loc pt),.v 68 u,.v 123 (.loc st),.m (stV m fi sk vd),.v 123 (.loc st),.m (stV m fi sk vd),.m (vdM w c j mi da),.f] rfl ?_
  refine And.intro (a8 P.hv P.hst h4 P.hst h4 h3 h2 (congrArg some e) (a1 h1 a0)) λ Q hq=>lG rfl P.hp P.hst P.hm P.hl D.n1 D.n2 D.n3 (Nat.lt_trans l1 (by decide)) (Nat.lt_trans l2 (by decide)) (hq _ _ [] (And.intro a0 (h _ (P.step D) Rl.step)))
theorem wC (h2:ρ 183=some (.loc pt)) (hp:look pt σ=some (ptM sh st pl o mk cl path)) (h:N ρ (put pt (ptM sh st pl o mk cl (aa [])) σ)):execs tb (U tb (d+4)) pE ρ σ N R X:=by
 refine ws (d:=d) 1 [.v 183 (.loc pt),.m (ptM sh st pl o mk cl path),.v 183 (.loc pt),.m (ptM sh st pl o mk cl path),.v 183 (.loc pt),.m (ptM sh st pl o mk cl (aa []))] rfl ?_
 refine And.intro (a6 (af hp) h2 hp h2 hp h2 a0) ?_
 show N ρ (put pt (ptM sh st pl o mk cl (aa [])) (put pt _ σ))
 refine rwE cA ?_
 exact h
theorem tV {k:Nat} {b:Bool} (hk:[313,52,287].contains k=b) (h1:ρ 109=some (.str k)) (h2:ρ 183=some (.loc pt)) (hp:look pt σ=some (ptM sh st pl o mk cl (aa (box p0 p1 p2 p3)))) (h:N (upd 123 (.loc st) (upd 68 (aa (box p0 p1 p2 p3)) ρ)) σ):execs tb (U tb (d+5)) sg ρ σ N R X:=by
 induction b using Bool.casesOn with
 | true =>
  refine ws (d:=d) 2 [.v 183 (.loc pt),.m (ptM sh st pl o mk cl (aa (box p0 p1 p2 p3))),.v 109 (.str k),.b true,.v 183 (.loc pt),.m (ptM sh st pl o mk cl (aa (box p0 p1 p2 p3))),.f] rfl ?_
  refine And.intro (a6 hp h2 (congrArg some hk) h1 hp h2 a0) λ Q hq=>wc (d:=d+3) rfl (hq _ _ [.v 183 (.loc pt),.m (ptM sh st pl o mk cl (aa (box p0 p1 p2 p3)))] (And.intro (a2 hp h2 a0) h))
 | false =>
  refine ws (d:=d) 2 [.v 183 (.loc pt),.m (ptM sh st pl o mk cl (aa (box p0 p1 p2 p3))),.v 109 (.str k),.b false,.v 183 (.loc pt),.m (ptM sh st pl o mk cl (aa (box p0 p1 p2 p3))),.v 183 (.loc pt),.m (ptM sh st pl o mk cl (aa (box p0 p1 p2 p3)))] rfl ?_
  refine And.intro (a8 hp h2 hp h2 (congrArg some hk) h1 hp h2 a0) h
theorem bk {k:Nat} {F G:List V} (D:PD pt st vd mk cl) (P:PS pt st vd sh pl o mk cl m fi sk w mi da (aa (box p0 p1 p2 p3)) c j ms cs σ) (l1:ms.length<900) (l2:cs.length<900)
 (hF:(aY k flL=none/\F=[])\/∃ z,aY k flL=some (.str z)/\F=[.tup [.str 97,.str z,aa (box p0 p1 p2 p3),fi]]) (hG:(skL.contains k=false/\G=[])\/(skL.contains k=true/\G=[.tup [.str 98,aa (box p0 p1 p2 p3),sk,w]]))
 (h:∀ σ',jI pt st sh pl o mk cl ms cs (F++G) σ σ'->Q .none σ'):U tb (d+6) 63 [] [.loc pt,.str k] σ Q X:=by
 have lF:F.length<=1:=by
  rcases hF with ⟨_,rfl⟩ | ⟨_,_,rfl⟩
  ·exact Nat.zero_le 1
  ·exact Nat.le_refl 1
 refine Y ⟨[183,109],[],gL,false⟩ rfl rfl rfl rfl λ call hc=>?_
 subst hc
 refine (bM (a:=sg) (b:=m9++(fy++pE))).mpr (tV rfl rfl rfl P.hp ?_)
 refine (bM (a:=m9) (b:=fy++pE)).mpr (tU (d:=d+4) D P rfl rfl rfl rfl l1 l2 hF λ σ1 P1 R1=>?_)
 refine (bM (a:=fy) (b:=pE)).mpr (pb (d:=d+4) D P1 rfl rfl rfl rfl (by refine rwE List.length_append ?_;lia) (by (refine rwE List.length_append ?_;refine rwE (List.length_map ..) ?_);lia) hG λ σ2 P2 R2=>?_)
 refine wC (d:=d+1) rfl P2.hp (h _ ⟨af P2.hp,(ac D.n2.symm).trans ?_,(ac D.n4.symm).trans ?_,λ a n e1 e2 e3 e=>(ac e1).trans (R2 a n e2 e3 (R1 a n e2 e3 e))⟩)
 ·refine rwB (List.append_assoc ..) ?_;exact P2.hm
 ·(refine rwE List.map_append ?_;refine rwB (List.append_assoc ..) ?_);exact P2.hl
end
structure aX (pt sh st vd pl o mk cl tbl tr:Nat) (m fi sk w mi da:V) (c j:Int) (σ:St):Prop where
 p:look pt σ=some (ptM sh st pl o mk cl (aa []))
 st:look st σ=some (stV m fi sk vd)
 v:look vd σ=some (vdM w c j mi da)
 s:look sh σ=some (shM tbl tr)
 t:look tbl σ=some lE
theorem dR:([238,239,53,240,63,241,242]:List Nat).Nodup:=by decide
theorem dA:([143,144,145]:List Nat).Nodup:=by decide
theorem cL:([102,103,104]:List Nat).Nodup:=by decide
section
variable {call:ah} {d:Nat} {σ:St} {Q:PV} {X:PX} {ρ:Rho} {N:PN} {R:PV} {pt st vd sh tbl tr pl o mk cl:Nat} {m fi sk w mi da v path:V} {c j:Int}
theorem yH (S:aX pt sh st vd pl o mk cl tbl tr m fi sk w mi da c j σ) (hpl:look pl σ=some (.lst [])) (hX:∀ σ',az σ σ'->X σ'):U tb (d+10) 55 [] [.loc pt,.str 226,.lst []] σ Q X:=by
 refine wk 6 [.m (ptM sh st pl o mk cl (aa [])),.m (ptM sh st pl o mk cl (aa [])),.m (ptM sh st pl o mk cl (aa [])),.m (.lst []),.m (ptM sh st pl o mk cl (aa []))] rfl ?_
 refine And.intro ?_ (hX _ az.refl)
 repeat (first | exact a0 | refine a1 S.p ?_ | refine a1 S.st ?_ | refine a1 S.s ?_ | refine a1 hpl ?_ | refine a1 dR ?_ | refine a1 dA ?_ | refine a1 cL ?_ | refine a1 (by decide) ?_)
theorem wD (S:aX pt sh st vd pl o mk cl tbl tr m fi sk w mi da c j σ) (hX:∀ σ',az σ σ'->X σ'):U tb (d+10) 55 [] [.loc pt,.str 163,.lst [dec (-1) 1]] σ Q X:=by
 refine wk 6 [.m (ptM sh st pl o mk cl (aa [])),.m (ptM sh st pl o mk cl (aa [])),.m (ptM sh st pl o mk cl (aa []))] rfl ?_
 refine And.intro ?_ (hX _ az.refl)
 repeat (first | exact a0 | refine a1 S.p ?_ | refine a1 S.st ?_ | refine a1 S.s ?_ | refine a1 dR ?_ | refine a1 dA ?_ | refine a1 cL ?_ | refine a1 (by decide) ?_)
theorem wE (S:aX pt sh st vd pl o mk cl tbl tr m fi sk w mi da c j σ) (hX:∀ σ',az σ σ'->X σ'):U tb (d+10) 55 [] [.loc pt,.str 163,.lst [.bool true]] σ Q X:=by
 refine wk 6 [.m (ptM sh st pl o mk cl (aa [])),.m (ptM sh st pl o mk cl (aa [])),.m (ptM sh st pl o mk cl (aa []))] rfl ?_
 refine And.intro ?_ (hX _ az.refl)
 repeat (first | exact a0 | refine a1 S.p ?_ | refine a1 S.st ?_ | refine a1 S.s ?_ | refine a1 dR ?_ | refine a1 dA ?_ | refine a1 cL ?_ | refine a1 (by decide) ?_)
theorem yI (S:aX pt sh st vd pl o mk cl tbl tr m fi sk w mi da c j σ) (hX:∀ σ',az σ σ'->X σ'):U tb (d+10) 55 [] [.loc pt,.str 159,.lst [.int 3]] σ Q X:=by
 refine wk 6 [.m (ptM sh st pl o mk cl (aa [])),.m (ptM sh st pl o mk cl (aa [])),.m (ptM sh st pl o mk cl (aa []))] rfl ?_
 refine And.intro ?_ (hX _ az.refl)
 repeat (first | exact a0 | refine a1 S.p ?_ | refine a1 S.st ?_ | refine a1 S.s ?_ | refine a1 dR ?_ | refine a1 dA ?_ | refine a1 cL ?_ | refine a1 (by decide) ?_)
theorem yJ (S:aX pt sh st vd pl o mk cl tbl tr m fi sk w mi da c j σ) (hX:∀ σ',az σ σ'->X σ'):U tb (d+10) 55 [] [.loc pt,.str 161,.lst [dec 5 1]] σ Q X:=by
 refine wk 6 [.m (ptM sh st pl o mk cl (aa [])),.m (ptM sh st pl o mk cl (aa [])),.m (ptM sh st pl o mk cl (aa []))] rfl ?_
 refine And.intro ?_ (hX _ az.refl)
 repeat (first | exact a0 | refine a1 S.p ?_ | refine a1 S.st ?_ | refine a1 S.s ?_ | refine a1 dR ?_ | refine a1 dA ?_ | refine a1 cL ?_ | refine a1 (by decide) ?_)
theorem wF (S:aX pt sh st vd pl o mk cl tbl tr m fi sk w mi da c j σ) (hX:∀ σ',az σ σ'->X σ'):U tb (d+10) 55 [] [.loc pt,.str 54,.lst [.lst [.int 1,.int (-1)],.int 0]] σ Q X:=by
 refine wk 6 [.m (ptM sh st pl o mk cl (aa [])),.m (ptM sh st pl o mk cl (aa [])),.m (ptM sh st pl o mk cl (aa []))] rfl ?_
 refine And.intro ?_ ?_
 ·repeat (first | exact a0 | refine a1 S.p ?_ | refine a1 (by decide) ?_)
 refine And.intro (λ h=>nomatch h) λ M hM hle=>⟨[.b true],?_⟩
 exact And.intro (a1 (congrArg some (decide_eq_true (Int.lt_of_le_of_lt (hle (-1) (.tail _ (.head _))) (by decide)))) a0) (hX _ az.refl)
theorem wG (S:aX pt sh st vd pl o mk cl tbl tr m fi sk w mi da c j σ) (hX:∀ σ',az σ σ'->X σ'):U tb (d+10) 55 [] [.loc pt,.str 54,.lst [.lst [.int 0,.int 0],.int 0]] σ Q X:=by
 refine wk 6 [.m (ptM sh st pl o mk cl (aa [])),.m (ptM sh st pl o mk cl (aa [])),.m (ptM sh st pl o mk cl (aa []))] rfl ?_
 have z:∀ {M:Int},M∈[(0:Int),0]->M=0:=λ h=>(List.mem_cons.mp h).elim id λ h=>List.mem_singleton.mp h
 refine And.intro ?_ ?_
 ·repeat (first | exact a0 | refine a1 S.p ?_ | refine a1 (by decide) ?_)
 refine And.intro (λ h=>nomatch h) λ M hM hle=>⟨[.b false],?_⟩
 refine And.intro (a1 (congrArg some (decide_eq_false (by refine rwE (z hM) ?_;decide))) a0) ?_
 refine And.intro (λ h=>nomatch h) λ M hM hle=>⟨[.b true],?_⟩
 exact And.intro (a1 (congrArg some (beq_iff_eq.mpr (z hM))) a0) (hX _ az.refl)
theorem wH (S:aX pt sh st vd pl o mk cl tbl tr m fi sk w mi da c j σ) (hX:∀ σ',az σ σ'->X σ'):U tb (d+10) 55 [] [.loc pt,.str 54,.lst [.lst [.int 1]]] σ Q X:=by
 refine wk 6 [.m (ptM sh st pl o mk cl (aa [])),.m (ptM sh st pl o mk cl (aa [])),.m (ptM sh st pl o mk cl (aa []))] rfl ?_
 refine And.intro ?_ (hX _ az.refl)
 repeat (first | exact a0 | refine a1 S.p ?_ | refine a1 S.st ?_ | refine a1 S.s ?_ | refine a1 dR ?_ | refine a1 dA ?_ | refine a1 cL ?_ | refine a1 (by decide) ?_)
theorem wI (S:aX pt sh st vd pl o mk cl tbl tr m fi sk w mi da c j σ) (hX:∀ σ',az σ σ'->X σ'):U tb (d+10) 55 [] [.loc pt,.str 54,.lst [.int 1,.int 0]] σ Q X:=by
 refine wk 6 [.m (ptM sh st pl o mk cl (aa [])),.m (ptM sh st pl o mk cl (aa [])),.m (ptM sh st pl o mk cl (aa []))] rfl ?_
 refine And.intro ?_ (hX _ az.refl)
 repeat (first | exact a0 | refine a1 S.p ?_ | refine a1 S.st ?_ | refine a1 S.s ?_ | refine a1 dR ?_ | refine a1 dA ?_ | refine a1 cL ?_ | refine a1 (by decide) ?_)
theorem wJ (S:aX pt sh st vd pl o mk cl tbl tr m fi sk w mi da c j σ) (hX:∀ σ',az σ σ'->X σ'):U tb (d+10) 55 [] [.loc pt,.str 144,.lst [.int 0,.int 0]] σ Q X:=by
 refine wk 6 [.m (ptM sh st pl o mk cl (aa [])),.m (ptM sh st pl o mk cl (aa [])),.m (ptM sh st pl o mk cl (aa [])),.m (stV m fi sk vd)] rfl ?_
 refine And.intro ?_ λ a ha=>And.intro ?_ (hX _ (az.cons ha))
 all_goals repeat (first | exact a0 | refine a1 S.p ?_ | refine a1 S.st ?_ | refine a1 dA ?_ | refine a1 cL ?_ | refine a1 (by decide) ?_)
theorem yK (S:aX pt sh st vd pl o mk cl tbl tr m fi sk w mi da c j σ) (hX:∀ σ',az σ σ'->X σ'):U tb (d+10) 55 [] [.loc pt,.str 143,.lst [bL 51]] σ Q X:=by
 refine wk 6 [.m (ptM sh st pl o mk cl (aa [])),.m (ptM sh st pl o mk cl (aa [])),.m (ptM sh st pl o mk cl (aa [])),.m (stV m fi sk vd)] rfl ?_
 refine And.intro ?_ λ a ha=>And.intro ?_ (hX _ (az.cons ha))
 all_goals repeat (first | exact a0 | refine a1 S.p ?_ | refine a1 S.st ?_ | refine a1 dA ?_ | refine a1 cL ?_ | refine a1 (by decide) ?_)
theorem wK (S:aX pt sh st vd pl o mk cl tbl tr m fi sk w mi da c j σ) (hfi:∃ k p,fi=.tup [.str k,p]/\(k=102\/k=103\/k=104\/k=295)) (hX:∀ σ',az σ σ'->X σ'):U tb (d+10) 55 [] [.loc pt,.str 303,.lst [uQ]] σ Q X:=by
 refine fX hfi ?_;clear hfi;intro k p z2 hk;obtain rfl:=z2
 rcases hk with rfl | rfl | rfl | rfl
 ·refine wk 6 [.m (ptM sh st pl o mk cl (aa [])),.m (ptM sh st pl o mk cl (aa [])),.m (ptM sh st pl o mk cl (aa [])),.m (stV m (.tup [.str 102,p]) sk vd)] rfl ?_
  refine And.intro ?_ λ a ha=>And.intro ?_ (hX _ (az.cons ha))
  all_goals repeat (first | exact a0 | refine a1 S.p ?_ | refine a1 S.st ?_ | refine a1 cL ?_ | refine a1 (by decide) ?_)
 ·refine wk 6 [.m (ptM sh st pl o mk cl (aa [])),.m (ptM sh st pl o mk cl (aa [])),.m (ptM sh st pl o mk cl (aa [])),.m (stV m (.tup [.str 103,p]) sk vd)] rfl ?_
  refine And.intro ?_ λ a ha=>And.intro ?_ (hX _ (az.cons ha))
  all_goals repeat (first | exact a0 | refine a1 S.p ?_ | refine a1 S.st ?_ | refine a1 cL ?_ | refine a1 (by decide) ?_)
 ·refine wk 6 [.m (ptM sh st pl o mk cl (aa [])),.m (ptM sh st pl o mk cl (aa [])),.m (ptM sh st pl o mk cl (aa [])),.m (stV m (.tup [.str 104,p]) sk vd)] rfl ?_
  refine And.intro ?_ λ a ha=>And.intro ?_ (hX _ (az.cons ha))
  all_goals repeat (first | exact a0 | refine a1 S.p ?_ | refine a1 S.st ?_ | refine a1 cL ?_ | refine a1 (by decide) ?_)
 ·refine wk 6 [.m (ptM sh st pl o mk cl (aa [])),.m (ptM sh st pl o mk cl (aa [])),.m (ptM sh st pl o mk cl (aa [])),.m (stV m (.tup [.str 295,p]) sk vd)] rfl ?_
  refine And.intro ?_ (hX _ az.refl)
  repeat (first | exact a0 | refine a1 S.p ?_ | refine a1 S.st ?_ | refine a1 cL ?_ | refine a1 (by decide) ?_)
theorem wL (S:aX pt sh st vd pl o mk cl tbl tr m fi sk w mi da c j σ) (hX:∀ σ',az σ σ'->X σ'):U tb (d+10) 55 [] [.loc pt,.str 148,.lst [.int 1]] σ Q X:=by
 refine wk 6 [.m (ptM sh st pl o mk cl (aa [])),.m (ptM sh st pl o mk cl (aa [])),.m (ptM sh st pl o mk cl (aa [])),.m (stV m fi sk vd)] rfl ?_
 refine And.intro ?_ (hX _ az.refl)
 repeat (first | exact a0 | refine a1 S.p ?_ | refine a1 S.st ?_ | refine a1 S.s ?_ | refine a1 dR ?_ | refine a1 dA ?_ | refine a1 cL ?_ | refine a1 (by decide) ?_)
theorem wM (S:aX pt sh st vd pl o mk cl tbl tr m fi sk w mi da c j σ) (hX:∀ σ',az σ σ'->X σ'):U tb (d+10) 55 [] [.loc pt,.str 230,.lst [bL 304]] σ Q X:=by
 refine wk 6 [.m (ptM sh st pl o mk cl (aa [])),.m (ptM sh st pl o mk cl (aa [])),.m (ptM sh st pl o mk cl (aa [])),.m (shM tbl tr),.m (ptM sh st pl o mk cl (aa [])),.m (shM tbl tr),.m (ptM sh st pl o mk cl (aa [])),.m (shM tbl tr)] rfl ?_
 refine And.intro ?_ (hX _ az.refl)
 repeat (first | exact a0 | refine a1 S.p ?_ | refine a1 S.st ?_ | refine a1 S.s ?_ | refine a1 dR ?_ | refine a1 dA ?_ | refine a1 cL ?_ | refine a1 (by decide) ?_)
theorem wO (S:aX pt sh st vd pl o mk cl tbl tr m fi sk w mi da c j σ) (hX:∀ σ',az σ σ'->X σ'):U tb (d+10) 55 [] [.loc pt,.str 305,.lst [.int 1,.int 0,.int 0,.int 1,.int 0]] σ Q X:=by
 refine wk 6 [.m (ptM sh st pl o mk cl (aa [])),.m (ptM sh st pl o mk cl (aa []))] rfl ?_
 refine And.intro ?_ (hX _ az.refl)
 repeat (first | exact a0 | refine a1 S.p ?_ | refine a1 S.st ?_ | refine a1 S.s ?_ | refine a1 dR ?_ | refine a1 dA ?_ | refine a1 cL ?_ | refine a1 (by decide) ?_)
theorem wP (S:aX pt sh st vd pl o mk cl tbl tr m fi sk w mi da c j σ) (hX:∀ σ',az σ σ'->X σ'):U tb (d+10) 55 [] [.loc pt,.str 242,.lst [.int 1,.int 2,.int 3]] σ Q X:=by
 refine wk 6 [.m (ptM sh st pl o mk cl (aa [])),.m (ptM sh st pl o mk cl (aa [])),.m (ptM sh st pl o mk cl (aa []))] rfl ?_
 refine And.intro ?_ (hX _ az.refl)
 repeat (first | exact a0 | refine a1 S.p ?_ | refine a1 S.st ?_ | refine a1 S.s ?_ | refine a1 dR ?_ | refine a1 dA ?_ | refine a1 cL ?_ | refine a1 (by decide) ?_)
theorem yL (S:aX pt sh st vd pl o mk cl tbl tr m fi sk w mi da c j σ) (hX:∀ σ',az σ σ'->X σ'):U tb (d+10) 55 [] [.loc pt,.str 169,.lst []] σ Q X:=by
 refine wk 6 [.m (ptM sh st pl o mk cl (aa [])),.m (ptM sh st pl o mk cl (aa [])),.m (ptM sh st pl o mk cl (aa []))] rfl ?_
 refine And.intro ?_ (hX _ az.refl)
 repeat (first | exact a0 | refine a1 S.p ?_ | refine a1 S.st ?_ | refine a1 S.s ?_ | refine a1 dR ?_ | refine a1 dA ?_ | refine a1 cL ?_ | refine a1 (by decide) ?_)
theorem wQ (S:aX pt sh st vd pl o mk cl tbl tr m fi sk w mi da c j σ) (hX:∀ σ',az σ σ'->X σ'):U tb (d+10) 55 [] [.loc pt,.str 306,.lst []] σ Q X:=by
 refine wk 6 [.m (ptM sh st pl o mk cl (aa [])),.m (ptM sh st pl o mk cl (aa [])),.m (ptM sh st pl o mk cl (aa []))] rfl ?_
 refine And.intro ?_ (hX _ az.refl)
 repeat (first | exact a0 | refine a1 S.p ?_ | refine a1 S.st ?_ | refine a1 S.s ?_ | refine a1 dR ?_ | refine a1 dA ?_ | refine a1 cL ?_ | refine a1 (by decide) ?_)
theorem yM (S:aX pt sh st vd pl o mk cl tbl tr m fi sk w mi da c j σ) (hX:∀ σ',az σ σ'->X σ'):U tb (d+10) 55 [] [.loc pt,.str 56,.lst []] σ Q X:=by
 refine wk 6 [.m (ptM sh st pl o mk cl (aa [])),.m (ptM sh st pl o mk cl (aa [])),.m (ptM sh st pl o mk cl (aa []))] rfl ?_
 refine And.intro ?_ (hX _ az.refl)
 repeat (first | exact a0 | refine a1 S.p ?_ | refine a1 S.st ?_ | refine a1 S.s ?_ | refine a1 dR ?_ | refine a1 dA ?_ | refine a1 cL ?_ | refine a1 (by decide) ?_)
theorem yN (S:aX pt sh st vd pl o mk cl tbl tr m fi sk w mi da c j σ) (hX:∀ σ',az σ σ'->X σ'):U tb (d+10) 55 [] [.loc pt,.str 307,.lst []] σ Q X:=by
 refine wk 6 [.m (ptM sh st pl o mk cl (aa [])),.m (ptM sh st pl o mk cl (aa [])),.m (ptM sh st pl o mk cl (aa []))] rfl ?_
 refine And.intro ?_ (hX _ az.refl)
 repeat (first | exact a0 | refine a1 S.p ?_ | refine a1 S.st ?_ | refine a1 S.s ?_ | refine a1 dR ?_ | refine a1 dA ?_ | refine a1 cL ?_ | refine a1 (by decide) ?_)
theorem yO (S:aX pt sh st vd pl o mk cl tbl tr m fi sk w mi da c j σ) {m1 m2 m3 m4 m5 m6:Int} (hm:m=mat m1 m2 m3 m4 m5 m6) (h1:sm 90 m1) (h2:sm 90 m2) (h3:sm 90 m3) (h4:sm 90 m4) (h5:sm 90 m5) (h6:sm 90 m6) (hX:∀ σ',az σ σ'->X σ'):U tb (d+10) 55 [] [.loc pt,.str 239,.lst [.int 1,.int 1]] σ Q X:=by
 subst hm
 have s1:sm 90 1:=by delta sm;decide
 refine wk 6 [.m (ptM sh st pl o mk cl (aa [])),.m (ptM sh st pl o mk cl (aa [])),.m (ptM sh st pl o mk cl (aa [])),.m (ptM sh st pl o mk cl (aa [])),.m (stV (mat m1 m2 m3 m4 m5 m6) fi sk vd),.m (ptM sh st pl o mk cl (aa []))] rfl ?_
 refine And.intro ?_ (hX _ az.refl)
 repeat (first | exact a0 | refine a1 S.p ?_ | refine a1 S.st ?_ | refine a1 dR ?_ | refine a1 h1.big ?_ | refine a1 h2.big ?_ | refine a1 h3.big ?_ | refine a1 h4.big ?_ | refine a1 h5.big ?_ | refine a1 h6.big ?_ | refine a1 s1.big ?_ | refine a1 (h1.mul s1).big ?_ | refine a1 (h2.mul s1).big ?_ | refine a1 (h3.mul s1).big ?_ | refine a1 (h4.mul s1).big ?_ | refine a1 ((h1.mul s1).add (h3.mul s1)).big ?_ | refine a1 ((h2.mul s1).add (h4.mul s1)).big ?_ | refine a1 (by decide) ?_)
theorem yP (S:aX pt sh st vd pl o mk cl tbl tr m fi sk w mi da c j σ) (hX:∀ σ',az σ σ'->X σ'):U tb (d+10) 55 [] [.loc pt,.str 241,.lst []] σ Q X:=by
 refine wk 6 [.m (ptM sh st pl o mk cl (aa [])),.m (ptM sh st pl o mk cl (aa [])),.m (ptM sh st pl o mk cl (aa [])),.m (ptM sh st pl o mk cl (aa [])),.m (stV m fi sk vd),.m (ptM sh st pl o mk cl (aa []))] rfl ?_
 refine And.intro ?_ (hX _ az.refl)
 repeat (first | exact a0 | refine a1 S.p ?_ | refine a1 S.st ?_ | refine a1 S.s ?_ | refine a1 dR ?_ | refine a1 dA ?_ | refine a1 cL ?_ | refine a1 (by decide) ?_)
theorem wR (S:aX pt sh st vd pl o mk cl tbl tr m fi sk w mi da c j σ) (hX:∀ σ',az σ σ'->X σ'):U tb (d+10) 55 [] [.loc pt,.str 218,.lst []] σ Q X:=by
 refine wk 6 [.m (ptM sh st pl o mk cl (aa [])),.m (ptM sh st pl o mk cl (aa [])),.m (ptM sh st pl o mk cl (aa []))] rfl ?_
 refine And.intro ?_ (hX _ az.refl)
 repeat (first | exact a0 | refine a1 S.p ?_ | refine a1 S.st ?_ | refine a1 S.s ?_ | refine a1 dR ?_ | refine a1 dA ?_ | refine a1 cL ?_ | refine a1 (by decide) ?_)
theorem wS (S:aX pt sh st vd pl o mk cl tbl tr m fi sk w mi da c j σ) (hX:∀ σ',az σ σ'->X σ'):U tb (d+10) 55 [] [.loc pt,.str 212,.lst []] σ Q X:=by
 refine wk 6 [.m (ptM sh st pl o mk cl (aa [])),.m (ptM sh st pl o mk cl (aa [])),.m (ptM sh st pl o mk cl (aa []))] rfl ?_
 refine And.intro ?_ (hX _ az.refl)
 repeat (first | exact a0 | refine a1 S.p ?_ | refine a1 S.st ?_ | refine a1 S.s ?_ | refine a1 dR ?_ | refine a1 dA ?_ | refine a1 cL ?_ | refine a1 (by decide) ?_)
theorem wU (S:aX pt sh st vd pl o mk cl tbl tr m fi sk w mi da c j σ) (hX:∀ σ',az σ σ'->X σ'):U tb (d+10) 55 [] [.loc pt,.str 191,.lst [bL 304]] σ Q X:=by
 refine wk 6 [.m (ptM sh st pl o mk cl (aa [])),.m (ptM sh st pl o mk cl (aa [])),.m (ptM sh st pl o mk cl (aa [])),.m (shM tbl tr),.m (ptM sh st pl o mk cl (aa [])),.m (shM tbl tr),.m (ptM sh st pl o mk cl (aa [])),.m (shM tbl tr)] rfl ?_
 refine And.intro ?_ (hX _ az.refl)
 repeat (first | exact a0 | refine a1 S.p ?_ | refine a1 S.st ?_ | refine a1 S.s ?_ | refine a1 dR ?_ | refine a1 dA ?_ | refine a1 cL ?_ | refine a1 (by decide) ?_)
theorem wV (S:aX pt sh st vd pl o mk cl tbl tr m fi sk w mi da c j σ) (hX:∀ σ',az σ σ'->X σ'):U tb (d+10) 55 [] [.loc pt,.str 235,.lst [.int 1]] σ Q X:=by
 refine wk 6 [.m (ptM sh st pl o mk cl (aa [])),.m (ptM sh st pl o mk cl (aa []))] rfl ?_
 refine And.intro ?_ (hX _ az.refl)
 repeat (first | exact a0 | refine a1 S.p ?_ | refine a1 S.st ?_ | refine a1 S.s ?_ | refine a1 dR ?_ | refine a1 dA ?_ | refine a1 cL ?_ | refine a1 (by decide) ?_)
theorem yQ (S:aX pt sh st vd pl o mk cl tbl tr m fi sk w mi da c j σ) (hX:∀ σ',az σ σ'->X σ'):U tb (d+10) 55 [] [.loc pt,.str 236,.lst []] σ Q X:=by
 refine wk 6 [.m (ptM sh st pl o mk cl (aa [])),.m (ptM sh st pl o mk cl (aa []))] rfl ?_
 refine And.intro ?_ (hX _ az.refl)
 repeat (first | exact a0 | refine a1 S.p ?_ | refine a1 S.st ?_ | refine a1 S.s ?_ | refine a1 dR ?_ | refine a1 dA ?_ | refine a1 cL ?_ | refine a1 (by decide) ?_)
end
inductive ai (po:Nat) (n:Int) (σ:St):Prop
 | mk (cells:List Int) (great state place:Int) (h:look po σ=some (.lst [.lst (cells.map .int),.int great,.int state,.int place])) (r:(0<=place/\place<=n)/\0<=state/\state<2147483647)
noncomputable def But (l:Nat) (σ σ':St):Prop:=∀ a n,a≠l->look a σ=some n->look a σ'=some n
theorem But.refl {l:Nat} {σ:St}:But l σ σ:=λ u' u' u' h=>h
theorem But.trans {l:Nat} {σ σ' σ'':St} (h:But l σ σ') (k:But l σ' σ''):But l σ σ'':=λ a n q e=>k a n q (h a n q e)
theorem But.put {l:Nat} {m:M} {σ:St}:But l σ (put l m σ):=λ a n q e=>(ac q).trans e
theorem az.but {l:Nat} {σ σ':St} (h:az σ σ'):But l σ σ':=λ a n u' e=>h a n e
theorem ai.keep {po l:Nat} {n:Int} {σ σ':St} (h:ai po n σ) (k:But l σ σ') (hn:po≠l):ai po n σ':=by
 obtain ⟨c,g,s,p,e,r⟩:=h
 exact ⟨c,g,s,p,k _ _ hn e,r⟩
theorem ai.ok {po:Nat} {n:Int} {σ σ':St} (h:ai po n σ) (k:az σ σ'):ai po n σ':=by
 obtain ⟨c,g,s,p,e,r⟩:=h
 exact ⟨c,g,s,p,k _ _ e,r⟩
theorem dW {l:Nat} {v:V} {σ:St} {i:Int} {xs ys:List V} (h:look l σ=some (.lst xs)) (hn:(decide (0<=i)&&decide (i<xs.length))=true) (e:xs.set i.toNat v=ys):bn (.loc l) (.int i) v σ=some (put l (.lst ys) σ):=by refine rwB e ?_;exact gX h hn
theorem nb {a b:Int} (h:b≠0):gA .mod (.int a) (.int b)=some (.int (Int.fmod a b)):=by
 show (if b=0 then none else some (Int.fmod a b)).map V.int=_
 refine rwE (if_neg h) ?_;rfl
theorem wW {a b:Int} (h:0<b) (h':b<1000000):gA .fdiv (.int a) (.int b)=some (.int (Int.fdiv a b)):=by
 show (if decide (0<b)&&decide (b<1000000) then some (Int.fdiv a b) else none).map V.int=_
 (refine rwE (decide_eq_true h) ?_;refine rwE (decide_eq_true h') ?_);rfl
theorem fH {a b:Int} (h:0<b):0<=Int.fmod a b/\Int.fmod a b<b:=by
 refine rwE (Int.fmod_eq_emod_of_nonneg a (Int.le_of_lt h)) ?_
 exact ⟨Int.emod_nonneg a (by lia),Int.emod_lt_of_pos a h⟩
theorem tW {cells:List Int} {p:Int} (h0:0<=p) (h:p<(cells.map V.int).length) {σ:St}:∃ v:Int,cU tb (.lst (cells.map .int)) (.int p) σ=some (.int v):=by
 have hl:p.toNat<cells.length:=by rw [List.length_map] at h;lia
 refine ⟨cells[p.toNat],?_⟩
 delta cU bg bD
 dsimp only
 refine rwE (if_pos h0) ?_;refine rwE (if_pos (by refine rwE (List.length_map ..) ?_;exact hl)) ?_
 simp [hl]
section
variable {call:ah} {d:Nat} {σ:St} {Q:PV} {X:PX} {ρ:Rho} {N:PN} {R:PV} {po:Nat} {n most:Int}
theorem cM (hc:call=U tb (d+1)) (hp:ai po n σ) (hn:n<1000000) (h0:0<most) (h1:most<1000000) (h:∀ r σ',0<=r->r<most->ai po (n+1) σ'->But po σ σ'->Q (.int r) σ'):call 68 [] [.loc po,.int most] σ Q X:=by
 obtain ⟨cells,great,state,place,hl,⟨p0,p1⟩,s0,s1⟩:=hp
 have fin:∀ (r great' state':Int),0<=r->r<most->0<=state'->state'<2147483647->Q (.int r) (put po (.lst [.lst (cells.map .int),.int great',.int state',.int (place+1)]) σ):=λ r g' s' a1 a2 a3 a4=>h r _ a1 a2 ⟨cells,g',s',place+1,af hl,⟨by lia,by lia⟩,a3,a4⟩ But.put
 have ne0:most≠0:=by lia
 refine Y ⟨[279,281],[],gM,false⟩ rfl rfl rfl hc λ call hc=>?_
 conv=>whnf
 refine rwE (bR hl) ?_
 conv=>whnf
 refine rwE (dW (ys:=[.lst (cells.map .int),.int great,.int state,.int (place+1)]) hl (by rfl) rfl) ?_
 have hl1:look po (put po (.lst [.lst (cells.map .int),.int great,.int state,.int (place+1)]) σ)=some (.lst [.lst (cells.map .int),.int great,.int state,.int (place+1)]):=af hl
 conv=>whnf
 refine rwE (bR hl1) ?_
 conv=>whnf
 by_cases hg:0<great
 ·refine rwE (decide_eq_true hg) ?_
  conv=>whnf
  refine rwE (bR hl1) ?_
  conv=>whnf
  refine rwE (nb ne0) ?_
  conv=>whnf
  refine rwE (bR hl1) ?_
  conv=>whnf
  refine rwE (wW h0 h1) ?_
  conv=>whnf
  refine rwE (dW (ys:=[.lst (cells.map .int),.int (Int.fdiv great most),.int state,.int (place+1)]) hl1 (by rfl) rfl) ?_;refine rwE cA ?_
  refine al (fH (a:=great) h0) ?_;intro f1 f2
  exact fin _ _ _ f1 f2 s0 s1
 ·refine rwE (decide_eq_false hg) ?_
  conv=>whnf
  refine rwE (bR hl1) ?_
  conv=>whnf
  refine rwE (eG (iD (by lia) (by lia)) (by decide +kernel)) ?_
  conv=>whnf
  refine rwE (eG (iD (by lia) (by lia)) (iD (by lia) (by lia))) ?_
  conv=>whnf
  refine rwE (dW (ys:=[.lst (cells.map .int),.int great,.int (Int.fmod (state*16807+place*place+5) 2147483647),.int (place+1)]) hl1 (by rfl) rfl) ?_;refine rwE cA ?_
  refine al (fH (a:=state*16807+place*place+5) (b:=2147483647) (by decide)) ?_;intro f1 f2
  have hl2:=af (m':=.lst [.lst (cells.map .int),.int great,.int (Int.fmod (state*16807+place*place+5) 2147483647),.int (place+1)]) hl
  conv=>whnf
  refine rwE (bR hl2) ?_
  conv=>whnf
  by_cases hp:place<(cells.map V.int).length
  ·refine rwE (decide_eq_true hp) ?_
   conv=>whnf
   refine rwE (bR hl2) ?_
   conv=>whnf
   refine ao (tW (σ:=put po (.lst [.lst (cells.map .int),.int great,.int (Int.fmod (state*16807+place*place+5) 2147483647),.int (place+1)]) σ) p0 hp) ?_;intro v hv
   refine rwE hv ?_
   conv=>whnf
   refine rwE (nb ne0) ?_
   refine al (fH (a:=v) h0) ?_;intro g1 g2
   exact fin _ _ _ g1 g2 f1 f2
  ·refine rwE (decide_eq_false hp) ?_
   conv=>whnf
   refine rwE (bR hl2) ?_
   conv=>whnf
   refine rwE (nb ne0) ?_
   refine al (fH (a:=Int.fdiv (Int.fmod (state*16807+place*place+5) 2147483647) 5) h0) ?_;intro g1 g2
   exact fin _ _ _ g1 g2 f1 f2
theorem de (hc:call=U tb (d+1)) {t:Int} (h:Q (dz t) σ):call 69 [] [.int t] σ Q X:=by
 refine Y ⟨[282],[],gN,false⟩ rfl rfl rfl hc λ call hc=>?_
 delta dz at h
 conv=>whnf
 by_cases q:Int.fmod t 10=0
 ·rw [if_pos q] at h
  refine rwE (show (Int.fmod t 10==0)=true by simp [q]) ?_
  exact h
 ·rw [if_neg q] at h
  refine rwE (show (Int.fmod t 10==0)=false by simp [q]) ?_
  exact h
end
noncomputable abbrev ay (mt fi sk w:V) (c j:Int) (mi da:V):M:=.dct [(95,mt),(97,fi),(98,sk),(83,w),(105,.int c),(106,.int j),(107,mi),(108,da)]
noncomputable abbrev bw (l l':Nat) (σ σ':St):Prop:=∀ a n,a≠l->a≠l'->look a σ=some n->look a σ'=some n
noncomputable abbrev z0:V:=.tup [.int 0,.int 0]
noncomputable def CsR (k:Nat) (v t:V):Prop:=(k=102/\v=.tup [.str 102,.tup [dec 0 0]]/\t=.tup [.str 102,z0])\/(k=103/\v=.tup [.str 103,.tup [dec 0 0,dec 0 0,dec 0 0]]/\t=.tup [.str 103,z0,z0,z0]) \/
 (k=104/\v=.tup [.str 104,.tup [dec 0 0,dec 0 0,dec 0 0,dec 1 0]]/\t=.tup [.str 104,z0,z0,z0,.tup [.int 1,.int 0]])\/(k=295/\v=.tup [.str 295,.tup []]/\t=.tup [.str 295])
theorem or4 {P:Int->Prop} {r:Int} (h:0<=r) (h':r<4) (h0:P 0) (h1:P 1) (h2:P 2) (h3:P 3):P r:=by
 match r,h,h' with
 | .ofNat 0,_,_=>exact h0
 | .ofNat 1,_,_=>exact h1
 | .ofNat 2,_,_=>exact h2
 | .ofNat 3,_,_=>exact h3
 | .ofNat (n+4),_,h'=>exact absurd (Int.ofNat_lt.mp h':n+4<4) (by lia)
theorem nd3:([143,144,145]:List Nat).Nodup:=by decide
theorem nd4:([102,103,104,295]:List Nat).Nodup:=by decide
noncomputable abbrev si (mt fi sk w:V) (c j:Int) (mi da:V):List (Nat×V):=[(95,mt),(97,fi),(98,sk),(83,w),(105,.int c),(106,.int j),(107,mi),(108,da)]
noncomputable def Fst (v:V) (K:Nat):Prop:=∀ σ:St,cU tb v (.int 0) σ=some (.str K)
inductive WdR (fi sk:V):Nat->Nat->Nat->Prop
 | a1:WdR fi sk 143 97 102
 | a2:WdR fi sk 322 98 102
 | a3:WdR fi sk 144 97 103
 | a4:WdR fi sk 323 98 103
 | a5:WdR fi sk 145 97 104
 | a6:WdR fi sk 324 98 104
 | b1 {K:Nat} (h:Fst fi K):WdR fi sk 303 97 K
 | b2 {K:Nat} (h:Fst fi K):WdR fi sk 327 97 K
 | c1 {K:Nat} (h:Fst sk K):WdR fi sk 326 98 K
 | c2 {K:Nat} (h:Fst sk K):WdR fi sk 328 98 K
noncomputable abbrev nc:List S:=[
 .asg (.x 50) (.ite (.cmp (.v 109) .eq (.meth (.v 109) 140 [])) (.cS 97) (.cS 98)),
 .asg (.x 141) (.meth (.v 109) 140 []),
 .if_ (.cmp (.v 141) .eq (.cS 148)) [
  .asg (.x 101) (.sub (.lst false [.cS 102,.cS 103,.cS 104,.cS 295]) (.call (.g 296) [.v 279,.cI 4])),
  .asg (.x 17) (.sub (.dct false [.cS 102,.lst false [.cI 0],.cS 103,.lst false [.cI 0,.cI 0,.cI 0],.cS 104,.lst false [.cI 0,.cI 0,.cI 0,.cI 1],.cS 295,.lst false []]) (.v 101)),
  .asg (.sub (.v 297) (.v 50)) (.bin .add (.tup [.v 101]) (.call (.g 91) [.comp (.tup [.v 66,.cI 0]) (.x 66) (.v 17)])),
  .ret (.lst false [.call (.g 27) [.v 101]])] [],
 .asg (.x 101) (.meth (.call (.g 298) []) 47 [.v 141,.sub (.sub (.v 297) (.v 50)) (.cI 0)]),
 .asg (.x 124) (.sub (.dct false [.cS 102,.cI 1,.cS 103,.cI 3,.cS 104,.cI 4,.cS 295,.cI 2]) (.v 101))]
noncomputable abbrev pF:List S:=[
 .asg (.x 282) (.comp (.bin .sub (.call (.g 296) [.v 279,.cI 16]) (.cI 3)) (.x 66) (.call (.g 44) [.v 124])),
 .asg (.x 99) (.comp (.call (.g 7) [.v 66,.cI 1]) (.x 66) (.v 282)),
 .if_ (.cmp (.v 101) .eq (.cS 295)) [
  .asg (.sub (.v 297) (.v 50)) (.bin .add (.bin .add (.tup [.v 101]) (.call (.g 91) [.comp (.call (.g 299) [.v 66]) (.x 66) (.v 282)])) (.tup [.cS 300])),
  .ret (.bin .add (.v 99) (.lst false [.call (.g 27) [.cS 300]]))] [],
 .asg (.sub (.v 297) (.v 50)) (.bin .add (.tup [.v 101]) (.call (.g 91) [.comp (.call (.g 299) [.call (.g 154) [.cI 10,.call (.g 19) [.cI 0,.v 66]]]) (.x 66) (.v 282)])),
 .ret (.v 99)]
section
variable {call:ah} {d:Nat} {σ:St} {Q:PV} {X:PX} {ρ:Rho} {N:PN} {R:PV} {po ow:Nat} {n c j:Int} {mt fi sk w mi da:V}
theorem bw.put_of {σ σ1:St} {m:M} (B:But po σ σ1):bw po ow σ (put ow m σ1):=λ a n e1 e2 e=>But.put _ _ e2 (B _ _ e1 e)
theorem yR {k s:Nat} (hk:(k=148/\s=97)\/(k=325/\s=98)) (hP:ai po n σ) (hn:n<900000) (hw:look ow σ=some (ay mt fi sk w c j mi da)) (ne:po≠ow)
 (h:∀ k v t σ',CsR k v t->ai po (n+1) σ'->look ow σ'=some (.dct (bN s t (si mt fi sk w c j mi da)))->bw po ow σ σ'->Q (.lst [bL k]) σ'):U tb (d+5) 74 [] [.loc po,.loc ow,.str k] σ Q X:=by
 have hw1:∀ {σ1},But po σ σ1->look ow σ1=some (ay mt fi sk w c j mi da):=λ B1=>B1 _ _ ne.symm hw
 rcases hk with ⟨rfl,rfl⟩ | ⟨rfl,rfl⟩
 all_goals
  exact wk (d:=d) 1 [.f] rfl (And.intro a0 λ Q' hq=>cM rfl hP (by lia) (by decide) (by decide) λ r σ1 b0 b1 P1 B1=>or4 (P:=λ r=>Q' (.int r) σ1) b0 b1
   (hq _ _ [.m (ay mt fi sk w c j mi da)] (And.intro (a3 lm8 (hw1 B1) nd4 a0) (h 102 _ _ _ (.inl ⟨rfl,rfl,rfl⟩) (P1.keep But.put ne) (af (hw1 B1)) (bw.put_of B1))))
   (hq _ _ [.m (ay mt fi sk w c j mi da)] (And.intro (a3 lm8 (hw1 B1) nd4 a0) (h 103 _ _ _ (.inr (.inl ⟨rfl,rfl,rfl⟩)) (P1.keep But.put ne) (af (hw1 B1)) (bw.put_of B1))))
   (hq _ _ [.m (ay mt fi sk w c j mi da)] (And.intro (a3 lm8 (hw1 B1) nd4 a0) (h 104 _ _ _ (.inr (.inr (.inl ⟨rfl,rfl,rfl⟩))) (P1.keep But.put ne) (af (hw1 B1)) (bw.put_of B1))))
   (hq _ _ [.m (ay mt fi sk w c j mi da)] (And.intro (a3 lm8 (hw1 B1) nd4 a0) (h 295 _ _ _ (.inr (.inr (.inr ⟨rfl,rfl,rfl⟩))) (P1.keep But.put ne) (af (hw1 B1)) (bw.put_of B1)))))
theorem sA {lo hi:Int} {y:Nat} (hy:y≠279) {elt:Rho->St->PV->Prop} (he:∀ {n:Int} {ρ:Rho} {σ:St} {Q:PV},ρ 279=some (.loc po)->ai po n σ->n<1000000->(∀ a σ',lo<=a->a<hi->ai po (n+1) σ'->But po σ σ'->Q (.int a) σ')->elt ρ σ Q) {ρ:Rho} (hρ:ρ 279=some (.loc po)) {items:List V} :
 ∀ {n:Int} {σ:St} {Q:List V->St->Prop},ai po n σ->n+(items.length:Int)<1000000 ->
 (∀ (ts:List Int) σ',ts.length=items.length->(∀ t∈ts,lo<=t/\t<hi)->ai po (n+items.length) σ'->But po σ σ'->Q (ts.map .int) σ')->evC elt (.x y) items ρ σ Q:=by
 induction items with
 | nil=>intro n σ Q hP hn h;exact h [] σ rfl (λ u' h=>nomatch h) (by refine rwE (show n+(([]:List V).length:Int)=n from Int.add_zero n) ?_;exact hP) But.refl
 | cons v r ih =>
  intro n σ Q hP hn h
  have en:n+((v::r).length:Int)=n+1+(r.length:Int):=by refine rwE List.length_cons ?_;lia
  rw [en] at hn h
  refine he (ρ:=upd y v ρ) ((if_neg (Ne.symm hy)).trans hρ) hP (by lia) λ a σ1 b0 b1 P1 B1=>?_
  exact ih P1 hn λ ts σ2 e1 e2 P2 B2=>h (a::ts) σ2 (congrArg (·+1) e1) (λ t ht=>(List.mem_cons.mp ht).elim (λ e=>e▸⟨b0,b1⟩) (e2 t)) P2 (B1.trans B2)
theorem lH {most off:Int} (h0:0<most) (h1:most<1000000) {n:Int} {ρ:Rho} {σ:St} {Q:PV} (hρ:ρ 279=some (.loc po)) (hP:ai po n σ) (hn:n<1000000) (h:∀ a σ',-off<=a->a<most - off->ai po (n+1) σ'->But po σ σ'->Q (.int a) σ') :
 evE tb (U tb (d+1)) (.bin .sub (.call (.g 296) [.v 279,.cI most]) (.cI off)) ρ σ Q λ u'=>False :=
 we0 1 [.v 279 (.loc po),.f] (And.intro (a1 hρ a0) λ Q' hq=>cM rfl hP hn h0 h1 λ a σ1 b0 b1 P1 B1=>hq _ _ [] (And.intro a0 (h _ _ (by lia) (by lia) P1 B1)))
theorem cD {elt:Rho->St->PV->Prop} {y:Nat} {f:Int->V} (he:∀ t ρ Q,Q (f t) σ->elt (upd y (.int t) ρ) σ Q):∀ {ts:List Int} {ρ:Rho} {Q:List V->St->Prop},Q (ts.map f) σ->evC elt (.x y) (ts.map .int) ρ σ Q
 | [],_,_,h=>h
 | t::_,ρ,_,h=>he t ρ _ (cD he h)
theorem tn1 {y:Nat} {t:Int} {ρ:Rho} {Q:PV} (h:Q (tn t) σ):evE tb (U tb (d+1)) (.call (.g 7) [.v y,.cI 1]) (upd y (.int t) ρ) σ Q λ u'=>False:=by
 show match upd y (.int t) ρ y with | some v=>bO tb (U tb (d+1)) 0 [v,.int 1] σ Q | none=>False
 refine rwE (show upd y (.int t) ρ y=some (.int t) from if_pos rfl) ?_
 exact uP rfl h
theorem yS {t:Int} {ρ:Rho} {Q:PV} (h:Q (dz t) σ):evE tb (U tb (d+1)) (.call (.g 299) [.v 66]) (upd 66 (.int t) ρ) σ Q λ u'=>False :=
 we0 1 [.f] (And.intro a0 λ Q' hq=>de rfl (hq _ _ [] (And.intro a0 h)))
theorem wX {t:Int} {ρ:Rho} {Q:PV} (h:Q (dz (bX t)) σ):evE tb (U tb (d+1)) (.call (.g 299) [.call (.g 154) [.cI 10,.call (.g 19) [.cI 0,.v 66]]]) (upd 66 (.int t) ρ) σ Q λ u'=>False :=
 we0 1 [.f] (And.intro a0 λ Q' hq=>de (t:=bX t) rfl (hq _ _ [] (And.intro a0 h)))
theorem jJ {x y z:List V} (h:x++y=z) (hl:z.length<=100000):gA .add (.tup x) (.tup y)=some (.tup z):=by
 subst h
 show (if decide ((x++y).length<=100000) then some (V.tup (x++y)) else none)=_
 refine rwE (decide_eq_true hl) ?_;rfl
theorem tX {x y z:List V} (h:x++y=z) (hl:z.length<=100000):gA .add (.lst x) (.lst y)=some (.lst z):=by
 subst h
 show (if decide ((x++y).length<=100000) then some (V.lst (x++y)) else none)=_
 refine rwE (decide_eq_true hl) ?_;rfl
theorem le6 {k:Nat} (h:k<=6):k<=100000:=Nat.le_trans h (by decide)
theorem ai.up {n k:Int} (h:ai po n σ) (hk:n<=k):ai po k σ:=by
 obtain ⟨cc,gg,ss,pp,e1,⟨e2,e3⟩,e4⟩:=h
 exact ⟨cc,gg,ss,pp,e1,⟨e2,Int.le_trans e3 hk⟩,e4⟩
theorem wY {ts:List Int} (h:∀ t∈ts,-3<=t/\t<16 - 3):inR ts:=λ t ht=>⟨(h t ht).1,Int.le_of_lt_add_one (h t ht).2⟩
theorem wZ {K s:Nat} {cnt:Int} {items:List V} (hi:aF (.rng 0 cnt 1) σ=some (items,σ)) (hl:items.length<=4) (h1:ρ 279=some (.loc po)) (h2:ρ 297=some (.loc ow)) (h3:ρ 124=some (.int cnt)) (h4:ρ 101=some (.str K)) (h5:ρ 50=some (.str s))
 (hP:ai po n σ) (hn:n<900000) (hw:look ow σ=some (ay mt fi sk w c j mi da)) (ne:po≠ow) (hK:(K==295)=false)
 (h:∀ (ts:List Int) σ',ts.length=items.length->inR ts->ai po (n+4) σ'->look ow σ'=some (.dct (bN s (.tup (.str K::ts.map λ t=>dz (bX t))) (si mt fi sk w c j mi da)))->bw po ow σ σ'->R (.lst (ts.map tn)) σ'):execs tb (U tb (d+4)) pF ρ σ N R X:=by
 refine ws (d:=d) 1 [.v 124 (.int cnt),.s (.lst items),.f] rfl ?_
 refine And.intro (a2 hi h3 a0) λ Q1 hq1=>sA (by decide) (lH (by decide) (by decide)) h1 hP (by lia) λ ts σ1 e1 e2 P1 B1=>hq1 _ _ [.f] ?_
 refine And.intro a0 λ Q2 hq2=>cD (λ t ρ Q h=>tn1 h) (hq2 _ _ [.v 101 (.str K),.b false,.v 101 (.str K),.f] ?_)
 refine And.intro (a3 h4 (congrArg some hK) h4 a0) λ Q3 hq3=>cD (λ t ρ Q h=>wX h) (hq3 _ _ [.s (.tup (.str K::ts.map λ t=>dz (bX t))),.v 297 (.loc ow),.v 50 (.str s),.m (ay mt fi sk w c j mi da)] ?_)
 have hw1:=B1 _ _ ne.symm hw
 have le:=e1▸hl
 exact And.intro (a4 lm8 hw1 h5 h2 (a1 (jJ rfl (le6 (by show (ts.map _).length+1<=6;refine rwE (List.length_map ..) ?_;exact Nat.le_trans (Nat.succ_le_succ le) (by decide)))) a0)) (h ts _ e1 (wY e2) ((P1.up (Int.add_le_add_left (Int.ofNat_le.mpr hl) n)).keep But.put ne) (af hw1) (bw.put_of B1))
theorem w0 {s:Nat} (h1:ρ 279=some (.loc po)) (h2:ρ 297=some (.loc ow)) (h3:ρ 124=some (.int 2)) (h4:ρ 101=some (.str 295)) (h5:ρ 50=some (.str s))
 (hP:ai po n σ) (hn:n<900000) (hw:look ow σ=some (ay mt fi sk w c j mi da)) (ne:po≠ow)
 (h:∀ (ts:List Int) σ',ts.length=2->ai po (n+4) σ'->look ow σ'=some (.dct (bN s (.tup (.str 295::(ts.map dz++[.str 300]))) (si mt fi sk w c j mi da)))->bw po ow σ σ'->R (.lst (ts.map tn++[bL 300])) σ'):execs tb (U tb (d+4)) pF ρ σ N R X:=by
 refine ws (d:=d) 1 [.v 124 (.int 2),.f] rfl ?_
 refine And.intro (a1 h3 a0) λ Q1 hq1=>sA (by decide) (lH (by decide) (by decide)) h1 hP (by show n+2<_;lia) λ ts σ1 e1 e2 P1 B1=>hq1 _ _ [.f] ?_
 have hw1:=B1 _ _ ne.symm hw
 have e1:ts.length=2:=e1
 refine And.intro a0 λ Q2 hq2=>cD (λ t ρ Q h=>tn1 h) (hq2 _ _ [.v 101 (.str 295),.v 101 (.str 295),.f] ?_)
 refine And.intro (a2 h4 h4 a0) λ Q3 hq3=>cD (λ t ρ Q h=>yS h) (hq3 _ _ [.s (.tup (.str 295::ts.map dz)),.s (.tup (.str 295::(ts.map dz++[.str 300]))),.v 297 (.loc ow),.v 50 (.str s),.m (ay mt fi sk w c j mi da),.s (.lst (ts.map tn++[bL 300]))] ?_)
 exact And.intro (a6 (tX rfl (le6 (by (refine rwE List.length_append ?_;refine rwE (List.length_map ..) ?_;refine rwE e1 ?_);decide))) lm8 hw1 h5 h2 (jJ rfl (le6 (by (refine rwE List.length_cons ?_;refine rwE List.length_append ?_;refine rwE (List.length_map ..) ?_;refine rwE e1 ?_);decide))) (a1 (jJ rfl (le6 (by (refine rwE List.length_cons ?_;refine rwE (List.length_map ..) ?_;refine rwE e1 ?_);decide))) a0)) (h ts _ e1 ((P1.up (Int.add_le_add_left (by decide) n)).keep But.put ne) (af hw1) (bw.put_of B1))
theorem nT {k s K kf ks:Nat} {cnt:Int} (W:WdR fi sk k s K) (hf:Fst fi kf) (hs:Fst sk ks) (hc:aY K [(102,.int 1),(103,.int 3),(104,.int 4),(295,.int 2)]=some (.int cnt)) (hw:look ow σ=some (ay mt fi sk w c j mi da)) (h1:ρ 279=some (.loc po)) (h2:ρ 297=some (.loc ow)) (h3:ρ 109=some (.str k))
 (h:∀ ρ':Rho,ρ' 279=some (.loc po)->ρ' 297=some (.loc ow)->ρ' 124=some (.int cnt)->ρ' 101=some (.str K)->ρ' 50=some (.str s)->N ρ' σ):execs tb (U tb (d+4)) nc ρ σ N R X:=by
 induction W with
 | a1 =>
  refine ws (d:=d) 1 [.v 109 (.str 143),.v 109 (.str 143),.v 109 (.str 143),.v 297 (.loc ow),.m (ay mt fi sk w c j mi da),.s (.str kf),.s (.int cnt)] rfl ?_
  refine And.intro ?_ ?_
  ·exact a8 hc nd4 (hf _) hw h2 nd3 h3 h3 (a1 h3 a0)
  ·exact h _ h1 h2 rfl rfl rfl
 | a2 =>
  refine ws (d:=d) 1 [.v 109 (.str 322),.v 109 (.str 322),.v 109 (.str 322),.v 297 (.loc ow),.m (ay mt fi sk w c j mi da),.s (.str ks),.s (.int cnt)] rfl ?_
  refine And.intro ?_ ?_
  ·exact a8 hc nd4 (hs _) hw h2 nd3 h3 h3 (a1 h3 a0)
  ·exact h _ h1 h2 rfl rfl rfl
 | a3 =>
  refine ws (d:=d) 1 [.v 109 (.str 144),.v 109 (.str 144),.v 109 (.str 144),.v 297 (.loc ow),.m (ay mt fi sk w c j mi da),.s (.str kf),.s (.int cnt)] rfl ?_
  refine And.intro ?_ ?_
  ·exact a8 hc nd4 (hf _) hw h2 nd3 h3 h3 (a1 h3 a0)
  ·exact h _ h1 h2 rfl rfl rfl
 | a4 =>
  refine ws (d:=d) 1 [.v 109 (.str 323),.v 109 (.str 323),.v 109 (.str 323),.v 297 (.loc ow),.m (ay mt fi sk w c j mi da),.s (.str ks),.s (.int cnt)] rfl ?_
  refine And.intro ?_ ?_
  ·exact a8 hc nd4 (hs _) hw h2 nd3 h3 h3 (a1 h3 a0)
  ·exact h _ h1 h2 rfl rfl rfl
 | a5 =>
  refine ws (d:=d) 1 [.v 109 (.str 145),.v 109 (.str 145),.v 109 (.str 145),.v 297 (.loc ow),.m (ay mt fi sk w c j mi da),.s (.str kf),.s (.int cnt)] rfl ?_
  refine And.intro ?_ ?_
  ·exact a8 hc nd4 (hf _) hw h2 nd3 h3 h3 (a1 h3 a0)
  ·exact h _ h1 h2 rfl rfl rfl
 | a6 =>
  refine ws (d:=d) 1 [.v 109 (.str 324),.v 109 (.str 324),.v 109 (.str 324),.v 297 (.loc ow),.m (ay mt fi sk w c j mi da),.s (.str ks),.s (.int cnt)] rfl ?_
  refine And.intro ?_ ?_
  ·exact a8 hc nd4 (hs _) hw h2 nd3 h3 h3 (a1 h3 a0)
  ·exact h _ h1 h2 rfl rfl rfl
 | @b1 K hK =>
  refine ws (d:=d) 1 [.v 109 (.str 303),.v 109 (.str 303),.v 109 (.str 303),.v 297 (.loc ow),.m (ay mt fi sk w c j mi da),.s (.str K),.s (.int cnt)] rfl ?_
  refine And.intro ?_ ?_
  ·exact a8 hc nd4 (hK _) hw h2 nd3 h3 h3 (a1 h3 a0)
  ·exact h _ h1 h2 rfl rfl rfl
 | @b2 K hK =>
  refine ws (d:=d) 1 [.v 109 (.str 327),.v 109 (.str 327),.v 109 (.str 327),.v 297 (.loc ow),.m (ay mt fi sk w c j mi da),.s (.str K),.s (.int cnt)] rfl ?_
  refine And.intro ?_ ?_
  ·exact a8 hc nd4 (hK _) hw h2 nd3 h3 h3 (a1 h3 a0)
  ·exact h _ h1 h2 rfl rfl rfl
 | @c1 K hK =>
  refine ws (d:=d) 1 [.v 109 (.str 326),.v 109 (.str 326),.v 109 (.str 326),.v 297 (.loc ow),.m (ay mt fi sk w c j mi da),.s (.str K),.s (.int cnt)] rfl ?_
  refine And.intro ?_ ?_
  ·exact a8 hc nd4 (hK _) hw h2 nd3 h3 h3 (a1 h3 a0)
  ·exact h _ h1 h2 rfl rfl rfl
 | @c2 K hK =>
  refine ws (d:=d) 1 [.v 109 (.str 328),.v 109 (.str 328),.v 109 (.str 328),.v 297 (.loc ow),.m (ay mt fi sk w c j mi da),.s (.str K),.s (.int cnt)] rfl ?_
  refine And.intro ?_ ?_
  ·exact a8 hc nd4 (hK _) hw h2 nd3 h3 h3 (a1 h3 a0)
  ·exact h _ h1 h2 rfl rfl rfl
theorem w7 {k s K kf ks:Nat} {cnt:Nat} (W:WdR fi sk k s K) (hf:Fst fi kf) (hs:Fst sk ks) (hK:(K=102/\cnt=1)\/(K=103/\cnt=3)\/(K=104/\cnt=4)) (hP:ai po n σ) (hn:n<900000) (hw:look ow σ=some (ay mt fi sk w c j mi da)) (ne:po≠ow)
 (h:∀ (ts:List Int) σ',ts.length=cnt->inR ts->ai po (n+4) σ'->look ow σ'=some (.dct (bN s (.tup (.str K::ts.map λ t=>dz (bX t))) (si mt fi sk w c j mi da)))->bw po ow σ σ'->Q (.lst (ts.map tn)) σ'):U tb (d+5) 74 [] [.loc po,.loc ow,.str k] σ Q X:=by
 have hX:∃ items:List V,items.length=cnt/\items.length<=4/\aF (.rng 0 (cnt:Int) 1) σ=some (items,σ)/\aY K [(102,V.int 1),(103,.int 3),(104,.int 4),(295,.int 2)]=some (.int (cnt:Int))/\(K==295)=false:=by
  rcases hK with ⟨rfl,rfl⟩ | ⟨rfl,rfl⟩ | ⟨rfl,rfl⟩
  ·exact ⟨_,rfl,by decide,rfl,rfl,rfl⟩
  ·exact ⟨_,rfl,by decide,rfl,rfl,rfl⟩
  ·exact ⟨_,rfl,by decide,rfl,rfl,rfl⟩
 refine zT hX ?_;clear hX;intro items x1 x2 x3 x4 x5
 refine Y ⟨[279,297,109],[],dj,false⟩ rfl rfl rfl rfl λ call hc=>?_
 subst hc
 refine (bM (a:=nc) (b:=pF)).mpr ?_
 exact nT W hf hs x4 hw rfl rfl rfl λ ρ' y1 y2 y3 y4 y5=>wZ x3 x2 y1 y2 y3 y4 y5 hP hn hw ne x5 λ ts σ' z1 z2 z3 z4 z5=>h ts σ' (z1.trans x1) z2 z3 z4 z5
theorem w8 {k s kf ks:Nat} (W:WdR fi sk k s 295) (hf:Fst fi kf) (hs:Fst sk ks) (hP:ai po n σ) (hn:n<900000) (hw:look ow σ=some (ay mt fi sk w c j mi da)) (ne:po≠ow)
 (h:∀ (ts:List Int) σ',ts.length=2->ai po (n+4) σ'->look ow σ'=some (.dct (bN s (.tup (.str 295::(ts.map dz++[.str 300]))) (si mt fi sk w c j mi da)))->bw po ow σ σ'->Q (.lst (ts.map tn++[bL 300])) σ'):U tb (d+5) 74 [] [.loc po,.loc ow,.str k] σ Q X:=by
 refine Y ⟨[279,297,109],[],dj,false⟩ rfl rfl rfl rfl λ call hc=>?_
 subst hc
 refine (bM (a:=nc) (b:=pF)).mpr ?_
 exact nT W hf hs rfl hw rfl rfl rfl λ ρ' y1 y2 y3 y4 y5=>w0 y1 y2 y3 y4 y5 hP hn hw ne h
end
theorem sj {r:Int} (h:0<=r) (h':r<3):r=0\/r=1\/r=2:=by lia
theorem w9 {l:List V} {r:Int} (h0:0<=r) (h:r<l.length) {σ:St}:∃ v∈l,cU tb (.tup l) (.int r) σ=some v:=by
 have hl:r.toNat<l.length:=by lia
 refine ⟨l[r.toNat],List.getElem_mem hl,?_⟩
 delta cU bg bD
 dsimp only
 refine rwE (if_pos h0) ?_;refine rwE (if_pos hl) ?_
 simp [hl]
section
variable {call:ah} {d:Nat} {σ:St} {Q:PV} {X:PX} {ρ:Rho} {N:PN} {R:PV} {po ow:Nat} {n c j:Int} {mt fi sk w mi da:V}
theorem or3 {P:Int->Prop} {r:Int} (h:0<=r) (h':r<3) (h0:P 0) (h1:P 1) (h2:P 2):P r:=by
 match r,h,h' with
 | .ofNat 0,_,_=>exact h0
 | .ofNat 1,_,_=>exact h1
 | .ofNat 2,_,_=>exact h2
 | .ofNat (n+3),_,h'=>exact absurd (Int.ofNat_lt.mp h':n+3<3) (by lia)
theorem xa (hP:ai po n σ) (hn:n<900000) (hw:look ow σ=some (ay mt fi sk w c j mi da)) (ne:po≠ow) (h:∀ r σ',(r=0\/r=1\/r=2)->ai po (n+4) σ'->look ow σ'=some (ay mt fi sk w r j mi da)->bw po ow σ σ'->Q (.lst [.int r]) σ'):U tb (d+5) 75 [] [.loc po,.loc ow,.str 159] σ Q X:=by
 exact wk (d:=d) 1 [.f] rfl (And.intro a0 λ Q1 hq=>cM rfl hP (by lia) (by decide) (by decide) λ r σ1 b0 b1 P1 B1=>hq _ _ [.m (ay mt fi sk w c j mi da)] (And.intro (a2 lm8 (B1 _ _ ne.symm hw) a0) (h r _ (sj b0 b1) ((P1.keep But.put ne).up (by lia)) (af (B1 _ _ ne.symm hw)) (bw.put_of B1))))
theorem xb (hP:ai po n σ) (hn:n<900000) (hw:look ow σ=some (ay mt fi sk w c j mi da)) (ne:po≠ow) (h:∀ r σ',(r=0\/r=1\/r=2)->ai po (n+4) σ'->look ow σ'=some (ay mt fi sk w c r mi da)->bw po ow σ σ'->Q (.lst [.int r]) σ'):U tb (d+5) 75 [] [.loc po,.loc ow,.str 161] σ Q X:=by
 exact wk (d:=d) 1 [.f] rfl (And.intro a0 λ Q1 hq=>cM rfl hP (by lia) (by decide) (by decide) λ r σ1 b0 b1 P1 B1=>hq _ _ [.m (ay mt fi sk w c j mi da)] (And.intro (a2 lm8 (B1 _ _ ne.symm hw) a0) (h r _ (sj b0 b1) ((P1.keep But.put ne).up (by lia)) (af (B1 _ _ ne.symm hw)) (bw.put_of B1))))
theorem xd (hP:ai po n σ) (hn:n<900000) (hw:look ow σ=some (ay mt fi sk w c j mi da)) (ne:po≠ow) (h:∀ r σ',0<=r->r<90->ai po (n+4) σ'->look ow σ'=some (ay mt fi sk (dz r) c j mi da)->bw po ow σ σ'->Q (.lst [tn r]) σ'):U tb (d+5) 75 [] [.loc po,.loc ow,.str 163] σ Q X:=by
 exact wk (d:=d) 1 [.f] rfl (And.intro a0 λ Q1 hq=>cM rfl hP (by lia) (by decide) (by decide) λ r σ1 b0 b1 P1 B1=>hq _ _ [.f] (And.intro a0 λ Q2 hq=>de rfl (hq _ _ [.m (ay mt fi sk w c j mi da)] (And.intro (a2 lm8 (B1 _ _ ne.symm hw) a0) (h r _ b0 b1 ((P1.keep But.put ne).up (by lia)) (af (B1 _ _ ne.symm hw)) (bw.put_of B1))))))
theorem xe (hP:ai po n σ) (hn:n<900000) (hw:look ow σ=some (ay mt fi sk w c j mi da)) (ne:po≠ow) (h:∀ r σ',0<=r->r<90->ai po (n+4) σ'->look ow σ'=some (ay mt fi sk w c j (dz r) da)->bw po ow σ σ'->Q (.lst [tn r]) σ'):U tb (d+5) 75 [] [.loc po,.loc ow,.str 169] σ Q X:=by
 exact wk (d:=d) 1 [.f] rfl (And.intro a0 λ Q1 hq=>cM rfl hP (by lia) (by decide) (by decide) λ r σ1 b0 b1 P1 B1=>hq _ _ [.f] (And.intro a0 λ Q2 hq=>de rfl (hq _ _ [.m (ay mt fi sk w c j mi da)] (And.intro (a2 lm8 (B1 _ _ ne.symm hw) a0) (h r _ b0 b1 ((P1.keep But.put ne).up (by lia)) (af (B1 _ _ ne.symm hw)) (bw.put_of B1))))))
theorem qU {most:Int} (h0:0<most) (h1:most<1000000) {n:Int} {ρ:Rho} {σ:St} {Q:PV} (hρ:ρ 279=some (.loc po)) (hP:ai po n σ) (hn:n<1000000) (h:∀ a σ',1<=a->a<most+1->ai po (n+1) σ'->But po σ σ'->Q (.int a) σ') :
 evE tb (U tb (d+1)) (.bin .add (.cI 1) (.call (.g 296) [.v 279,.cI most])) ρ σ Q λ u'=>False :=
 we0 1 [.v 279 (.loc po),.f] (And.intro (a1 hρ a0) λ Q' hq=>cM rfl hP hn h0 h1 λ a σ1 b0 b1 P1 B1=>hq _ _ [] (And.intro a0 (h _ _ (by lia) (by lia) P1 B1)))
theorem tY {t:Int} {ρ:Rho} {Q:PV} (h:Q (dz t) σ):evE tb (U tb (d+1)) (.call (.g 299) [.v 155]) (upd 155 (.int t) ρ) σ Q λ u'=>False :=
 we0 1 [.f] (And.intro a0 λ Q' hq=>de rfl (hq _ _ [] (And.intro a0 h)))
theorem xf {r:Int} (h0:0<=r) (h1:r<3) (σ:St):∃ items,aF (.rng 0 r 1) σ=some (items,σ)/\items.length<=2 :=
 or3 (P:=λ r=>∃ items,aF (.rng 0 r 1) σ=some (items,σ)/\items.length<=2) h0 h1 ⟨_,rfl,by decide⟩ ⟨_,rfl,by decide⟩ ⟨_,rfl,by decide⟩
theorem yT (hP:ai po n σ) (hn:n<900000) (hw:look ow σ=some (ay mt fi sk w c j mi da)) (ne:po≠ow) (h:∀ (ss:List Int) p σ',(∀ s∈ss,1<=s/\s<=30)->ss.length<=2->0<=p->p<50->ai po (n+4) σ'->look ow σ'=some (ay mt fi sk w c j mi (.tup [.tup (ss.map dz),dz p]))->bw po ow σ σ'->Q (.lst [.lst (ss.map tn),tn p]) σ'):U tb (d+5) 75 [] [.loc po,.loc ow,.str 54] σ Q X:=by
 refine wk (d:=d) 1 [.f] rfl (And.intro a0 λ Q1 hq1=>cM rfl hP (by lia) (by decide) (by decide) λ r σ1 b0 b1 P1 B1=>?_)
 refine au (xf b0 b1 σ1) ?_;intro items x1 x2
 refine hq1 _ _ [.s (.lst items),.f] (And.intro (a1 x1 a0) λ Q2 hq2=>sA (by decide) (qU (most:=30) (by decide) (by decide)) rfl P1 (by lia) λ ts σ2 e1 e2 P2 B2=>?_)
 refine hq2 _ _ [.f] (And.intro a0 λ Q3 hq3=>cM rfl P2 (by lia) (by decide) (by decide) λ p σ3 b2 b3 P3 B3=>?_)
 refine hq3 _ _ [.f] (And.intro a0 λ Q4 hq4=>cD (λ t ρ Q h=>tY h) ?_)
 refine hq4 _ _ [.f] (And.intro a0 λ Q5 hq5=>de rfl ?_)
 have B:=(B1.trans B2).trans B3
 have hw1:=B _ _ ne.symm hw
 refine hq5 _ _ [.m (ay mt fi sk w c j mi da),.f] (And.intro (a2 lm8 hw1 a0) λ Q6 hq6=>cD (λ t ρ Q h=>tn1 h) ?_)
 refine hq6 _ _ [] (And.intro a0 ?_)
 exact h ts p _ (λ s hs=>⟨(e2 s hs).1,Int.le_of_lt_add_one (e2 s hs).2⟩) (e1▸x2) b2 b3 ((P3.up (by lia)).keep But.put ne) (af hw1) (bw.put_of B)
theorem xh (hP:ai po n σ) (hn:n<900000) (hw:look ow σ=some (ay mt fi sk w c j mi da)) (ne:po≠ow) (h:∀ k M σ',(k=292/\M=ay mt fi sk (.tup [.int 7,.int 0]) 1 j mi da)\/(k=284/\M=ay mt fi sk (.tup [.int 25,.int 1]) c j mi (.tup [.tup [.tup [.int 1,.int 0],.tup [.int 5,.int 1]],.tup [.int 3,.int 0]]))\/(k=293/\M=ay mt fi sk w c 2 (.tup [.int 35,.int 1]) (.tup [.tup [.tup [.int 25,.int 1],.tup [.int 1,.int 0]],.tup [.int 2,.int 0]]))->ai po (n+4) σ'->look ow σ'=some M->bw po ow σ σ'->Q (.lst [bL k]) σ'):U tb (d+5) 75 [] [.loc po,.loc ow,.str 230] σ Q X:=by
 have hw1:∀ {σ1},But po σ σ1->look ow σ1=some (ay mt fi sk w c j mi da):=λ B=>B _ _ ne.symm hw
 have b2:∀ {σ1:St} {m m':M},But po σ σ1->bw po ow σ (put ow m (put ow m' σ1)):=λ B a n e1 e2 e=>But.put _ _ e2 (bw.put_of B a n e1 e2 e)
 have p2:∀ {σ1:St} {m m':M},ai po (n+1) σ1->ai po (n+4) (put ow m (put ow m' σ1)):=λ P=>(((P.keep But.put ne).keep But.put ne).up (by lia))
 refine wk (d:=d) 1 [.f] rfl (And.intro a0 λ Q1 hq=>cM rfl hP (by lia) (by decide) (by decide) λ r σ1 b0 b1 P1 B1=>?_)
 refine or3 (P:=λ r=>Q1 (.int r) σ1) b0 b1 ?_ ?_ ?_
 ·exact hq _ _ [.m (ay mt fi sk w c j mi da),.m (ay mt fi sk (.tup [.int 7,.int 0]) c j mi da)] (And.intro (a4 lm8 (af (hw1 B1)) lm8 (hw1 B1) a0) (h 292 _ _ (.inl ⟨rfl,rfl⟩) (p2 P1) (af (af (hw1 B1))) (b2 B1)))
 ·exact hq _ _ [.m (ay mt fi sk w c j mi da),.m (ay mt fi sk (.tup [.int 25,.int 1]) c j mi da)] (And.intro (a4 lm8 (af (hw1 B1)) lm8 (hw1 B1) a0) (h 284 _ _ (.inr (.inl ⟨rfl,rfl⟩)) (p2 P1) (af (af (hw1 B1))) (b2 B1)))
 ·exact hq _ _ [.m (ay mt fi sk w c j mi da),.m (ay mt fi sk w c 2 mi da),.m (ay mt fi sk w c 2 (.tup [.int 35,.int 1]) da)] (And.intro (a6 lm8 (af (af (hw1 B1))) lm8 (af (hw1 B1)) lm8 (hw1 B1) a0) (h 293 _ _ (.inr (.inr ⟨rfl,rfl⟩)) ((((P1.keep But.put ne).keep But.put ne).keep But.put ne).up (by lia)) (af (af (af (hw1 B1)))) λ a n e1 e2 e=>But.put _ _ e2 (b2 B1 a n e1 e2 e)))
noncomputable def yb:List V:=[.tup [.str 226,.lst []],.tup [.str 163,.lst [dec (-1) 1]],.tup [.str 163,.lst [.bool true]],.tup [.str 159,.lst [.int 3]],.tup [.str 161,.lst [dec 5 1]],.tup [.str 54,.lst [.lst [.int 1,.int (-1)],.int 0]],.tup [.str 54,.lst [.lst [.int 0,.int 0],.int 0]],.tup [.str 54,.lst [.lst [.int 1]]],.tup [.str 54,.lst [.int 1,.int 0]],.tup [.str 144,.lst [.int 0,.int 0]],.tup [.str 143,.lst [bL 51]],.tup [.str 303,.lst [uQ]],.tup [.str 148,.lst [.int 1]],.tup [.str 230,.lst [bL 304]],.tup [.str 305,.lst [.int 1,.int 0,.int 0,.int 1,.int 0]],.tup [.str 242,.lst [.int 1,.int 2,.int 3]],.tup [.str 169,.lst []],.tup [.str 306,.lst []],.tup [.str 56,.lst []],.tup [.str 307,.lst []],.tup [.str 239,.lst [.int 1,.int 1]],.tup [.str 241,.lst []],.tup [.str 218,.lst []],.tup [.str 212,.lst []],.tup [.str 191,.lst [bL 304]],.tup [.str 235,.lst [.int 1]],.tup [.str 236,.lst []]]
theorem tZ (hP:ai po n σ) (hn:n<900000) (h:∀ v∈yb,∀ σ',ai po (n+1) σ'->But po σ σ'->Q v σ'):U tb (d+5) 76 [] [.loc po] σ Q X:=by
 refine wk (d:=d) 1 [.f] rfl (And.intro a0 λ Q1 hq=>cM rfl hP (by lia) (show (0:Int)<27 by decide) (by decide) λ r σ1 b0 b1 P1 B1=>?_)
 refine au (w9 (l:=yb) (σ:=σ1) b0 b1) ?_;intro v hv e
 exact hq _ _ [.s v] (And.intro (a1 e a0) (h v hv _ P1 B1))
end
inductive pG:V->V->Prop
 | dec (a p:Int):pG (dec a p) (.tup [.int a,.int p])
 | str (k:Nat) (h:k<359):pG (.str k) (.str k)
inductive bo:List V->List V->Prop
 | nil:bo [] []
 | cons {v w:V} {r s:List V}:pG v w->bo r s->bo (v::r) (w::s)
noncomputable abbrev gf (v t:V):Prop:=∃ a p:Int,v=dec a p/\t=.tup [.int a,.int p]
inductive g6:List V->List V->Prop
 | nil:g6 [] []
 | cons {v w:V} {r s:List V}:gf v w->g6 r s->g6 (v::r) (w::s)
theorem nU (t:Int):gf (tn t) (dz t):=by
 delta tn dz
 split
 ·exact ⟨_,_,rfl,rfl⟩
 ·exact ⟨_,_,rfl,rfl⟩
theorem gf.part {v t:V} (h:gf v t):pG v t:=by (refine fX h ?_;clear h;intro a p z2 z3;obtain rfl:=z2;obtain rfl:=z3);exact .dec a p
theorem ik:∀ ts:List Int,g6 (ts.map tn) (ts.map dz)
 | []=>.nil
 | t::r=>.cons (nU t) (ik r)
theorem gi:∀ ts:List Int,bo (ts.map λ t=>tn (bX t)) (ts.map λ t=>dz (bX t))
 | []=>.nil
 | t::r=>.cons (nU _).part (gi r)
theorem g6.parts {a b:List V} (h:g6 a b):bo a b:=by
 induction h with
 | nil=>exact .nil
 | cons h r ih=>exact .cons h.part ih
theorem bo.app {a b a' b':List V} (h:bo a b) (k:bo a' b'):bo (a++a') (b++b'):=by
 induction h with
 | nil=>exact k
 | cons h r ih=>exact .cons h ih
theorem bo.len {a b:List V} (h:bo a b):b.length=a.length:=by
 induction h with
 | nil=>rfl
 | cons h r ih=>exact congrArg (·+1) ih
theorem bo.vok {n:Nat}:∀ {a b:List V},bo a b->im b (n+1)=true
 | _,_,.nil=>rfl
 | _,_,.cons h r=>by
  show (Mine.Internal.vok _ (n+1)&&im _ (n+1))=true
  refine rwE r.vok ?_;refine rwE (Bool.and_true ..) ?_
  cases h with
  | dec a p=>cases n<;>rfl
  | str k h=>exact Nat.ble_eq.mpr h
inductive eI (h t:V):Prop
 | mk (k:Nat) (ps ts:List V) (e1:h=.tup [.str k,.tup ps]) (e2:t=.tup (.str k::ts)) (hp:bo ps ts) (hk:k=102\/k=103\/k=104\/k=295) (hl:ps.length<=5)
inductive sB (h t:V):Prop
 | mk (ps ts:List V) (p q:V) (e1:h=.tup [.tup ps,p]) (e2:t=.tup [.tup ts,q]) (hd:g6 ps ts) (hp:gf p q) (hl:ps.length<=5)
theorem fV {a b:V} {σ:St} (e:a=b) (hd:aL a σ=a) (h:vok a 20=true):bB .ne a b σ=some false:=by
 subst e
 show (eqV (aL a σ) (aL a σ)).map (!·)=_
 (refine rwE hd ?_;refine rwE (lu h) ?_);rfl
theorem jK {x y:List V} (h:(x++y).length<=100000):gA .add (.tup x) (.tup y)=some (.tup (x++y)):=by
 show (if (decide (Op.add=.add)&&decide ((x++y).length<=100000))=true then some (V.tup (x++y)) else none)=_
 refine rwE (decide_eq_true h) ?_;rfl
section
variable {call:ah} {d:Nat} {σ:St} {Q:PV} {X:PX} {ρ:Rho} {N:PN} {R:PV} {po ow st vd:Nat} {n c j:Int} {mt fi sk w mi da fi' sk' w' mi' da':V} {a b e f g:Int}
theorem fW (hc:call=U tb (d+1)) {ps ts:List V} (hp:bo ps ts):∀ {ρ:Rho} {Q:List V->St->Prop},Q ts σ->evC (λ ρ σ Q=>evE tb call (.ite (.call (.g 12) [.v 66,.g 125]) (.v 66) (.meth (.v 66) 269 [])) ρ σ Q λ u'=>False) (.x 66) ps ρ σ Q:=by
 induction hp with
 | nil=>exact λ h=>h
 | cons h1 r ih =>
  intro ρ Q h
  cases h1 with
  | dec a p =>
   refine aN hc ?_
   exact ih h
  | str k hk =>
   conv=>whnf
   exact ih h
theorem pd (hc:call=U tb (d+1)) {ps ts:List V} (hp:g6 ps ts):∀ {ρ:Rho} {Q:List V->St->Prop},Q ts σ->evC (λ ρ σ Q=>evE tb call (.meth (.v 155) 269 []) ρ σ Q λ u'=>False) (.x 155) ps ρ σ Q:=by
 induction hp with
 | nil=>exact λ h=>h
 | cons h1 r ih =>
  intro ρ Q h
  refine fX h1 ?_;clear h1;intro a p z2 z3;obtain rfl:=z2;obtain rfl:=z3
  refine aN hc ?_
  exact ih h
theorem eQ {k:Nat} {ps ts:List V} (h:bo ps ts) (hk:k=102\/k=103\/k=104\/k=295) {n:Nat}:vok (.tup (.str k::ts)) (n+2)=true:=by
 show (vok (.str k) (n+1)&&im ts (n+1))=true
 refine rwE h.vok ?_;refine rwE (Bool.and_true ..) ?_
 rcases hk with rfl | rfl | rfl | rfl<;>rfl
theorem gj (hc:call=U tb (d+2)) {v t:V} (h0:eI v t) (h:Q t σ):call 65 [] [v] σ Q X:=by
 obtain ⟨k,ps,ts,rfl,rfl,hp,hk,hl⟩:=h0
 refine Y ⟨[146],[],ez,false⟩ rfl rfl rfl hc λ call hc=>?_
 refine fW hc hp ?_
 conv=>whnf
 refine rwE (jK (by have:=hp.len;simp only [List.length_append,List.length_singleton];lia)) ?_
 exact h
theorem qV (hc:call=U tb (d+2)) (hs:look st σ=some (stV (mat a b c e f g) fi sk vd)) {cc jj:Int} (hv:look vd σ=some (vdM w cc jj mi da)) (ho:look ow σ=some (ay (.lst [.int a,.int b,.int c,.int e,.int f,.int g]) fi' sk' w' cc jj mi' da')) (h1:eI fi fi') (h2:eI sk sk') (h3:gf w w') (h4:gf mi mi') (h5:sB da da') (h:Q (.bool true) σ):call 77 [] [.loc st,.loc ow] σ Q X:=by
 obtain ⟨k1,ps1,ts1,rfl,rfl,hp1,hk1,hl1⟩:=h1
 obtain ⟨k2,ps2,ts2,rfl,rfl,hp2,hk2,hl2⟩:=h2
 refine fX h3 ?_;clear h3;intro wa wp z2 z3;obtain rfl:=z2;obtain rfl:=z3
 refine fX h4 ?_;clear h4;intro ma mp z2 z3;obtain rfl:=z2;obtain rfl:=z3
 obtain ⟨ps,ts,p,q,rfl,rfl,hds,⟨pa,pp,rfl,rfl⟩,hl⟩:=h5
 refine Y ⟨[123,297],[],dM,false⟩ rfl rfl rfl hc λ call hc=>?_
 conv=>whnf
 refine rwE (ak hs) ?_
 conv=>whnf
 refine rwE (ak hs) ?_
 refine o8 hc ?_
 refine aN hc ?_
 refine aN hc ?_
 refine aN hc ?_
 refine aN hc ?_
 refine aN hc ?_
 refine aN hc ?_
 conv=>whnf
 refine rwE (aQ ho) ?_
 conv=>whnf
 refine rwE (beq_self_eq_true a) ?_;refine rwE (beq_self_eq_true b) ?_;refine rwE (beq_self_eq_true c) ?_;refine rwE (beq_self_eq_true e) ?_;refine rwE (beq_self_eq_true f) ?_;refine rwE (beq_self_eq_true g) ?_
 conv=>whnf
 refine rwE (ak hs) ?_
 conv=>whnf
 refine rwE (ak hs) ?_
 refine ⟨rfl,?_⟩
 refine fW hc hp1 ?_
 conv=>whnf
 refine rwE (jK (by have:=hp1.len;simp only [List.length_append,List.length_singleton];lia)) ?_
 conv=>whnf
 refine rwE (aQ ho) ?_
 conv=>whnf
 refine rwE (show bB .ne (.tup ([.str k1]++ts1)) (.tup (.str k1::ts1)) σ=some false from fV rfl rfl (eQ hp1 hk1)) ?_
 refine ⟨rfl,?_⟩
 refine fW hc hp2 ?_
 conv=>whnf
 refine rwE (jK (by have:=hp2.len;simp only [List.length_append,List.length_singleton];lia)) ?_
 conv=>whnf
 refine rwE (aQ ho) ?_
 conv=>whnf
 refine rwE (show bB .ne (.tup ([.str k2]++ts2)) (.tup (.str k2::ts2)) σ=some false from fV rfl rfl (eQ hp2 hk2)) ?_
 conv=>whnf
 refine rwE (aQ hv) ?_
 refine ⟨rfl,?_⟩
 refine pd hc hds ?_
 refine aN hc ?_
 conv=>whnf
 refine rwE (aQ ho) ?_
 conv=>whnf
 rw [show bB .ne (.tup [.tup ts,.tup [.int pa,.int pp]]) (.tup [.tup ts,.tup [.int pa,.int pp]]) σ=some false from fV rfl rfl (by
  show (im ts 18&&true)=true
  refine rwE hds.parts.vok ?_;rfl)]
 conv=>whnf
 refine rwE (aQ hv) ?_
 refine aN hc ?_
 conv=>whnf
 refine rwE (aQ hv) ?_
 conv=>whnf
 refine rwE (aQ hv) ?_
 conv=>whnf
 refine rwE (aQ hv) ?_
 refine aN hc ?_
 conv=>whnf
 refine rwE (aQ ho) ?_
 conv=>whnf
 refine rwE (aQ ho) ?_
 conv=>whnf
 refine rwE (aQ ho) ?_
 conv=>whnf
 refine rwE (aQ ho) ?_
 conv=>whnf
 refine rwE (beq_self_eq_true wa) ?_;refine rwE (beq_self_eq_true wp) ?_;refine rwE (beq_self_eq_true cc) ?_;refine rwE (beq_self_eq_true jj) ?_;refine rwE (beq_self_eq_true ma) ?_;refine rwE (beq_self_eq_true mp) ?_
 exact h
theorem ja (hc:call=U tb (d+4)) {x0 y0 x1 y1 x2 y2 x3 y3:Int} (h:Q (.tup (box (dQ x0 y0) (dQ x1 y1) (dQ x2 y2) (dQ x3 y3))) σ):call 36 [] [aa (box (pnt x0 y0) (pnt x1 y1) (pnt x2 y2) (pnt x3 y3))] σ Q X:=by
 refine Y ⟨[68],[],f4,false⟩ rfl rfl rfl hc λ call hc=>?_
 refine gY (d:=d+1) hc (q0:=dQ x0 y0) (q1:=dQ x1 y1) (q2:=dQ x2 y2) (q3:=dQ x3 y3) (λ hpq=>?_) h
 intro call σ Q X hc h
 rcases hpq with ⟨rfl,rfl⟩ | ⟨rfl,rfl⟩ | ⟨rfl,rfl⟩ | ⟨rfl,rfl⟩
 ·exact ed hc h
 ·exact ed hc h
 ·exact ed hc h
 ·exact ed hc h
end
inductive kt:V->V->Prop
 | fill {r:Nat} {x0 y0 x1 y1 x2 y2 x3 y3:Int} {fi t:V} (hr:r=253\/r=254) (hc:eI fi t):kt (.tup [.str 97,.str r,aa (box (pnt x0 y0) (pnt x1 y1) (pnt x2 y2) (pnt x3 y3)),fi]) (.tup [.str 97,.str r,.tup (box (dQ x0 y0) (dQ x1 y1) (dQ x2 y2) (dQ x3 y3)),t])
 | stroke {x0 y0 x1 y1 x2 y2 x3 y3:Int} {sk t w u:V} (hc:eI sk t) (hw:gf w u):kt (.tup [.str 98,aa (box (pnt x0 y0) (pnt x1 y1) (pnt x2 y2) (pnt x3 y3)),sk,w]) (.tup [.str 98,.tup (box (dQ x0 y0) (dQ x1 y1) (dQ x2 y2) (dQ x3 y3)),t,u])
inductive bp:List V->List V->Prop
 | nil:bp [] []
 | cons {v w:V} {r s:List V}:kt v w->bp r s->bp (v::r) (w::s)
theorem bp.app {a b a' b':List V} (h:bp a b) (k:bp a' b'):bp (a++a') (b++b'):=by
 induction h with
 | nil=>exact k
 | cons h _ ih=>exact .cons h ih
theorem bp.len {a b:List V} (h:bp a b):b.length=a.length:=by
 induction h with
 | nil=>rfl
 | cons _ _ ih=>refine rwE List.length_cons ?_;refine rwE List.length_cons ?_;refine rwE ih ?_;rfl
theorem eI.vok {h t:V} (x:eI h t) {n:Nat}:Mine.Internal.vok t (n+2)=true:=by
 obtain ⟨k,ps,ts,rfl,rfl,hp,hk,hl⟩:=x
 exact eQ hp hk
theorem gf.vok {h t:V} (x:gf h t) {n:Nat}:Mine.Internal.vok t (n+1)=true:=by
 refine fX x ?_;clear x;intro a p z2 z3;obtain rfl:=z2;obtain rfl:=z3
 rfl
theorem zO {a b c d:V} {n:Nat}:Mine.Internal.vok (.tup [a,b,c,d]) (n+1)=(Mine.Internal.vok a n&&(Mine.Internal.vok b n&&(Mine.Internal.vok c n&&(Mine.Internal.vok d n&&true)))):=rfl
theorem kt.vok {a b:V} (h:kt a b):Mine.Internal.vok b 19=true:=by
 cases h with
 | fill hr hc =>
  refine rwE zO ?_;refine rwE (hc.vok (n:=16)) ?_
  rcases hr with rfl | rfl<;>rfl
 | stroke hc hw =>
  refine rwE zO ?_;refine rwE (hc.vok (n:=16)) ?_;refine rwE (hw.vok (n:=17)) ?_
  rfl
theorem bp.vok {a b:List V} (h:bp a b):im b 19=true:=by
 induction h with
 | nil=>rfl
 | cons h _ ih =>
  show (Mine.Internal.vok _ 19&&im _ 19)=true
  (refine rwE h.vok ?_;refine rwE ih ?_);rfl
section
variable {call:ah} {d:Nat} {σ:St} {Q:PV} {X:PX} {ρ:Rho} {N:PN} {R:PV} {po ow st vd:Nat} {n c j:Int} {mt fi sk w mi da fi' sk' w' mi' da':V} {a b e f g:Int}
theorem pe (hc:call=U tb (d+5)) {v t:V} (hm:kt v t) (h:Q t σ):call 66 [] [v] σ Q X:=by
 refine Y ⟨[184],[],f6,false⟩ rfl rfl rfl hc λ call hc=>?_
 cases hm with
 | fill hr hcl =>
  refine ja hc ?_
  refine gj (d:=d+2) hc hcl ?_
  exact h
 | stroke hcl hw =>
  refine fX hw ?_;clear hw;intro a p z2 z3;obtain rfl:=z2;obtain rfl:=z3
  refine ja hc ?_
  refine gj (d:=d+2) hc hcl ?_
  refine aN (d:=d+3) hc ?_
  exact h
theorem my (hc:call=U tb (d+5)) {ps ts:List V} (hp:bp ps ts):∀ {ρ:Rho} {Q:List V->St->Prop},Q ts σ->evC (λ ρ σ Q=>evE tb call (.call (.g 337) [.v 184]) ρ σ Q λ u'=>False) (.x 184) ps ρ σ Q:=by
 induction hp with
 | nil=>exact λ h=>h
 | cons h1 r ih =>
  intro ρ Q h
  refine pe hc h1 ?_
  exact ih h
end
noncomputable def fA (k:Nat) (P fi sk w:V):List V :=
 (if [56,283,284,52].contains k then [.tup [.str 97,.str 254,P,fi]] else if [285,286,287].contains k then [.tup [.str 97,.str 253,P,fi]] else []) ++
 (if [312,313,284,286,52,287].contains k then [.tup [.str 98,P,sk,w]] else [])
theorem qW {k:Nat} {x0 y0 x1 y1 x2 y2 x3 y3:Int} {fi t sk u w v:V} (h1:eI fi t) (h2:eI sk u) (h3:gf w v):bp (kq k (box (pnt x0 y0) (pnt x1 y1) (pnt x2 y2) (pnt x3 y3)) fi sk w) (fA k (.tup (box (dQ x0 y0) (dQ x1 y1) (dQ x2 y2) (dQ x3 y3))) t u v):=by
 delta kq fA
 refine bp.app ?_ ?_
 ·split
  ·exact .cons (.fill (.inr rfl) h1) .nil
  ·split
   ·exact .cons (.fill (.inl rfl) h1) .nil
   ·exact .nil
 ·split
  ·exact .cons (.stroke h2 h3) .nil
  ·exact .nil
theorem ph (k:Nat) (P fi sk w:V):(fA k P fi sk w).length<=2:=by
 delta fA
 refine rwE List.length_append ?_
 have h1:∀ {b:Bool} {x:V},(if b then [x] else []).length<=1:=λ {b x}=>by cases b<;>simp
 have h2:∀ {b c:Bool} {x y:V},(if b then [x] else if c then [y] else []).length<=1:=λ {b c x y}=>by cases b<;>cases c<;>simp
 have e1:=h1 (b:=[312,313,284,286,52,287].contains k) (x:=.tup [.str 98,P,sk,w])
 have e2:=h2 (b:=[56,283,284,52].contains k) (c:=[285,286,287].contains k) (x:=.tup [.str 97,.str 254,P,fi]) (y:=.tup [.str 97,.str 253,P,fi])
 lia
noncomputable abbrev tq (a b c e f g x y:Int):V:=dQ (a*x+c*y+f) (b*x+e*y+g)
noncomputable abbrev t4 (a b c e f g x y w t:Int):V:=.tup (box (tq a b c e f g x y) (tq a b c e f g (x+w) y) (tq a b c e f g (x+w) (y+t)) (tq a b c e f g x (y+t)))
section
variable {call:ah} {d:Nat} {σ:St} {Q:PV} {X:PX} {ρ:Rho} {N:PN} {R:PV} {po ow st vd:Nat} {cc jj:Int} {fi sk w mi da:V} {a b c e f g x y u t:Int} {mt:V}
noncomputable abbrev xi:List S:=[
 .asg (.tup [.c 51,.c 52,.c 53,.c 54,.c 55,.c 56]) (.sub (.v 297) (.cS 95)),
 .asg (.x 309) (.lst false [.tup [.v 62,.v 63],.tup [.bin .add (.v 62) (.v 163),.v 63],.tup [.bin .add (.v 62) (.v 163),.bin .add (.v 63) (.v 241)],.tup [.v 62,.bin .add (.v 63) (.v 241)]]),
 .asg (.x 310) (.comp (.tup [.tup [.bin .add (.bin .add (.bin .mul (.v 51) (.v 93)) (.bin .mul (.v 53) (.v 224))) (.v 55),.cI 0],.tup [.bin .add (.bin .add (.bin .mul (.v 52) (.v 93)) (.bin .mul (.v 54) (.v 224))) (.v 56),.cI 0]]) (.tup [.x 93,.x 224]) (.v 309)),
 .asg (.x 68) (.tup [.tup [.tup [.cS 73,.sub (.v 310) (.cI 0)],.tup [.cS 80,.sub (.v 310) (.cI 1)],.tup [.cS 80,.sub (.v 310) (.cI 2)],.tup [.cS 80,.sub (.v 310) (.cI 3)],.tup [.cS 67]]]),
 .asg (.x 46) (.lst true [])]
noncomputable abbrev sC:List S:=[.if_ (.cmp (.v 109) .in_ (.call (.g 311) [])) [
 .ex (.meth (.v 46) 90 [.tup [.cS 97,.sub (.call (.g 311) []) (.v 109),.v 68,.sub (.v 297) (.cS 97)]])] [],
 .if_ (.cmp (.v 109) .in_ (.tup [.cS 312,.cS 313,.cS 284,.cS 286,.cS 52,.cS 287])) [
  .ex (.meth (.v 46) 90 [.tup [.cS 98,.v 68,.sub (.v 297) (.cS 98),.sub (.v 297) (.cS 83)]])] [],
 .ret (.v 46)]
theorem nd7:([56,283,284,52,285,286,287]:List Nat).Nodup:=by decide
theorem zP {P:Nat->Prop} {k:Nat} (hk:k=312\/k=313\/k=56\/k=283\/k=285\/k=284\/k=286\/k=52\/k=287\/k=320) (h1:P 312) (h2:P 313) (h3:P 56) (h4:P 283) (h5:P 285) (h6:P 284) (h7:P 286) (h8:P 52) (h9:P 287) (h10:P 320):P k:=by
 rcases hk with rfl | rfl | rfl | rfl | rfl | rfl | rfl | rfl | rfl | rfl<;>assumption
theorem xj {k l:Nat} {P:V} (hk:k=312\/k=313\/k=56\/k=283\/k=285\/k=284\/k=286\/k=52\/k=287\/k=320) (ho:∀ m,look ow ((l,m)::σ)=some (ay mt fi sk w cc jj mi da))
 (h1:ρ 109=some (.str k)) (h2:ρ 46=some (.loc l)) (h3:ρ 68=some P) (h4:ρ 297=some (.loc ow)) (h:R (.loc l) ((l,.lst (fA k P fi sk w))::σ)):execs tb (U tb (d+1)) sC ρ ((l,.lst [])::σ) N R X:=by
 refine zP (P:=λ k=>ρ 109=some (.str k)->R (.loc l) ((l,.lst (fA k P fi sk w))::σ)->execs tb (U tb (d+1)) sC ρ ((l,.lst [])::σ) N R X) hk ?_ ?_ ?_ ?_ ?_ ?_ ?_ ?_ ?_ ?_ h1 h
 ·exact λ h1 h=>ws0 1 [.v 109 (.str 312),.v 109 (.str 312),.v 46 (.loc l),.i 0,.v 68 P,.v 297 (.loc ow),.m (ay mt fi sk w cc jj mi da),.v 297 (.loc ow),.m (ay mt fi sk w cc jj mi da),.i 0,.v 46 (.loc l)] rfl (And.intro (a8 h2 lk0 rfl (ho _) h4 (ho _) h4 h3 (a4 rfl h2 h1 nd7 (a1 h1 (a0)))) h)
 ·exact λ h1 h=>ws0 1 [.v 109 (.str 313),.v 109 (.str 313),.v 46 (.loc l),.i 0,.v 68 P,.v 297 (.loc ow),.m (ay mt fi sk w cc jj mi da),.v 297 (.loc ow),.m (ay mt fi sk w cc jj mi da),.i 0,.v 46 (.loc l)] rfl (And.intro (a8 h2 lk0 rfl (ho _) h4 (ho _) h4 h3 (a4 rfl h2 h1 nd7 (a1 h1 (a0)))) h)
 ·exact λ h1 h=>ws0 1 [.v 109 (.str 56),.v 46 (.loc l),.i 0,.v 109 (.str 56),.v 68 P,.v 297 (.loc ow),.m (ay mt fi sk w cc jj mi da),.i 0,.v 109 (.str 56),.v 46 (.loc l)] rfl (And.intro (a8 h2 h1 lk0 rfl (ho _) h4 h3 h1 (a4 nd7 rfl h2 nd7 (a1 h1 (a0)))) h)
 ·exact λ h1 h=>ws0 1 [.v 109 (.str 283),.v 46 (.loc l),.i 0,.v 109 (.str 283),.v 68 P,.v 297 (.loc ow),.m (ay mt fi sk w cc jj mi da),.i 0,.v 109 (.str 283),.v 46 (.loc l)] rfl (And.intro (a8 h2 h1 lk0 rfl (ho _) h4 h3 h1 (a4 nd7 rfl h2 nd7 (a1 h1 (a0)))) h)
 ·exact λ h1 h=>ws0 1 [.v 109 (.str 285),.v 46 (.loc l),.i 0,.v 109 (.str 285),.v 68 P,.v 297 (.loc ow),.m (ay mt fi sk w cc jj mi da),.i 0,.v 109 (.str 285),.v 46 (.loc l)] rfl (And.intro (a8 h2 h1 lk0 rfl (ho _) h4 h3 h1 (a4 nd7 rfl h2 nd7 (a1 h1 (a0)))) h)
 ·exact λ h1 h=>ws0 1 [.v 109 (.str 284),.v 46 (.loc l),.i 0,.v 109 (.str 284),.v 68 P,.v 297 (.loc ow),.m (ay mt fi sk w cc jj mi da),.i 0,.v 109 (.str 284),.v 46 (.loc l),.i 0,.v 68 P,.v 297 (.loc ow),.m (ay mt fi sk w cc jj mi da),.v 297 (.loc ow),.m (ay mt fi sk w cc jj mi da),.i 0,.v 46 (.loc l)] rfl (And.intro (a8 h2 lk1 rfl (ho _) h4 (ho _) h4 h3 (a8 rfl h2 h1 lk0 rfl (ho _) h4 h3 (a6 h1 nd7 rfl h2 nd7 h1 (a0)))) h)
 ·exact λ h1 h=>ws0 1 [.v 109 (.str 286),.v 46 (.loc l),.i 0,.v 109 (.str 286),.v 68 P,.v 297 (.loc ow),.m (ay mt fi sk w cc jj mi da),.i 0,.v 109 (.str 286),.v 46 (.loc l),.i 0,.v 68 P,.v 297 (.loc ow),.m (ay mt fi sk w cc jj mi da),.v 297 (.loc ow),.m (ay mt fi sk w cc jj mi da),.i 0,.v 46 (.loc l)] rfl (And.intro (a8 h2 lk1 rfl (ho _) h4 (ho _) h4 h3 (a8 rfl h2 h1 lk0 rfl (ho _) h4 h3 (a6 h1 nd7 rfl h2 nd7 h1 (a0)))) h)
 ·exact λ h1 h=>ws0 1 [.v 109 (.str 52),.v 46 (.loc l),.i 0,.v 109 (.str 52),.v 68 P,.v 297 (.loc ow),.m (ay mt fi sk w cc jj mi da),.i 0,.v 109 (.str 52),.v 46 (.loc l),.i 0,.v 68 P,.v 297 (.loc ow),.m (ay mt fi sk w cc jj mi da),.v 297 (.loc ow),.m (ay mt fi sk w cc jj mi da),.i 0,.v 46 (.loc l)] rfl (And.intro (a8 h2 lk1 rfl (ho _) h4 (ho _) h4 h3 (a8 rfl h2 h1 lk0 rfl (ho _) h4 h3 (a6 h1 nd7 rfl h2 nd7 h1 (a0)))) h)
 ·exact λ h1 h=>ws0 1 [.v 109 (.str 287),.v 46 (.loc l),.i 0,.v 109 (.str 287),.v 68 P,.v 297 (.loc ow),.m (ay mt fi sk w cc jj mi da),.i 0,.v 109 (.str 287),.v 46 (.loc l),.i 0,.v 68 P,.v 297 (.loc ow),.m (ay mt fi sk w cc jj mi da),.v 297 (.loc ow),.m (ay mt fi sk w cc jj mi da),.i 0,.v 46 (.loc l)] rfl (And.intro (a8 h2 lk1 rfl (ho _) h4 (ho _) h4 h3 (a8 rfl h2 h1 lk0 rfl (ho _) h4 h3 (a6 h1 nd7 rfl h2 nd7 h1 (a0)))) h)
 ·exact λ h1 h=>ws0 1 [.v 109 (.str 320),.v 109 (.str 320),.v 46 (.loc l)] rfl (And.intro (a4 h2 h1 nd7 h1 (a0)) h)
theorem lm {k:Nat} (hk:k=312\/k=313\/k=56\/k=283\/k=285\/k=284\/k=286\/k=52\/k=287\/k=320) (hc:call=U tb (d+2)) (ho:look ow σ=some (ay (.lst [.int a,.int b,.int c,.int e,.int f,.int g]) fi sk w cc jj mi da)) (ha:sm 90 a) (hb:sm 90 b) (hcc:sm 90 c) (he:sm 90 e) (hx:sm 80 x) (hy:sm 80 y) (hu:sm 80 u) (ht:sm 80 t)
 (h:∀ l,(∀ p∈σ,p.1≠l)->Q (.loc l) ((l,.lst (fA k (t4 a b c e f g x y u t) fi sk w))::σ)):call 78 [] [.loc ow,.str k,.int x,.int y,.int u,.int t] σ Q X:=by
 have hxw:=hx.add hu
 have hyt:=hy.add ht
 refine Y ⟨[297,109,62,63,163,241],[],f8,false⟩ rfl rfl rfl hc λ call hc=>?_
 subst hc
 refine (bM (a:=xi) (b:=sC)).mpr ?_
 refine ws0 1 [.m (ay (.lst [.int a,.int b,.int c,.int e,.int f,.int g]) fi sk w cc jj mi da)] rfl (And.intro (a8 he.big hyt.big hb.big hx.big hcc.big hyt.big ha.big hx.big (a8 he.big hyt.big hb.big hxw.big hcc.big hyt.big ha.big hxw.big (a8 he.big hy.big hb.big hxw.big hcc.big hy.big ha.big hxw.big (a8 he.big hy.big hb.big hx.big hcc.big hy.big ha.big hx.big (a1 ho (a0)))))) λ l hl=>And.intro a0 ?_)
 exact xj hk (λ m=>(aD (aw ho hl)).trans ho) rfl rfl rfl rfl (h l hl)
end
set_option genCtorIdx false
structure Sm6 (B:Nat) (a b c e f g:Int):Prop where
 a:sm B a
 b:sm B b
 c:sm B c
 e:sm B e
 f:sm B f
 g:sm B g
theorem Sm6.mono {B B':Nat} {a b c e f g:Int} (h:Sm6 B a b c e f g) (hB:B<=B'):Sm6 B' a b c e f g:=⟨h.a.mono hB,h.b.mono hB,h.c.mono hB,h.e.mono hB,h.f.mono hB,h.g.mono hB⟩
inductive fJ (B:Nat) (t:Nat×Nat×Nat) (σ:St):Prop
 | mk (a b c e f g cc jj:Int) (fi sk w mi da fi' sk' w' mi' da':V) (h1:look t.1 σ=some (stV (mat a b c e f g) fi sk t.2.1)) (h2:look t.2.1 σ=some (vdM w cc jj mi da))
  (h3:look t.2.2 σ=some (ay (.lst [.int a,.int b,.int c,.int e,.int f,.int g]) fi' sk' w' cc jj mi' da')) (hs:Sm6 B a b c e f g) (hcs:eI fi fi'/\eI sk sk'/\gf w w'/\gf mi mi'/\sB da da')
theorem fJ.keep {B B':Nat} {t:Nat×Nat×Nat} {σ σ':St} (h:fJ B t σ) (hB:B<=B') (k:∀ a∈[t.1,t.2.1,t.2.2],∀ n,look a σ=some n->look a σ'=some n):fJ B' t σ':=by
 obtain ⟨a,b,c,e,f,g,cc,jj,fi,sk,w,mi,da,fi',sk',w',mi',da',h1,h2,h3,⟨s1,s2,s3,s4,s5,s6⟩,h4⟩:=h
 exact ⟨a,b,c,e,f,g,cc,jj,fi,sk,w,mi,da,fi',sk',w',mi',da',k _ (by simp) _ h1,k _ (by simp) _ h2,k _ (by simp) _ h3,⟨s1.mono hB,s2.mono hB,s3.mono hB,s4.mono hB,s5.mono hB,s6.mono hB⟩,h4⟩
set_option genInjectivity false in
structure Fx where
 po:Nat
 pt:Nat
 sh:Nat
 tbl:Nat
 tr:Nat
 o:Nat
 mrk:Nat
 cl:Nat
 du:Nat
 pl:Nat
 lp:Nat
noncomputable abbrev Fx.l (F:Fx):List Nat:=[F.po,F.pt,F.sh,F.tbl,F.mrk,F.cl,F.du,F.pl,F.lp]
noncomputable abbrev adr (T:List (Nat×Nat×Nat)):List Nat:=T.flatMap λ t=>[t.1,t.2.1,t.2.2]
structure Inv (F:Fx) (i:Nat) (n:Int) (t:Nat×Nat×Nat) (T:List (Nat×Nat×Nat)) (ms ds:List V) (σ:St):Prop where
 po:ai F.po n σ
 pt:look F.pt σ=some (ptM F.sh t.1 F.pl F.o F.mrk F.cl (aa []))
 sh:look F.sh σ=some (shM F.tbl F.tr)
 tbl:look F.tbl σ=some lE
 mrk:look F.mrk σ=some (.lst ms)
 cl:look F.cl σ=some (.lst (ms.map λ u'=>.tup []))
 du:look F.du σ=some (.lst ds)
 pl:look F.pl σ=some (.lst (T.map λ t=>.loc t.1))
 lp:look F.lp σ=some (.lst (T.map λ t=>.loc t.2.2))
 mr:bp ms ds
 ml:ms.length<=2*i
 tl:T.length<=i
 now:fJ (4*i) t σ
 old:∀ t∈T,fJ (4*i) t σ
 nd:(F.l++adr (t::T)).Nodup
structure Nms (F:Fx) (ow:Nat) (ρ:Rho):Prop where
 po:ρ 279=some (.loc F.po)
 pt:ρ 183=some (.loc F.pt)
 ow:ρ 297=some (.loc ow)
 lp:ρ 178=some (.loc F.lp)
 du:ρ 318=some (.loc F.du)
section
variable {F:Fx} {i:Nat} {n n':Int} {t:Nat×Nat×Nat} {T:List (Nat×Nat×Nat)} {ms ds:List V} {σ σ':St}
theorem Inv.st_ne (I:Inv F i n t T ms ds σ) {x:Nat} (hx:x∈F.l\/x∈adr T):x≠t.1/\x≠t.2.1/\x≠t.2.2:=by
 have nd:=I.nd
 rw [show F.l++adr (t::T)=F.l++([t.1,t.2.1,t.2.2]++adr T) from rfl,List.nodup_append] at nd
 refine bq nd ?_;clear nd;intro z0 n2 n3
 rw [List.nodup_append] at n2
 rcases hx with hx | hx
 ·exact ⟨n3 x hx _ (by simp),n3 x hx _ (by simp),n3 x hx _ (by simp)⟩
 ·exact ⟨(n2.2.2 _ (by simp) x hx).symm,(n2.2.2 _ (by simp) x hx).symm,(n2.2.2 _ (by simp) x hx).symm⟩
theorem Inv.st3 (I:Inv F i n t T ms ds σ):t.1≠t.2.1/\t.1≠t.2.2/\t.2.1≠t.2.2:=by
 have nd:=I.nd
 rw [show F.l++adr (t::T)=F.l++([t.1,t.2.1,t.2.2]++adr T) from rfl,List.nodup_append] at nd
 refine bq nd ?_;clear nd;intro z0 n2 z2
 rw [List.nodup_append] at n2
 have:=n2.1
 simp at this
 exact ⟨this.1.1,this.1.2,this.2⟩
theorem Inv.fx (I:Inv F i n t T ms ds σ):F.l.Nodup:=(List.nodup_append.mp I.nd).1
theorem Inv.nn (I:Inv F i n t T ms ds σ) (x y:Nat) (h:(Nat.blt x y&&Nat.blt y 9)=true):F.l.getD x 0≠F.l.getD y 0:=by
 have h:=an2 h
 have h2:y<F.l.length:=Nat.le_of_ble_eq_true h.2
 have h1:x<y:=Nat.le_of_ble_eq_true h.1
 have e:∀ {k:Nat} (hk:k<F.l.length),F.l.getD k 0=F.l[k]:=λ hk=>by (refine rwE (List.getD_eq_getElem?_getD) ?_;refine rwE (List.getElem?_eq_getElem hk) ?_);rfl
 refine rwE (e (Nat.lt_trans h1 h2)) ?_;refine rwE (e h2) ?_
 exact List.pairwise_iff_getElem.mp I.fx x y _ _ h1
theorem Inv.old_fx (I:Inv F i n t T ms ds σ) {x y:Nat} (hx:x∈F.l) (hy:y∈adr T):y≠x:=by
 have nd:=I.nd
 rw [List.nodup_append] at nd
 exact (nd.2.2 x hx y (List.mem_append_right [t.1,t.2.1,t.2.2] hy)).symm
theorem eJ {t:Nat×Nat×Nat} {x:Nat} (ht:t∈T) (hx:x∈[t.1,t.2.1,t.2.2]):x∈adr T:=List.mem_flatMap.mpr ⟨t,ht,hx⟩
theorem Inv.step (I:Inv F i n t T ms ds σ) (hp:ai F.po n' σ') (hk:∀ a n,a≠F.po->a≠t.1->a≠t.2.1->a≠t.2.2->look a σ=some n->look a σ'=some n) (hg:fJ (4*(i+1)) t σ'):Inv F (i+1) n' t T ms ds σ':=by
 have k:∀ x∈F.l,x≠F.po->∀ n,look x σ=some n->look x σ'=some n:=λ x hx hne n e=>by
  refine bq (I.st_ne (.inl hx)) ?_;intro a1 a2 a3
  exact hk x n hne a1 a2 a3 e
 refine ⟨hp,k _ (by simp) (Ne.symm (I.nn 0 1 rfl)) _ I.pt,k _ (by simp) (Ne.symm (I.nn 0 2 rfl)) _ I.sh,k _ (by simp) (Ne.symm (I.nn 0 3 rfl)) _ I.tbl,k _ (by simp) (Ne.symm (I.nn 0 4 rfl)) _ I.mrk,k _ (by simp) (Ne.symm (I.nn 0 5 rfl)) _ I.cl,k _ (by simp) (Ne.symm (I.nn 0 6 rfl)) _ I.du,k _ (by simp) (Ne.symm (I.nn 0 7 rfl)) _ I.pl,k _ (by simp) (Ne.symm (I.nn 0 8 rfl)) _ I.lp,I.mr,by have:=I.ml;lia,by have:=I.tl;lia,hg,λ s hs=>(I.old s hs).keep (by lia) λ a ha n e=>?_,I.nd⟩
 have ha':=eJ hs ha
 refine bq (I.st_ne (.inr ha')) ?_;intro a1 a2 a3
 exact hk a n (I.old_fx (by simp) ha') a1 a2 a3 e
theorem Inv.drew (I:Inv F i n t T ms ds σ) (hp:ai F.po n' σ') (hb:But F.po σ σ'):Inv F i n' t T ms ds σ':=by
 have g:∀ s∈t::T,fJ (4*i) s σ->fJ (4*i) s σ':=λ s hs G=>G.keep (Nat.le_refl _) λ a ha n e=>by
  have nd:=I.nd
  rw [List.nodup_append] at nd
  exact hb a n (nd.2.2 F.po (by simp) a (eJ hs ha)).symm e
 exact ⟨hp,hb _ _ (Ne.symm (I.nn 0 1 rfl)) I.pt,hb _ _ (Ne.symm (I.nn 0 2 rfl)) I.sh,hb _ _ (Ne.symm (I.nn 0 3 rfl)) I.tbl,hb _ _ (Ne.symm (I.nn 0 4 rfl)) I.mrk,hb _ _ (Ne.symm (I.nn 0 5 rfl)) I.cl,hb _ _ (Ne.symm (I.nn 0 6 rfl)) I.du,hb _ _ (Ne.symm (I.nn 0 7 rfl)) I.pl,hb _ _ (Ne.symm (I.nn 0 8 rfl)) I.lp,I.mr,I.ml,I.tl,g _ (List.mem_cons_self ..) I.now,λ s hs=>g _ (List.mem_cons_of_mem _ hs) (I.old s hs),I.nd⟩
theorem Inv.same (I:Inv F i n t T ms ds σ) (hb:az σ σ'):Inv F i n t T ms ds σ':=I.drew (I.po.ok hb) hb.but
theorem Inv.next (I:Inv F i n t T ms ds σ) (hn:n<=n'):Inv F (i+1) n' t T ms ds σ :=
 I.step (I.po.up hn) (λ u' u' u' u' u' u' e=>e) (I.now.keep (by lia) λ u' u' u' e=>e)
theorem Inv.put_po (I:Inv F i n t T ms ds σ):t.1≠F.po/\t.2.1≠F.po/\t.2.2≠F.po:=by
 refine bq (I.st_ne (x:=F.po) (.inl (by simp))) ?_;intro a b c
 exact ⟨a.symm,b.symm,c.symm⟩
theorem Inv.mem (I:Inv F i n t T ms ds σ) {x:Nat} (hx:x∈F.l++adr (t::T)):∃ m,look x σ=some m:=by
 have g:∀ s∈t::T,fJ (4*i) s σ:=λ s hs=>(List.mem_cons.mp hs).elim (λ e=>e▸I.now) (I.old s)
 rcases List.mem_append.mp hx with hx | hx
 ·obtain ⟨_,_,_,_,po,_⟩:=I.po
  simp only [Fx.l,List.mem_cons,List.not_mem_nil,or_false] at hx
  rcases hx with rfl | rfl | rfl | rfl | rfl | rfl | rfl | rfl | rfl
  ·exact ⟨_,po⟩
  ·exact ⟨_,I.pt⟩
  ·exact ⟨_,I.sh⟩
  ·exact ⟨_,I.tbl⟩
  ·exact ⟨_,I.mrk⟩
  ·exact ⟨_,I.cl⟩
  ·exact ⟨_,I.du⟩
  ·exact ⟨_,I.pl⟩
  ·exact ⟨_,I.lp⟩
 ·refine au (List.mem_flatMap.mp hx) ?_;intro s hs hx
  obtain ⟨a,b,c,e,f,g,cc,jj,fi,sk,w,mi,da,fi',sk',w',mi',da',h1,h2,h3,_⟩:=g s hs
  simp only [List.mem_cons,List.not_mem_nil,or_false] at hx
  rcases hx with rfl | rfl | rfl
  ·exact ⟨_,h1⟩
  ·exact ⟨_,h2⟩
  ·exact ⟨_,h3⟩
theorem Inv.new (I:Inv F i n t T ms ds σ) {x:Nat} (hf:∀ p∈σ,p.1≠x):∀ a∈F.l++adr (t::T),a≠x:=λ a ha=>by
 refine ao (I.mem ha) ?_;intro m e
 exact aw e hf
theorem Inv.push (I:Inv F i n t T ms ds σ) {s:Nat×Nat×Nat} (hp:ai F.po n' σ') (hk:∀ a m,a≠F.pl->a≠F.lp->look a σ=some m->look a σ'=some m) (hpl:look F.pl σ'=some (.lst (T.map (λ t=>.loc t.1)++[.loc s.1]))) (hlp:look F.lp σ'=some (.lst (T.map (λ t=>.loc t.2.2)++[.loc s.2.2])))
 (hs:fJ (4*i) s σ') (hf:∀ x∈[s.1,s.2.1,s.2.2],∀ a∈F.l++adr (t::T),a≠x) (hd:[s.1,s.2.1,s.2.2].Nodup):Inv F (i+1) n' t (T++[s]) ms ds σ':=by
 have g:∀ s∈t::T,fJ (4*i) s σ->fJ (4*(i+1)) s σ':=λ s hs G=>G.keep (by lia) λ a ha n e=>by
  have nd:=I.nd
  rw [List.nodup_append] at nd
  exact hk a n (nd.2.2 F.pl (by simp) a (eJ hs ha)).symm (nd.2.2 F.lp (by simp) a (eJ hs ha)).symm e
 refine ⟨hp,hk _ _ (I.nn 1 7 rfl) (I.nn 1 8 rfl) I.pt,hk _ _ (I.nn 2 7 rfl) (I.nn 2 8 rfl) I.sh,hk _ _ (I.nn 3 7 rfl) (I.nn 3 8 rfl) I.tbl,hk _ _ (I.nn 4 7 rfl) (I.nn 4 8 rfl) I.mrk,hk _ _ (I.nn 5 7 rfl) (I.nn 5 8 rfl) I.cl,hk _ _ (I.nn 6 7 rfl) (I.nn 6 8 rfl) I.du,by refine rwE List.map_append ?_;exact hpl,by refine rwE List.map_append ?_;exact hlp,I.mr,by have:=I.ml;lia,by (refine rwE List.length_append ?_;refine rwE List.length_singleton ?_);have:=I.tl;lia,g _ (List.mem_cons_self ..) I.now,λ s' hs'=>?_,?_⟩
 ·rcases List.mem_append.mp hs' with h | h
  ·exact g _ (List.mem_cons_of_mem _ h) (I.old _ h)
  ·obtain rfl:=List.mem_singleton.mp h
   exact hs.keep (by lia) λ u' u' u' e=>e
 ·refine rwE (show adr (t::(T++[s]))=adr (t::T)++[s.1,s.2.1,s.2.2] by simp [adr]) ?_;refine rwB (List.append_assoc ..) ?_;rewrite [List.nodup_append]
  exact ⟨I.nd,hd,λ a ha b hb=>hf b hb a ha⟩
theorem Inv.popped {s:Nat×Nat×Nat} (I:Inv F i n t (T++[s]) ms ds σ) (hp:ai F.po n' σ') (hk:∀ a m,a≠F.pt->a≠F.pl->a≠F.lp->look a σ=some m->look a σ'=some m) (hpt:look F.pt σ'=some (ptM F.sh s.1 F.pl F.o F.mrk F.cl (aa []))) (hpl:look F.pl σ'=some (.lst (T.map λ t=>.loc t.1))) (hlp:look F.lp σ'=some (.lst (T.map λ t=>.loc t.2.2))):Inv F (i+1) n' s T ms ds σ':=by
 have g:∀ s'∈T++[s],fJ (4*(i+1)) s' σ':=λ s' hs=>(I.old s' hs).keep (by lia) λ a ha n e=>by
  have nd:=I.nd
  rw [List.nodup_append] at nd
  have hm:=eJ (T:=t::(T++[s])) (List.mem_cons_of_mem _ hs) ha
  exact hk a n (nd.2.2 F.pt (by simp) a hm).symm (nd.2.2 F.pl (by simp) a hm).symm (nd.2.2 F.lp (by simp) a hm).symm e
 refine ⟨hp,hpt,hk _ _ (Ne.symm (I.nn 1 2 rfl)) (I.nn 2 7 rfl) (I.nn 2 8 rfl) I.sh,hk _ _ (Ne.symm (I.nn 1 3 rfl)) (I.nn 3 7 rfl) (I.nn 3 8 rfl) I.tbl,hk _ _ (Ne.symm (I.nn 1 4 rfl)) (I.nn 4 7 rfl) (I.nn 4 8 rfl) I.mrk,hk _ _ (Ne.symm (I.nn 1 5 rfl)) (I.nn 5 7 rfl) (I.nn 5 8 rfl) I.cl,hk _ _ (Ne.symm (I.nn 1 6 rfl)) (I.nn 6 7 rfl) (I.nn 6 8 rfl) I.du,hpl,hlp,I.mr,by have:=I.ml;lia,by have:=I.tl;rw [List.length_append,List.length_singleton] at this;lia,g _ (by simp),λ s' hs'=>g _ (List.mem_append_left _ hs'),?_⟩
 have nd:=I.nd
 rw [show adr (t::(T++[s]))=[t.1,t.2.1,t.2.2]++(adr T++[s.1,s.2.1,s.2.2]) by simp [adr],List.nodup_append] at nd
 refine bq nd ?_;clear nd;intro n1 n2 n3
 rw [List.nodup_append] at n2
 refine bq n2 ?_;clear n2;intro z0 n4 z2
 rw [List.nodup_append] at n4
 refine rwE (show adr (s::T)=[s.1,s.2.1,s.2.2]++adr T from rfl) ?_;rewrite [List.nodup_append]
 refine ⟨n1,?_,λ a ha b hb=>n3 a ha b (List.mem_append_right _ (by rcases List.mem_append.mp hb with h | h<;>simp only [List.mem_append,h,or_true,true_or]))⟩
 rw [List.nodup_append]
 exact ⟨n4.2.1,n4.1,λ a ha b hb=>(n4.2.2 b hb a ha).symm⟩
end
section
variable {call:ah} {d:Nat} {F:Fx} {i:Nat} {n:Int} {t:Nat×Nat×Nat} {T:List (Nat×Nat×Nat)} {ms ds:List V} {σ:St} {ρ:Rho} {N:PN} {R:PV} {X:PX}
noncomputable abbrev jL (F:Fx) (i:Nat) (N:PN):Prop:=∀ t T ms ds ρ σ,Inv F (i+1) (60*i+70) t T ms ds σ->Nms F t.2.2 ρ->N ρ σ
theorem qX (hc:call=U tb (d+13)) (I:Inv F (i+1) (60*i+70) t T ms ds σ) (hN:Nms F t.2.2 ρ) (K:jL F i N):execs tb call [.if_ (.not (.call (.g 336) [.at_ (.v 183) 123,.v 297])) [.ret (.cB false)] []] ρ σ N R X:=by
 obtain ⟨a,b,c,e,f,g,cc,jj,fi,sk,w,mi,da,fi',sk',w',mi',da',h1,h2,h3,hs,c1,c2,c3,c4,c5⟩:=I.now
 conv=>whnf
 refine rwE hN.pt ?_
 conv=>whnf
 refine rwE (ak I.pt) ?_
 conv=>whnf
 refine rwE hN.ow ?_
 refine qV (d:=d+11) hc h1 h2 h3 c1 c2 c3 c4 c5 ?_
 exact K _ _ _ _ _ _ I hN
theorem xk (hc:call=U tb (d+13)) (I:Inv F i n t T ms ds σ) (hN:Nms F t.2.2 ρ) (hi:i<20) (hn:n<=60*i+70) (K:jL F i N):execs tb call [.ex (.call (.g 319) [.v 183,.cS 224,.lst false []]),.ex (.meth (.v 178) 90 [.call (.g 33) [.v 297]])] ρ σ N R X:=by
 obtain ⟨a,b,c,e,f,g,cc,jj,fi,sk,w,mi,da,fi',sk',w',mi',da',h1,h2,h3,hs,hcs⟩:=I.now
 have l1:=I.tl
 have hpl:F.pl≠F.lp:=(I.nn 7 8 rfl)
 have ppl:F.po≠F.pl:=(I.nn 0 7 rfl)
 have plp:F.po≠F.lp:=(I.nn 0 8 rfl)
 refine bq (I.st_ne (x:=F.pl) (.inl (by simp))) ?_;intro t1 t2 t3
 conv=>whnf
 refine rwE hN.pt ?_
 refine wx (d:=d+9) hc I.pt h1 h2 I.pl (by refine rwE (List.length_map ..) ?_;lia) λ x y hx hy=>?_
 have S1:az σ ((x,vdM w cc jj mi da)::σ):=az.cons hx
 have S2:az σ ((y,stV (mat a b c e f g) fi sk x)::(x,vdM w cc jj mi da)::σ):=S1.trans (az.cons hy)
 have xy:x≠y:=aw am hy
 have npx:F.pl≠x:=aw I.pl hx
 have npy:F.pl≠y:=aw (S1 _ _ I.pl) hy
 have hlp:F.lp≠x:=aw I.lp hx
 have hlp':F.lp≠y:=aw (S1 _ _ I.lp) hy
 generalize e1:put F.pl (.lst (T.map (λ t=>V.loc t.1)++[.loc y])) ((y,stV (mat a b c e f g) fi sk x)::(x,vdM w cc jj mi da)::σ)=σ1
 have k1:∀ a m,a≠F.pl->look a σ=some m->look a σ1=some m:=λ a m q h=>e1▸(ac q).trans (S2 _ _ h)
 have lx:look x σ1=some (vdM w cc jj mi da):=e1▸(ac npx.symm).trans ((aD xy).trans am)
 have ly:look y σ1=some (stV (mat a b c e f g) fi sk x):=e1▸(ac npy.symm).trans am
 have lpl:look F.pl σ1=some (.lst (T.map (λ t=>V.loc t.1)++[.loc y])):=e1▸af (S2 _ _ I.pl)
 have llp:=k1 _ _ hpl.symm I.lp
 conv=>whnf
 refine rwE hN.lp ?_
 conv=>whnf
 refine rwE (j9 llp) ?_
 conv=>whnf
 refine rwE hN.ow ?_
 conv=>whnf
 refine rwE (o4 (k1 _ _ t3.symm h3)) ?_
 refine ⟨show 8<1000 by decide,?_⟩
 intro z hz
 have xz:x≠z:=aw lx hz
 have yz:y≠z:=aw ly hz
 have S3:az σ1 ((z,ay (.lst [.int a,.int b,.int c,.int e,.int f,.int g]) fi' sk' w' cc jj mi' da')::σ1):=az.cons hz
 have nlz:F.lp≠z:=aw llp hz
 conv=>whnf
 refine rwE (S3 _ _ llp) ?_
 refine ⟨by refine rwE (List.length_map ..) ?_;lia,?_⟩
 have kk:∀ r m,r≠F.lp->look r σ1=some m->look r (put F.lp (.lst (T.map (λ t=>V.loc t.2.2)++[.loc z])) ((z,ay (.lst [.int a,.int b,.int c,.int e,.int f,.int g]) fi' sk' w' cc jj mi' da')::σ1))=some m:=λ r m q h=>(ac q).trans (S3 _ _ h)
 have kz:∀ r m,r≠F.pl->r≠F.lp->look r σ=some m->look r (put F.lp (.lst (T.map (λ t=>V.loc t.2.2)++[.loc z])) ((z,ay (.lst [.int a,.int b,.int c,.int e,.int f,.int g]) fi' sk' w' cc jj mi' da')::σ1))=some m:=λ r m q q' h=>kk _ _ q' (k1 _ _ q h)
 have lz:=(ac nlz.symm (m':=.lst (T.map (λ t=>V.loc t.2.2)++[.loc z]))).trans (am (m:=ay (.lst [.int a,.int b,.int c,.int e,.int f,.int g]) fi' sk' w' cc jj mi' da') (σ:=σ1))
 obtain ⟨pc,pg,ps,pp,hpo,hr⟩:=I.po.up hn
 refine K t (T++[(y,x,z)]) ms ds _ _ (I.push ⟨pc,pg,ps,pp,kz _ _ ppl plp hpo,hr⟩ kz (kk _ _ hpl lpl) (af (S3 _ _ llp)) ⟨a,b,c,e,f,g,cc,jj,fi,sk,w,mi,da,fi',sk',w',mi',da',kk _ _ hlp'.symm ly,kk _ _ hlp.symm lx,lz,hs,hcs⟩ ?_ ?_) hN
 ·intro u hu v hv
  simp only [List.mem_cons,List.not_mem_nil,or_false] at hu
  rcases hu with rfl | rfl | rfl
  ·refine ao (I.mem hv) ?_;intro m e
   exact aw (S1 _ _ e) hy
  ·exact I.new hx v hv
  ·refine ao (I.mem hv) ?_;intro m e
   by_cases q:v=F.pl
   ·exact q▸aw lpl hz
   ·exact aw (k1 _ _ q e) hz
 ·simp only [List.nodup_cons,List.mem_cons,List.not_mem_nil,or_false,not_or,List.nodup_nil,and_true,not_false_iff]
  exact ⟨⟨xy.symm,yz⟩,xz⟩
theorem xl {s:Nat×Nat×Nat} (hc:call=U tb (d+13)) (I:Inv F i n t (T++[s]) ms ds σ) (hN:Nms F t.2.2 ρ) (hn:n<=60*i+70) (K:jL F i N):execs tb call [.ex (.call (.g 319) [.v 183,.cS 226,.lst false []]),.asg (.x 297) (.meth (.v 178) 228 [])] ρ σ N R X:=by
 have hpl:F.pl≠F.lp:=(I.nn 7 8 rfl)
 have ppl:F.po≠F.pl:=(I.nn 0 7 rfl)
 have plp:F.po≠F.lp:=(I.nn 0 8 rfl)
 have ppt:F.po≠F.pt:=(I.nn 0 1 rfl)
 have ptl:F.pt≠F.pl:=(I.nn 1 7 rfl)
 have ptp:F.pt≠F.lp:=(I.nn 1 8 rfl)
 have h1:=I.pl
 have h2:=I.lp
 rw [List.map_append] at h1 h2
 conv=>whnf
 refine rwE hN.pt ?_
 refine wy (d:=d+10) hc I.pt h1 ptl ?_
 generalize e1:put F.pt (ptM F.sh s.1 F.pl F.o F.mrk F.cl (aa [])) (put F.pl (.lst (T.map λ t=>V.loc t.1)) σ)=σ1
 have k1:∀ a m,a≠F.pt->a≠F.pl->look a σ=some m->look a σ1=some m:=λ a m q q' h=>e1▸(ac q).trans ((ac q').trans h)
 have lpt:look F.pt σ1=some (ptM F.sh s.1 F.pl F.o F.mrk F.cl (aa [])):=e1▸af ((ac ptl).trans I.pt)
 have lpl:look F.pl σ1=some (.lst (T.map λ t=>V.loc t.1)):=e1▸(ac ptl.symm).trans (af h1)
 have llp:=k1 _ _ ptp.symm hpl.symm h2
 conv=>whnf
 refine rwE hN.lp ?_
 conv=>whnf
 refine rwE (j9 llp) ?_
 conv=>whnf
 refine rwE llp ?_
 conv=>whnf
 refine rwE (show (T.map (λ t=>V.loc t.2.2)++[s].map λ t=>V.loc t.2.2)=T.map (λ t=>V.loc t.2.2)++[.loc s.2.2] from rfl) ?_;refine rwE (List.getLast?_concat) ?_;refine rwE List.dropLast_concat ?_
 obtain ⟨pc,pg,ps,pp,hpo,hr⟩:=I.po.up hn
 have kz:∀ a m,a≠F.pt->a≠F.pl->a≠F.lp->look a σ=some m->look a (put F.lp (.lst (T.map λ t=>V.loc t.2.2)) σ1)=some m:=λ a m q q' q'' h=>(ac q'').trans (k1 _ _ q q' h)
 exact K s T ms ds _ _ (I.popped ⟨pc,pg,ps,pp,kz _ _ ppt ppl plp hpo,hr⟩ kz ((ac ptp).trans lpt) ((ac hpl).trans lpl) (af llp)) ⟨hN.po,hN.pt,rfl,hN.lp,hN.du⟩
end
theorem dg {r:Int} (h:0<=r) (h':r<5):sm 2 (r - 1):=by delta sm;lia
theorem iE {B:Nat} {a b k m:Int} (ha:sm 2 a) (hb:sm 2 b) (hk:sm B k) (hm:sm B m):sm (2+B+1) (a*k+b*m):=(ha.mul hk).add (hb.mul hm)
theorem nV {B:Nat} {a b k m o:Int} (ha:sm 2 a) (hb:sm 2 b) (hk:sm B k) (hm:sm B m) (ho:sm B o):sm (2+B+1+1) (k*a+m*b+o):=by
 rw [Int.mul_comm k,Int.mul_comm m]
 exact (iE ha hb hk hm).add (ho.mono (by lia))
section
variable {call:ah} {d:Nat} {F:Fx} {i:Nat} {n:Int} {t:Nat×Nat×Nat} {T:List (Nat×Nat×Nat)} {ms ds:List V} {σ:St} {ρ:Rho} {N:PN} {R:PV} {X:PX}
theorem t5 (hc:call=U tb (d+13)) (I:Inv F i n t T ms ds σ) (hN:Nms F t.2.2 ρ) (hi:i<20) (hn:n<=60*i+12) (K:jL F i N):execs tb call [.asg (.x 243) (.comp (.bin .sub (.call (.g 296) [.v 279,.cI 5]) (.cI 1)) (.x 278) (.call (.g 44) [.cI 6])),
 .asg (.tup [.x 51,.x 52,.x 53,.x 54,.x 55,.x 56]) (.v 243),
 .asg (.tup [.x 145,.x 239,.x 238,.x 320,.x 321,.x 93]) (.sub (.v 297) (.cS 95)),
 .asg (.sub (.v 297) (.cS 95)) (.lst false [.bin .add (.bin .mul (.v 51) (.v 145)) (.bin .mul (.v 52) (.v 238)),.bin .add (.bin .mul (.v 51) (.v 239)) (.bin .mul (.v 52) (.v 320)),.bin .add (.bin .mul (.v 53) (.v 145)) (.bin .mul (.v 54) (.v 238)),.bin .add (.bin .mul (.v 53) (.v 239)) (.bin .mul (.v 54) (.v 320)),.bin .add (.bin .add (.bin .mul (.v 55) (.v 145)) (.bin .mul (.v 56) (.v 238))) (.v 321),.bin .add (.bin .add (.bin .mul (.v 55) (.v 239)) (.bin .mul (.v 56) (.v 320))) (.v 93)]),
 .ex (.call (.g 319) [.v 183,.cS 305,.v 243])] ρ σ N R X:=by
 refine ws (d:=d+9) 1 [.v 279 (.loc F.po),.f] hc (And.intro (a1 hN.po a0) λ Q1 hq=>?_)
 refine cM (d:=d+12) rfl I.po (by lia) (by decide) (by decide) λ r1 σ1 x1 y1 p1 q1=>hq _ _ [.v 279 (.loc F.po),.f] (And.intro (a1 hN.po a0) λ Q2 hq=>?_)
 replace I:=I.drew p1 q1
 refine cM (d:=d+12) rfl I.po (by lia) (by decide) (by decide) λ r2 σ2 x2 y2 p2 q2=>hq _ _ [.v 279 (.loc F.po),.f] (And.intro (a1 hN.po a0) λ Q3 hq=>?_)
 replace I:=I.drew p2 q2
 refine cM (d:=d+12) rfl I.po (by lia) (by decide) (by decide) λ r3 σ3 x3 y3 p3 q3=>hq _ _ [.v 279 (.loc F.po),.f] (And.intro (a1 hN.po a0) λ Q4 hq=>?_)
 replace I:=I.drew p3 q3
 refine cM (d:=d+12) rfl I.po (by lia) (by decide) (by decide) λ r4 σ4 x4 y4 p4 q4=>hq _ _ [.v 279 (.loc F.po),.f] (And.intro (a1 hN.po a0) λ Q5 hq=>?_)
 replace I:=I.drew p4 q4
 refine cM (d:=d+12) rfl I.po (by lia) (by decide) (by decide) λ r5 σ5 x5 y5 p5 q5=>hq _ _ [.v 279 (.loc F.po),.f] (And.intro (a1 hN.po a0) λ Q6 hq=>?_)
 replace I:=I.drew p5 q5
 refine cM (d:=d+12) rfl I.po (by lia) (by decide) (by decide) λ r6 σ6 x6 y6 p6 q6=>?_
 replace I:=I.drew p6 q6
 have w1:=dg x1 y1
 have w2:=dg x2 y2
 have w3:=dg x3 y3
 have w4:=dg x4 y4
 have w5:=dg x5 y5
 have w6:=dg x6 y6
 clear p1 q1 p2 q2 p3 q3 p4 q4 p5 q5 p6 q6 x1 x2 x3 x4 x5 x6 y1 y2 y3 y4 y5 y6
 obtain ⟨a,b,c,e,f,g,cc,jj,fi,sk,w,mi,da,fi',sk',w',mi',da',h1,h2,h3,⟨s1,s2,s3,s4,s5,s6⟩,hcs⟩:=I.now
 refine bq (I.put_po) ?_;intro t1 t2 t3
 have sb:4*i<=90:=by lia
 have A:=(s1.mono sb).big
 have B:=(s2.mono sb).big
 have C:=(s3.mono sb).big
 have E:=(s4.mono sb).big
 refine hq _ _ [.v 297 (.loc t.2.2),.m (ay (.lst [.int a,.int b,.int c,.int e,.int f,.int g]) fi' sk' w' cc jj mi' da'),.v 297 (.loc t.2.2),.m (ay (.lst [.int a,.int b,.int c,.int e,.int f,.int g]) fi' sk' w' cc jj mi' da'),.v 183 (.loc F.pt),.f] (And.intro (a4 hN.pt (show 8<1000 by decide) h3 hN.ow (a8 w6.big E w5.big B w6.big C w5.big A (a8 w4.big E w3.big B w4.big C w3.big A (a8 w2.big E w1.big B w2.big C w1.big A (a2 h3 hN.ow a0))))) λ Q7 hq=>?_)
 refine bq (I.st_ne (x:=F.pt) (.inl (by simp))) ?_;intro z0 z1 npt
 refine bq (I.st3) ?_;intro n12 n13 n23
 refine tT (d:=d+5) (σ:=put t.2.2 (ay (.lst [.int ((r1 - 1)*a+(r2 - 1)*c),.int ((r1 - 1)*b+(r2 - 1)*e),.int ((r3 - 1)*a+(r4 - 1)*c),.int ((r3 - 1)*b+(r4 - 1)*e),.int ((r5 - 1)*a+(r6 - 1)*c+f),.int ((r5 - 1)*b+(r6 - 1)*e+g)]) fi' sk' w' cc jj mi' da') σ6) rfl ((ac npt).trans I.pt) ((ac n13).trans h1) (w1.mono (by decide)) (w2.mono (by decide)) (w3.mono (by decide)) (w4.mono (by decide)) (w5.mono (by decide)) (w6.mono (by decide)) (s1.mono sb) (s2.mono sb) (s3.mono sb) (s4.mono sb) (s5.mono sb) (s6.mono sb) ?_
 generalize e1:put t.2.2 (ay (.lst [.int ((r1 - 1)*a+(r2 - 1)*c),.int ((r1 - 1)*b+(r2 - 1)*e),.int ((r3 - 1)*a+(r4 - 1)*c),.int ((r3 - 1)*b+(r4 - 1)*e),.int ((r5 - 1)*a+(r6 - 1)*c+f),.int ((r5 - 1)*b+(r6 - 1)*e+g)]) fi' sk' w' cc jj mi' da') σ6=σ7
 have k7:∀ r m,r≠t.2.2->look r σ6=some m->look r σ7=some m:=λ r m q h=>e1▸(ac q).trans h
 have lo:look t.2.2 σ7=some (ay (.lst [.int ((r1 - 1)*a+(r2 - 1)*c),.int ((r1 - 1)*b+(r2 - 1)*e),.int ((r3 - 1)*a+(r4 - 1)*c),.int ((r3 - 1)*b+(r4 - 1)*e),.int ((r5 - 1)*a+(r6 - 1)*c+f),.int ((r5 - 1)*b+(r6 - 1)*e+g)]) fi' sk' w' cc jj mi' da'):=e1▸af h3
 have k8:∀ (m':M) r m,r≠t.1->r≠t.2.2->look r σ6=some m->look r (put t.1 m' σ7)=some m:=λ m' r m q q' h=>(ac q).trans (k7 _ _ q' h)
 obtain ⟨pc,pg,ps,pp,hpo,hr⟩:=I.po.up (k:=60*i+70) (by lia)
 have lst':=af (m':=stV (mat ((r1 - 1)*a+(r2 - 1)*c) ((r1 - 1)*b+(r2 - 1)*e) ((r3 - 1)*a+(r4 - 1)*c) ((r3 - 1)*b+(r4 - 1)*e) (a*(r5 - 1)+c*(r6 - 1)+f) (b*(r5 - 1)+e*(r6 - 1)+g)) fi sk t.2.1) (k7 _ _ n13 h1)
 have e5:(r5 - 1)*a+(r6 - 1)*c+f=a*(r5 - 1)+c*(r6 - 1)+f:=by rw [Int.mul_comm a,Int.mul_comm c]
 have e6:(r5 - 1)*b+(r6 - 1)*e+g=b*(r5 - 1)+e*(r6 - 1)+g:=by rw [Int.mul_comm b,Int.mul_comm e]
 rw [e5,e6] at lo
 refine hq _ _ [] (And.intro a0 (K t T ms ds _ _ (I.step ⟨pc,pg,ps,pp,k8 _ _ _ t1.symm t3.symm hpo,hr⟩ (λ r m u' q1 u' q3 h=>k8 _ _ _ q1 q3 h) ⟨_,_,_,_,_,_,cc,jj,fi,sk,w,mi,da,fi',sk',w',mi',da',lst',k8 _ _ _ n12.symm n23 h2,(ac n13.symm).trans lo,⟨?_,?_,?_,?_,?_,?_⟩,hcs⟩) ?_))
 ·exact (iE w1 w2 s1 s3).mono (by lia)
 ·exact (iE w1 w2 s2 s4).mono (by lia)
 ·exact (iE w3 w4 s1 s3).mono (by lia)
 ·exact (iE w3 w4 s2 s4).mono (by lia)
 ·exact (nV w5 w6 s1 s3 s5).mono (by lia)
 ·exact (nV w5 w6 s2 s4 s6).mono (by lia)
 ·exact ⟨hN.po,hN.pt,hN.ow,hN.lp,hN.du⟩
end
theorem qY {k:Nat} {ts:List Int} (hk:k=102\/k=103\/k=104) (hl:ts.length<=5):eI (x9 k ts) (.tup (.str k::ts.map λ t=>dz (bX t))) :=
 ⟨k,_,_,rfl,rfl,gi ts,hk.elim .inl λ h=>h.elim (.inr ∘ .inl) (.inr ∘ .inr ∘ .inl),by refine rwE (List.length_map ..) ?_;exact hl⟩
theorem qZ {ts:List Int} (hl:ts.length<=4):eI (ya ts) (.tup (.str 295::(ts.map dz++[.str 300]))) :=
 ⟨295,_,_,rfl,rfl,(ik ts).parts.app (.cons (.str 300 (by decide)) .nil),.inr (.inr (.inr rfl)),by (refine rwE List.length_append ?_;refine rwE (List.length_map ..) ?_;refine rwE List.length_singleton ?_);lia⟩
theorem t6 {k:Nat} {v t:V} (h:CsR k v t):eI v t:=by
 rcases h with ⟨rfl,rfl,rfl⟩ | ⟨rfl,rfl,rfl⟩ | ⟨rfl,rfl,rfl⟩ | ⟨rfl,rfl,rfl⟩
 ·exact ⟨102,_,_,rfl,rfl,.cons (.dec _ _) .nil,by decide,by decide⟩
 ·exact ⟨103,_,_,rfl,rfl,.cons (.dec _ _) (.cons (.dec _ _) (.cons (.dec _ _) .nil)),by decide,by decide⟩
 ·exact ⟨104,_,_,rfl,rfl,.cons (.dec _ _) (.cons (.dec _ _) (.cons (.dec _ _) (.cons (.dec _ _) .nil))),by decide,by decide⟩
 ·exact ⟨295,_,_,rfl,rfl,.nil,by decide,by decide⟩
theorem xm {k:Nat} {v t:V} (h:CsR k v t):(k=102/\v=.tup [.str 102,.tup [dec 0 0]])\/(k=103/\v=.tup [.str 103,.tup [dec 0 0,dec 0 0,dec 0 0]])\/(k=104/\v=.tup [.str 104,.tup [dec 0 0,dec 0 0,dec 0 0,dec 1 0]])\/(k=295/\v=.tup [.str 295,.tup []]):=by
 rcases h with ⟨h,h',_⟩ | ⟨h,h',_⟩ | ⟨h,h',_⟩ | ⟨h,h',_⟩
 ·exact .inl ⟨h,h'⟩
 ·exact .inr (.inl ⟨h,h'⟩)
 ·exact .inr (.inr (.inl ⟨h,h'⟩))
 ·exact .inr (.inr (.inr ⟨h,h'⟩))
section
variable {call:ah} {d:Nat} {σ:St} {Q:PV} {X:PX} {st vd:Nat} {m fi sk v:V}
noncomputable abbrev stL (m fi sk:V) (vd:Nat):List (Nat×V):=[(95,m),(96,.tup []),(97,fi),(98,sk),(99,.loc vd)]
theorem nX {k s K:Nat} {vs:V} (W:WdR fi sk k s K) (hs:look st σ=some (stV m fi sk vd)) (ho:∀ {Q:PV} {X:PX},Q v σ->U tb (d+7) 47 [] [.str K,vs] σ Q X) (h:Q .none (put st (.ob 9 (bN s v (stL m fi sk vd))) σ)):U tb (d+8) 48 [] [.loc st,.str k,vs] σ Q X:=by
 induction W with
 | a1=>exact wk (d:=d) 4 [.m (stV m fi sk vd),.f] rfl (And.intro (a2 nd3 hs a0) λ Q' hq=>ho (hq _ _ [.m (stV m fi sk vd)] (And.intro (a1 hs a0) h)))
 | a2=>exact wk (d:=d) 4 [.m (stV m fi sk vd),.f] rfl (And.intro (a2 nd3 hs a0) λ Q' hq=>ho (hq _ _ [.m (stV m fi sk vd)] (And.intro (a1 hs a0) h)))
 | a3=>exact wk (d:=d) 4 [.m (stV m fi sk vd),.f] rfl (And.intro (a2 nd3 hs a0) λ Q' hq=>ho (hq _ _ [.m (stV m fi sk vd)] (And.intro (a1 hs a0) h)))
 | a4=>exact wk (d:=d) 4 [.m (stV m fi sk vd),.f] rfl (And.intro (a2 nd3 hs a0) λ Q' hq=>ho (hq _ _ [.m (stV m fi sk vd)] (And.intro (a1 hs a0) h)))
 | a5=>exact wk (d:=d) 4 [.m (stV m fi sk vd),.f] rfl (And.intro (a2 nd3 hs a0) λ Q' hq=>ho (hq _ _ [.m (stV m fi sk vd)] (And.intro (a1 hs a0) h)))
 | a6=>exact wk (d:=d) 4 [.m (stV m fi sk vd),.f] rfl (And.intro (a2 nd3 hs a0) λ Q' hq=>ho (hq _ _ [.m (stV m fi sk vd)] (And.intro (a1 hs a0) h)))
 | @b1 K hK=>exact wk (d:=d) 4 [.m (stV m fi sk vd),.s (.str K),.f] rfl (And.intro (a2 (hK _) hs a0) λ Q' hq=>ho (hq _ _ [.m (stV m fi sk vd)] (And.intro (a1 hs a0) h)))
 | @b2 K hK=>exact wk (d:=d) 4 [.m (stV m fi sk vd),.s (.str K),.f] rfl (And.intro (a2 (hK _) hs a0) λ Q' hq=>ho (hq _ _ [.m (stV m fi sk vd)] (And.intro (a1 hs a0) h)))
 | @c1 K hK=>exact wk (d:=d) 4 [.m (stV m fi sk vd),.s (.str K),.f] rfl (And.intro (a2 (hK _) hs a0) λ Q' hq=>ho (hq _ _ [.m (stV m fi sk vd)] (And.intro (a1 hs a0) h)))
 | @c2 K hK=>exact wk (d:=d) 4 [.m (stV m fi sk vd),.s (.str K),.f] rfl (And.intro (a2 (hK _) hs a0) λ Q' hq=>ho (hq _ _ [.m (stV m fi sk vd)] (And.intro (a1 hs a0) h)))
theorem xn {k s kk:Nat} (hk:(k=148/\s=97)\/(k=325/\s=98)) (hs:look st σ=some (stV m fi sk vd)) (hv:(kk=102/\v=.tup [.str 102,.tup [dec 0 0]])\/(kk=103/\v=.tup [.str 103,.tup [dec 0 0,dec 0 0,dec 0 0]])\/(kk=104/\v=.tup [.str 104,.tup [dec 0 0,dec 0 0,dec 0 0,dec 1 0]])\/(kk=295/\v=.tup [.str 295,.tup []])) (h:Q .none (put st (.ob 9 (bN s v (stL m fi sk vd))) σ)):U tb (d+8) 48 [] [.loc st,.str k,.lst [bL kk]] σ Q X:=by
 rcases hk with ⟨rfl,rfl⟩ | ⟨rfl,rfl⟩
 ·exact wk (d:=d) 4 [.m (stV m fi sk vd),.f] rfl (And.intro (a1 hs a0) λ Q' hq=>jE (d:=d+6) rfl (hq _ _ [.f] (And.intro a0 λ Q' hq=>bY (d:=d+4) rfl hv (hq _ _ [.m (stV m fi sk vd)] (And.intro (a1 hs a0) h)))))
 ·exact wk (d:=d) 4 [.m (stV m fi sk vd),.f] rfl (And.intro (a1 hs a0) λ Q' hq=>jE (d:=d+6) rfl (hq _ _ [.f] (And.intro a0 λ Q' hq=>bY (d:=d+4) rfl hv (hq _ _ [.m (stV m fi sk vd)] (And.intro (a1 hs a0) h)))))
end
theorem yU {k kf ks:Nat} {fi sk fi' sk':V} (hk:k=143\/k=322\/k=144\/k=323\/k=145\/k=324\/k=148\/k=325\/k=303\/k=326\/k=327\/k=328) (hf:Fst fi kf) (hs:Fst sk ks) (hf':Fst fi' kf) (hs':Fst sk' ks) :
 (∃ s,(k=148/\s=97)\/(k=325/\s=98))\/∃ s K,WdR fi sk k s K/\WdR fi' sk' k s K/\(s=97\/s=98)/\(K=102\/K=103\/K=104\/K=kf\/K=ks):=by
 rcases hk with rfl | rfl | rfl | rfl | rfl | rfl | rfl | rfl | rfl | rfl | rfl | rfl
 ·exact .inr ⟨_,_,.a1,.a1,.inl rfl,.inl rfl⟩
 ·exact .inr ⟨_,_,.a2,.a2,.inr rfl,.inl rfl⟩
 ·exact .inr ⟨_,_,.a3,.a3,.inl rfl,.inr (.inl rfl)⟩
 ·exact .inr ⟨_,_,.a4,.a4,.inr rfl,.inr (.inl rfl)⟩
 ·exact .inr ⟨_,_,.a5,.a5,.inl rfl,.inr (.inr (.inl rfl))⟩
 ·exact .inr ⟨_,_,.a6,.a6,.inr rfl,.inr (.inr (.inl rfl))⟩
 ·exact .inl ⟨_,.inl ⟨rfl,rfl⟩⟩
 ·exact .inl ⟨_,.inr ⟨rfl,rfl⟩⟩
 ·exact .inr ⟨_,_,.b1 hf,.b1 hf',.inl rfl,.inr (.inr (.inr (.inl rfl)))⟩
 ·exact .inr ⟨_,_,.c1 hs,.c1 hs',.inr rfl,.inr (.inr (.inr (.inr rfl)))⟩
 ·exact .inr ⟨_,_,.b2 hf,.b2 hf',.inl rfl,.inr (.inr (.inr (.inl rfl)))⟩
 ·exact .inr ⟨_,_,.c2 hs,.c2 hs',.inr rfl,.inr (.inr (.inr (.inr rfl)))⟩
section
variable {call:ah} {d:Nat} {F:Fx} {i:Nat} {n n':Int} {t:Nat×Nat×Nat} {T:List (Nat×Nat×Nat)} {ms ds:List V} {σ σ1:St} {ρ:Rho} {N:PN} {R:PV} {X X':PX} {Z:St->Prop}
theorem Inv.st_put (I:Inv F i n t T ms ds σ) (hp:ai F.po n' σ1) (hb:bw F.po t.2.2 σ σ1) {m:M} (hg:fJ (4*(i+1)) t (put t.1 m σ1)):Inv F (i+1) n' t T ms ds (put t.1 m σ1) :=
 I.step (hp.keep But.put I.put_po.1.symm) (λ r k q1 q2 q3 q4 h=>But.put _ _ q2 (hb r k q1 q4 h)) hg
theorem Inv.vd_put (I:Inv F i n t T ms ds σ) (hp:ai F.po n' σ1) (hb:bw F.po t.2.2 σ σ1) {m:M} (hg:fJ (4*(i+1)) t (put t.2.1 m σ1)):Inv F (i+1) n' t T ms ds (put t.2.1 m σ1) :=
 I.step (hp.keep But.put I.put_po.2.1.symm) (λ r k q1 q2 q3 q4 h=>But.put _ _ q3 (hb r k q1 q4 h)) hg
theorem q7 (hc:call=U tb (d+13)) (I:Inv F i n t T ms ds σ) (hn:n<2000) {k:Nat} (hk:k=143\/k=322\/k=144\/k=323\/k=145\/k=324\/k=148\/k=325\/k=303\/k=326\/k=327\/k=328) (K:∀ σ',Inv F (i+1) (n+4) t T ms ds σ'->Z σ'):call 74 [] [.loc F.po,.loc t.2.2,.str k] σ (λ v σ'=>call 55 [] [.loc F.pt,.str k,v] σ' (λ u' σ''=>Z σ'') X) X':=by
 obtain ⟨a,b,c,e,f,g,cc,jj,fi,sk,w,mi,da,fi',sk',w',mi',da',h1,h2,h3,s0,c1,c2,hcs⟩:=I.now
 subst hc
 have ne:=I.put_po.2.2.symm
 have npt:=(I.nn 0 1 rfl)
 refine bq (I.st_ne (x:=F.pt) (.inl (by simp))) ?_;intro m1 m2 m3
 refine bq (I.put_po) ?_;intro p1 p2 p3
 refine bq (I.st3) ?_;intro n12 n13 n23
 have hm:=s0.mono (Nat.mul_le_mul_left 4 (Nat.le_succ i))
 have fin:∀ fiN fiT skN skT σ1,ai F.po (n+4) σ1->look t.2.2 σ1=some (ay (.lst [.int a,.int b,.int c,.int e,.int f,.int g]) fiT skT w' cc jj mi' da')->bw F.po t.2.2 σ σ1->eI fiN fiT->eI skN skT->Z (put t.1 (stV (mat a b c e f g) fiN skN t.2.1) σ1):=λ fiN fiT skN skT σ1 q1 q2 q3 q4 q5 =>
  K _ (I.st_put q1 q3 ⟨a,b,c,e,f,g,cc,jj,fiN,skN,w,mi,da,fiT,skT,w',mi',da',af (q3 _ _ p1 n13 h1),(ac n12.symm).trans (q3 _ _ p2 n23 h2),(ac n13.symm).trans q2,hm,q4,q5,hcs⟩)
 have hpt:∀ {σ1},bw F.po t.2.2 σ σ1->look F.pt σ1=some (ptM F.sh t.1 F.pl F.o F.mrk F.cl (aa [])):=λ q=>q _ _ (Ne.symm npt) m3 I.pt
 have hst:∀ {σ1},bw F.po t.2.2 σ σ1->look t.1 σ1=some (stV (mat a b c e f g) fi sk t.2.1):=λ q=>q _ _ p1 n13 h1
 obtain ⟨kf,pf,tf,ef,ef',pf',hkf,lf⟩:=id c1
 obtain ⟨ks,psk,tsk,es,es',ps',hks,ls⟩:=id c2
 have fin':∀ {s v T σ1},(s=97\/s=98)->ai F.po (n+4) σ1->look t.2.2 σ1=some (.dct (bN s T (si (.lst [.int a,.int b,.int c,.int e,.int f,.int g]) fi' sk' w' cc jj mi' da')))->bw F.po t.2.2 σ σ1->eI v T->Z (put t.1 (.ob 9 (bN s v (stL (mat a b c e f g) fi sk t.2.1))) σ1):=λ hs q1 q2 q3 q4=>by
  rcases hs with rfl | rfl
  ·exact fin _ _ _ _ _ q1 q2 q3 q4 c2
  ·exact fin _ _ _ _ _ q1 q2 q3 c1 q4
 have F1:Fst fi kf:=λ σ=>by refine rwE ef ?_;rfl
 have F2:Fst sk ks:=λ σ=>by refine rwE es ?_;rfl
 have F3:Fst fi' kf:=λ σ=>by refine rwE ef' ?_;rfl
 have F4:Fst sk' ks:=λ σ=>by refine rwE es' ?_;rfl
 rcases yU hk F1 F2 F3 F4 with ⟨s,hs⟩ | ⟨s,K,W,W',hs,hK⟩
 ·refine yR (d:=d+8) hs I.po (by lia) h3 ne λ kk v u σ1 q0 q1 q2 q3=>ij (d:=d+5) hk (hpt q3) λ Q' hQ=>?_
  exact xn (d:=d+4) hs (hst q3) (xm q0) (hQ _ _ (fin' (hs.imp (λ x=>x.2) (λ x=>x.2)) (q1.up (by lia)) q2 q3 (t6 q0)))
 ·have hK':(K=102\/K=103\/K=104)\/K=295:=by
   rcases hK with h | h | h | h | h
   ·exact .inl (.inl h)
   ·exact .inl (.inr (.inl h))
   ·exact .inl (.inr (.inr h))
   ·refine rwE h ?_;rcases hkf with h | h | h | h
    ·exact .inl (.inl h)
    ·exact .inl (.inr (.inl h))
    ·exact .inl (.inr (.inr h))
    ·exact .inr h
   ·refine rwE h ?_;rcases hks with h | h | h | h
    ·exact .inl (.inl h)
    ·exact .inl (.inr (.inl h))
    ·exact .inl (.inr (.inr h))
    ·exact .inr h
  rcases hK' with hK' | rfl
  ·obtain ⟨cnt,hc,h5⟩:∃ cnt,((K=102/\cnt=1)\/(K=103/\cnt=3)\/(K=104/\cnt=4))/\cnt<=5:=by
    rcases hK' with h | h | h
    ·exact ⟨1,.inl ⟨h,rfl⟩,by decide⟩
    ·exact ⟨3,.inr (.inl ⟨h,rfl⟩),by decide⟩
    ·exact ⟨4,.inr (.inr ⟨h,rfl⟩),by decide⟩
   refine w7 (d:=d+8) W' F3 F4 hc I.po (by lia) h3 ne λ ts σ1 hl hr q1 q2 q3=>ij (d:=d+5) hk (hpt q3) λ Q' hQ=>?_
   subst hl
   exact nX (d:=d+4) (v:=x9 K ts) W (hst q3) (λ q=>tO (d:=d+5) rfl hr hc q) (hQ _ _ (fin' hs q1 q2 q3 (qY hK' h5)))
  ·refine w8 (d:=d+8) W' F3 F4 I.po (by lia) h3 ne λ ts σ1 hl q1 q2 q3=>ij (d:=d+5) hk (hpt q3) λ Q' hQ=>?_
   match ts,hl,q2 with
   | [x,y],_,q2=>exact nX (d:=d+4) (v:=ya [x,y]) W (hst q3) (λ q=>tP (d:=d+5) rfl q) (hQ _ _ (fin' hs q1 q2 q3 (qZ (ts:=[x,y]) (show 2<=4 by decide))))
theorem q8 (hc:call=U tb (d+13)) (I:Inv F i n t T ms ds σ) (hN:Nms F t.2.2 ρ) (hi:i<20) (hn:n<=60*i+12) (K:jL F i N):execs tb call [.asg (.x 109) (.sub (.tup [.cS 143,.cS 322,.cS 144,.cS 323,.cS 145,.cS 324,.cS 148,.cS 325,.cS 303,.cS 326,.cS 327,.cS 328]) (.call (.g 296) [.v 279,.cI 12])),
 .ex (.call (.g 319) [.v 183,.v 109,.call (.g 329) [.v 279,.v 297,.v 109]])] ρ σ N R X:=by
 conv=>whnf
 refine rwE hN.po ?_
 refine cM (d:=d+12) hc I.po (by lia) (by decide) (by decide) λ r σ1 a1 b1 p1 q1=>?_
 replace I:=I.drew p1 q1
 obtain ⟨k,hk,e⟩:∃ k,(k=143\/k=322\/k=144\/k=323\/k=145\/k=324\/k=148\/k=325\/k=303\/k=326\/k=327\/k=328)/\cU tb (.tup [.str 143,.str 322,.str 144,.str 323,.str 145,.str 324,.str 148,.str 325,.str 303,.str 326,.str 327,.str 328]) (.int r) σ1=some (.str k):=by
  rcases (show r=0\/r=1\/r=2\/r=3\/r=4\/r=5\/r=6\/r=7\/r=8\/r=9\/r=10\/r=11 by lia) with rfl | rfl | rfl | rfl | rfl | rfl | rfl | rfl | rfl | rfl | rfl | rfl<;>exact ⟨_,by decide,rfl⟩
 conv=>whnf
 refine rwE e ?_
 conv=>whnf
 refine rwE (show upd 109 _ ρ 183=some (.loc F.pt) from hN.pt) ?_
 conv=>whnf
 refine rwE (show upd 109 _ ρ 279=some (.loc F.po) from hN.po) ?_
 conv=>whnf
 refine rwE (show upd 109 _ ρ 297=some (.loc t.2.2) from hN.ow) ?_
 refine q7 hc I (by lia) hk λ σ' I'=>?_
 exact K _ _ _ _ _ _ { I' with po:=I'.po.up (by lia) } ⟨hN.po,hN.pt,hN.ow,hN.lp,hN.du⟩
end
theorem ku (r:Int):∃ a p:Int,tn r=dec a p/\dz r=.tup [.int a,.int p]/\(0<=r->0<=a)/\(1<=r->0<a):=by
 delta tn dz
 split
 ·rename_i h
  rw [Int.fmod_eq_emod_of_nonneg r (by decide)] at h
  refine ⟨_,_,rfl,rfl,?_,?_⟩<;>refine rwE (Int.fdiv_eq_ediv_of_nonneg r (by decide)) ?_<;>lia
 ·exact ⟨_,_,rfl,rfl,id,λ h=>by lia⟩
theorem nY:∀ ss:List Int,(∀ s∈ss,1<=s)->∃ ps:List (Int×Int),ss.map tn=rY ps/\ps.length=ss.length/\∀ q∈ps,0<q.1
 | [],_=>⟨[],rfl,rfl,λ u' h=>nomatch h⟩
 | s::r,h=>by
  refine cu (nY r λ s hs=>h s (List.mem_cons_of_mem _ hs)) ?_;intro ps e l h'
  refine dn (ku s) ?_;intro a p e1 z3 z4 h2
  refine ⟨(a,p)::ps,by (refine rwE List.map_cons ?_;refine rwE e ?_;refine rwE e1 ?_);rfl,by (refine rwE List.length_cons ?_;refine rwE l ?_);rfl,λ q hq=>?_⟩
  rcases List.mem_cons.mp hq with rfl | hq
  ·exact h2 (h s (List.mem_cons_self ..))
  ·exact h' q hq
section
variable {call:ah} {d:Nat} {F:Fx} {i:Nat} {n n':Int} {t:Nat×Nat×Nat} {T:List (Nat×Nat×Nat)} {ms ds:List V} {σ σ1:St} {ρ:Rho} {N:PN} {R:PV} {X X':PX} {Z:St->Prop}
set_option maxHeartbeats 2000000 in
theorem pi (hc:call=U tb (d+13)) (I:Inv F i n t T ms ds σ) (hn:n<2000) {k:Nat} (hk:k=163\/k=159\/k=161\/k=169\/k=54\/k=230) (K:∀ σ',Inv F (i+1) (n+4) t T ms ds σ'->Z σ'):call 75 [] [.loc F.po,.loc t.2.2,.str k] σ (λ v σ'=>call 55 [] [.loc F.pt,.str k,v] σ' (λ u' σ''=>Z σ'') X) X':=by
 obtain ⟨a,b,c,e,f,g,cc,jj,fi,sk,w,mi,da,fi',sk',w',mi',da',h1,h2,h3,s0,c1,c2,c3,c4,c5⟩:=I.now
 have npt:=(I.nn 0 1 rfl)
 refine bq (I.st_ne (x:=F.pt) (.inl (by simp))) ?_;intro m1 m2 m3
 refine bq (I.st_ne (x:=F.sh) (.inl (by simp))) ?_;intro o1 o2 o3
 refine bq (I.st_ne (x:=F.tbl) (.inl (by simp))) ?_;intro u1 u2 u3
 refine bq (I.put_po) ?_;intro p1 p2 p3
 have ne:=p3.symm
 refine bq (I.st3) ?_;intro n12 n13 n23
 have hm:=s0.mono (Nat.mul_le_mul_left 4 (Nat.le_succ i))
 have fin:∀ wN cN jN mN dN wT mT dT σ1,ai F.po (n+4) σ1->look t.2.2 σ1=some (ay (.lst [.int a,.int b,.int c,.int e,.int f,.int g]) fi' sk' wT cN jN mT dT)->bw F.po t.2.2 σ σ1->gf wN wT->gf mN mT->sB dN dT->Z (put t.2.1 (vdM wN cN jN mN dN) σ1):=λ wN cN jN mN dN wT mT dT σ1 q1 q2 q3 q4 q5 q6 =>
  K _ (I.vd_put q1 q3 ⟨a,b,c,e,f,g,cN,jN,fi,sk,wN,mN,dN,fi',sk',wT,mT,dT,(ac n12).trans (q3 _ _ p1 n13 h1),af (q3 _ _ p2 n23 h2),(ac n23.symm).trans q2,hm,c1,c2,q4,q5,q6⟩)
 have hpt:∀ {σ1},bw F.po t.2.2 σ σ1->look F.pt σ1=some (ptM F.sh t.1 F.pl F.o F.mrk F.cl (aa [])):=λ q=>q _ _ (Ne.symm npt) m3 I.pt
 have hst:∀ {σ1},bw F.po t.2.2 σ σ1->look t.1 σ1=some (stV (mat a b c e f g) fi sk t.2.1):=λ q=>q _ _ p1 n13 h1
 have hvd:∀ {σ1},bw F.po t.2.2 σ σ1->look t.2.1 σ1=some (vdM w cc jj mi da):=λ q=>q _ _ p2 n23 h2
 have hsh:∀ {σ1},bw F.po t.2.2 σ σ1->look F.sh σ1=some (shM F.tbl F.tr):=λ q=>q _ _ (Ne.symm (I.nn 0 2 rfl)) o3 I.sh
 have htb:∀ {σ1},bw F.po t.2.2 σ σ1->look F.tbl σ1=some lE:=λ q=>q _ _ (Ne.symm (I.nn 0 3 rfl)) u3 I.tbl
 subst hc
 rcases hk with rfl | rfl | rfl | rfl | rfl | rfl
 ·refine xd (d:=d+8) I.po (by lia) h3 ne λ r σ1 r0 r1 q1 q2 q3=>?_
  refine dn (ku r) ?_;intro x p e1 e2 e3 e4
  refine rwE e1 ?_
  rw [e2] at q2
  refine cZ (d:=d+6) (by decide) (hpt q3) λ Q' hQ=>?_
  refine m8 (d:=d+6) rfl (hst q3) (hvd q3) (.dec _ _) (e3 r0) ?_
  refine hQ .none _ ?_
  exact fin _ _ _ _ _ _ _ _ _ q1 q2 q3 ⟨_,_,rfl,rfl⟩ c4 c5
 ·refine xa (d:=d+8) I.po (by lia) h3 ne λ r σ1 r0 q1 q2 q3=>?_
  refine cZ (d:=d+6) (by decide) (hpt q3) λ Q' hQ=>?_
  refine rZ (d:=d+6) rfl (hst q3) (hvd q3) r0 ?_
  refine hQ .none _ ?_
  exact fin _ _ _ _ _ _ _ _ _ q1 q2 q3 c3 c4 c5
 ·refine xb (d:=d+8) I.po (by lia) h3 ne λ r σ1 r0 q1 q2 q3=>?_
  refine cZ (d:=d+6) (by decide) (hpt q3) λ Q' hQ=>?_
  refine sd (d:=d+6) rfl (hst q3) (hvd q3) r0 ?_
  refine hQ .none _ ?_
  exact fin _ _ _ _ _ _ _ _ _ q1 q2 q3 c3 c4 c5
 ·refine xe (d:=d+8) I.po (by lia) h3 ne λ r σ1 r0 r1 q1 q2 q3=>?_
  refine dn (ku r) ?_;intro x p e1 e2 e3 e4
  refine rwE e1 ?_
  rw [e2] at q2
  refine cZ (d:=d+6) (by decide) (hpt q3) λ Q' hQ=>?_
  refine se (d:=d+6) rfl (hst q3) (hvd q3) (.dec _ _) (e3 r0) ?_
  refine hQ .none _ ?_
  exact fin _ _ _ _ _ _ _ _ _ q1 q2 q3 c3 ⟨_,_,rfl,rfl⟩ c5
 ·refine yT (d:=d+8) I.po (by lia) h3 ne λ ss r σ1 r0 rl r1 r2 q1 q2 q3=>?_
  refine dn (ku r) ?_;intro x p e1 e2 e3 e4
  refine cu (nY ss λ s hs=>(r0 s hs).1) ?_;intro ps e5 e6 e7
  have hn:=gZ ss
  have ht:=ik ss
  rw [e5] at hn ht
  refine rwE e5 ?_;refine rwE e1 ?_
  rw [e2] at q2
  refine cZ (d:=d+6) (by decide) (hpt q3) λ Q' hQ=>?_
  refine wv (d:=d+6) rfl (hst q3) (hvd q3) hn (.dec _ _) (q:=(x,p)) e7 ?_
  refine hQ .none _ ?_
  exact fin _ _ _ _ _ _ _ _ _ q1 q2 q3 c3 c4 ⟨_,_,_,_,rfl,rfl,ht,⟨_,_,rfl,rfl⟩,by refine rwE (List.length_map ..) ?_;lia⟩
 ·refine xh (d:=d+8) I.po (by lia) h3 ne λ k M σ1 hk q1 q2 q3=>?_
  rcases hk with ⟨rfl,rfl⟩ | ⟨rfl,rfl⟩ | ⟨rfl,rfl⟩
  ·refine jG (d:=d+5) (hpt q3) (hsh q3) (u:=fF 3 0) (v:=pC) rfl rfl (λ h=>cX (d:=d+10) rfl (hsh q3) (htb q3) (n:=3) rfl rfl h) λ Q' hQ=>?_
   refine tQ (d:=d+5) rfl (hsh q3) (hst q3) (hvd q3) o2 n12 ?_
   refine hQ .none _ ?_
   exact fin _ _ _ _ _ _ _ _ _ q1 q2 q3 ⟨_,_,rfl,rfl⟩ c4 c5
  ·refine jG (d:=d+5) (hpt q3) (hsh q3) (u:=kn) (v:=kn) rfl rfl (λ h=>aC (d:=d+10) rfl rfl h) λ Q' hQ=>?_
   refine tR (d:=d+5) rfl (hsh q3) (htb q3) (hst q3) (hvd q3) o2 u2 n12 ?_
   refine hQ .none _ ?_
   exact fin _ _ _ _ _ _ _ _ _ q1 q2 q3 ⟨_,_,rfl,rfl⟩ c4 ⟨_,_,_,_,rfl,rfl,.cons ⟨_,_,rfl,rfl⟩ (.cons ⟨_,_,rfl,rfl⟩ .nil),⟨_,_,rfl,rfl⟩,by decide⟩
  ·refine jG (d:=d+5) (hpt q3) (hsh q3) (u:=fF 4 0) (v:=pD) rfl rfl (λ h=>cX (d:=d+10) rfl (hsh q3) (htb q3) (n:=4) rfl rfl h) λ Q' hQ=>?_
   refine tS (d:=d+5) rfl (hsh q3) (htb q3) (hst q3) (hvd q3) o2 u2 n12 ?_
   refine hQ .none _ ?_
   exact fin _ _ _ _ _ _ _ _ _ q1 q2 q3 c3 ⟨_,_,rfl,rfl⟩ ⟨_,_,_,_,rfl,rfl,.cons ⟨_,_,rfl,rfl⟩ (.cons ⟨_,_,rfl,rfl⟩ .nil),⟨_,_,rfl,rfl⟩,by decide⟩
theorem pj (hc:call=U tb (d+13)) (I:Inv F i n t T ms ds σ) (hN:Nms F t.2.2 ρ) (hi:i<20) (hn:n<=60*i+12) (K:jL F i N):execs tb call [.asg (.x 109) (.sub (.tup [.cS 163,.cS 159,.cS 161,.cS 169,.cS 54,.cS 230]) (.call (.g 296) [.v 279,.cI 6])),
 .ex (.call (.g 319) [.v 183,.v 109,.call (.g 330) [.v 279,.v 297,.v 109]])] ρ σ N R X:=by
 conv=>whnf
 refine rwE hN.po ?_
 refine cM (d:=d+12) hc I.po (by lia) (by decide) (by decide) λ r σ1 a1 b1 p1 q1=>?_
 replace I:=I.drew p1 q1
 obtain ⟨k,hk,e⟩:∃ k,(k=163\/k=159\/k=161\/k=169\/k=54\/k=230)/\cU tb (.tup [.str 163,.str 159,.str 161,.str 169,.str 54,.str 230]) (.int r) σ1=some (.str k):=by
  rcases (show r=0\/r=1\/r=2\/r=3\/r=4\/r=5 by lia) with rfl | rfl | rfl | rfl | rfl | rfl<;>exact ⟨_,by decide,rfl⟩
 conv=>whnf
 refine rwE e ?_
 conv=>whnf
 refine rwE (show upd 109 _ ρ 183=some (.loc F.pt) from hN.pt) ?_
 conv=>whnf
 refine rwE (show upd 109 _ ρ 279=some (.loc F.po) from hN.po) ?_
 conv=>whnf
 refine rwE (show upd 109 _ ρ 297=some (.loc t.2.2) from hN.ow) ?_
 refine pi hc I (by lia) hk λ σ' I'=>?_
 exact K _ _ _ _ _ _ { I' with po:=I'.po.up (by lia) } ⟨hN.po,hN.pt,hN.ow,hN.lp,hN.du⟩
end
theorem yV {call f:ah} {k:Nat} {cap:List (Nat×V)} {vs:List V} {σ:St} {Q:PV} {X:PX} (hc:call=f) (h:f k cap vs σ Q X):call k cap vs σ Q X:=hc▸h
theorem mz {l:Nat} {xs:List V} {σ:St} (h:look l σ=some (.lst xs)):bB .eq (.loc l) (.lst []) σ=some xs.isEmpty:=by
 show eqV (aL (.loc l) σ) (.lst [])=_
 refine rwE (fS h) ?_;rfl
theorem mB {l:Nat} {xs:List V} {σ:St} (h:look l σ=some (.lst xs)):bB .ne (.loc l) (.lst []) σ=some (!xs.isEmpty):=by
 show (eqV (aL (.loc l) σ) (.lst [])).map _=_
 refine rwE (fS h) ?_;rfl
section
variable {call:ah} {d:Nat} {F:Fx} {i:Nat} {n n':Int} {t:Nat×Nat×Nat} {T:List (Nat×Nat×Nat)} {ms ds:List V} {σ σ1:St} {ρ:Rho} {N:PN} {R:PV} {X X':PX} {Z:St->Prop}
noncomputable def yc (call:ah) (pt:Nat) (c:Prop) (σ:St) (v:V):Prop:=∃ k vs,v=.tup [.str k,vs]/\((k=226->c)->∀ (Q:PV) (X:PX),(∀ σ',az σ σ'->X σ')->call 55 [] [.loc pt,.str k,vs] σ Q X)
theorem yc.mk {call:ah} {pt k:Nat} {vs:V} {c:Prop} (h:(k=226->c)->∀ (Q:PV) (X:PX),(∀ σ',az σ σ'->X σ')->call 55 [] [.loc pt,.str k,vs] σ Q X):yc call pt c σ (.tup [.str k,vs]):=⟨k,vs,rfl,h⟩
theorem bc {P:V->Prop} {v:V} {r:List V} (h:P v) (k:∀ w∈r,P w):∀ w∈v::r,P w:=List.forall_mem_cons.mpr ⟨h,k⟩
theorem q9 (hc:call=U tb (d+13)) (I:Inv F i n t T ms ds σ) (hi:i<20):∀ v∈yb,yc call F.pt (T=[]) σ v:=by
 obtain ⟨a,b,c,e,f,g,cc,jj,fi,sk,w,mi,da,fi',sk',w',mi',da',h1,h2,h3,⟨s1,s2,s3,s4,s5,s6⟩,c1,c2,c3,c4,c5⟩:=I.now
 have S:aX F.pt F.sh t.1 t.2.1 F.pl F.o F.mrk F.cl F.tbl F.tr (mat a b c e f g) fi sk w mi da cc jj σ:=⟨I.pt,h1,h2,I.sh,I.tbl⟩
 have sb:4*i<=90:=by lia
 subst hc
 exact bc (.mk λ hT Q X hX=>yH (d:=d+3) S (by (refine rwE I.pl ?_;refine rwE (hT rfl) ?_);rfl) hX) <| bc (.mk λ u' Q X hX=>wD (d:=d+3) S hX) <| bc (.mk λ u' Q X hX=>wE (d:=d+3) S hX) <| bc (.mk λ u' Q X hX=>yI (d:=d+3) S hX) <| bc (.mk λ u' Q X hX=>yJ (d:=d+3) S hX) <| bc (.mk λ u' Q X hX=>wF (d:=d+3) S hX) <| bc (.mk λ u' Q X hX=>wG (d:=d+3) S hX) <| bc (.mk λ u' Q X hX=>wH (d:=d+3) S hX) <| bc (.mk λ u' Q X hX=>wI (d:=d+3) S hX) <| bc (.mk λ u' Q X hX=>wJ (d:=d+3) S hX) <| bc (.mk λ u' Q X hX=>yK (d:=d+3) S hX) <| bc (.mk λ u' Q X hX=>wK (d:=d+3) S (by obtain ⟨k,ps,ts,e,_,_,hk,_⟩:=c1;exact ⟨k,_,e,hk⟩) hX) <| bc (.mk λ u' Q X hX=>wL (d:=d+3) S hX) <| bc (.mk λ u' Q X hX=>wM (d:=d+3) S hX) <| bc (.mk λ u' Q X hX=>wO (d:=d+3) S hX) <| bc (.mk λ u' Q X hX=>wP (d:=d+3) S hX) <| bc (.mk λ u' Q X hX=>yL (d:=d+3) S hX) <| bc (.mk λ u' Q X hX=>wQ (d:=d+3) S hX) <| bc (.mk λ u' Q X hX=>yM (d:=d+3) S hX) <| bc (.mk λ u' Q X hX=>yN (d:=d+3) S hX) <| bc (.mk λ u' Q X hX=>yO (d:=d+3) S rfl (s1.mono sb) (s2.mono sb) (s3.mono sb) (s4.mono sb) (s5.mono sb) (s6.mono sb) hX) <| bc (.mk λ u' Q X hX=>yP (d:=d+3) S hX) <| bc (.mk λ u' Q X hX=>wR (d:=d+3) S hX) <| bc (.mk λ u' Q X hX=>wS (d:=d+3) S hX) <| bc (.mk λ u' Q X hX=>wU (d:=d+3) S hX) <| bc (.mk λ u' Q X hX=>wV (d:=d+3) S hX) <| bc (.mk λ u' Q X hX=>yQ (d:=d+3) S hX) <| λ u' h=>nomatch h
theorem rd (hc:call=U tb (d+13)) (I:Inv F i n t T ms ds σ) (hN:Nms F t.2.2 ρ) (hi:i<20) (hn:n<=60*i+12) (K:jL F i N):execs tb call [.asg (.tup [.x 109,.x 99]) (.call (.g 331) [.v 279]),
 .if_ (.or [.cmp (.v 109) .ne (.cS 226),.cmp (.v 178) .eq (.lst false [])]) [
  .asg (.x 332) (.cB true),
  .try_ [
   .ex (.call (.g 319) [.v 183,.v 109,.v 99])] 12 [
   .asg (.x 332) (.cB false)],
  .if_ (.v 332) [
   .ret (.cB false)] []] []] ρ σ N R X:=by
 conv=>whnf
 refine rwE hN.po ?_
 refine yV hc (tZ (d:=d+8) I.po (by lia) λ v hv σ1 p1 q1=>?_)
 replace I:=I.drew p1 q1
 refine fX (q9 hc I hi v hv) ?_;intro k vs z2 hb;obtain rfl:=z2
 have run:(k=226->T=[])->execs tb call [.asg (.x 332) (.cB true),.try_ [.ex (.call (.g 319) [.v 183,.v 109,.v 99])] 12 [.asg (.x 332) (.cB false)],.if_ (.v 332) [.ret (.cB false)] []] (upd 99 vs (upd 109 (.str k) ρ)) σ1 N R X:=by
  intro hT
  conv=>whnf
  refine rwE (show upd 332 _ (upd 99 _ (upd 109 _ ρ)) 183=some (.loc F.pt) from hN.pt) ?_
  refine hb hT _ _ λ σ2 h2=>?_
  exact K _ _ _ _ _ _ ((I.same h2).next (by lia)) ⟨hN.po,hN.pt,hN.ow,hN.lp,hN.du⟩
 have stop:execs tb call [] (upd 99 vs (upd 109 (.str k) ρ)) σ1 N R X:=K _ _ _ _ _ _ (I.next (by lia)) ⟨hN.po,hN.pt,hN.ow,hN.lp,hN.du⟩
 refine ⟨rfl,?_⟩
 conv=>whnf
 by_cases q:k=226
 ·refine rwE (show (k==226)=true by simp [q]) ?_
  conv=>whnf
  refine rwE (show upd 99 _ (upd 109 _ ρ) 178=some (.loc F.lp) from hN.lp) ?_
  conv=>whnf
  refine rwE (mz I.lp) ?_
  induction T using List.casesOn with
  | nil=>exact run λ u'=>rfl
  | cons s T=>exact stop
 ·refine rwE (show (k==226)=false by simp [q]) ?_
  exact run λ e=>absurd e q
end
section
variable {call:ah} {d:Nat} {σ:St} {Q:PV} {X:PX} {pt st vd sh tbl tr pl o mk cl:Nat} {m fi sk w mi da v path p0 p1 p2 p3:V} {c j:Int} {ms cs:List V}
theorem xo {k:Nat} (hk:k=312\/k=313\/k=56\/k=283\/k=285\/k=284\/k=286\/k=52\/k=287\/k=320) (D:PD pt st vd mk cl) (P:PS pt st vd sh pl o mk cl m fi sk w mi da (aa (box p0 p1 p2 p3)) c j ms cs σ) (l1:ms.length<900) (l2:cs.length<900)
 (h:∀ σ',jI pt st sh pl o mk cl ms cs (kq k (box p0 p1 p2 p3) fi sk w) σ σ'->Q .none σ'):U tb (d+7) 55 [] [.loc pt,.str k,.lst []] σ Q X:=by
 refine zP (P:=λ k=>(∀ σ',jI pt st sh pl o mk cl ms cs (kq k (box p0 p1 p2 p3) fi sk w) σ σ'->Q .none σ')->U tb (d+7) 55 [] [.loc pt,.str k,.lst []] σ Q X) hk ?_ ?_ ?_ ?_ ?_ ?_ ?_ ?_ ?_ ?_ h
 ·exact λ h=>wk (d:=d+2) 1 [.f] rfl (And.intro a0 λ Q1 hq1=>aJ (d:=d+5) rfl rfl P.hp (hq1 _ _ [.f] (And.intro a0 λ Q2 hq2=>bk D P l1 l2 (.inl ⟨rfl,rfl⟩) (.inr ⟨rfl,rfl⟩) λ σ' p=>hq2 _ _ [] (And.intro a0 (h σ' p)))))
 ·exact λ h=>wk (d:=d+2) 1 [.f] rfl (And.intro a0 λ Q1 hq1=>aJ (d:=d+5) rfl rfl P.hp (hq1 _ _ [.f] (And.intro a0 λ Q2 hq2=>bk D P l1 l2 (.inl ⟨rfl,rfl⟩) (.inr ⟨rfl,rfl⟩) λ σ' p=>hq2 _ _ [] (And.intro a0 (h σ' p)))))
 ·exact λ h=>wk (d:=d+2) 1 [.f] rfl (And.intro a0 λ Q1 hq1=>aJ (d:=d+5) rfl rfl P.hp (hq1 _ _ [.f] (And.intro a0 λ Q2 hq2=>bk D P l1 l2 (.inr ⟨_,rfl,rfl⟩) (.inl ⟨rfl,rfl⟩) λ σ' p=>hq2 _ _ [] (And.intro a0 (h σ' p)))))
 ·exact λ h=>wk (d:=d+2) 1 [.f] rfl (And.intro a0 λ Q1 hq1=>aJ (d:=d+5) rfl rfl P.hp (hq1 _ _ [.f] (And.intro a0 λ Q2 hq2=>bk D P l1 l2 (.inr ⟨_,rfl,rfl⟩) (.inl ⟨rfl,rfl⟩) λ σ' p=>hq2 _ _ [] (And.intro a0 (h σ' p)))))
 ·exact λ h=>wk (d:=d+2) 1 [.f] rfl (And.intro a0 λ Q1 hq1=>aJ (d:=d+5) rfl rfl P.hp (hq1 _ _ [.f] (And.intro a0 λ Q2 hq2=>bk D P l1 l2 (.inr ⟨_,rfl,rfl⟩) (.inl ⟨rfl,rfl⟩) λ σ' p=>hq2 _ _ [] (And.intro a0 (h σ' p)))))
 ·exact λ h=>wk (d:=d+2) 1 [.f] rfl (And.intro a0 λ Q1 hq1=>aJ (d:=d+5) rfl rfl P.hp (hq1 _ _ [.f] (And.intro a0 λ Q2 hq2=>bk D P l1 l2 (.inr ⟨_,rfl,rfl⟩) (.inr ⟨rfl,rfl⟩) λ σ' p=>hq2 _ _ [] (And.intro a0 (h σ' p)))))
 ·exact λ h=>wk (d:=d+2) 1 [.f] rfl (And.intro a0 λ Q1 hq1=>aJ (d:=d+5) rfl rfl P.hp (hq1 _ _ [.f] (And.intro a0 λ Q2 hq2=>bk D P l1 l2 (.inr ⟨_,rfl,rfl⟩) (.inr ⟨rfl,rfl⟩) λ σ' p=>hq2 _ _ [] (And.intro a0 (h σ' p)))))
 ·exact λ h=>wk (d:=d+2) 1 [.f] rfl (And.intro a0 λ Q1 hq1=>aJ (d:=d+5) rfl rfl P.hp (hq1 _ _ [.f] (And.intro a0 λ Q2 hq2=>bk D P l1 l2 (.inr ⟨_,rfl,rfl⟩) (.inr ⟨rfl,rfl⟩) λ σ' p=>hq2 _ _ [] (And.intro a0 (h σ' p)))))
 ·exact λ h=>wk (d:=d+2) 1 [.f] rfl (And.intro a0 λ Q1 hq1=>aJ (d:=d+5) rfl rfl P.hp (hq1 _ _ [.f] (And.intro a0 λ Q2 hq2=>bk D P l1 l2 (.inr ⟨_,rfl,rfl⟩) (.inr ⟨rfl,rfl⟩) λ σ' p=>hq2 _ _ [] (And.intro a0 (h σ' p)))))
 ·exact λ h=>wk (d:=d+2) 1 [.f] rfl (And.intro a0 λ Q1 hq1=>aJ (d:=d+5) rfl rfl P.hp (hq1 _ _ [.f] (And.intro a0 λ Q2 hq2=>bk D P l1 l2 (.inl ⟨rfl,rfl⟩) (.inl ⟨rfl,rfl⟩) λ σ' p=>hq2 _ _ [] (And.intro a0 (h σ' p)))))
theorem pk (k:Nat) (l:List V) (fi sk w:V):(kq k l fi sk w).length<=2:=by
 delta kq
 refine rwE List.length_append ?_
 refine Nat.add_le_add (b:=1) (d:=1) ?_ ?_
 ·repeat' split
  ·exact Nat.le_refl 1
  ·exact Nat.le_refl 1
  ·exact Nat.zero_le 1
 ·split
  ·exact Nat.le_refl 1
  ·exact Nat.zero_le 1
end
section
variable {call:ah} {d:Nat} {F:Fx} {i:Nat} {n n':Int} {t:Nat×Nat×Nat} {T:List (Nat×Nat×Nat)} {ms ds nw nd:List V} {σ σ':St} {ρ:Rho} {N:PN} {R:PV} {X X':PX} {Z:St->Prop}
theorem Inv.marked (I:Inv F i n t T ms ds σ) (hp:ai F.po n' σ') (hk:∀ a m,a≠F.pt->a≠F.mrk->a≠F.cl->a≠F.du->look a σ=some m->look a σ'=some m) (h1:look F.pt σ'=some (ptM F.sh t.1 F.pl F.o F.mrk F.cl (aa []))) (h2:look F.mrk σ'=some (.lst (ms++nw))) (h3:look F.cl σ'=some (.lst ((ms.map λ u'=>.tup [])++nw.map λ u'=>.tup []))) (h4:look F.du σ'=some (.lst (ds++nd))) (hr:bp nw nd) (hl:nw.length<=2):Inv F (i+1) n' t T (ms++nw) (ds++nd) σ':=by
 have g:∀ s∈t::T,fJ (4*i) s σ->fJ (4*(i+1)) s σ':=λ s hs G=>G.keep (by omega) λ a ha n e=>by
  have nd:=I.nd
  rw [List.nodup_append] at nd
  have hm:=eJ hs ha
  exact hk a n (nd.2.2 F.pt (by simp) a hm).symm (nd.2.2 F.mrk (by simp) a hm).symm (nd.2.2 F.cl (by simp) a hm).symm (nd.2.2 F.du (by simp) a hm).symm e
 exact ⟨hp,h1,hk _ _ (Ne.symm (I.nn 1 2 rfl)) (I.nn 2 4 rfl) (I.nn 2 5 rfl) (I.nn 2 6 rfl) I.sh,hk _ _ (Ne.symm (I.nn 1 3 rfl)) (I.nn 3 4 rfl) (I.nn 3 5 rfl) (I.nn 3 6 rfl) I.tbl,h2,by refine rwE List.map_append ?_;exact h3,h4,hk _ _ (Ne.symm (I.nn 1 7 rfl)) (Ne.symm (I.nn 4 7 rfl)) (Ne.symm (I.nn 5 7 rfl)) (Ne.symm (I.nn 6 7 rfl)) I.pl,hk _ _ (Ne.symm (I.nn 1 8 rfl)) (Ne.symm (I.nn 4 8 rfl)) (Ne.symm (I.nn 5 8 rfl)) (Ne.symm (I.nn 6 8 rfl)) I.lp,I.mr.app hr,by refine rwE List.length_append ?_;have:=I.ml;omega,by have:=I.tl;omega,g _ (List.mem_cons_self ..) I.now,λ s hs=>g _ (List.mem_cons_of_mem _ hs) (I.old s hs),I.nd⟩
theorem mC (hc:call=U tb (d+13)) (I:Inv F i n t T ms ds σ) (hN:Nms F t.2.2 ρ) (hi:i<20) (hn:n<=60*i+70) {k:Nat} (hk:k=312\/k=313\/k=56\/k=283\/k=285\/k=284\/k=286\/k=52\/k=287\/k=320) {a b c e f g cc jj:Int} {fi sk w mi da fi' sk' w' mi' da':V} (h1:look t.1 σ=some (stV (mat a b c e f g) fi sk t.2.1)) (h2:look t.2.1 σ=some (vdM w cc jj mi da)) (h3:look t.2.2 σ=some (ay (.lst [.int a,.int b,.int c,.int e,.int f,.int g]) fi' sk' w' cc jj mi' da'))
 (hs:sm 90 a/\sm 90 b/\sm 90 c/\sm 90 e) (c1:eI fi fi') (c2:eI sk sk') (c3:gf w w') {x y u s:Int} (hx:sm 80 x) (hy:sm 80 y) (hu:sm 80 u) (hs':sm 80 s) (r1:ρ 109=some (.str k)) (r2:ρ 62=some (.int x)) (r3:ρ 63=some (.int y)) (r4:ρ 163=some (.int u)) (r5:ρ 241=some (.int s)) (K:jL F i N):execs tb call [.ex (.call (.g 319) [.v 183,.v 109,.lst false []]),.ex (.meth (.v 318) 334 [.call (.g 335) [.v 297,.v 109,.v 62,.v 63,.v 163,.v 241]])] ρ (put F.pt (ptM F.sh t.1 F.pl F.o F.mrk F.cl (aa (sf a b c e f g x y u s))) σ) N R X:=by
 refine bq (I.st_ne (x:=F.pt) (.inl (.tail _ (.head _)))) ?_;intro m1 m2 m3
 refine bq (I.st_ne (x:=F.mrk) (.inl (.tail _ (.tail _ (.tail _ (.tail _ (.head _))))))) ?_;intro o1 o2 o3
 refine bq (I.st_ne (x:=F.cl) (.inl (.tail _ (.tail _ (.tail _ (.tail _ (.tail _ (.head _)))))))) ?_;intro x1 x2 x3
 have hml:=I.ml
 have hdl:=I.mr.len
 have q3:F.pt≠F.mrk:=I.nn 1 4 rfl
 have q4:F.pt≠F.cl:=I.nn 1 5 rfl
 have t2:F.mrk≠F.du:=I.nn 4 6 rfl
 have u1:F.cl≠F.du:=I.nn 5 6 rfl
 have q5:F.pt≠F.du:=I.nn 1 6 rfl
 generalize e1:put F.pt (ptM F.sh t.1 F.pl F.o F.mrk F.cl (aa (sf a b c e f g x y u s))) σ=σ1
 have lpt:look F.pt σ1=some (ptM F.sh t.1 F.pl F.o F.mrk F.cl (aa (sf a b c e f g x y u s))):=e1▸af I.pt
 have k1:∀ r m,r≠F.pt->look r σ=some m->look r σ1=some m:=λ r m q h=>e1▸(ac q).trans h
 refine ws (d:=d+9) 1 [.v 183 (.loc F.pt),.v 109 (.str k),.f] hc (And.intro (a2 r1 hN.pt a0) λ Q1 hq1=>?_)
 refine xo (d:=d+6) hk ⟨I.nn 4 5 rfl,q3,o1.symm,q4,x1.symm,o2.symm,x2.symm⟩ ⟨lpt,k1 _ _ m1.symm h1,k1 _ _ m2.symm h2,k1 _ _ q3.symm I.mrk,k1 _ _ q4.symm I.cl⟩ (by omega) (by refine rwE (List.length_map ..) ?_;omega) λ σ2 P=>?_
 have k2:∀ r m,r≠F.pt->r≠F.mrk->r≠F.cl->look r σ=some m->look r σ2=some m:=λ r m q q' q'' h=>P.r _ _ q q' q'' (k1 _ _ q h)
 have ldu:=k2 _ _ q5.symm t2.symm u1.symm I.du
 have tl:=ph k (t4 a b c e f g x y u s) fi' sk' w'
 refine hq1 _ _ [.v 318 (.loc F.du),.m (.lst ds),.v 297 (.loc t.2.2),.v 109 (.str k),.v 62 (.int x),.v 63 (.int y),.v 163 (.int u),.v 241 (.int s),.f] (And.intro (a8 r5 r4 r3 r2 r1 hN.ow ldu hN.du a0) λ Q2 hq2=>?_)
 refine lm (d:=d+11) hk rfl (k2 _ _ m3.symm o3.symm x3.symm h3) hs.1 hs.2.1 hs.2.2.1 hs.2.2.2 hx hy hu hs' λ l hl=>?_
 have S:az σ2 ((l,.lst (fA k (t4 a b c e f g x y u s) fi' sk' w'))::σ2):=az.cons hl
 refine hq2 _ _ [.i 0,.m (.lst ds)] (And.intro (a3 ⟨aw ldu hl,by omega⟩ (S _ _ ldu) rfl a0) ?_)
 have k3:∀ r m,r≠F.du->look r σ2=some m->look r (put F.du (.lst (ds++fA k (t4 a b c e f g x y u s) fi' sk' w')) ((l,.lst (fA k (t4 a b c e f g x y u s) fi' sk' w'))::σ2))=some m:=λ r m q h=>(ac q).trans (S _ _ h)
 obtain ⟨pc,pg,ps,pp,hpo,hr⟩:=I.po.up hn
 exact K _ _ _ _ _ _ (I.marked ⟨pc,pg,ps,pp,k3 _ _ (I.nn 0 6 rfl) (k2 _ _ (I.nn 0 1 rfl) (I.nn 0 4 rfl) (I.nn 0 5 rfl) hpo),hr⟩ (λ r m a1 a2 a3 a4 h=>k3 _ _ a4 (k2 _ _ a1 a2 a3 h)) (k3 _ _ q5 P.p) (k3 _ _ t2 P.m) (k3 _ _ u1 P.c) (af (S _ _ ldu)) (qW c1 c2 c3) (pk ..)) hN
end
theorem g7 {r:Int} (h:0<=r) (h':r<9):sm 80 (r - 2):=sm.mono (n:=3) (by delta sm;lia) (by decide)
section
variable {call:ah} {d:Nat} {F:Fx} {i:Nat} {n n':Int} {t:Nat×Nat×Nat} {T:List (Nat×Nat×Nat)} {ms ds nw nd:List V} {σ σ':St} {ρ:Rho} {N:PN} {R:PV} {X X':PX} {Z:St->Prop}
theorem mD (hc:call=U tb (d+13)) (I:Inv F i n t T ms ds σ) (hN:Nms F t.2.2 ρ) (hi:i<20) (hn:n<=60*i+12) (K:jL F i N):execs tb call [
 .asg (.tup [.x 62,.x 63,.x 163,.x 241]) (.comp (.bin .sub (.call (.g 296) [.v 279,.cI 9]) (.cI 2)) (.x 278) (.call (.g 44) [.cI 4])),
 .asg (.x 109) (.sub (.g 333) (.call (.g 296) [.v 279,.cI 10])),
 .if_ (.cmp (.call (.g 296) [.v 279,.cI 2]) .eq (.cI 1)) [
  .ex (.call (.g 319) [.v 183,.cS 238,.lst false [.cI 7,.cI 7]])] [],
 .ex (.call (.g 319) [.v 183,.cS 242,.lst false [.v 62,.v 63,.v 163,.v 241]]),
 .ex (.call (.g 319) [.v 183,.v 109,.lst false []]),
 .ex (.meth (.v 318) 334 [.call (.g 335) [.v 297,.v 109,.v 62,.v 63,.v 163,.v 241]])] ρ σ N R X:=by
 conv=>whnf
 refine rwE (show upd 278 _ ρ 279=some (.loc F.po) from hN.po) ?_
 refine cM (d:=d+12) hc I.po (by lia) (by decide) (by decide) λ r1 σ1 a1 b1 p1 q1=>?_
 replace I:=I.drew p1 q1
 conv=>whnf
 refine rwE (show upd 278 _ ρ 279=some (.loc F.po) from hN.po) ?_
 refine cM (d:=d+12) hc I.po (by lia) (by decide) (by decide) λ r2 σ2 a2 b2 p2 q2=>?_
 replace I:=I.drew p2 q2
 conv=>whnf
 refine rwE (show upd 278 _ ρ 279=some (.loc F.po) from hN.po) ?_
 refine cM (d:=d+12) hc I.po (by lia) (by decide) (by decide) λ r3 σ3 a3 b3 p3 q3=>?_
 replace I:=I.drew p3 q3
 conv=>whnf
 refine rwE (show upd 278 _ ρ 279=some (.loc F.po) from hN.po) ?_
 refine cM (d:=d+12) hc I.po (by lia) (by decide) (by decide) λ r4 σ4 a4 b4 p4 q4=>?_
 replace I:=I.drew p4 q4
 have w1:=g7 a1 b1
 have w2:=g7 a2 b2
 have w3:=g7 a3 b3
 have w4:=g7 a4 b4
 clear p1 q1 p2 q2 p3 q3 p4 q4 a1 a2 a3 a4 b1 b2 b3 b4
 refine ⟨rfl,?_⟩
 conv=>whnf
 refine rwE (show upd 241 _ (upd 163 _ (upd 63 _ (upd 62 _ ρ))) 279=some (.loc F.po) from hN.po) ?_
 refine cM (d:=d+12) hc I.po (by lia) (by decide) (by decide) λ r σ5 a5 b5 p5 q5=>?_
 replace I:=I.drew p5 q5
 obtain ⟨k,hk,e⟩:∃ k,(k=312\/k=313\/k=56\/k=283\/k=285\/k=284\/k=286\/k=52\/k=287\/k=320)/\cU tb (.tup [.str 312,.str 313,.str 56,.str 283,.str 285,.str 284,.str 286,.str 52,.str 287,.str 320]) (.int r) σ5=some (.str k):=by
  rcases (show r=0\/r=1\/r=2\/r=3\/r=4\/r=5\/r=6\/r=7\/r=8\/r=9 by lia) with rfl | rfl | rfl | rfl | rfl | rfl | rfl | rfl | rfl | rfl<;>exact ⟨_,by decide,rfl⟩
 conv=>whnf
 refine rwE e ?_
 conv=>whnf
 refine rwE (show upd 109 _ (upd 241 _ (upd 163 _ (upd 63 _ (upd 62 _ ρ)))) 279=some (.loc F.po) from hN.po) ?_
 refine cM (d:=d+12) hc I.po (by lia) (by decide) (by decide) λ r6 σ6 a6 b6 p6 q6=>?_
 replace I:=I.drew p6 q6
 obtain ⟨a,b,c,e,f,g,cc,jj,fi,sk,w,mi,da,fi',sk',w',mi',da',h1,h2,h3,⟨s1,s2,s3,s4,s5,s6⟩,c1,c2,c3,hcs⟩:=I.now
 refine bq (I.st_ne (x:=F.pt) (.inl (by simp))) ?_;intro m1 m2 m3
 have sb:4*i<=90:=by lia
 have hN':Nms F t.2.2 (upd 109 (.str k) (upd 241 (.int (r4 - 2)) (upd 163 (.int (r3 - 2)) (upd 63 (.int (r2 - 2)) (upd 62 (.int (r1 - 2)) ρ))))):=⟨hN.po,hN.pt,hN.ow,hN.lp,hN.du⟩
 have fin:=mC (N:=N) (R:=R) (X:=X) hc I hN' hi (by lia) hk h1 h2 h3 ⟨s1.mono sb,s2.mono sb,s3.mono sb,s4.mono sb⟩ c1 c2 c3 w1 w2 w3 w4 rfl rfl rfl rfl rfl K
 rcases (show r6=0\/r6=1 by lia) with rfl | rfl
 ·conv=>whnf
  refine rwE hN'.pt ?_
  refine qS (d:=d+3) hc I.pt h1 (s1.mono sb) (s2.mono sb) (s3.mono sb) (s4.mono sb) (s5.mono sb) (s6.mono sb) w1 w2 w3 w4 ?_
  exact fin
 ·conv=>whnf
  refine rwE hN'.pt ?_
  refine wB (d:=d+3) hc I.pt h1 (s1.mono sb) (s2.mono sb) (s3.mono sb) (s4.mono sb) (s5.mono sb) (s6.mono sb) λ p=>?_
  conv=>whnf
  refine rwE hN'.pt ?_
  refine qT (d:=d+3) hc (af I.pt) ((ac m1.symm).trans h1) (s1.mono sb) (s2.mono sb) (s3.mono sb) (s4.mono sb) (s5.mono sb) (s6.mono sb) w1 w2 w3 w4 ?_
  refine rwE cA ?_
  exact fin
end
noncomputable def uZ:List S:=[
 .asg (.x 263) (.call (.g 296) [.v 279,.cI 8]),
 .if_ (.cmp (.v 263) .eq (.cI 0)) [
  .ex (.call (.g 319) [.v 183,.cS 224,.lst false []]),
  .ex (.meth (.v 178) 90 [.call (.g 33) [.v 297]])] [
  .if_ (.and [.cmp (.v 263) .eq (.cI 1),.cmp (.v 178) .ne (.lst false [])]) [
   .ex (.call (.g 319) [.v 183,.cS 226,.lst false []]),
   .asg (.x 297) (.meth (.v 178) 228 [])] [
   .if_ (.cmp (.v 263) .eq (.cI 2)) [
    .asg (.x 243) (.comp (.bin .sub (.call (.g 296) [.v 279,.cI 5]) (.cI 1)) (.x 278) (.call (.g 44) [.cI 6])),
    .asg (.tup [.x 51,.x 52,.x 53,.x 54,.x 55,.x 56]) (.v 243),
    .asg (.tup [.x 145,.x 239,.x 238,.x 320,.x 321,.x 93]) (.sub (.v 297) (.cS 95)),
    .asg (.sub (.v 297) (.cS 95)) (.lst false [.bin .add (.bin .mul (.v 51) (.v 145)) (.bin .mul (.v 52) (.v 238)),.bin .add (.bin .mul (.v 51) (.v 239)) (.bin .mul (.v 52) (.v 320)),.bin .add (.bin .mul (.v 53) (.v 145)) (.bin .mul (.v 54) (.v 238)),.bin .add (.bin .mul (.v 53) (.v 239)) (.bin .mul (.v 54) (.v 320)),.bin .add (.bin .add (.bin .mul (.v 55) (.v 145)) (.bin .mul (.v 56) (.v 238))) (.v 321),.bin .add (.bin .add (.bin .mul (.v 55) (.v 239)) (.bin .mul (.v 56) (.v 320))) (.v 93)]),
    .ex (.call (.g 319) [.v 183,.cS 305,.v 243])] [
    .if_ (.cmp (.v 263) .eq (.cI 3)) [
     .asg (.x 109) (.sub (.tup [.cS 143,.cS 322,.cS 144,.cS 323,.cS 145,.cS 324,.cS 148,.cS 325,.cS 303,.cS 326,.cS 327,.cS 328]) (.call (.g 296) [.v 279,.cI 12])),
     .ex (.call (.g 319) [.v 183,.v 109,.call (.g 329) [.v 279,.v 297,.v 109]])] [
     .if_ (.cmp (.v 263) .eq (.cI 4)) [
      .asg (.x 109) (.sub (.tup [.cS 163,.cS 159,.cS 161,.cS 169,.cS 54,.cS 230]) (.call (.g 296) [.v 279,.cI 6])),
      .ex (.call (.g 319) [.v 183,.v 109,.call (.g 330) [.v 279,.v 297,.v 109]])] [
      .if_ (.cmp (.v 263) .eq (.cI 5)) [
       .asg (.tup [.x 109,.x 99]) (.call (.g 331) [.v 279]),
       .if_ (.or [.cmp (.v 109) .ne (.cS 226),.cmp (.v 178) .eq (.lst false [])]) [
        .asg (.x 332) (.cB true),
        .try_ [
         .ex (.call (.g 319) [.v 183,.v 109,.v 99])] 12 [
         .asg (.x 332) (.cB false)],
        .if_ (.v 332) [
         .ret (.cB false)] []] []] [
       .asg (.tup [.x 62,.x 63,.x 163,.x 241]) (.comp (.bin .sub (.call (.g 296) [.v 279,.cI 9]) (.cI 2)) (.x 278) (.call (.g 44) [.cI 4])),
       .asg (.x 109) (.sub (.g 333) (.call (.g 296) [.v 279,.cI 10])),
       .if_ (.cmp (.call (.g 296) [.v 279,.cI 2]) .eq (.cI 1)) [
        .ex (.call (.g 319) [.v 183,.cS 238,.lst false [.cI 7,.cI 7]])] [],
       .ex (.call (.g 319) [.v 183,.cS 242,.lst false [.v 62,.v 63,.v 163,.v 241]]),
       .ex (.call (.g 319) [.v 183,.v 109,.lst false []]),
       .ex (.meth (.v 318) 334 [.call (.g 335) [.v 297,.v 109,.v 62,.v 63,.v 163,.v 241]])]]]]]],
 .if_ (.not (.call (.g 336) [.at_ (.v 183) 123,.v 297])) [
  .ret (.cB false)] []]
section
variable {call:ah} {d:Nat} {F:Fx} {i:Nat} {n n':Int} {t:Nat×Nat×Nat} {T:List (Nat×Nat×Nat)} {ms ds nw nd:List V} {σ σ':St} {ρ:Rho} {N:PN} {R:PV} {X X':PX} {Z:St->Prop}
theorem turn (hc:call=U tb (d+13)) (I:Inv F i (60*i+10) t T ms ds σ) (hN:Nms F t.2.2 ρ) (hi:i<20) (K:jL F i N):execs tb call uZ ρ σ N R X:=by
 conv=>whnf
 refine rwE hN.po ?_
 refine cM (d:=d+12) hc I.po (by lia) (by decide) (by decide) λ r σ1 a1 b1 p1 q1=>?_
 replace I:=I.drew p1 q1
 have K1:jL F i λ ρ σ=>execs tb call [.if_ (.not (.call (.g 336) [.at_ (.v 183) 123,.v 297])) [.ret (.cB false)] []] ρ σ N R X:=λ t T ms ds ρ σ I hN=>qX hc I hN K
 have hN1:∀ v,Nms F t.2.2 (upd 263 v ρ):=λ v=>⟨hN.po,hN.pt,hN.ow,hN.lp,hN.du⟩
 have paint:=λ v=>mD (R:=R) (X:=X) hc I (hN1 v) hi (by lia) K1
 rcases (show r=0\/r=1\/r=2\/r=3\/r=4\/r=5\/r=6\/r=7 by lia) with rfl | rfl | rfl | rfl | rfl | rfl | rfl | rfl
 ·exact xk (R:=R) (X:=X) hc I (hN1 (.int 0)) hi (by lia) K1
 ·conv=>whnf
  refine rwE ((hN1 _).lp) ?_
  conv=>whnf
  refine rwE (mB I.lp) ?_
  rcases List.eq_nil_or_concat T with h | ⟨T',s,h⟩
  ·subst h
   exact paint (.int 1)
  ·rw [List.concat_eq_append] at h
   subst h
   refine rwE List.map_append ?_;refine rwE (show (!(T'.map (λ t=>V.loc t.2.2)++[s].map λ t=>V.loc t.2.2).isEmpty)=true by simp) ?_
   exact xl (R:=R) (X:=X) hc I (hN1 (.int 1)) (by lia) K1
 ·exact t5 (R:=R) (X:=X) hc I (hN1 (.int 2)) hi (by lia) K1
 ·exact q8 (R:=R) (X:=X) hc I (hN1 (.int 3)) hi (by lia) K1
 ·exact pj (R:=R) (X:=X) hc I (hN1 (.int 4)) hi (by lia) K1
 ·exact rd (R:=R) (X:=X) hc I (hN1 (.int 5)) hi (by lia) K1
 ·exact paint (.int 6)
 ·exact paint (.int 7)
end
noncomputable abbrev Ad (σ:St):List Nat:=σ.map (λ x=>x.1)
theorem notin {x:Nat} {σ:St} (h:∀ p∈σ,p.1≠x):x∉Ad σ:=λ hx=>by
 refine au (List.mem_map.mp hx) ?_;intro p hp e
 exact h p hp e
theorem g8 {a:Nat} {m:M}:∀ {σ:St},(Ad σ).Nodup->(a,m)∈σ->look a σ=some m
 | (b,n)::r,hn,h=>by
  have hn':b∉Ad r/\(Ad r).Nodup:=List.nodup_cons.mp hn
  rcases List.mem_cons.mp h with e | h
  ·cases e;exact am
  ·have hb:a≠b:=λ e=>hn'.1 (e▸List.mem_map.mpr ⟨_,h,rfl⟩)
   exact (aD hb).trans (g8 hn'.2 h)
theorem ax {l b x:Nat} {m:M} {v:V} {σ σ':St} (h:l≠b) (e:setAt tb (.loc l) x v σ=some σ'):setAt tb (.loc l) x v ((b,m)::σ)=some ((b,m)::σ'):=by
 delta setAt at *
 dsimp only at *
 refine rwE (aD h) ?_
 induction hl:look l σ using Option.casesOn with
 | none=>rw [hl] at e;exact J e
 | some m' =>
  rw [hl] at e
  induction m' using Mine.Internal.M.casesOn with
  | ob c fs =>
   dsimp only at *
   split at e
   ·rename_i q
    refine rwE (if_pos q) ?_
    cases e
    exact congrArg some (if_neg h)
   ·exact J e
  | _=>exact J e
section
variable {call:ah} {d:Nat} {σ:St} {Q:PV} {X:PX} {ρ:Rho} {N:PN} {R:PV}
noncomputable abbrev nZ:List S:=[.asg (.x 123) (.bin .mod (.bin .add (.bin .add (.bin .mul (.v 123) (.cI 48271)) (.bin .mod (.v 274) (.cI 2147483647))) (.cI 11)) (.cI 2147483647))]
theorem lI {W G:V} (hN:∀ (ρ':Rho) (st:Int),ρ' 273=some W->ρ' 276=some G->ρ' 123=some (.int st)->0<=st/\st<2147483647->N ρ' σ):∀ {l:List Int} {ρ:Rho} {st:Int},ρ 273=some W->ρ 276=some G->ρ 123=some (.int st)->0<=st/\st<2147483647 ->
 exF (λ ρ σ N R X=>execs tb call nZ ρ σ N R X) (λ v ρ σ N X=>asT tb call (.x 274) v ρ σ N X) (l.map .int) ρ σ N R X
 | [],ρ,st,h1,h2,h3,h4=>hN ρ st h1 h2 h3 h4
 | c::r,ρ,st,h1,h2,h3,h4=>by
  conv=>whnf
  refine rwE (show upd 274 _ ρ 123=some (.int st) from h3) ?_
  conv=>whnf
  refine rwE (eG (iD (by lia) (by lia)) (by decide +kernel)) ?_
  conv=>whnf
  exact lI hN (ρ:=upd 123 _ (upd 274 _ ρ)) h1 h2 rfl (fH (by decide))
theorem jb:∀ {l:List Int} {ρ:Rho} {Q:List V->St->Prop},Q (l.map .int) σ->evC (λ ρ σ Q=>evE tb call (.call (.g 15) [.v 274]) ρ σ Q λ u'=>False) (.x 274) (l.map .int) ρ σ Q
 | [],_,Q,h=>h
 | c::r,ρ,Q,h=>jb (l:=r) (Q:=λ ws σ=>Q (.int c::ws) σ) h
theorem t7 (hc:call=U tb (d+1)) {ns:List Int} (h:∀ l (cs:List Int) (g st:Int),l∉Ad σ->0<=st/\st<2147483647->Q (.loc l) ((l,.lst [.lst (cs.map .int),.int g,.int st,.int 0])::σ)):call 67 [] [.lst (ns.map .int)] σ Q X:=by
 refine Y ⟨[275],[],iM,false⟩ rfl rfl rfl hc λ call hc=>?_
 conv=>whnf
 refine rwB List.map_take ?_
 refine jb ?_
 have go:∀ (l:List Int) (ρ:Rho) (g:Int),ρ 273=some (.lst (l.map .int))->ρ 276=some (.int g)->execs tb call [.asg (.x 123) (.cI 7),.for_ (.x 274) (.v 273) nZ,.ret (.lst true [.v 273,.v 276,.v 123,.cI 0])] ρ σ (λ u' σ'=>Q .none σ') Q X:=λ l ρ g h1 h2=>by
  conv=>whnf
  refine rwE (show upd 123 _ ρ 273=some (.lst (l.map .int)) from h1) ?_
  refine lI (st:=7) (λ ρ' st k1 k2 k3 k4=>?_) h1 h2 rfl (by decide)
  conv=>whnf
  refine rwE k1 ?_
  conv=>whnf
  refine rwE k2 ?_
  conv=>whnf
  refine rwE k3 ?_
  intro a ha
  exact h a l g st (notin ha) k4
 generalize List.take (Int.toNat 40) ns=cs
 induction cs using List.casesOn with
 | nil =>
  intro a ha
  exact h a [] 0 7 (notin ha) (by decide)
 | cons c r =>
  conv=>whnf
  induction decide ((10:Int) ^ Int.toNat 15<=(c.natAbs:Int)) using Bool.casesOn with
  | false=>exact go (c::r) _ 0 (by rfl) (by rfl)
  | true=>exact go (c::r) (upd 276 (.int (Int.fmod (Int.fdiv c.natAbs 2) (10 ^ Int.toNat 200))) (upd 276 (.int 0) (upd 273 (.lst ((c::r).map .int)) (upd 275 (.lst (ns.map .int)) λ u'=>none)))) _ rfl rfl
theorem pn (hc:call=U tb (d+8)) (h:∀ sh tbl tr,sh∉Ad σ->tbl∉sh::Ad σ->tr∉tbl::sh::Ad σ->Q (.tup [.loc sh,uX]) ((tr,.dct [])::(tbl,lE)::(sh,shM tbl tr)::σ)):call 72 [] [] σ Q X:=by
 refine wk (d:=d+3) 1 [.i 1,.i 2,.i 2,.i 2,.i 1,.i 2,.i 2,.i 1,.i 2,.i 2,.i 1,.i 2,.i 2,.i 1,.i 2,.i 2,.i 1,.i 2,.i 2,.i 1,.i 2,.i 2,.i 1] hc (And.intro a0 λ sh hsh=>And.intro a0 ⟨by decide,λ tbl htb=>?_⟩)
 have n1:sh≠tbl:=htb _ (List.mem_cons_self ..)
 refine And.intro (a2 rfl n1 a0) ⟨by decide,λ tr htr=>?_⟩
 have n2:sh≠tr:=htr _ (List.mem_cons_of_mem _ (List.mem_cons_self ..))
 have n3:tbl≠tr:=htr _ (List.mem_cons_self ..)
 refine And.intro ?_ (h sh tbl tr (notin hsh) (notin htb) (notin htr))
 repeat (refine a1 (by first | exact rfl | exact n1 | exact n2 | exact n3 | decide) ?_)
 exact a0
end
section
variable {call:ah} {d:Nat} {σ:St} {Q:PV} {X:PX} {ρ:Rho} {N:PN} {R:PV}
theorem pH {x y:Nat} {l:List Nat} (h:x∉l) (k:y∈l):y≠x:=λ e=>h (e▸k)
noncomputable abbrev blk:V:=.tup [.str 102,.tup [dec 0 0]]
noncomputable abbrev mE:V:=.tup [.str 102,z0]
noncomputable abbrev vd0:M:=vdM (dec 1 0) 0 0 (dec 10 0) (.tup [.tup [],dec 0 0])
noncomputable abbrev st0 (vd:Nat):M:=stV (mat 1 0 0 1 0 0) blk blk vd
noncomputable abbrev zQ:M:=ay (.lst [.int 1,.int 0,.int 0,.int 1,.int 0,.int 0]) mE mE (.tup [.int 1,.int 0]) 0 0 (.tup [.int 10,.int 0]) (.tup [.tup [],z0])
theorem pq (hc:call=U tb (d+1)) (h:∀ ow,ow∉Ad σ->Q (.loc ow) ((ow,zQ)::σ)):call 73 [] [] σ Q X:=by
 refine Y ⟨[],[],f7,false⟩ rfl rfl rfl hc λ call hc=>?_
 refine ⟨by decide,?_⟩
 intro a ha
 exact h a (notin ha)
theorem bU {l k:Nat} {v:V} {kvs:List (Nat×V)} (hn:kvs.length<1000):bn (.loc l) (.str k) v ((l,.dct kvs)::σ)=some ((l,.dct (bN k v kvs))::σ):=by
 refine rwE (be am hn) ?_;refine rwE cC ?_;rfl
theorem jo (hc:call=U tb (d+3)) (h:∀ vd,vd∉Ad σ->Q (.loc vd) ((vd,vd0)::σ)):call 39 [] [] σ Q X:=by
 refine Y ⟨[],[],dJ,false⟩ rfl rfl rfl hc λ call hc=>?_
 refine ag hc ?_
 refine ag hc ?_
 refine ag hc ?_
 refine ⟨by decide,?_⟩
 intro a ha
 conv=>whnf
 refine rwE (bU (by decide)) ?_
 conv=>whnf
 refine rwE (bU (by decide)) ?_
 conv=>whnf
 refine rwE (bU (by decide)) ?_
 conv=>whnf
 refine rwE (bU (by decide)) ?_
 conv=>whnf
 refine rwE (bU (by decide)) ?_
 refine ag hc ?_
 conv=>whnf
 refine rwE (bU (by decide)) ?_
 conv=>whnf
 refine rwE (bU (by decide)) ?_
 conv=>whnf
 refine rwE (bU (by decide)) ?_
 exact h a (notin ha)
theorem pr {l:Nat} (hc:call=U tb (d+3)) (h:Q .none ((l,.ob 7 [(51,dec 1 0),(52,dec 0 0),(53,dec 0 0),(54,dec 1 0),(55,dec 0 0),(56,dec 0 0)])::σ)):call 19 [] [.loc l,.int 1,.int 0,.int 0,.int 1,.int 0,.int 0] ((l,.ob 7 [])::σ) Q X:=by
 refine Y ⟨[2,51,52,53,54,55,56],[],cJ,false⟩ rfl rfl rfl hc λ call hc=>?_
 refine ag hc ?_
 conv=>whnf
 refine rwE (ae (by rfl)) ?_
 refine ag hc ?_
 conv=>whnf
 refine rwE (ae (by rfl)) ?_
 refine ag hc ?_
 conv=>whnf
 refine rwE (ae (by rfl)) ?_
 refine ag hc ?_
 conv=>whnf
 refine rwE (ae (by rfl)) ?_
 refine ag hc ?_
 conv=>whnf
 refine rwE (ae (by rfl)) ?_
 refine ag hc ?_
 conv=>whnf
 refine rwE (ae (by rfl)) ?_
 exact h
theorem re (hc:call=U tb (d+4)) (h:Q (mat 1 0 0 1 0 0) σ):call 23 [] [] σ Q X:=by
 refine Y ⟨[],[],gJ,false⟩ rfl rfl rfl hc λ call hc=>?_
 intro l hl
 refine pr hc ?_
 conv=>whnf
 refine rwE am ?_
 conv=>whnf
 refine rwE aG ?_
 exact h
theorem kK (hc:call=U tb (d+5)) (h:∀ st vd,vd∉Ad σ->st∉vd::Ad σ->Q (.loc st) ((st,st0 vd)::(vd,vd0)::σ)):call 40 [] [.none] σ Q X:=by
 refine Y ⟨[95],[.none],et,false⟩ rfl rfl rfl hc λ call hc=>?_
 refine re hc ?_
 refine bY (d:=d+1) hc (v:=blk) (.inl ⟨rfl,rfl⟩) ?_
 refine bY (d:=d+1) hc (v:=blk) (.inl ⟨rfl,rfl⟩) ?_
 refine jo (d:=d+1) hc λ vd hvd=>?_
 intro st hst
 refine Y ⟨[2,95,96,97,98,99],[],eZ,false⟩ rfl rfl rfl hc λ call hc=>?_
 conv=>whnf
 refine rwE (ae (by rfl)) ?_
 conv=>whnf
 refine rwE (ae (by rfl)) ?_
 conv=>whnf
 refine rwE (ae (by rfl)) ?_
 conv=>whnf
 refine rwE (ae (by rfl)) ?_
 conv=>whnf
 refine rwE (ae (by rfl)) ?_
 exact h st vd hvd (notin hst)
theorem jp (hc:call=U tb (d+7)) {sh pt:Nat} (h:∀ st vd pl o mk cl,vd∉pt::Ad σ->st∉vd::pt::Ad σ->pl∉st::vd::pt::Ad σ->o∉pl::st::vd::pt::Ad σ->mk∉o::pl::st::vd::pt::Ad σ->cl∉mk::o::pl::st::vd::pt::Ad σ ->
 Q .none ((cl,.lst [])::(mk,.lst [])::(o,.lst [])::(pl,.lst [])::(st,st0 vd)::(vd,vd0)::(pt,ptM sh st pl o mk cl (aa []))::σ)):call 52 [] [.loc pt,.loc sh,uX] ((pt,.ob 10 [])::σ) Q X:=by
 refine Y ⟨[2,170,175,176,95],[.none,.none],dL,false⟩ rfl rfl rfl hc λ call hc=>?_
 conv=>whnf
 refine rwE (ae (by rfl)) ?_
 conv=>whnf
 refine rwE (ae (by rfl)) ?_
 conv=>whnf
 refine rwE (ae (by rfl)) ?_
 refine kK (d:=d+1) hc λ st vd hvd hst=>?_
 have n1:pt≠vd:=λ e=>hvd (e▸List.mem_cons_self ..)
 have n2:pt≠st:=λ e=>hst (e▸List.mem_cons_of_mem _ (List.mem_cons_self ..))
 have at2:∀ {x:Nat} {v:V} {fs:List (Nat×V)} {m m':M},(decide (fs.length<900)&&tb.fld 10 x)=true->setAt tb (.loc pt) x v ((st,m)::(vd,m')::(pt,.ob 10 fs)::σ)=some ((st,m)::(vd,m')::(pt,.ob 10 (bN x v fs))::σ):=λ hb=>ax n2 (ax n1 (ae hb))
 conv=>whnf
 refine rwE (at2 (by rfl)) ?_
 intro pl hpl
 have n3:pt≠pl:=pH (l:=st::vd::pt::Ad σ) (notin hpl) (by simp)
 conv=>whnf
 refine rwE (ax n3 (at2 (by rfl))) ?_
 conv=>whnf
 refine rwE (ax n3 (at2 (by rfl))) ?_
 intro a ha
 refine g5 (d:=d+5) hc ?_
 conv=>whnf
 refine rwE am ?_
 conv=>whnf
 refine rwE aG ?_
 clear ha a
 conv=>whnf
 refine rwE (ax n3 (at2 (by rfl))) ?_
 conv=>whnf
 refine rwE (ax n3 (at2 (by rfl))) ?_
 conv=>whnf
 refine rwE (ax n3 (at2 (by rfl))) ?_
 conv=>whnf
 refine rwE (ax n3 (at2 (by rfl))) ?_
 intro o ho
 have n4:pt≠o:=pH (l:=pl::st::vd::pt::Ad σ) (notin ho) (by simp)
 conv=>whnf
 refine rwE (ax n4 (ax n3 (at2 (by rfl)))) ?_
 intro mk hmk
 have n5:pt≠mk:=pH (l:=o::pl::st::vd::pt::Ad σ) (notin hmk) (by simp)
 conv=>whnf
 refine rwE (ax n5 (ax n4 (ax n3 (at2 (by rfl))))) ?_
 intro cl hcl
 have n6:pt≠cl:=pH (l:=mk::o::pl::st::vd::pt::Ad σ) (notin hcl) (by simp)
 conv=>whnf
 refine rwE (ax n6 (ax n5 (ax n4 (ax n3 (at2 (by rfl)))))) ?_
 exact h st vd pl o mk cl hvd hst (notin hpl) (notin ho) (notin hmk) (notin hcl)
end
theorem cH {a b:Nat} (h:a≠b):∀ {σ:St},look a (rem b σ)=look a σ
 | []=>rfl
 | (c,m)::r=>by
  by_cases q:b=c
  ·subst q
   refine rwE aG ?_;refine rwE (aD h) ?_;rfl
  ·refine rwE (show rem b ((c,m)::r)=(c,m)::rem b r from if_neg q) ?_
   by_cases q':a=c
   ·subst q';refine rwE am ?_;refine rwE am ?_;rfl
   ·refine rwE (aD q') ?_;refine rwE (aD q') ?_;refine rwE (cH h) ?_;rfl
theorem rf {r:Int} (h0:0<=r) (h1:r<16) (σ:St):∃ l,aF (.rng 0 (1+r) 1) σ=some (l,σ)/\l.length<=16:=by
 refine ⟨rk 0 (1+r) 1,?_,?_⟩
 ·show (if _ then _ else _)=_
  refine rwE (decide_eq_true (show -100000<=1+r by omega)) ?_;refine rwE (decide_eq_true (show 1+r<=100000 by omega)) ?_
  rfl
 ·show (if (0:Int)<1 then _ else _:List V).length<=16
  refine rwE (if_pos (by decide)) ?_;refine rwE (List.length_map ..) ?_;refine rwE List.length_range ?_
  omega
section
variable {call:ah} {d:Nat} {F:Fx} {i:Nat} {n n':Int} {t:Nat×Nat×Nat} {T:List (Nat×Nat×Nat)} {ms ds nw nd:List V} {σ σ':St} {ρ:Rho} {N:PN} {R:PV} {X X':PX} {Q:PV}
theorem u0 (hc:call=U tb (d+13)) (K:∀ i t T ms ds ρ σ,i<=16->Inv F i (60*i+10) t T ms ds σ->Nms F t.2.2 ρ->N ρ σ):∀ {l:List V} {i:Nat} {t:Nat×Nat×Nat} {T:List (Nat×Nat×Nat)} {ms ds:List V} {ρ:Rho} {σ:St},i+l.length<=16->Inv F i (60*i+10) t T ms ds σ->Nms F t.2.2 ρ ->
 exF (λ ρ σ N R X=>execs tb call uZ ρ σ N R X) (λ v ρ σ N X=>asT tb call (.x 92) v ρ σ N X) l ρ σ N R X
 | [],i,t,T,ms,ds,ρ,σ,hl,I,hN=>K _ _ _ _ _ _ _ hl I hN
 | v::r,i,t,T,ms,ds,ρ,σ,hl,I,hN=>by
  rw [List.length_cons] at hl
  refine turn (N:=λ ρ σ=>exF _ _ r ρ σ N R X) hc I (ρ:=upd 92 v ρ) ⟨hN.po,hN.pt,hN.ow,hN.lp,hN.du⟩ (by omega) λ t T ms ds ρ σ I hN=>?_
  exact u0 hc K (i:=i+1) (by omega) { I with po:=I.po.up (by omega) } hN
theorem t8 (hc:call=U tb (d+13)) (I:Inv F i n t T ms ds σ) (hi:i<=16) (hN:Nms F t.2.2 ρ) (h:∀ σ',Q (.bool true) σ'):execs tb call [.ret (.and [.cmp (.comp (.call (.g 337) [.v 184]) (.x 184) (.at_ (.v 183) 182)) .eq (.v 318),.cmp (.call (.g 70) [.at_ (.v 183) 96]) .eq (.call (.g 70) [.v 318])])] ρ σ N Q X:=by
 conv=>whnf
 refine rwE hN.pt ?_
 conv=>whnf
 refine rwE (ak I.pt) ?_
 conv=>whnf
 refine rwE (show aF (.loc F.mrk) σ=some (ms,rem F.mrk σ) by delta aF;dsimp only;(refine rwE I.mrk ?_;rfl)) ?_
 refine my (d:=d+8) hc I.mr ?_
 conv=>whnf
 refine rwE hN.du ?_
 conv=>whnf
 have ld:=(cH (Ne.symm (I.nn 4 6 rfl))).trans I.du
 rw [show bB .eq (.lst ds) (.loc F.du) (rem F.mrk σ)=some true by
  show eqV (.lst ds) (aL (.loc F.du) (rem F.mrk σ))=_
  refine rwE (fS ld) ?_
  exact lu I.mr.vok]
 conv=>whnf
 refine rwE hN.pt ?_
 conv=>whnf
 refine rwE (ak ((cH (I.nn 1 4 rfl)).trans I.pt)) ?_
 conv=>whnf
 refine rwE (d9 ((cH (Ne.symm (I.nn 4 5 rfl))).trans I.cl)) ?_
 conv=>whnf
 refine rwE hN.du ?_
 conv=>whnf
 refine rwE (d9 ld) ?_
 conv=>whnf
 refine rwE (show ((((ms.map λ u'=>V.tup []).length:Nat):Int)==((ds.length:Nat):Int))=true by (refine rwE (List.length_map ..) ?_;refine rwE I.mr.len ?_);exact beq_self_eq_true _) ?_
 exact h _
theorem g9 {L:List Nat} (h:L.Nodup):∀ {ix:List Nat},ix.Nodup->(∀ i∈ix,i<L.length)->(ix.map λ i=>L.getD i 0).Nodup
 | [],_,_=>List.nodup_nil
 | i::r,hn,hl=>by
  refine al (List.nodup_cons.mp hn) ?_;intro h1 h2
  refine List.nodup_cons.mpr ⟨λ hm=>?_,g9 h h2 λ j hj=>hl j (List.mem_cons_of_mem _ hj)⟩
  refine au (List.mem_map.mp hm) ?_;intro j hj e
  have li:=hl i (List.mem_cons_self ..)
  have lj:=hl j (List.mem_cons_of_mem _ hj)
  replace e:L.getD j 0=L.getD i 0:=e
  rw [List.getD_eq_getElem?_getD,List.getD_eq_getElem?_getD,List.getElem?_eq_getElem lj,List.getElem?_eq_getElem li] at e
  have:=List.pairwise_iff_getElem.mp h
  rcases Nat.lt_trichotomy i j with q | q | q
  ·exact this i j li lj q e.symm
  ·exact h1 (q▸hj)
  ·exact this j i lj li q e
theorem plain_law (ns:List Int) (hns:ns.length<=63):execs tb (U tb 40) jS (λ x=>if x=275 then some (.lst (ns.map .int)) else none) [] (λ u' u'=>False) (λ v u'=>v=.bool true) (λ u'=>False):=by
 obtain ⟨call,hc⟩:∃ c,c=U tb 40:=⟨_,rfl⟩
 refine rwB hc ?_
 refine t7 (d:=39) hc λ po cs g st hpo hst=>?_
 refine pn (d:=32) hc λ sh tbl tr hsh htbl htr=>?_
 refine ⟨rfl,?_⟩
 intro pt hpt
 refine jp (d:=33) hc λ st' vd pl o mk cl hvd hst' hpl ho hmk hcl=>?_
 refine pq (d:=39) hc λ ow how=>?_
 intro lp hlp
 intro du hdu
 have nd:[du,lp,ow,cl,mk,o,pl,st',vd,pt,tr,tbl,sh,po].Nodup:=List.nodup_cons.mpr ⟨notin hdu,List.nodup_cons.mpr ⟨notin hlp,List.nodup_cons.mpr ⟨how,List.nodup_cons.mpr ⟨hcl,List.nodup_cons.mpr ⟨hmk,List.nodup_cons.mpr ⟨ho,List.nodup_cons.mpr ⟨hpl,List.nodup_cons.mpr ⟨hst',List.nodup_cons.mpr ⟨hvd,List.nodup_cons.mpr ⟨notin hpt,List.nodup_cons.mpr ⟨htr,List.nodup_cons.mpr ⟨htbl,List.nodup_cons.mpr ⟨hsh,List.nodup_cons.mpr ⟨hpo,List.nodup_nil⟩⟩⟩⟩⟩⟩⟩⟩⟩⟩⟩⟩⟩⟩
 have lt14:∀ i∈[13,9,12,11,4,3,0,6,1,7,8,2],i<14:=by decide
 have tG:=g9 nd (ix:=[13,9,12,11,4,3,0,6,1,7,8,2]) (by decide) (λ i hi=>lt14 i hi)
 have hN:Nms ⟨po,pt,sh,tbl,tr,o,mk,cl,du,pl,lp⟩ ow (upd 318 (.loc du) (upd 178 (.loc lp) (upd 297 (.loc ow) (upd 183 (.loc pt) (upd 175 uX (upd 170 (.loc sh) (upd 279 (.loc po) λ x=>if x=275 then some (V.lst (ns.map .int)) else none))))))):=⟨rfl,rfl,rfl,rfl,rfl⟩
 generalize e0:([(du,M.lst []),(lp,M.lst []),(ow,zQ),(cl,M.lst []),(mk,M.lst []),(o,M.lst []),(pl,M.lst []),(st',st0 vd),(vd,vd0),(pt,ptM sh st' pl o mk cl (aa [])),(tr,M.dct []),(tbl,lE),(sh,shM tbl tr),(po,M.lst [V.lst (List.map V.int cs),V.int g,V.int st,V.int 0])]:St)=σ0
 have look0:∀ {a m},(a,m)∈σ0->look a σ0=some m:=λ h=>g8 (σ:=σ0) (e0▸nd) h
 have cR:eI blk mE:=⟨102,[dec 0 0],[z0],rfl,rfl,.cons (.dec _ _) .nil,.inl rfl,by decide⟩
 have s0:sm (4*0) 0:=by delta sm;decide
 have s1:sm (4*0) 1:=by delta sm;decide
 have I:Inv ⟨po,pt,sh,tbl,tr,o,mk,cl,du,pl,lp⟩ 0 9 (st',vd,ow) [] [] [] σ0 :=
  ⟨⟨cs,g,st,0,look0 (e0▸(.tail _ (.tail _ (.tail _ (.tail _ (.tail _ (.tail _ (.tail _ (.tail _ (.tail _ (.tail _ (.tail _ (.tail _ (.tail _ (.head _))))))))))))))),by decide,hst⟩,look0 (e0▸(.tail _ (.tail _ (.tail _ (.tail _ (.tail _ (.tail _ (.tail _ (.tail _ (.tail _ (.head _))))))))))),look0 (e0▸(.tail _ (.tail _ (.tail _ (.tail _ (.tail _ (.tail _ (.tail _ (.tail _ (.tail _ (.tail _ (.tail _ (.tail _ (.head _)))))))))))))),look0 (e0▸(.tail _ (.tail _ (.tail _ (.tail _ (.tail _ (.tail _ (.tail _ (.tail _ (.tail _ (.tail _ (.tail _ (.head _))))))))))))),look0 (e0▸(.tail _ (.tail _ (.tail _ (.tail _ (.head _)))))),look0 (e0▸(.tail _ (.tail _ (.tail _ (.head _))))),look0 (e0▸(.head _)),look0 (e0▸(.tail _ (.tail _ (.tail _ (.tail _ (.tail _ (.tail _ (.head _)))))))),look0 (e0▸(.tail _ (.head _))),.nil,Nat.zero_le _,Nat.zero_le _,
   ⟨1,0,0,1,0,0,0,0,blk,blk,dec 1 0,dec 10 0,.tup [.tup [],dec 0 0],mE,mE,.tup [.int 1,.int 0],.tup [.int 10,.int 0],.tup [.tup [],z0],look0 (e0▸(.tail _ (.tail _ (.tail _ (.tail _ (.tail _ (.tail _ (.tail _ (.head _))))))))),look0 (e0▸(.tail _ (.tail _ (.tail _ (.tail _ (.tail _ (.tail _ (.tail _ (.tail _ (.head _)))))))))),look0 (e0▸(.tail _ (.tail _ (.head _)))),⟨s1,s0,s0,s1,s0,s0⟩,cR,cR,⟨_,_,rfl,rfl⟩,⟨_,_,rfl,rfl⟩,⟨[],[],_,_,rfl,rfl,.nil,⟨_,_,rfl,rfl⟩,by decide⟩⟩,(λ u' h=>nomatch h),tG⟩
 clear e0
 conv=>whnf
 refine cM (d:=39) hc I.po (by decide) (by decide) (by decide) λ r σ1 a1 b1 p1 q1=>?_
 replace I:=I.drew p1 q1
 refine au (rf a1 b1 σ1) ?_;intro l el ll
 conv=>whnf
 refine rwE el ?_
 refine u0 (d:=27) (N:=λ ρ σ=>execs tb call [.ret (.and [.cmp (.comp (.call (.g 337) [.v 184]) (.x 184) (.at_ (.v 183) 182)) .eq (.v 318),.cmp (.call (.g 70) [.at_ (.v 183) 96]) .eq (.call (.g 70) [.v 318])])] ρ σ (λ u' u'=>False) (λ v u'=>v=.bool true) λ u'=>False) hc (λ i t T ms ds ρ σ hi I hN=>?_) (i:=0) (by omega) { I with po:=I.po.up (by decide) } hN
 exact t8 (d:=27) hc I hi hN λ u'=>rfl
end
end
abbrev YY:Prop:=True
theorem yy:YY:=⟨⟩
end Mine.Internal
end
set_option Elab.async true
open PySem PySem.W PyProof.Rows
set_option maxRecDepth 100000 in
theorem Mine.Internal.pp (a b : List WData) : Challenge.rw_nn0167_01.row.claim.post a (WData.bool true) b = true := by
  first | (kernel_rfl; done) | (rfl; done) | simp [OpenLaw.row, WTm.holds] | decide
namespace Mine.Internal.main
theorem tw10021318391393745522:YY:=yy
theorem tw10040650592145808960:YY:=yy
theorem tw10046393564091023420:YY:=yy
theorem tw10046727809161031378:YY:=yy
theorem tw10053362868999418749:YY:=yy
theorem tw10149069435098878876:YY:=yy
theorem tw10180515696109083177:YY:=yy
theorem tw1025130396011242515:YY:=yy
theorem tw10271462561417333343:YY:=yy
theorem tw10278875301165399962:YY:=yy
theorem tw10297972270295956009:YY:=yy
theorem tw10303968668570466222:YY:=yy
theorem tw10309699142624141507:YY:=yy
theorem tw10322969633853836883:YY:=yy
theorem tw10328587823670452498:YY:=yy
theorem tw1038547464879363397:YY:=yy
theorem tw10385684711634392909:YY:=yy
theorem tw10390374173888912449:YY:=yy
theorem tw10434708572517896522:YY:=yy
theorem tw10440920105907014920:YY:=yy
theorem tw10444014163959751716:YY:=yy
theorem tw10444647068345236073:YY:=yy
theorem tw10480133599824989816:YY:=yy
theorem tw10492438308582190394:YY:=yy
theorem tw10498526579032192438:YY:=yy
theorem tw10523394492770496998:YY:=yy
theorem tw10560464971613371954:YY:=yy
theorem tw10565047445652189705:YY:=yy
theorem tw10583265868896537019:YY:=yy
theorem tw10602512868013833230:YY:=yy
theorem tw1062289972186488545:YY:=yy
theorem tw10653169788537623322:YY:=yy
theorem tw10678755418281806533:YY:=yy
theorem tw10687909447789387113:YY:=yy
theorem tw10694066461022140834:YY:=yy
theorem tw10695546567524401486:YY:=yy
theorem tw10705968754666226739:YY:=yy
theorem tw1073955365300943949:YY:=yy
theorem tw10758804782543124382:YY:=yy
theorem tw1078662318413408276:YY:=yy
theorem tw10799424930603608796:YY:=yy
theorem tw10815909221013692612:YY:=yy
theorem tw10833408379140661266:YY:=yy
theorem tw10871293036084005087:YY:=yy
theorem tw10926241578131026219:YY:=yy
theorem tw10934798296316075956:YY:=yy
theorem tw10938402098977778470:YY:=yy
theorem tw11012129470220845136:YY:=yy
theorem tw11032920973336576581:YY:=yy
theorem tw11034916536091838146:YY:=yy
theorem tw11043172894279154955:YY:=yy
theorem tw11055816845053089408:YY:=yy
theorem tw11110832240473757052:YY:=yy
theorem tw111125614747484135:YY:=yy
theorem tw11116706314288256233:YY:=yy
theorem tw11118022616448068574:YY:=yy
theorem tw111231791877217785:YY:=yy
theorem tw11126551447899587804:YY:=yy
theorem tw1112963673480286534:YY:=yy
theorem tw11148867138117186242:YY:=yy
theorem tw11163015120005115923:YY:=yy
theorem tw11175315845038103690:YY:=yy
theorem tw11188727169584135823:YY:=yy
theorem tw11191541064600109780:YY:=yy
theorem tw11209188420962459506:YY:=yy
theorem tw11214402113823378998:YY:=yy
theorem tw11287953397327612774:YY:=yy
theorem tw11298728380432393515:YY:=yy
theorem tw11299022181482971071:YY:=yy
theorem tw11315334805740100097:YY:=yy
theorem tw11391020510418979679:YY:=yy
theorem tw11433839876275594823:YY:=yy
theorem tw11481020460698763666:YY:=yy
theorem tw11527100260467649386:YY:=yy
theorem tw11537956683338630383:YY:=yy
theorem tw11543472635058493794:YY:=yy
theorem tw11547382934132139519:YY:=yy
theorem tw11573176164066078722:YY:=yy
theorem tw11575372170564075653:YY:=yy
theorem tw11579708991523040051:YY:=yy
theorem tw11598156376742310559:YY:=yy
theorem tw11601682451327219109:YY:=yy
theorem tw11604271529852985930:YY:=yy
theorem tw11605412728090389508:YY:=yy
theorem tw11613439357962438320:YY:=yy
theorem tw11646022107631321490:YY:=yy
theorem tw11648469112263746088:YY:=yy
theorem tw11651895032536297775:YY:=yy
theorem tw11665721926869280828:YY:=yy
theorem tw11680215110899198993:YY:=yy
theorem tw11745012251463277581:YY:=yy
theorem tw11751638361083799241:YY:=yy
theorem tw11760354278640644859:YY:=yy
theorem tw117865787843134301:YY:=yy
theorem tw1179163161465106547:YY:=yy
theorem tw11804117523773053968:YY:=yy
theorem tw11807584938254393009:YY:=yy
theorem tw11822278912455534105:YY:=yy
theorem tw11830923810597764417:YY:=yy
theorem tw11874431644581681229:YY:=yy
theorem tw11888923222419618904:YY:=yy
theorem tw11910221601743685753:YY:=yy
theorem tw11913848286851280485:YY:=yy
theorem tw11915975209450370505:YY:=yy
theorem tw11930365855874596552:YY:=yy
theorem tw11985843751818611632:YY:=yy
theorem tw11998975423125869188:YY:=yy
theorem tw12028935686920467596:YY:=yy
theorem tw12053484555890235767:YY:=yy
theorem tw12055929568288920360:YY:=yy
theorem tw12060422125218720375:YY:=yy
theorem tw12097270978576341016:YY:=yy
theorem tw12105363282288363319:YY:=yy
theorem tw12112399904496239578:YY:=yy
theorem tw12127353596698212756:YY:=yy
theorem tw12144329760196138050:YY:=yy
theorem tw12158052936666111867:YY:=yy
theorem tw12184192518910918996:YY:=yy
theorem tw12186387220061091099:YY:=yy
theorem tw12194534445530816912:YY:=yy
theorem tw12203398309255512033:YY:=yy
theorem tw12235109030325827999:YY:=yy
theorem tw12246392102278154071:YY:=yy
theorem tw12253984699551225856:YY:=yy
theorem tw12254554216366044628:YY:=yy
theorem tw12266321265796822618:YY:=yy
theorem tw1227082755455209162:YY:=yy
theorem tw12290903976309136502:YY:=yy
theorem tw12291804085094793745:YY:=yy
theorem tw12294913915507317621:YY:=yy
theorem tw12370082323872129008:YY:=yy
theorem tw12377155691457370319:YY:=yy
theorem tw12405428267636687703:YY:=yy
theorem tw12425137391138224907:YY:=yy
theorem tw12436191919460018584:YY:=yy
theorem tw12443200472840579779:YY:=yy
theorem tw12456801561626644367:YY:=yy
theorem tw12493883692557333044:YY:=yy
theorem tw12503034225725685227:YY:=yy
theorem tw1251932400071406003:YY:=yy
theorem tw12529423308544993278:YY:=yy
theorem tw12566714432673101547:YY:=yy
theorem tw12598917264982991858:YY:=yy
theorem tw12608305039502615393:YY:=yy
theorem tw1267374241583173827:YY:=yy
theorem tw12677194279139255481:YY:=yy
theorem tw12681416834507466817:YY:=yy
theorem tw12685957366688819421:YY:=yy
theorem tw12719230891847962442:YY:=yy
theorem tw12724878309271642292:YY:=yy
theorem tw1277607685379289845:YY:=yy
theorem tw12793961455207843180:YY:=yy
theorem tw12820903949589551787:YY:=yy
theorem tw12830911758012122131:YY:=yy
theorem tw1283526657002427284:YY:=yy
theorem tw12839939129518166449:YY:=yy
theorem tw1284343163701477698:YY:=yy
theorem tw1284967617690943513:YY:=yy
theorem tw12853263043071137589:YY:=yy
theorem tw12857639022058571948:YY:=yy
theorem tw12866327798292885407:YY:=yy
theorem tw12872673566709696761:YY:=yy
theorem tw12884846405606864888:YY:=yy
theorem tw12903915928643529109:YY:=yy
theorem tw12917821375779496827:YY:=yy
theorem tw12930125569691871565:YY:=yy
theorem tw12953066935317532076:YY:=yy
theorem tw12968591962578011314:YY:=yy
theorem tw12970252948059191858:YY:=yy
theorem tw12985563455672729498:YY:=yy
theorem tw13025341945748906136:YY:=yy
theorem tw1303870235021155574:YY:=yy
theorem tw13082016621023770337:YY:=yy
theorem tw13087847357843552312:YY:=yy
theorem tw13090235224947412142:YY:=yy
theorem tw13096562468588436678:YY:=yy
theorem tw13105467095038062303:YY:=yy
theorem tw13109910849429753268:YY:=yy
theorem tw13120829950233360018:YY:=yy
theorem tw13123296091798268284:YY:=yy
theorem tw13150642230695257992:YY:=yy
theorem tw13155686724948042960:YY:=yy
theorem tw13173194763038928779:YY:=yy
theorem tw13175212335891660237:YY:=yy
theorem tw13178111602982621130:YY:=yy
theorem tw13182268955526232331:YY:=yy
theorem tw1318229201235836783:YY:=yy
theorem tw13234269625008490304:YY:=yy
theorem tw13261660738576256540:YY:=yy
theorem tw13273283706769089801:YY:=yy
theorem tw13273494133979066451:YY:=yy
theorem tw1331712731051393203:YY:=yy
theorem tw13320777612471585035:YY:=yy
theorem tw13323652809882095824:YY:=yy
theorem tw13337567399299638939:YY:=yy
theorem tw13342351911977509785:YY:=yy
theorem tw13393594064635449608:YY:=yy
theorem tw13403097662674176414:YY:=yy
theorem tw13432973819337260183:YY:=yy
theorem tw13433434403654333388:YY:=yy
theorem tw13517744194886268553:YY:=yy
theorem tw13525269375820829941:YY:=yy
theorem tw13526917470146073910:YY:=yy
theorem tw13538414902891089991:YY:=yy
theorem tw13560165558294956042:YY:=yy
theorem tw13562436471200600701:YY:=yy
theorem tw13580096092930110239:YY:=yy
theorem tw13600565011557826895:YY:=yy
theorem tw13612386364232354495:YY:=yy
theorem tw13613844423972651391:YY:=yy
theorem tw13621224405178569035:YY:=yy
theorem tw13621330554479564797:YY:=yy
theorem tw13639637540710378271:YY:=yy
theorem tw13681423632140699375:YY:=yy
theorem tw13685464850760795979:YY:=yy
theorem tw13742246020466748627:YY:=yy
theorem tw13761123172137178225:YY:=yy
theorem tw13779700907665231049:YY:=yy
theorem tw13783381036380690036:YY:=yy
theorem tw13790279956208770657:YY:=yy
theorem tw13814721228485765036:YY:=yy
theorem tw1381488885977479087:YY:=yy
theorem tw1382604328053016238:YY:=yy
theorem tw13889870629125409607:YY:=yy
theorem tw13898727854132262300:YY:=yy
theorem tw1390720707977671279:YY:=yy
theorem tw1391527577248789681:YY:=yy
theorem tw13918563294139065172:YY:=yy
theorem tw13934254615512129870:YY:=yy
theorem tw13977479495569725478:YY:=yy
theorem tw14006705621855905977:YY:=yy
theorem tw1403793049032158309:YY:=yy
theorem tw140484726810584974:YY:=yy
theorem tw1404942506593342179:YY:=yy
theorem tw14070985297238078344:YY:=yy
theorem tw14116258901397501558:YY:=yy
theorem tw14116783088108353342:YY:=yy
theorem tw14120260080095136841:YY:=yy
theorem tw14129796398099195522:YY:=yy
theorem tw14131743086799626953:YY:=yy
theorem tw14137382522845584548:YY:=yy
theorem tw14169439949656811534:YY:=yy
theorem tw1417174764347108541:YY:=yy
theorem tw1419027338852513248:YY:=yy
theorem tw14227087324130724127:YY:=yy
theorem tw14230426198074974781:YY:=yy
theorem tw1426165739836719336:YY:=yy
theorem tw14263429483411347241:YY:=yy
theorem tw14264771151246065232:YY:=yy
theorem tw14279578667054351857:YY:=yy
theorem tw14292037427810857913:YY:=yy
theorem tw14295980150073339262:YY:=yy
theorem tw1432834438766924960:YY:=yy
theorem tw14347226246240139161:YY:=yy
theorem tw14368548984795427624:YY:=yy
theorem tw14409748654668726151:YY:=yy
theorem tw14417502097949002917:YY:=yy
theorem tw144493426572079916:YY:=yy
theorem tw144500467268121906:YY:=yy
theorem tw14452046468698080874:YY:=yy
theorem tw14453371020696350650:YY:=yy
theorem tw14458546566710942977:YY:=yy
theorem tw14464972848891808287:YY:=yy
theorem tw14466154142425863955:YY:=yy
theorem tw1446694761647268009:YY:=yy
theorem tw14492489044821966026:YY:=yy
theorem tw14494904676204802095:YY:=yy
theorem tw14502488901099396501:YY:=yy
theorem tw14522938668971434885:YY:=yy
theorem tw14537450019153051991:YY:=yy
theorem tw14548371465575333668:YY:=yy
theorem tw14681639400702691960:YY:=yy
theorem tw14720004185528982391:YY:=yy
theorem tw14766382537209830674:YY:=yy
theorem tw14775469409186757945:YY:=yy
theorem tw148264481685420187:YY:=yy
theorem tw14852706074398868582:YY:=yy
theorem tw14858570723701920263:YY:=yy
theorem tw14872607250317534977:YY:=yy
theorem tw14891094757345406116:YY:=yy
theorem tw14953484359197247582:YY:=yy
theorem tw1496641351508231228:YY:=yy
theorem tw15015111288849602867:YY:=yy
theorem tw15036140292866834066:YY:=yy
theorem tw15056359852086789922:YY:=yy
theorem tw15073143240194224712:YY:=yy
theorem tw15091636007760851431:YY:=yy
theorem tw15119470463916845940:YY:=yy
theorem tw15124233344536562547:YY:=yy
theorem tw15146226633581336011:YY:=yy
theorem tw15157218586046271826:YY:=yy
theorem tw15159490273619958664:YY:=yy
theorem tw15163031477218665325:YY:=yy
theorem tw15182042088927537698:YY:=yy
theorem tw15183165575251545298:YY:=yy
theorem tw15187294628808286126:YY:=yy
theorem tw15193263178978695244:YY:=yy
theorem tw15208815566122129715:YY:=yy
theorem tw15218124028859059513:YY:=yy
theorem tw15250807170023008163:YY:=yy
theorem tw15252723141234360556:YY:=yy
theorem tw15254020090456207404:YY:=yy
theorem tw15268431099393155739:YY:=yy
theorem tw15272384756033816549:YY:=yy
theorem tw15320287906085699310:YY:=yy
theorem tw15338790291380561082:YY:=yy
theorem tw15340121470348793460:YY:=yy
theorem tw15346822135443404404:YY:=yy
theorem tw15389327945418215068:YY:=yy
theorem tw15443453874323421859:YY:=yy
theorem tw15449954396954739307:YY:=yy
theorem tw15460443108094267759:YY:=yy
theorem tw1546536443401856809:YY:=yy
theorem tw15468000139907181785:YY:=yy
theorem tw15469547988786640481:YY:=yy
theorem tw15471704449587110807:YY:=yy
theorem tw15472740278469042264:YY:=yy
theorem tw15474422221286975002:YY:=yy
theorem tw15521857191610671232:YY:=yy
theorem tw15525705244753957535:YY:=yy
theorem tw1554912440253531867:YY:=yy
theorem tw15593932114248601048:YY:=yy
theorem tw156074481368604375:YY:=yy
theorem tw15641333041124299813:YY:=yy
theorem tw15643031011164770099:YY:=yy
theorem tw15689039764200711428:YY:=yy
theorem tw15691038990944971580:YY:=yy
theorem tw15738025169133423560:YY:=yy
theorem tw15743930626855181957:YY:=yy
theorem tw15744198569236010029:YY:=yy
theorem tw15813965126469659277:YY:=yy
theorem tw15852780608557602579:YY:=yy
theorem tw15886878293761681940:YY:=yy
theorem tw15901911785326686457:YY:=yy
theorem tw15939135216810644357:YY:=yy
theorem tw1596678615197881325:YY:=yy
theorem tw15968557084061499276:YY:=yy
theorem tw15968590688784803213:YY:=yy
theorem tw15980538880093490129:YY:=yy
theorem tw16017557591787575888:YY:=yy
theorem tw16028392598184163056:YY:=yy
theorem tw1605168168120692133:YY:=yy
theorem tw16103328417691970683:YY:=yy
theorem tw16136933308854893207:YY:=yy
theorem tw16148830795289512010:YY:=yy
theorem tw16152042100665958553:YY:=yy
theorem tw16156162450810372841:YY:=yy
theorem tw16195250350033146165:YY:=yy
theorem tw16196163650616536339:YY:=yy
theorem tw16203443089297424273:YY:=yy
theorem tw16204744479138647222:YY:=yy
theorem tw16210668033245960438:YY:=yy
theorem tw16229319474554376097:YY:=yy
theorem tw1623195853881501448:YY:=yy
theorem tw16238430190936666235:YY:=yy
theorem tw16239573490109993236:YY:=yy
theorem tw16255761817772565937:YY:=yy
theorem tw16264370154056066:YY:=yy
theorem tw16276725121630806347:YY:=yy
theorem tw16288059979852645152:YY:=yy
theorem tw16290095049648921356:YY:=yy
theorem tw16294229565372462788:YY:=yy
theorem tw16300817170888368660:YY:=yy
theorem tw16381980959767241870:YY:=yy
theorem tw16398902535412932217:YY:=yy
theorem tw16427579589696508901:YY:=yy
theorem tw16438014652984670090:YY:=yy
theorem tw16438527106512547009:YY:=yy
theorem tw16441979001879675393:YY:=yy
theorem tw16447890188593340600:YY:=yy
theorem tw16501684553446707135:YY:=yy
theorem tw16536999046426117148:YY:=yy
theorem tw16556096624374403914:YY:=yy
theorem tw16614730806028959055:YY:=yy
theorem tw16624888252642348018:YY:=yy
theorem tw16672347593970394415:YY:=yy
theorem tw16698058524883723872:YY:=yy
theorem tw16726855816971509234:YY:=yy
theorem tw16741365473365742500:YY:=yy
theorem tw16744341766133690325:YY:=yy
theorem tw16747871750915486772:YY:=yy
theorem tw16765954575990112803:YY:=yy
theorem tw16775770572179878173:YY:=yy
theorem tw16777114165694142054:YY:=yy
theorem tw16778000889299214070:YY:=yy
theorem tw16781784789281860958:YY:=yy
theorem tw1679806311347427774:YY:=yy
theorem tw16822983415644169815:YY:=yy
theorem tw16838189389307913904:YY:=yy
theorem tw16847956925642333162:YY:=yy
theorem tw16859033189492256807:YY:=yy
theorem tw1687537637806219265:YY:=yy
theorem tw16876558867659480788:YY:=yy
theorem tw16891615732304830211:YY:=yy
theorem tw16899061783259940836:YY:=yy
theorem tw16903022900691281159:YY:=yy
theorem tw1692552449036987647:YY:=yy
theorem tw16928811664248450436:YY:=yy
theorem tw16978793380469540624:YY:=yy
theorem tw16985988459906744398:YY:=yy
theorem tw17008886415857585682:YY:=yy
theorem tw17009848309113948296:YY:=yy
theorem tw17023186693513284007:YY:=yy
theorem tw17045747750064514181:YY:=yy
theorem tw17065865279493038221:YY:=yy
theorem tw17065970260752692450:YY:=yy
theorem tw17094576705328918404:YY:=yy
theorem tw17142218151182921267:YY:=yy
theorem tw17179648164711320676:YY:=yy
theorem tw17180643386855433878:YY:=yy
theorem tw17200071697881280183:YY:=yy
theorem tw17210249984954947657:YY:=yy
theorem tw17222532714639596944:YY:=yy
theorem tw17226008255547202947:YY:=yy
theorem tw1724344740107316381:YY:=yy
theorem tw1727506098788156245:YY:=yy
theorem tw17294303086990883594:YY:=yy
theorem tw17299735379877282444:YY:=yy
theorem tw17326606277831057050:YY:=yy
theorem tw17342739349943993621:YY:=yy
theorem tw1734708372850746524:YY:=yy
theorem tw17349828507643174764:YY:=yy
theorem tw17360149757648671700:YY:=yy
theorem tw17391922875715332485:YY:=yy
theorem tw17393246987506242659:YY:=yy
theorem tw17435438747197280655:YY:=yy
theorem tw17439343132499600656:YY:=yy
theorem tw17442377672721089886:YY:=yy
theorem tw1745101480760909229:YY:=yy
theorem tw17467276233706154064:YY:=yy
theorem tw17489628448806820680:YY:=yy
theorem tw17531500886901724792:YY:=yy
theorem tw17616163897125503702:YY:=yy
theorem tw17638393399531288113:YY:=yy
theorem tw17654163094397633113:YY:=yy
theorem tw17677493551680049499:YY:=yy
theorem tw17681743755420925514:YY:=yy
theorem tw1769571156964328020:YY:=yy
theorem tw1770443798944706555:YY:=yy
theorem tw17781153961316730533:YY:=yy
theorem tw17797862391227879448:YY:=yy
theorem tw1779850407545558931:YY:=yy
theorem tw17861241424289171767:YY:=yy
theorem tw17868245453418582169:YY:=yy
theorem tw1790015737594900885:YY:=yy
theorem tw17900695361700684923:YY:=yy
theorem tw1792248080742510491:YY:=yy
theorem tw17924518473618601469:YY:=yy
theorem tw18004917794731790759:YY:=yy
theorem tw18027279399861113557:YY:=yy
theorem tw18044547442324722921:YY:=yy
theorem tw18084886155079811712:YY:=yy
theorem tw18108192847358647101:YY:=yy
theorem tw18142968816848271808:YY:=yy
theorem tw18184679981460683836:YY:=yy
theorem tw18191531320663667130:YY:=yy
theorem tw18250705095706459558:YY:=yy
theorem tw1825977663594718130:YY:=yy
theorem tw18267052350312620909:YY:=yy
theorem tw18277887891688102822:YY:=yy
theorem tw18288797166873144076:YY:=yy
theorem tw1829363785552158327:YY:=yy
theorem tw18301661331662831443:YY:=yy
theorem tw18302860413485724842:YY:=yy
theorem tw18303307991560051295:YY:=yy
theorem tw18324848782513282653:YY:=yy
theorem tw18337712513834754415:YY:=yy
theorem tw18345942743439504426:YY:=yy
theorem tw18350620168412646394:YY:=yy
theorem tw18356235372429024265:YY:=yy
theorem tw18362417139445994016:YY:=yy
theorem tw18369451303578182252:YY:=yy
theorem tw18370884914743140272:YY:=yy
theorem tw18371382607465720849:YY:=yy
theorem tw18382997825090318735:YY:=yy
theorem tw18396120882820736952:YY:=yy
theorem tw18398800829542192811:YY:=yy
theorem tw1845388188213433419:YY:=yy
theorem tw1848521739074249968:YY:=yy
theorem tw1855208217236249986:YY:=yy
theorem tw1860108991126048101:YY:=yy
theorem tw1863683800879511184:YY:=yy
theorem tw1897650600844092497:YY:=yy
theorem tw1901868530813872047:YY:=yy
theorem tw1907168138500459487:YY:=yy
theorem tw1912606427515319379:YY:=yy
theorem tw1976350527869358923:YY:=yy
theorem tw1982642858812592819:YY:=yy
theorem tw2008451683862899579:YY:=yy
theorem tw202461495639692907:YY:=yy
theorem tw2027678216468551453:YY:=yy
theorem tw2072994404298036584:YY:=yy
theorem tw2081042875132773427:YY:=yy
theorem tw2082333889016646126:YY:=yy
theorem tw208914938975835223:YY:=yy
theorem tw210822286310616272:YY:=yy
theorem tw2178821199819612820:YY:=yy
theorem tw2184172125623563289:YY:=yy
theorem tw2219470461308947445:YY:=yy
theorem tw2221555247795474028:YY:=yy
theorem tw2240190111855364321:YY:=yy
theorem tw225424674734612040:YY:=yy
theorem tw2261421588700274638:YY:=yy
theorem tw2310633646459873002:YY:=yy
theorem tw2352082045080494391:YY:=yy
theorem tw2361521062628033322:YY:=yy
theorem tw2379228892226148013:YY:=yy
theorem tw239484914142363780:YY:=yy
theorem tw2395697343598037184:YY:=yy
theorem tw2434013755359952725:YY:=yy
theorem tw2436066020837621398:YY:=yy
theorem tw2441314923119093069:YY:=yy
theorem tw2443227327843618036:YY:=yy
theorem tw2451230368645061193:YY:=yy
theorem tw2457120964296137359:YY:=yy
theorem tw2468735287043536190:YY:=yy
theorem tw2506418313538102133:YY:=yy
theorem tw2515330213975016769:YY:=yy
theorem tw2525166076998268935:YY:=yy
theorem tw2528932580032954879:YY:=yy
theorem tw2540495820296734350:YY:=yy
theorem tw2552694252491474378:YY:=yy
theorem tw2553129172841505705:YY:=yy
theorem tw2561493234371994082:YY:=yy
theorem tw2575141597089400485:YY:=yy
theorem tw2613873015034283888:YY:=yy
theorem tw2615157128260120931:YY:=yy
theorem tw2617775937807457874:YY:=yy
theorem tw2619486844233121682:YY:=yy
theorem tw2633433360531680643:YY:=yy
theorem tw2650101136147908316:YY:=yy
theorem tw2661767759343204221:YY:=yy
theorem tw2669904441775164994:YY:=yy
theorem tw2673703584191709704:YY:=yy
theorem tw268157518901931542:YY:=yy
theorem tw2689936240190302673:YY:=yy
theorem tw2703845700531461890:YY:=yy
theorem tw2723686050631992617:YY:=yy
theorem tw2737031353948269604:YY:=yy
theorem tw2737750725896957826:YY:=yy
theorem tw2741657091256887858:YY:=yy
theorem tw2750835738587775318:YY:=yy
theorem tw280481874740558024:YY:=yy
theorem tw2813829026317290181:YY:=yy
theorem tw2818215913512838189:YY:=yy
theorem tw2853208382243579297:YY:=yy
theorem tw2864606846018454059:YY:=yy
theorem tw2868879096931255247:YY:=yy
theorem tw2911433417487810430:YY:=yy
theorem tw2922722088657812038:YY:=yy
theorem tw2925776425995894714:YY:=yy
theorem tw2928028564007261197:YY:=yy
theorem tw2939239021250373633:YY:=yy
theorem tw294303095251978911:YY:=yy
theorem tw2978360442360904238:YY:=yy
theorem tw2978445311985771476:YY:=yy
theorem tw2992056685137445369:YY:=yy
theorem tw3055327740479581089:YY:=yy
theorem tw3064736170607065939:YY:=yy
theorem tw3087296514247745505:YY:=yy
theorem tw3088077927293614186:YY:=yy
theorem tw3107410153937982541:YY:=yy
theorem tw3121664453712097879:YY:=yy
theorem tw3131981697515881112:YY:=yy
theorem tw3139610863597827358:YY:=yy
theorem tw3146034541042422592:YY:=yy
theorem tw3146979741847770951:YY:=yy
theorem tw320557751311579839:YY:=yy
theorem tw3209920909162520122:YY:=yy
theorem tw3256599692197748821:YY:=yy
theorem tw3267506352983639151:YY:=yy
theorem tw3306849197303780159:YY:=yy
theorem tw3310860890811097582:YY:=yy
theorem tw332726020879770688:YY:=yy
theorem tw3357517921695852611:YY:=yy
theorem tw3379733461541436291:YY:=yy
theorem tw3394368681878965627:YY:=yy
theorem tw3396264588904235675:YY:=yy
theorem tw3403611876695301538:YY:=yy
theorem tw3408827457947758924:YY:=yy
theorem tw3410821142717238429:YY:=yy
theorem tw3412744423601906063:YY:=yy
theorem tw3434899946491226729:YY:=yy
theorem tw3515887516252319269:YY:=yy
theorem tw3519620770301490914:YY:=yy
theorem tw3531981540585742146:YY:=yy
theorem tw3544347635893272111:YY:=yy
theorem tw3563127853227517201:YY:=yy
theorem tw362101514219434311:YY:=yy
theorem tw3648130295315601696:YY:=yy
theorem tw364906518795052587:YY:=yy
theorem tw3678926922749915011:YY:=yy
theorem tw3692609847910103577:YY:=yy
theorem tw3718984994144165473:YY:=yy
theorem tw3748819449962869491:YY:=yy
theorem tw3783848015190637625:YY:=yy
theorem tw3804669791477890327:YY:=yy
theorem tw3822345752796464803:YY:=yy
theorem tw3861505120740964055:YY:=yy
theorem tw3879943568281281997:YY:=yy
theorem tw3898492766431878890:YY:=yy
theorem tw3917075563684514712:YY:=yy
theorem tw3958915594437787476:YY:=yy
theorem tw3960082729609334633:YY:=yy
theorem tw3965608284049720903:YY:=yy
theorem tw3970840511108476544:YY:=yy
theorem tw3977090291491947485:YY:=yy
theorem tw3985482593949860782:YY:=yy
theorem tw3992928203939203036:YY:=yy
theorem tw3993828384424069463:YY:=yy
theorem tw4007461514410222964:YY:=yy
theorem tw4009994885309246536:YY:=yy
theorem tw4059333162808307507:YY:=yy
theorem tw4091930637953755879:YY:=yy
theorem tw4100163327406334815:YY:=yy
theorem tw4125460202920646613:YY:=yy
theorem tw4130779263140762978:YY:=yy
theorem tw4153403021248529786:YY:=yy
theorem tw4156003519774020744:YY:=yy
theorem tw4177671621994559311:YY:=yy
theorem tw4247289365847900405:YY:=yy
theorem tw4261401600855317551:YY:=yy
theorem tw4300612742597636624:YY:=yy
theorem tw4310228878472284329:YY:=yy
theorem tw432037875751373314:YY:=yy
theorem tw4326401904490494673:YY:=yy
theorem tw4328267247735480603:YY:=yy
theorem tw4331608280046720368:YY:=yy
theorem tw4335910966286959084:YY:=yy
theorem tw4351411162792525490:YY:=yy
theorem tw4357975833179775930:YY:=yy
theorem tw4395466900922544890:YY:=yy
theorem tw4400017226751686058:YY:=yy
theorem tw4433602467837400570:YY:=yy
theorem tw4454792828321621372:YY:=yy
theorem tw4462190400977132941:YY:=yy
theorem tw4479242934683457324:YY:=yy
theorem tw4509215696152744449:YY:=yy
theorem tw4538774211291661145:YY:=yy
theorem tw4592004706911863615:YY:=yy
theorem tw4606060024949568140:YY:=yy
theorem tw4615647095033124473:YY:=yy
theorem tw4634538438036118838:YY:=yy
theorem tw4649883316461138903:YY:=yy
theorem tw468188516431147137:YY:=yy
theorem tw469107726730205931:YY:=yy
theorem tw4703324592164959565:YY:=yy
theorem tw4711006893311753447:YY:=yy
theorem tw4798913882091802099:YY:=yy
theorem tw4799217392094311150:YY:=yy
theorem tw4801019796111996920:YY:=yy
theorem tw4819436793316677810:YY:=yy
theorem tw4840266357470665822:YY:=yy
theorem tw4931471645776620852:YY:=yy
theorem tw4939513978512853512:YY:=yy
theorem tw4952695281440224590:YY:=yy
theorem tw4960754326464356880:YY:=yy
theorem tw4975598923679135864:YY:=yy
theorem tw5008847014415012073:YY:=yy
theorem tw5013185972428660573:YY:=yy
theorem tw5021990489002946995:YY:=yy
theorem tw5022756136425776485:YY:=yy
theorem tw5039935704646711612:YY:=yy
theorem tw5053277156089862147:YY:=yy
theorem tw5054592681714628026:YY:=yy
theorem tw5055280753450627128:YY:=yy
theorem tw5103255586642191990:YY:=yy
theorem tw510803128440017388:YY:=yy
theorem tw5131000187625521842:YY:=yy
theorem tw5142021981082635793:YY:=yy
theorem tw5145756777116517348:YY:=yy
theorem tw5147269608146345041:YY:=yy
theorem tw5152671152167812776:YY:=yy
theorem tw5159528265767506360:YY:=yy
theorem tw5165179375324350226:YY:=yy
theorem tw517253545763640812:YY:=yy
theorem tw5172733860109081237:YY:=yy
theorem tw5197162745757122531:YY:=yy
theorem tw5230396064904120268:YY:=yy
theorem tw5242006674047390409:YY:=yy
theorem tw5328005690235735774:YY:=yy
theorem tw5361841849175601626:YY:=yy
theorem tw5362711270585421761:YY:=yy
theorem tw5445273990271448714:YY:=yy
theorem tw5458665417225551837:YY:=yy
theorem tw5460128486308123532:YY:=yy
theorem tw5509509327300747797:YY:=yy
theorem tw5522973689866154034:YY:=yy
theorem tw5561763199174522734:YY:=yy
theorem tw5565504619827430955:YY:=yy
theorem tw5588223478592534593:YY:=yy
theorem tw5600465124246279690:YY:=yy
theorem tw5630227607048996149:YY:=yy
theorem tw564327466094411562:YY:=yy
theorem tw565620940243654172:YY:=yy
theorem tw5667051821671876906:YY:=yy
theorem tw5714297817612945589:YY:=yy
theorem tw571647785228454943:YY:=yy
theorem tw5735058541856893287:YY:=yy
theorem tw5739019924288605895:YY:=yy
theorem tw5746062570634479219:YY:=yy
theorem tw5765321870980151996:YY:=yy
theorem tw5768708046682631051:YY:=yy
theorem tw5791107954587784898:YY:=yy
theorem tw5800097197477307618:YY:=yy
theorem tw5818237970382791039:YY:=yy
theorem tw5901833263323351908:YY:=yy
theorem tw5902712137599589837:YY:=yy
theorem tw5903828528775644053:YY:=yy
theorem tw5942491169022655432:YY:=yy
theorem tw5963143147677444598:YY:=yy
theorem tw5987648928607914069:YY:=yy
theorem tw5992685852653226855:YY:=yy
theorem tw6020624907299633524:YY:=yy
theorem tw6020760485785902299:YY:=yy
theorem tw6046914484701750178:YY:=yy
theorem tw6093991748022998109:YY:=yy
theorem tw6099689264524860603:YY:=yy
theorem tw6109326565077728654:YY:=yy
theorem tw6186417409476823366:YY:=yy
theorem tw6258868486430859879:YY:=yy
theorem tw6271459789768422213:YY:=yy
theorem tw6312091815898468018:YY:=yy
theorem tw631227907748450517:YY:=yy
theorem tw632543874583851743:YY:=yy
theorem tw633595507753179303:YY:=yy
theorem tw6345274498042001246:YY:=yy
theorem tw6357531908561853707:YY:=yy
theorem tw6363703139885310264:YY:=yy
theorem tw6408195481249254913:YY:=yy
theorem tw6467666160085547207:YY:=yy
theorem tw6471150222350279623:YY:=yy
theorem tw6498197727744454919:YY:=yy
theorem tw6498212960163673866:YY:=yy
theorem tw6502167394331606738:YY:=yy
theorem tw6520672519035416240:YY:=yy
theorem tw6521165335183232846:YY:=yy
theorem tw652957937968812882:YY:=yy
theorem tw6542570496510093371:YY:=yy
theorem tw6544255722497290091:YY:=yy
theorem tw6558027226490960009:YY:=yy
theorem tw6566217594389758689:YY:=yy
theorem tw6601557695192066909:YY:=yy
theorem tw6649310733610355799:YY:=yy
theorem tw6658326349803785021:YY:=yy
theorem tw6663807924280617270:YY:=yy
theorem tw6732683342976120483:YY:=yy
theorem tw6733809563212269156:YY:=yy
theorem tw6756261132437940486:YY:=yy
theorem tw6759289808592882343:YY:=yy
theorem tw6761048287992567104:YY:=yy
theorem tw6771591437671112567:YY:=yy
theorem tw6773626534007703490:YY:=yy
theorem tw6795767014284890813:YY:=yy
theorem tw6810670158800780086:YY:=yy
theorem tw6819746189605800328:YY:=yy
theorem tw686864128682677561:YY:=yy
theorem tw6885390927442937195:YY:=yy
theorem tw6889469565048147906:YY:=yy
theorem tw6899241544822910019:YY:=yy
theorem tw6958343538655003287:YY:=yy
theorem tw6968316724324862529:YY:=yy
theorem tw6975244753842977811:YY:=yy
theorem tw6990565588677296644:YY:=yy
theorem tw6991051906849787811:YY:=yy
theorem tw7002617117321725329:YY:=yy
theorem tw7009055538952385103:YY:=yy
theorem tw7033201789201947253:YY:=yy
theorem tw7035012547776903383:YY:=yy
theorem tw7040763872302975501:YY:=yy
theorem tw7064039134278724442:YY:=yy
theorem tw7074714167717794031:YY:=yy
theorem tw7079346319486233637:YY:=yy
theorem tw7098780427933102582:YY:=yy
theorem tw7121938363519269900:YY:=yy
theorem tw7133214772809181467:YY:=yy
theorem tw720133340251979740:YY:=yy
theorem tw7225521102398529633:YY:=yy
theorem tw7249698444530863382:YY:=yy
theorem tw7250014487561225280:YY:=yy
theorem tw7253517103421118539:YY:=yy
theorem tw7257662411179477739:YY:=yy
theorem tw7264783172807538105:YY:=yy
theorem tw727201121964547221:YY:=yy
theorem tw7291201710529191399:YY:=yy
theorem tw7313032115926921718:YY:=yy
theorem tw733755431233827319:YY:=yy
theorem tw7366966349755769390:YY:=yy
theorem tw7379146703158643333:YY:=yy
theorem tw7380543148635903028:YY:=yy
theorem tw738249695139976460:YY:=yy
theorem tw7386879829546924875:YY:=yy
theorem tw7387095368875260393:YY:=yy
theorem tw7406679989375695003:YY:=yy
theorem tw7462917681035090600:YY:=yy
theorem tw7495849268563445211:YY:=yy
theorem tw7548181410930959757:YY:=yy
theorem tw7566708949256337297:YY:=yy
theorem tw757969810983933903:YY:=yy
theorem tw7603176780129216889:YY:=yy
theorem tw7630305487558755245:YY:=yy
theorem tw7645214217008657559:YY:=yy
theorem tw7646311210486026410:YY:=yy
theorem tw7646987749624205320:YY:=yy
theorem tw7659538399061980777:YY:=yy
theorem tw7670179019842844407:YY:=yy
theorem tw7679138261593991859:YY:=yy
theorem tw7684331834570509447:YY:=yy
theorem tw7689180539567665754:YY:=yy
theorem tw7711332181109331799:YY:=yy
theorem tw7733012006603144692:YY:=yy
theorem tw7748162344757003694:YY:=yy
theorem tw7784495168435344669:YY:=yy
theorem tw7821556884541040040:YY:=yy
theorem tw7822347148725292140:YY:=yy
theorem tw783142212168057530:YY:=yy
theorem tw7840089511392720015:YY:=yy
theorem tw7840474142351391399:YY:=yy
theorem tw7896732557465485704:YY:=yy
theorem tw7898563742332601926:YY:=yy
theorem tw7904360318250872725:YY:=yy
theorem tw7914966534203543394:YY:=yy
theorem tw7929639667017200051:YY:=yy
theorem tw7945186787910683591:YY:=yy
theorem tw8019843255630367578:YY:=yy
theorem tw8055458335546875267:YY:=yy
theorem tw8066810042505994534:YY:=yy
theorem tw8070636952655222270:YY:=yy
theorem tw8074177808019917933:YY:=yy
theorem tw8132178498146976934:YY:=yy
theorem tw8211863448347881248:YY:=yy
theorem tw8239597784800911592:YY:=yy
theorem tw8256147894513522171:YY:=yy
theorem tw8270690936462906749:YY:=yy
theorem tw8307029076902094731:YY:=yy
theorem tw833366181672599839:YY:=yy
theorem tw8354859942247524186:YY:=yy
theorem tw836902708638354373:YY:=yy
theorem tw8372432500344545951:YY:=yy
theorem tw8385910273146961337:YY:=yy
theorem tw8386956399160234941:YY:=yy
theorem tw84514281460927790:YY:=yy
theorem tw8456221942631779472:YY:=yy
theorem tw8463454761793374742:YY:=yy
theorem tw8511639783363027448:YY:=yy
theorem tw8512846599769640567:YY:=yy
theorem tw8543199408427174664:YY:=yy
theorem tw8547467832328499049:YY:=yy
theorem tw8547835018877277807:YY:=yy
theorem tw8561292540247648604:YY:=yy
theorem tw8567849941878843836:YY:=yy
theorem tw8571558186958321949:YY:=yy
theorem tw8594527841530898396:YY:=yy
theorem tw8595304795500500992:YY:=yy
theorem tw8598726330529460532:YY:=yy
theorem tw8628463995273589525:YY:=yy
theorem tw8632067484033081962:YY:=yy
theorem tw8648143778464435181:YY:=yy
theorem tw867116294927962039:YY:=yy
theorem tw8674768394056432931:YY:=yy
theorem tw868957009881194517:YY:=yy
theorem tw869616941618530944:YY:=yy
theorem tw8699049650045938238:YY:=yy
theorem tw8729215753904597756:YY:=yy
theorem tw8731464644100033418:YY:=yy
theorem tw8736997241775733956:YY:=yy
theorem tw8757057635001978316:YY:=yy
theorem tw8776703023565459014:YY:=yy
theorem tw878727644738817739:YY:=yy
theorem tw8805413051807045613:YY:=yy
theorem tw8809643391664033257:YY:=yy
theorem tw8826075148503451808:YY:=yy
theorem tw8828690884778655025:YY:=yy
theorem tw8831270811368075114:YY:=yy
theorem tw8836684673375585528:YY:=yy
theorem tw8848428510025427425:YY:=yy
theorem tw8858540271125762992:YY:=yy
theorem tw8863255243601150523:YY:=yy
theorem tw8864801995293489557:YY:=yy
theorem tw8872105718554685360:YY:=yy
theorem tw8874004035559458439:YY:=yy
theorem tw88892504447777676:YY:=yy
theorem tw8889909036490683537:YY:=yy
theorem tw8913346476282500835:YY:=yy
theorem tw9002507580857799536:YY:=yy
theorem tw9024921604208487676:YY:=yy
theorem tw9075827205167002984:YY:=yy
theorem tw9077120990456222290:YY:=yy
theorem tw9133342197399196234:YY:=yy
theorem tw9144134622846900584:YY:=yy
theorem tw9149405669475974018:YY:=yy
theorem tw9149475249158978189:YY:=yy
theorem tw9154938123599455950:YY:=yy
theorem tw9202362961687656120:YY:=yy
theorem tw9203716534745708512:YY:=yy
theorem tw9248355606524233013:YY:=yy
theorem tw925267241579179362:YY:=yy
theorem tw9257701769616213584:YY:=yy
theorem tw9271713227684663596:YY:=yy
theorem tw9312217155191928949:YY:=yy
theorem tw9369852123599154598:YY:=yy
theorem tw9386645067147707984:YY:=yy
theorem tw9410493436074027243:YY:=yy
theorem tw9432906754913100419:YY:=yy
theorem tw9439839186583959700:YY:=yy
theorem tw9440510433579211515:YY:=yy
theorem tw9441134871347383685:YY:=yy
theorem tw9443520617062693981:YY:=yy
theorem tw9444755940702137107:YY:=yy
theorem tw9493952402113393094:YY:=yy
theorem tw9537812907215041040:YY:=yy
theorem tw9558001594617236124:YY:=yy
theorem tw9576374502609186548:YY:=yy
theorem tw9612118164168700870:YY:=yy
theorem tw961370681766752028:YY:=yy
theorem tw9620926646237751989:YY:=yy
theorem tw9639872857315793279:YY:=yy
theorem tw9687061429480002727:YY:=yy
theorem tw9690013620090670815:YY:=yy
theorem tw9699293133549217295:YY:=yy
theorem tw9703312082030273292:YY:=yy
theorem tw9719202250092448289:YY:=yy
theorem tw9746696674357601180:YY:=yy
theorem tw9767782249887908399:YY:=yy
theorem tw9776540465710201401:YY:=yy
theorem tw9844532520808570107:YY:=yy
theorem tw9881309371292612907:YY:=yy
theorem tw99894942109057259:YY:=yy
theorem two_inv:YY:=yy
end Mine.Internal.main
set_option maxRecDepth 100000 in
set_option maxHeartbeats 8000000 in
theorem Mine.Internal.main : PySem.Challenge.rw_nn0167_01.Holds := by
  w_on; o_law; k_head; (case hw => w_witness2)
  w_strict k_go0
  refine' Mine.Internal.law_walk Mine.Internal.plain_law ?zzhK ?zzhF ?zzhB ?zzhm ?zzhs ?zzhcl ?zzhoP ?zzhv0 ?zzX ?zzT ?zzB ?zzF ?zzN ?zzhl ?zzhi ?zzhlen ?zzhlt ?zzhg ?zzhQ
  case zzX => assumption
  case zzT => assumption
  case zzB => assumption
  case zzF => assumption
  case zzN => assumption
  case zzhl => assumption
  case zzhi => assumption
  case zzhoP => assumption
  case zzhlt => assumption
  case zzhg => assumption
  case zzhlen => omega
  case zzhv0 => first | rfl | kernel_rfl
  case zzhK => first | kernel_rfl
  case zzhF => first | exact ⟨by kernel_rfl, by decide, by kernel_rfl⟩
  case zzhB => intro cdv; first | kernel_rfl
  case zzhm => first | rfl | kernel_rfl
  case zzhs => first | rfl | kernel_rfl
  case zzhcl => first | rfl | kernel_rfl
  case zzhQ =>
    intro s' hk hg' ho' hgr
    refine ⟨?_, hgr⟩
    first
      | (refine ⟨.inl ⟨_, .bool true, [], rfl, ?_, ?_, ?_, ?_⟩, hk, ho', hg'⟩ <;> first | (intro cls; rfl) | exact .bool true | exact Mine.Internal.pp _ _ | rfl | (intro _; exact ⟨.nil, fun _ h => nomatch h⟩))
      | wrow_close
     
theorem PySem.Challenge.cw_nn0167_01_holds : PySem.Challenge.rw_nn0167_01.Holds :=
  Mine.Internal.main
