import PyProof.Rows.All
import Wide.All
import OpenK.AllK
import Wide.FinOn
import PySem.Challenge.RW_no0201_01
set_option Elab.async false
set_option bootstrap.genMatcherCode false
set_option linter.all false
set_option compiler.extract_closed false
set_option maxRecDepth 100000
namespace Mine.Internal
open PySem PySem.W PySem.Calls PyProof.Rows PySem.Spec PySem.SeqAt
local macro_rules |`(tactic|lia)=>`(tactic|lia -abstractProof)
theorem yP {a b:Bool}(h:(a&&b)=true):a=true/\b=true:=Bool.and_eq_true_iff.mp h
theorem yd {α:Type u}{a b:α}(h:some a=some b):a=b:=Option.some.inj h
theorem xU {α:Type u}{l:List α}{i:Nat}{a:α}(h:l[i]?=some a):∃h:i<l.length,l[i]=a:=List.getElem?_eq_some_iff.mp h
theorem Yi {α:Type u}{o:Option α}(h:o.isSome=true):∃a,o=some a:=Option.isSome_iff_exists.mp h
theorem qg {α:Type u}{p:α->Bool}{l:List α}(h:l.all p=true):∀x∈l,p x=true:=List.all_eq_true.mp h
theorem kS {α:Type u}{a b:α}{l:List α}(h:a∈b::l):a=b\/a∈l:=List.mem_cons.mp h
theorem Zo {α:Type u}{a:α}{l m:List α}(h:a∈l++m):a∈l\/a∈m:=List.mem_append.mp h
section
theorem ta (_:0=0:=by(repeat' intro _);rfl)(_:0=0:=by decide)(_:0=0:=by intros;with_unfolding_all rfl):True:=trivial
theorem tw {a k c:Int}(h:a<=k)(e:2*k<=c):((2:Nat):Int)*a<=c:=Int.le_trans (Int.mul_le_mul_of_nonneg_left h (by decide)) e
namespace Z
set_option genCtorIdx false
set_option genSizeOf false
set_option genInjectivity false
inductive AE where|v (i:Nat)|n (k:Nat)|a (x y:AE)|l (k:Nat)(x:AE)|r (x:AE)(k:Nat)
noncomputable def aR:List Nat->Nat->Nat|[],_=>0|x::l,i=>Nat.rec x (fun i _=>aR l i) i
noncomputable def AE.den (c:List Nat):AE->Nat|.v i=>aR c i|.n k=>k|.a x y=>x.den c+y.den c|.l k x=>k*x.den c|.r x k=>x.den c*k
noncomputable def AE.co (j:Nat):AE->Nat|.v i=>bif j.beq (i+1) then 1 else 0|.n k=>bif j.beq 0 then k else 0|.a x y=>x.co j+y.co j|.l k x=>k*x.co j|.r x k=>x.co j*k
noncomputable def jD:List Nat->(Nat->Nat)->Nat|[],_=>0|x::l,f=>f 0*x+jD l fun i=>f (i+1)
theorem f7 (l:List Nat):∀ f g,jD l (fun i=>f i+g i)=jD l f+jD l g:=by induction l with|nil=>exact fun f g=>rfl|cons x l ih=>exact fun f g=>(congr (congrArg HAdd.hAdd (Nat.add_mul ..)) (ih ..)).trans (Nat.add_add_add_comm ..)
theorem KH (l:List Nat)(k:Nat):∀ f,jD l (fun i=>k*f i)=k*jD l f:=by induction l with|nil=>exact fun f=>rfl|cons x l ih=>exact fun f=>(congr (congrArg HAdd.hAdd (Nat.mul_assoc ..)) (ih _)).trans (Nat.mul_add ..).symm
theorem bZ (l:List Nat):jD l (fun _=>0)=0:=by induction l with|nil=>rfl|cons x l ih=>exact congr (congrArg HAdd.hAdd (Nat.zero_mul x)) ih
theorem rn (l:List Nat):∀ i,jD l (fun j=>bif j.beq i then 1 else 0)=aR l i:=by
 induction l with
 |nil=>exact fun i=>rfl|cons x l ih=>intro i;cases i with|zero=>exact(congrArg (1*x+·) (bZ l)).trans (Nat.one_mul x)|succ i=>exact(congrArg (0*x+·) (ih i)).trans (congrArg (·+aR l i) (Nat.zero_mul x) |>.trans (Nat.zero_add _))
theorem AE.eq (c:List Nat)(e:AE):e.den c=e.co 0+jD c fun i=>e.co (i+1):=by induction e with|v i=>exact((Nat.zero_add _).trans (rn c i)).symm|n k=>exact(congrArg (k+·) (bZ c)).symm|a x y hx hy=>exact(congr (congrArg HAdd.hAdd hx) hy).trans ((Nat.add_add_add_comm ..).trans (congrArg _ (f7 ..).symm))|l k x hx=>exact(congrArg (k*·) hx).trans ((Nat.mul_add ..).trans (congrArg _ (KH ..).symm))|r x k hx=>exact(Nat.mul_comm ..).trans ((congrArg (k*·) hx).trans ((Nat.mul_add ..).trans (congr (congrArg HAdd.hAdd (Nat.mul_comm ..)) ((KH ..).symm.trans (congrArg (jD c) (funext fun i=>Nat.mul_comm ..))))))
theorem mX (l:List Nat):∀ f g,(∀ i,i<l.length->f i<=g i)->jD l f<=jD l g:=by induction l with|nil=>exact fun f g h=>Nat.le_refl 0|cons x l ih=>exact fun f g h=>Nat.add_le_add (Nat.mul_le_mul_right x (h 0 (Nat.succ_pos _))) (ih _ _ fun i hi=>h (i+1) (Nat.succ_lt_succ hi))
structure AR where
 k:Nat
 x:AE
 y:AE
def AR.den (c:List Nat)(r:AR):Prop:=
 bif r.k.beq 0 then r.x.den c<=r.y.den c else bif r.k.beq 1 then r.x.den c<r.y.den c else bif r.k.ble 3 then r.x.den c=r.y.den c
 else bif r.k.beq 4 then ¬r.x.den c<=r.y.den c else bif r.k.beq 5 then ¬r.x.den c<r.y.den c else False
noncomputable def AR.lo (r:AR):AE:=
 bif r.k.beq 1 then .a r.x (.n 1) else bif r.k.ble 2 then r.x else bif r.k.beq 4 then .a r.y (.n 1) else bif r.k.ble 5 then r.y else .n 1
noncomputable def AR.hi (r:AR):AE:=
 bif r.k.ble 2 then r.y else bif r.k.ble 5 then r.x else .n 0
noncomputable def AR.isEq (r:AR):Bool:=bif r.k.ble 1 then false else r.k.ble 3
structure AP where
 g:AR
 m:Nat
 h:List (Nat×AR)
noncomputable def up:List (Nat×AR)->AE|[]=>.n 0|r::l=>.a (.l r.1 r.2.hi) (up l)
noncomputable def dn:List (Nat×AR)->AE|[]=>.n 0|r::l=>.a (.l r.1 r.2.lo) (dn l)
def HY (c:List Nat):List (Nat×AR)->Prop|[]=>True|r::l=>r.2.den c/\HY c l
noncomputable def au (f:Nat->Bool):Nat->Bool|0=>true|n+1=>f n&&au f n
noncomputable def iy:List (Nat×AR)->Bool|[]=>true|r::l=>r.2.isEq&&iy l
noncomputable def AP.A (p:AP):AE:=.a (.l (p.m+1) p.g.lo) (up p.h)
noncomputable def AP.B (p:AP):AE:=.a (.a (.l (p.m+1) p.g.hi) (.n p.m)) (dn p.h)
noncomputable def AP.ok (p:AP):Bool:=
 bif p.g.isEq then p.m.beq 0&&iy p.h&&au (fun j=>(p.A.co j).beq (p.B.co j)) 9
 else au (fun j=>(p.A.co j).ble (p.B.co j)) 9
theorem KO {f:Nat->Bool}{n:Nat}(h:au f n=true):∀ i,i<n->f i=true:=by induction n with|zero=>exact fun i hi=>nomatch hi|succ n ih=>have h:=yP h;exact fun i hi=>(Nat.lt_succ_iff_lt_or_eq.mp hi).elim (ih h.2 i) (fun e=>e▸h.1)
theorem AR.le {c:List Nat}{r:AR}(h:r.den c):r.lo.den c<=r.hi.den c:=by
 obtain⟨k,x,y⟩:=r;rcases k with _|_|_|_|_|_|k
 .exact h
 .exact h
 .exact Nat.le_of_eq h
 .exact Nat.le_of_eq (Eq.symm h)
 .exact Nat.lt_of_not_le h
 .exact Nat.le_of_not_lt h
 .exact h.elim
theorem AR.of_le {c:List Nat}{r:AR}(e:r.isEq=false)(h:r.lo.den c<=r.hi.den c):r.den c:=by
 obtain⟨k,x,y⟩:=r;rcases k with _|_|_|_|_|_|k
 .exact h
 .exact h
 .exact nomatch e
 .exact nomatch e
 .exact Nat.not_le_of_lt h
 .exact Nat.not_lt_of_le h
 .exact Nat.not_succ_le_zero 0 h
theorem AR.eqs {c:List Nat}{r:AR}(e:r.isEq=true):r.den c↔r.lo.den c=r.hi.den c:=by
 obtain⟨k,x,y⟩:=r;rcases k with _|_|_|_|k
 .exact nomatch e
 .exact nomatch e
 .exact Iff.rfl
 .exact eq_comm
 .exact nomatch e
theorem C4 {c:List Nat}(l:List (Nat×AR))(h:HY c l):(dn l).den c<=(up l).den c:=by induction l with|nil=>exact Nat.le_refl 0|cons r l ih=>exact Nat.add_le_add (Nat.mul_le_mul_left _ (AR.le h.1)) (ih h.2)
theorem BS {c:List Nat}(l:List (Nat×AR))(e:iy l=true)(h:HY c l):(dn l).den c=(up l).den c:=by induction l with|nil=>rfl|cons r l ih=>have e:=yP e;exact congr (f₁:=(r.1*r.2.lo.den c+·)) (congrArg (fun a b:Nat=>r.1*a+b) ((AR.eqs e.1).mp h.1)) (ih e.2 h.2)
theorem bT {b x y:Bool}(h:b=true)(e:(bif b then x else y)=true):x=true:=by subst h;exact e
theorem bF {b x y:Bool}(h:b=false)(e:(bif b then x else y)=true):y=true:=by subst h;exact e
theorem AP.sound {p:AP}{c:List Nat}(hc:c.length<=8)(h:HY c p.h)(e:p.ok=true):p.g.den c:=by
 have le {x y:AE} (H:∀ j,j<9->x.co j<=y.co j):x.den c<=y.den c:=
  Nat.le_trans (Nat.le_of_eq (AE.eq c x)) (Nat.le_trans (Nat.add_le_add (H 0 (Nat.succ_pos 8)) (mX c _ _ fun i hi=>H _ (Nat.succ_lt_succ (Nat.lt_of_lt_of_le hi hc)))) (Nat.le_of_eq (AE.eq c y).symm))
 cases q:p.g.isEq with
 |true=>have e:=yP (bT q e);have e1:=yP e.1;have a j hj:=Nat.eq_of_beq_eq_true (KO e.2 j hj);have a1:p.A.den c=p.B.den c:=Nat.le_antisymm (le fun j hj=>Nat.le_of_eq (a j hj)) (le fun j hj=>Nat.le_of_eq (a j hj).symm);obtain⟨g,m,l⟩:=p;cases Nat.eq_of_beq_eq_true e1.1;exact(AR.eqs q).mpr ((Nat.one_mul _).symm.trans ((Nat.add_right_cancel (a1.trans (congrArg _ (BS l e1.2 h)))).trans (Nat.one_mul _)))
 |false=>have a1:=le fun j hj=>Nat.le_of_ble_eq_true (KO (bF q e) j hj);exact AR.of_le q (Nat.le_of_lt_succ (Nat.lt_of_mul_lt_mul_left (a:=p.m+1) (Nat.lt_succ_of_le (Nat.le_of_add_le_add_right (Nat.le_trans a1 (Nat.add_le_add_left (C4 p.h h) _))))))
noncomputable def U8 {β:Sort _}(N:Nat)(k:Nat->Nat->β):β:=
 bif (N%32).ble 28 then k (N%32) (N/32) else bif (N%32).beq 29 then k (N/32%33554432) (N/1073741824) else bif (N%32).beq 30 then k (N/32%32768) (N/1048576)
 else bif (N/32%32).ble 9 then k (10^(N/32%32)) (N/1024) else k (2^(N/32%32)) (N/1024)
noncomputable def dE {β:Sort _}:Nat->Nat->(AE->Nat->β)->β
 |0,N,k=>k (.n 0) N|f+1,N,k=>
  bif (N%32).ble 7 then k (.v (N%32)) (N/32)
  else bif (N%32).ble 11 then
   bif (N%32).beq 8 then dE f (N/32) fun x r=>dE f r fun y r=>k (.a x y) r
   else bif (N%32).beq 9 then U8 (N/32) fun l r=>dE f r fun x r=>k (.l l x) r
   else bif (N%32).beq 10 then dE f (N/32) fun x r=>U8 r fun l r=>k (.r x l) r
   else U8 (N/32) fun l r=>k (.n l) r
  else k (.n (N%32-12)) (N/32)
noncomputable def dR {β:Sort _}(N:Nat)(k:AR->Nat->β):β:=
 dE 9 (N/32) fun x r=>dE 9 r fun y r=>k ⟨N%32,x,y⟩ r
noncomputable def dH {β:Sort _}:Nat->Nat->(List (Nat×AR)->β)->β|0,_,k=>k []|n+1,N,k=>U8 N fun m r=>dR r fun x r=>dH n r fun l=>k ((m,x)::l)
noncomputable def dP (n N:Nat):AP:=dR N fun g r=>U8 r fun m r=>dH n r fun l=>⟨g,m,l⟩
noncomputable def bz:List (Nat×AR)->Nat->AR|[],_=>⟨0,.n 0,.n 0⟩|x::l,i=>Nat.rec x.2 (fun i _=>bz l i) i
def hy (n N:Nat)(c:List Nat)(i:Nat):Prop:=(bz (dP n N).h i).den c
def gl (n N:Nat)(c:List Nat):Prop:=bif (dP n N).h.length.beq n&&(dP n N).ok then(dP n N).g.den c else True
def HQ (c:List Nat)(G:Prop):Nat->(Nat->AR)->Prop|0,_=>G|n+1,f=>(f 0).den c->HQ c G n fun i=>f (i+1)
theorem HQ.of {c:List Nat}{G:Prop}(l:List (Nat×AR)):∀ n,(l.length.beq n=true->HY c l->G)->(l.length.beq n=false->G)->HQ c G n (bz l):=by
 induction l with
 |nil=>
  intro n;induction n with
  |zero=>exact fun h _=>h rfl trivial|succ n ih=>exact fun _ h _=>ih (fun _ _=>h rfl) fun _=>h rfl
 |cons x l ih=>exact fun
  |0,_,h=>h rfl|n+1,e,h=>fun p=>ih n (fun a b=>e a ⟨p,b⟩) h
theorem G0 {b:Bool}{P:Prop}(h:b=false):bif b then P else True:=by subst h;trivial
theorem G1 {b:Bool}{P:Prop}(h:P):bif b then P else True:=by cases b;trivial;exact h
theorem ar {n N:Nat}(c:List Nat)(hc:c.length.ble 8=true):HQ c (gl n N c) n (bz (dP n N).h):=
 HQ.of _ n (fun e h=>by
  cases q:(dP n N).ok with
  |false=>exact G0 (congrArg (_&&·) q |>.trans (Bool.and_false _))|true=>exact G1 (AP.sound (Nat.le_of_ble_eq_true hc) h q)) fun e=>G0 (congrArg (·&&_) e)
abbrev H0 (N:Nat)(c:List Nat):Prop:=gl 0 N c
abbrev H1 (N:Nat)(c:List Nat):Prop:=hy 1 N c 0->gl 1 N c
abbrev H2 (N:Nat)(c:List Nat):Prop:=hy 2 N c 0->hy 2 N c 1->gl 2 N c
abbrev H3 (N:Nat)(c:List Nat):Prop:=hy 3 N c 0->hy 3 N c 1->hy 3 N c 2->gl 3 N c
abbrev H4 (N:Nat)(c:List Nat):Prop:=hy 4 N c 0->hy 4 N c 1->hy 4 N c 2->hy 4 N c 3->gl 4 N c
abbrev H5 (N:Nat)(c:List Nat):Prop:=hy 5 N c 0->hy 5 N c 1->hy 5 N c 2->hy 5 N c 3->hy 5 N c 4->gl 5 N c
abbrev H6 (N:Nat)(c:List Nat):Prop:=hy 6 N c 0->hy 6 N c 1->hy 6 N c 2->hy 6 N c 3->hy 6 N c 4->hy 6 N c 5->gl 6 N c
end Z
section
open Z
theorem A00 (N:Nat):H0 N []:=@ar 0 N [] rfl
theorem A01 (N:Nat):H1 N []:=@ar 1 N [] rfl
theorem A10 {a:Nat}(N:Nat):H0 N [a]:=@ar 0 N [a] rfl
theorem A11 {a:Nat}(N:Nat):H1 N [a]:=@ar 1 N [a] rfl
theorem A12 {a:Nat}(N:Nat):H2 N [a]:=@ar 2 N [a] rfl
theorem A20 {a b:Nat}(N:Nat):H0 N [a,b]:=@ar 0 N [a,b] rfl
theorem A21 {a b:Nat}(N:Nat):H1 N [a,b]:=@ar 1 N [a,b] rfl
theorem A22 {a b:Nat}(N:Nat):H2 N [a,b]:=@ar 2 N [a,b] rfl
theorem A30 {a b c:Nat}(N:Nat):H0 N [a,b,c]:=@ar 0 N [a,b,c] rfl
theorem A31 {a b c:Nat}(N:Nat):H1 N [a,b,c]:=@ar 1 N [a,b,c] rfl
theorem A32 {a b c:Nat}(N:Nat):H2 N [a,b,c]:=@ar 2 N [a,b,c] rfl
theorem A33 {a b c:Nat}(N:Nat):H3 N [a,b,c]:=@ar 3 N [a,b,c] rfl
theorem A41 {a b c d:Nat}(N:Nat):H1 N [a,b,c,d]:=@ar 1 N [a,b,c,d] rfl
theorem A42 {a b c d:Nat}(N:Nat):H2 N [a,b,c,d]:=@ar 2 N [a,b,c,d] rfl
theorem A43 {a b c d:Nat}(N:Nat):H3 N [a,b,c,d]:=@ar 3 N [a,b,c,d] rfl
theorem A44 {a b c d:Nat}(N:Nat):H4 N [a,b,c,d]:=@ar 4 N [a,b,c,d] rfl
theorem A53 {a b c d e:Nat}(N:Nat):H3 N [a,b,c,d,e]:=@ar 3 N [a,b,c,d,e] rfl
theorem A54 {a b c d e:Nat}(N:Nat):H4 N [a,b,c,d,e]:=@ar 4 N [a,b,c,d,e] rfl
theorem A55 {a b c d e:Nat}(N:Nat):H5 N [a,b,c,d,e]:=@ar 5 N [a,b,c,d,e] rfl
theorem A62 {a b c d e f:Nat}(N:Nat):H2 N [a,b,c,d,e,f]:=@ar 2 N [a,b,c,d,e,f] rfl
theorem A63 {a b c d e f:Nat}(N:Nat):H3 N [a,b,c,d,e,f]:=@ar 3 N [a,b,c,d,e,f] rfl
theorem A64 {a b c d e f:Nat}(N:Nat):H4 N [a,b,c,d,e,f]:=@ar 4 N [a,b,c,d,e,f] rfl
theorem A65 {a b c d e f:Nat}(N:Nat):H5 N [a,b,c,d,e,f]:=@ar 5 N [a,b,c,d,e,f] rfl
theorem A73 {a b c d e f g:Nat}(N:Nat):H3 N [a,b,c,d,e,f,g]:=@ar 3 N [a,b,c,d,e,f,g] rfl
theorem A74 {a b c d e f g:Nat}(N:Nat):H4 N [a,b,c,d,e,f,g]:=@ar 4 N [a,b,c,d,e,f,g] rfl
theorem A75 {a b c d e f g:Nat}(N:Nat):H5 N [a,b,c,d,e,f,g]:=@ar 5 N [a,b,c,d,e,f,g] rfl
theorem A76 {a b c d e f g:Nat}(N:Nat):H6 N [a,b,c,d,e,f,g]:=@ar 6 N [a,b,c,d,e,f,g] rfl
end
end
section
set_option genSizeOf false
theorem a2 {P0 P1:Prop}{G:Prop}(h:P0/\P1)(k:P0->P1->G):G:=And.elim k h
theorem a3 {P0 P1 P2:Prop}{G:Prop}(h:P0/\P1/\P2)(k:P0->P1->P2->G):G:=a2 h.2 (k h.1)
theorem a4 {P0 P1 P2 P3:Prop}{G:Prop}(h:P0/\P1/\P2/\P3)(k:P0->P1->P2->P3->G):G:=a3 h.2 (k h.1)
theorem a5 {P0 P1 P2 P3 P4:Prop}{G:Prop}(h:P0/\P1/\P2/\P3/\P4)(k:P0->P1->P2->P3->P4->G):G:=a4 h.2 (k h.1)
theorem a6 {P0 P1 P2 P3 P4 P5:Prop}{G:Prop}(h:P0/\P1/\P2/\P3/\P4/\P5)(k:P0->P1->P2->P3->P4->P5->G):G:=a5 h.2 (k h.1)
theorem a7 {P0 P1 P2 P3 P4 P5 P6:Prop}{G:Prop}(h:P0/\P1/\P2/\P3/\P4/\P5/\P6)(k:P0->P1->P2->P3->P4->P5->P6->G):G:=a6 h.2 (k h.1)
theorem a8 {P0 P1 P2 P3 P4 P5 P6 P7:Prop}{G:Prop}(h:P0/\P1/\P2/\P3/\P4/\P5/\P6/\P7)(k:P0->P1->P2->P3->P4->P5->P6->P7->G):G:=a7 h.2 (k h.1)
theorem a9 {P0 P1 P2 P3 P4 P5 P6 P7 P8:Prop}{G:Prop}(h:P0/\P1/\P2/\P3/\P4/\P5/\P6/\P7/\P8)(k:P0->P1->P2->P3->P4->P5->P6->P7->P8->G):G:=a8 h.2 (k h.1)
theorem IY {P0 P1 P2 P3 P4 P5 P6 P7 P8 P9:Prop}{G:Prop}(h:P0/\P1/\P2/\P3/\P4/\P5/\P6/\P7/\P8/\P9)(k:P0->P1->P2->P3->P4->P5->P6->P7->P8->P9->G):G:=a9 h.2 (k h.1)
theorem zA {t0:Type}{P0:t0->Prop}{G:Prop}(h:∃ x0,P0 x0)(k:∀ x0,P0 x0->G):G:=Exists.elim h fun x2 h=>k x2 h
theorem zg {t0:Type}{P0 P1:t0->Prop}{G:Prop}(h:∃ x0,P0 x0/\P1 x0)(k:∀ x0,P0 x0->P1 x0->G):G:=Exists.elim h fun x3 h=>a2 h (k x3)
theorem vg {t0 t1:Type}{P0:t0->t1->Prop}{G:Prop}(h:∃ x0,∃ x1,P0 x0 x1)(k:∀ x0,∀ x1,P0 x0 x1->G):G:=Exists.elim h fun x3 h=>Exists.elim h fun x2 h=>k x3 x2 h
theorem wU {t0:Type}{P0 P1 P2:t0->Prop}{G:Prop}(h:∃ x0,P0 x0/\P1 x0/\P2 x0)(k:∀ x0,P0 x0->P1 x0->P2 x0->G):G:=Exists.elim h fun x4 h=>a3 h (k x4)
theorem yE {t0 t1:Type}{P0 P1:t0->t1->Prop}{G:Prop}(h:∃ x0,∃ x1,P0 x0 x1/\P1 x0 x1)(k:∀ x0,∀ x1,P0 x0 x1->P1 x0 x1->G):G:=Exists.elim h fun x4 h=>Exists.elim h fun x3 h=>a2 h (k x4 x3)
theorem yU {t0 t1 t2:Type}{P0:t0->t1->t2->Prop}{G:Prop}(h:∃ x0,∃ x1,∃ x2,P0 x0 x1 x2)(k:∀ x0,∀ x1,∀ x2,P0 x0 x1 x2->G):G:=Exists.elim h fun x4 h=>Exists.elim h fun x3 h=>Exists.elim h fun x2 h=>k x4 x3 x2 h
theorem xI {t0:Type}{P0 P1 P2 P3:t0->Prop}{G:Prop}(h:∃ x0,P0 x0/\P1 x0/\P2 x0/\P3 x0)(k:∀ x0,P0 x0->P1 x0->P2 x0->P3 x0->G):G:=Exists.elim h fun x5 h=>a4 h (k x5)
theorem zB {t0 t1:Type}{P0 P1 P2:t0->t1->Prop}{G:Prop}(h:∃ x0,∃ x1,P0 x0 x1/\P1 x0 x1/\P2 x0 x1)(k:∀ x0,∀ x1,P0 x0 x1->P1 x0 x1->P2 x0 x1->G):G:=Exists.elim h fun x5 h=>Exists.elim h fun x4 h=>a3 h (k x5 x4)
theorem vW {t0 t1 t2:Type}{P0 P1:t0->t1->t2->Prop}{G:Prop}(h:∃ x0,∃ x1,∃ x2,P0 x0 x1 x2/\P1 x0 x1 x2)(k:∀ x0,∀ x1,∀ x2,P0 x0 x1 x2->P1 x0 x1 x2->G):G:=Exists.elim h fun x5 h=>Exists.elim h fun x4 h=>Exists.elim h fun x3 h=>a2 h (k x5 x4 x3)
theorem bw {t0 t1:Type}{P0 P1 P2 P3:t0->t1->Prop}{G:Prop}(h:∃ x0,∃ x1,P0 x0 x1/\P1 x0 x1/\P2 x0 x1/\P3 x0 x1)(k:∀ x0,∀ x1,P0 x0 x1->P1 x0 x1->P2 x0 x1->P3 x0 x1->G):G:=Exists.elim h fun x6 h=>Exists.elim h fun x5 h=>a4 h (k x6 x5)
theorem wo {t0 t1 t2:Type}{P0 P1 P2:t0->t1->t2->Prop}{G:Prop}(h:∃ x0,∃ x1,∃ x2,P0 x0 x1 x2/\P1 x0 x1 x2/\P2 x0 x1 x2)(k:∀ x0,∀ x1,∀ x2,P0 x0 x1 x2->P1 x0 x1 x2->P2 x0 x1 x2->G):G:=Exists.elim h fun x6 h=>Exists.elim h fun x5 h=>Exists.elim h fun x4 h=>a3 h (k x6 x5 x4)
theorem YW {t0 t1 t2 t3 t4:Type}{P0:t0->t1->t2->t3->t4->Prop}{G:Prop}(h:∃ x0,∃ x1,∃ x2,∃ x3,∃ x4,P0 x0 x1 x2 x3 x4)(k:∀ x0,∀ x1,∀ x2,∀ x3,∀ x4,P0 x0 x1 x2 x3 x4->G):G:=Exists.elim h fun x6 h=>Exists.elim h fun x5 h=>Exists.elim h fun x4 h=>Exists.elim h fun x3 h=>Exists.elim h fun x2 h=>k x6 x5 x4 x3 x2 h
theorem jI {t0 t1 t2:Type}{P0 P1 P2 P3:t0->t1->t2->Prop}{G:Prop}(h:∃ x0,∃ x1,∃ x2,P0 x0 x1 x2/\P1 x0 x1 x2/\P2 x0 x1 x2/\P3 x0 x1 x2)(k:∀ x0,∀ x1,∀ x2,P0 x0 x1 x2->P1 x0 x1 x2->P2 x0 x1 x2->P3 x0 x1 x2->G):G:=Exists.elim h fun x7 h=>Exists.elim h fun x6 h=>Exists.elim h fun x5 h=>a4 h (k x7 x6 x5)
theorem aG {t0 t1 t2 t3:Type}{P0 P1 P2:t0->t1->t2->t3->Prop}{G:Prop}(h:∃ x0,∃ x1,∃ x2,∃ x3,P0 x0 x1 x2 x3/\P1 x0 x1 x2 x3/\P2 x0 x1 x2 x3)(k:∀ x0,∀ x1,∀ x2,∀ x3,P0 x0 x1 x2 x3->P1 x0 x1 x2 x3->P2 x0 x1 x2 x3->G):G:=Exists.elim h fun x7 h=>Exists.elim h fun x6 h=>Exists.elim h fun x5 h=>Exists.elim h fun x4 h=>a3 h (k x7 x6 x5 x4)
theorem aX {t0 t1:Type}{P0 P1 P2 P3 P4 P5:t0->t1->Prop}{G:Prop}(h:∃ x0,∃ x1,P0 x0 x1/\P1 x0 x1/\P2 x0 x1/\P3 x0 x1/\P4 x0 x1/\P5 x0 x1)(k:∀ x0,∀ x1,P0 x0 x1->P1 x0 x1->P2 x0 x1->P3 x0 x1->P4 x0 x1->P5 x0 x1->G):G:=Exists.elim h fun x8 h=>Exists.elim h fun x7 h=>a6 h (k x8 x7)
theorem gO {t0 t1 t2 t3:Type}{P0 P1 P2 P3 P4:t0->t1->t2->t3->Prop}{G:Prop}(h:∃ x0,∃ x1,∃ x2,∃ x3,P0 x0 x1 x2 x3/\P1 x0 x1 x2 x3/\P2 x0 x1 x2 x3/\P3 x0 x1 x2 x3/\P4 x0 x1 x2 x3)(k:∀ x0,∀ x1,∀ x2,∀ x3,P0 x0 x1 x2 x3->P1 x0 x1 x2 x3->P2 x0 x1 x2 x3->P3 x0 x1 x2 x3->P4 x0 x1 x2 x3->G):G:=Exists.elim h fun x9 h=>Exists.elim h fun x8 h=>Exists.elim h fun x7 h=>Exists.elim h fun x6 h=>a5 h (k x9 x8 x7 x6)
theorem Hz {t0 t1 t2 t3 t4:Type}{P0 P1 P2 P3:t0->t1->t2->t3->t4->Prop}{G:Prop}(h:∃ x0,∃ x1,∃ x2,∃ x3,∃ x4,P0 x0 x1 x2 x3 x4/\P1 x0 x1 x2 x3 x4/\P2 x0 x1 x2 x3 x4/\P3 x0 x1 x2 x3 x4)(k:∀ x0,∀ x1,∀ x2,∀ x3,∀ x4,P0 x0 x1 x2 x3 x4->P1 x0 x1 x2 x3 x4->P2 x0 x1 x2 x3 x4->P3 x0 x1 x2 x3 x4->G):G:=Exists.elim h fun x9 h=>Exists.elim h fun x8 h=>Exists.elim h fun x7 h=>Exists.elim h fun x6 h=>Exists.elim h fun x5 h=>a4 h (k x9 x8 x7 x6 x5)
theorem GO {t0 t1:Type}{P0 P1 P2 P3 P4 P5 P6 P7:t0->t1->Prop}{G:Prop}(h:∃ x0,∃ x1,P0 x0 x1/\P1 x0 x1/\P2 x0 x1/\P3 x0 x1/\P4 x0 x1/\P5 x0 x1/\P6 x0 x1/\P7 x0 x1)(k:∀ x0,∀ x1,P0 x0 x1->P1 x0 x1->P2 x0 x1->P3 x0 x1->P4 x0 x1->P5 x0 x1->P6 x0 x1->P7 x0 x1->G):G:=Exists.elim h fun vN h=>Exists.elim h fun x9 h=>a8 h (k vN x9)
theorem rS {t0 t1 t2 t3 t4:Type}{P0 P1 P2 P3 P4:t0->t1->t2->t3->t4->Prop}{G:Prop}(h:∃ x0,∃ x1,∃ x2,∃ x3,∃ x4,P0 x0 x1 x2 x3 x4/\P1 x0 x1 x2 x3 x4/\P2 x0 x1 x2 x3 x4/\P3 x0 x1 x2 x3 x4/\P4 x0 x1 x2 x3 x4)(k:∀ x0,∀ x1,∀ x2,∀ x3,∀ x4,P0 x0 x1 x2 x3 x4->P1 x0 x1 x2 x3 x4->P2 x0 x1 x2 x3 x4->P3 x0 x1 x2 x3 x4->P4 x0 x1 x2 x3 x4->G):G:=Exists.elim h fun vN h=>Exists.elim h fun x9 h=>Exists.elim h fun x8 h=>Exists.elim h fun x7 h=>Exists.elim h fun x6 h=>a5 h (k vN x9 x8 x7 x6)
theorem oo {t0 t1 t2 t3:Type}{P0 P1 P2 P3 P4 P5 P6:t0->t1->t2->t3->Prop}{G:Prop}(h:∃ x0,∃ x1,∃ x2,∃ x3,P0 x0 x1 x2 x3/\P1 x0 x1 x2 x3/\P2 x0 x1 x2 x3/\P3 x0 x1 x2 x3/\P4 x0 x1 x2 x3/\P5 x0 x1 x2 x3/\P6 x0 x1 x2 x3)(k:∀ x0,∀ x1,∀ x2,∀ x3,P0 x0 x1 x2 x3->P1 x0 x1 x2 x3->P2 x0 x1 x2 x3->P3 x0 x1 x2 x3->P4 x0 x1 x2 x3->P5 x0 x1 x2 x3->P6 x0 x1 x2 x3->G):G:=Exists.elim h fun uk h=>Exists.elim h fun vN h=>Exists.elim h fun x9 h=>Exists.elim h fun x8 h=>a7 h (k uk vN x9 x8)
theorem GP {t0 t1 t2 t3 t4 t5:Type}{P0 P1 P2 P3 P4 P5:t0->t1->t2->t3->t4->t5->Prop}{G:Prop}(h:∃ x0,∃ x1,∃ x2,∃ x3,∃ x4,∃ x5,P0 x0 x1 x2 x3 x4 x5/\P1 x0 x1 x2 x3 x4 x5/\P2 x0 x1 x2 x3 x4 x5/\P3 x0 x1 x2 x3 x4 x5/\P4 x0 x1 x2 x3 x4 x5/\P5 x0 x1 x2 x3 x4 x5)(k:∀ x0,∀ x1,∀ x2,∀ x3,∀ x4,∀ x5,P0 x0 x1 x2 x3 x4 x5->P1 x0 x1 x2 x3 x4 x5->P2 x0 x1 x2 x3 x4 x5->P3 x0 x1 x2 x3 x4 x5->P4 x0 x1 x2 x3 x4 x5->P5 x0 x1 x2 x3 x4 x5->G):G:=Exists.elim h fun xW h=>Exists.elim h fun uk h=>Exists.elim h fun vN h=>Exists.elim h fun x9 h=>Exists.elim h fun x8 h=>Exists.elim h fun x7 h=>a6 h (k xW uk vN x9 x8 x7)
theorem iU {t0 t1 t2 t3 t4 t5 t6:Type}{P0 P1 P2 P3 P4 P5 P6 P7 P8 P9:t0->t1->t2->t3->t4->t5->t6->Prop}{G:Prop}(h:∃ x0,∃ x1,∃ x2,∃ x3,∃ x4,∃ x5,∃ x6,P0 x0 x1 x2 x3 x4 x5 x6/\P1 x0 x1 x2 x3 x4 x5 x6/\P2 x0 x1 x2 x3 x4 x5 x6/\P3 x0 x1 x2 x3 x4 x5 x6/\P4 x0 x1 x2 x3 x4 x5 x6/\P5 x0 x1 x2 x3 x4 x5 x6/\P6 x0 x1 x2 x3 x4 x5 x6/\P7 x0 x1 x2 x3 x4 x5 x6/\P8 x0 x1 x2 x3 x4 x5 x6/\P9 x0 x1 x2 x3 x4 x5 x6)(k:∀ x0,∀ x1,∀ x2,∀ x3,∀ x4,∀ x5,∀ x6,P0 x0 x1 x2 x3 x4 x5 x6->P1 x0 x1 x2 x3 x4 x5 x6->P2 x0 x1 x2 x3 x4 x5 x6->P3 x0 x1 x2 x3 x4 x5 x6->P4 x0 x1 x2 x3 x4 x5 x6->P5 x0 x1 x2 x3 x4 x5 x6->P6 x0 x1 x2 x3 x4 x5 x6->P7 x0 x1 x2 x3 x4 x5 x6->P8 x0 x1 x2 x3 x4 x5 x6->P9 x0 x1 x2 x3 x4 x5 x6->G):G:=Exists.elim h fun jP h=>Exists.elim h fun kY h=>Exists.elim h fun kX h=>Exists.elim h fun tG h=>Exists.elim h fun tF h=>Exists.elim h fun xW h=>Exists.elim h fun uk h=>IY h (k jP kY kX tG tF xW uk)
theorem rK {t0 t1 t2:Type}{P0 P1 P2 P3 P4 P5:t0->t1->t2->Prop}{G:Prop}(h:∃ x0,∃ x1,∃ x2,P0 x0 x1 x2/\P1 x0 x1 x2/\P2 x0 x1 x2/\P3 x0 x1 x2/\P4 x0 x1 x2/\P5 x0 x1 x2)(k:∀ x0 x1 x2,P0 x0 x1 x2->P1 x0 x1 x2->P2 x0 x1 x2->P3 x0 x1 x2->P4 x0 x1 x2->P5 x0 x1 x2->G):G:=Exists.elim h fun x0 h=>Exists.elim h fun x1 h=>Exists.elim h fun x2 h=>a6 h (k x0 x1 x2)
theorem H_ {α:Type}{l:List α}(h:l.length=1):∃ a,l=[a]:=by
 cases l with
 |nil=>cases h|cons a l=>cases l with
  |nil=>exact⟨a,rfl⟩|cons b l=>cases h
theorem fF {α:Type}{l:List α}(h:l.length=2):∃ a b,l=[a,b]:=by cases l with|nil=>cases h|cons a l=>exact Exists.elim (H_ (Nat.succ.inj h)) fun b e=>⟨a,b,e▸rfl⟩
theorem pV {α:Type}{l:List α}(h:l.length=3):∃ a b c,l=[a,b,c]:=by cases l with|nil=>cases h|cons a l=>exact Exists.elim (fF (Nat.succ.inj h)) fun b h=>Exists.elim h fun c e=>⟨a,b,c,e▸rfl⟩
theorem zJ {α:Type u}{a:α}{G:Prop}(h:none=some a):G:=nomatch h
theorem qE {α:Type u}{a:α}{G:Prop}(h:some a=none):G:=nomatch h
theorem zU {G:Prop}(h:false=true):G:=nomatch h
theorem vE {α:Type u}{c:Prop}[Decidable c]{a b r:α}{G:Prop}(h:(if c then a else b)=r)(x:c->a=r->G)(y:¬c->b=r->G):G:=if q:c then x q ((if_pos q).symm.trans h) else y q ((if_neg q).symm.trans h)
theorem U_ {α:Type u}{β:Type v}[BEq α]{x y:α}{b:β}{l:List (α×β)}(h:(x==y)=false):List.lookup x ((y,b)::l)=List.lookup x l:=by show(match x==y with|true=>some b|false=>List.lookup x l)=_;rw[h]
theorem WY {α:Type u}{β:Type v}[BEq α][LawfulBEq α](x:α){b:β}{l:List (α×β)}:List.lookup x ((x,b)::l)=some b:=by show(match x==x with|true=>some b|false=>List.lookup x l)=_;rw[beq_self_eq_true]
theorem du {α:Type u}{β:Type v}[BEq α][LawfulBEq α]{x y:α}{b r:β}{l:List (α×β)}{G:Prop}(h:List.lookup x ((y,b)::l)=some r)(k:x=y->b=r->G)(n:(x==y)=false->List.lookup x l=some r->G):G:=(Bool.eq_false_or_eq_true (x==y)).elim (fun q=>k (beq_iff_eq.mp q) (yd ((beq_iff_eq.mp q▸WY x:List.lookup x ((y,b)::l)=some b).symm.trans h))) fun q=>n q ((U_ q).symm.trans h)
theorem FF {α:Type u}{β:Type v}[BEq α]{x y:α}{b:β}{l:List (α×β)}(h:(List.lookup x l).isSome=true):(List.lookup x ((y,b)::l)).isSome=true:=by
 show(match x==y with|true=>some b|false=>List.lookup x l).isSome=true;cases x==y
 .exact h
 .rfl
theorem xn {ε α:Type}{a:α}{e:ε}{G:Prop}(h:(Except.ok a:Except ε α)=.error e):G:=nomatch h
theorem vA {ε α:Type}{a:α}{e:ε}{G:Prop}(h:(Except.error e:Except ε α)=.ok a):G:=nomatch h
theorem KI {α:Type u}{a:α}{l:List α}{G:Prop}(h:[]=a::l):G:=nomatch h
theorem Kw {α:Type u}{a:α}{l:List α}{G:Prop}(h:a::l=[]):G:=nomatch h
theorem wg {α:Type u}{a:α}{G:Prop}(h:a∈([]:List α)):G:=nomatch h
inductive Id where
 |nm (k:Nat)|an (a:Addr)
 deriving DecidableEq
theorem xh {n:Nat}{a:Addr}{G:Prop}(h:Id.nm n=.an a):G:=nomatch h
theorem v7 {n:Nat}{a:Addr}{G:Prop}(h:Id.an a=.nm n):G:=nomatch h
set_option genCtorIdx false in
inductive PV where
 |none|bool (b:Bool)|int (i:Int)|str (s:Str)|tup (l:List PV)|obj (i:Id)|raw (v:Value)
 deriving Inhabited
noncomputable def PV.ctorIdx (t:PV):Nat:=PV.casesOn t 0 (fun _=>1) (fun _=>2) (fun _=>3) (fun _=>4) (fun _=>5) (fun _=>6)
noncomputable abbrev Nm:=Nat->Option Addr
noncomputable def Id.at (θ:Nm):Id->Option Addr|.nm k=>θ k|.an a=>some a
def zZ (θ zl:Nm):Prop:=∀ k a,θ k=some a->zl k=some a
theorem zZ.refl (θ:Nm):zZ θ θ:=fun _ _ h=>h
theorem zZ.trans {a b c:Nm}(x:zZ a b)(y:zZ b c):zZ a c:=fun k v h=>y k v (x k v h)
theorem Id.at_le {θ zl:Nm}(h:zZ θ zl){i:Id}{a:Addr}(e:i.at θ=some a):i.at zl=some a:=by cases i with|nm k=>exact h k a e|an b=>exact e
mutual
@[reducible] noncomputable def Rd (θ:Nm) (h:Heap):PV->Value->Prop
 |.none,v=>v=.none|.bool b,v=>v=.bool b|.int i,v=>∃ t,v=.int i t|.str s,v=>∃ t,v=.str s t|.tup l,v=>∃ a items,v=.ref a/\IsTup h a items/\yb θ h l items.toList|.obj i,v=>∃ a,i.at θ=some a/\v=.ref a|.raw x,v=>v=x
@[reducible] noncomputable def yb (θ:Nm) (h:Heap):List PV->List Value->Prop
 |[],vs=>vs=[]|p::ps,vs=>∃ v r,vs=v::r/\Rd θ h p v/\yb θ h ps r
end
theorem lN {P:PV->Prop}{Q:List PV->Prop}(n:P .none)(b:∀ b,P (.bool b))(i:∀ i,P (.int i))(s:∀ s,P (.str s))(t:∀ l,Q l->P (.tup l))(o:∀ i,P (.obj i))(r:∀ v,P (.raw v))(e:Q [])(c:∀ p l,P p->Q l->Q (p::l))(p:PV):P p:=
 PV.rec (motive_1:=P) (motive_2:=Q) n b i s t o r e c p
theorem yb.mono0 (R:∀ p v,Rd θ h p v->Rd zl h' p v)(ps:List PV):∀ vs,yb θ h ps vs->yb zl h' ps vs:=by induction ps with|nil=>exact fun _ e=>e|cons p ps ih=>exact fun _ ⟨v,r,e1,e2,e3⟩=>⟨v,r,e1,R p v e2,ih r e3⟩
theorem Rd.mono (hn:zZ θ zl)(ht:∀ a items,IsTup h a items->IsTup h' a items)(p:PV):∀ v,Rd θ h p v->Rd zl h' p v:=
 lN (P:=fun p=>∀ v,Rd θ h p v->Rd zl h' p v) (Q:=fun l=>∀ v,yb θ h l v->yb zl h' l v) (fun _ e=>e) (fun _ _ e=>e) (fun _ _ e=>e) (fun _ _ e=>e) (fun _ ih _ ⟨a,items,e1,e2,e3⟩=>⟨a,items,e1,ht a items e2,ih _ e3⟩) (fun _ _ ⟨a,e1,e2⟩=>⟨a,Id.at_le hn e1,e2⟩) (fun _ _ e=>e) (fun _ e=>e) (fun _ _ ip il _ ⟨v,r,e1,e2,e3⟩=>⟨v,r,e1,ip v e2,il r e3⟩) p
theorem yb.mono (hn:zZ θ zl)(ht:∀ a items,IsTup h a items->IsTup h' a items)(ps:List PV)(vs:List Value):yb θ h ps vs->yb zl h' ps vs:=yb.mono0 (Rd.mono hn ht) ps vs
theorem yb.length {θ:Nm}{h:Heap}{ps:List PV}:∀ {vs:List Value},yb θ h ps vs->vs.length=ps.length:=by induction ps with|nil=>exact fun e=>congrArg List.length e|cons p ps ih=>intro vs ⟨v,r,e1,_,e3⟩;exact(congrArg List.length e1).trans (congrArg (·+1) (ih e3))
theorem yb.get {ps:List PV}:∀ {vs:List Value} {i:Nat} {p:PV},yb θ h ps vs->ps[i]?=some p->∃ v,vs[i]?=some v/\Rd θ h p v:=by
 induction ps with
 |nil=>exact fun _ e=>zJ e|cons q ps ih=>
  intro vs i p ⟨v,r,e,e2,e3⟩ g;obtain rfl:=e;cases i with
  |zero=>obtain rfl:=yd g;exact⟨v,rfl,e2⟩
  |succ i=>exact ih (vs:=r) (i:=i) e3 g
theorem yb.append {ps qs:List PV}{us:List Value}:∀ {vs:List Value},yb θ h ps vs->yb θ h qs us->yb θ h (ps++qs) (vs++us):=by
 induction ps with
 |nil=>intro vs e g;cases e;exact g|cons p ps ih=>intro vs ⟨v,r,e,e2,e3⟩ g;obtain rfl:=e;exact⟨v,_,rfl,e2,ih e3 g⟩
theorem yb.take {ps:List PV}:∀ (n:Nat) {vs:List Value},yb θ h ps vs->yb θ h (ps.take n) (vs.take n):=by
 induction ps with
 |nil=>intro n vs e;obtain rfl:vs=[]:=e;cases n<;>exact rfl
 |cons p ps ih=>intro n vs ⟨v,r,e,e2,e3⟩;obtain rfl:=e;cases n with|zero=>exact rfl|succ n=>exact⟨v,_,rfl,e2,ih n e3⟩
theorem yb.set (hp:Rd θ h p v){ps:List PV}:∀ (n:Nat) {vs:List Value},yb θ h ps vs->yb θ h (ps.set n p) (vs.set n v):=by
 induction ps with
 |nil=>intro n vs e;obtain rfl:vs=[]:=e;exact rfl
 |cons q ps ih=>intro n vs ⟨u,r,e,e2,e3⟩;obtain rfl:=e;cases n with|zero=>exact⟨v,_,rfl,hp,e3⟩|succ n=>exact⟨u,_,rfl,e2,ih n e3⟩
set_option genInjectivity false in
set_option genCtorIdx false in
inductive MO where|list (l:List PV)|dictI (l:List (Int×PV))|dictS (l:List (Str×PV))|dictT (l:List (List Int×PV))|setI (S:Int->Bool) (n:Nat)|inst (C:Addr) (d:Id)|ns (l:List (Str×PV))|exc (C:Addr) (d:Option Id)
noncomputable def uh (scope c:Scope):Scope:={scope with names:=scope.names.map fun(n,k)=>if(k==.free&&c.kind==.function&&c.names.lookup n==some .cell) then(n,.cell) else(n,k)}
end
section
set_option genSizeOf false
set_option genInjectivity false
set_option genCtorIdx false
noncomputable abbrev Lc:=List (Option PV)
inductive RE where|n|k (e r:RE)|loc (i p:Nat)|cel (i p:Nat)|fre (i p:Nat)|glo (j p:Nat)|int (v:Int) (p:Nat)|str (s:Str) (p:Nat)|non (p:Nat)|boo (b:Bool) (p:Nat)|att (o:RE) (k p:Nat)|bin (op:Operator) (l r:RE) (p:Nat)|una (op:UnaryOp) (x:RE) (p:Nat)|cmp (op:CmpOp) (l r:RE) (p:Nat)|ife (t b o:RE) (p:Nat)|tup (es:RE) (p:Nat)|lst (es:RE) (p:Nat)|sub (v i:RE) (p:Nat)|cal (j:Nat) (as:RE) (q p:Nat)|clv (f as:RE) (p:Nat)|met (o:RE) (k:Nat) (as:RE) (q p:Nat)|bop (op:BoolOp) (es:RE) (p:Nat)|dc0 (p:Nat)|raw (e:Expr)
inductive RS where|n|k (s r:RS)|asn (i q:Nat) (e:RE) (p:Nat)|asA (o:RE) (k q:Nat) (e:RE) (p:Nat)|asI (o i:RE) (q:Nat) (e:RE) (p:Nat)|un2 (i q j r t:Nat) (e:RE) (p:Nat)|aug (i q:Nat) (op:Operator) (e:RE) (p:Nat)|exr (e:RE) (p:Nat)|ret (e:RE) (p:Nat)|re0 (p:Nat)|iff (t:RE) (b o:RS) (p:Nat)|whl (t:RE) (b:RS) (p:Nat)|fo (i q:Nat) (it:RE) (b:RS) (p:Nat)|fx (i q:Nat) (it:RE) (b:RS) (p:Nat)|rai (e:RE) (p:Nat)|con (p:Nat)|pas (p:Nat)|raw (s:Stmt)
noncomputable def zu (p:Nat):Pos:=⟨p/1048576%1024,p/1024%1024,p/1048576%1024+p/1073741824,p%1024⟩
structure Sc where
 c:Scope
 nd:(c.names.map (·.1)).Nodup
noncomputable def Sc.nm (s:Sc)(i:Nat):Str:=match s.c.names[i]? with|some x=>x.1|none=>⟨#[]⟩
noncomputable def Sc.kd (s:Sc)(i:Nat):Option NameKind:=match s.c.names[i]? with|some x=>some x.2|none=>none
noncomputable def xr (l:List Str)(k:Nat):Str:=l.getD k ⟨#[]⟩
noncomputable def XB (l:List (Str×PV))(k:Nat):Str:=match l[k]? with|some x=>x.1|none=>⟨#[]⟩
structure Tx where
 aN:List Str
 gT:List (Str×PV)
 mT:List (Addr×List (Nat×Addr))
mutual
noncomputable def RE.ast (T:Tx)(s:Sc):RE->Expr|.loc i p=>.Name (s.nm i) (zu p)|.cel i p=>.Name (s.nm i) (zu p)|.fre i p=>.Name (s.nm i) (zu p)|.glo j p=>.Name (XB T.gT j) (zu p)|.int v p=>.Constant (.int v) 0 (zu p)|.str v p=>.Constant (.str v) 0 (zu p)|.non p=>.Constant .none 0 (zu p)|.boo b p=>.Constant (.bool b) 0 (zu p)|.att o m p=>.Attribute (o.ast T s) (xr T.aN m) (zu p)|.bin op l r p=>.BinOp (l.ast T s) op (r.ast T s) (zu p)|.una op x p=>.UnaryOp op (x.ast T s) (zu p)|.cmp op l r p=>.Compare (l.ast T s) [op] [r.ast T s] (zu p)|.ife t b o p=>.IfExp (t.ast T s) (b.ast T s) (o.ast T s) (zu p)|.tup es p=>.Tuple (es.asts T s) 0 (zu p)|.lst es p=>.List (es.asts T s) (zu p)|.sub v i p=>.Subscript (v.ast T s) (i.ast T s) (zu p)|.cal j as q p=>.Call (.Name (XB T.gT j) (zu q)) (as.asts T s) [] (zu p)|.clv f as p=>.Call (f.ast T s) (as.asts T s) [] (zu p)|.met o m as q p=>.Call (.Attribute (o.ast T s) (xr T.aN m) (zu q)) (as.asts T s) [] (zu p)|.bop op es p=>.BoolOp op (es.asts T s) (zu p)|.dc0 p=>.Dict [] [] (zu p)|.raw e=>e|.n=>.Constant .none 0 default|.k _ _=>.Constant .none 0 default
noncomputable def RE.asts (T:Tx)(s:Sc):RE->List Expr|.k e r=>e.ast T s::r.asts T s|_=>[]
end
mutual
noncomputable def RS.ast (T:Tx)(s:Sc):RS->Stmt|.asn i q e p=>.Assign [.Name (s.nm i) (zu q)] (e.ast T s) (zu p)|.asA o m q e p=>.Assign [.Attribute (o.ast T s) (xr T.aN m) (zu q)] (e.ast T s) (zu p)|.asI o i q e p=>.Assign [.Subscript (o.ast T s) (i.ast T s) (zu q)] (e.ast T s) (zu p)|.un2 i q j r t e p=>.Assign [.Tuple [.Name (s.nm i) (zu q),.Name (s.nm j) (zu r)] 0 (zu t)] (e.ast T s) (zu p)|.aug i q op e p=>.AugAssign (.Name (s.nm i) (zu q)) op (e.ast T s) (zu p)|.exr e p=>.Expr (e.ast T s) (zu p)|.ret e p=>.Return (some (e.ast T s)) (zu p)|.re0 p=>.Return none (zu p)|.iff t b o p=>.If (t.ast T s) (b.asts T s) (o.asts T s) (zu p)|.whl t b p=>.While (t.ast T s) (b.asts T s) [] (zu p)|.fo i q it b p=>.For (.Name (s.nm i) (zu q)) (it.ast T s) (b.asts T s) [] (zu p)|.fx i q it b p=>.For (.Name (s.nm i) (zu q)) (it.ast T s) (b.asts T s) [] (zu p)|.rai e p=>.Raise (some (e.ast T s)) none (zu p)|.con p=>.Continue (zu p)|.pas p=>.Pass (zu p)|.raw st=>st|.n=>.Pass default|.k _ _=>.Pass default
noncomputable def RS.asts (T:Tx)(s:Sc):RS->List Stmt|.k st r=>st.ast T s::r.asts T s|_=>[]
end
noncomputable def ZO (T:Tx)(s:Sc)(j:Nat):Bool:=decide (j<T.gT.length)&&s.c.names.lookup (XB T.gT j)==some .globalImplicit
noncomputable def Z3 (x:Str):Bool:= !(x==("__debug__":Str))&& !(x==("__classdict__":Str))
noncomputable def Cp:Expr->Bool|.Dict _ _ _|.ListComp _ _ _ _|.Subscript _ _ _|.Call _ _ _ _=>true|_=>false
noncomputable def RE.obj:RE->Bool|.loc _ _|.cel _ _|.fre _ _|.glo _ _|.att _ _ _=>true|_=>false
noncomputable def RE.tst:RE->Bool|.loc _ _|.cel _ _|.fre _ _|.att _ _ _|.cal _ _ _ _|.met _ _ _ _ _|.sub _ _ _|.boo _ _=>true|_=>false
noncomputable def RE.len:RE->Nat|.k _ r=>r.len+1|_=>0
noncomputable def RE.plain:RE->Bool|.n|.k _ _|.raw _=>false|_=>true
mutual
noncomputable def RE.wf (T:Tx)(s:Sc):RE->Bool|.loc i _=>s.kd i==some .local&&Z3 (s.nm i)|.cel i _=>s.kd i==some .cell&&Z3 (s.nm i)|.fre i _=>s.kd i==some .free&&Z3 (s.nm i)|.glo j _=>ZO T s j|.att o _ _=>o.wf T s&&o.obj|.bin _ l r _=>l.wf T s&&r.wf T s&&l.plain&&r.plain|.una _ x _=>x.wf T s&&x.plain|.cmp _ l r _=>l.wf T s&&r.wf T s&&l.plain&&r.plain|.ife t b o _=>t.wf T s&&b.wf T s&&o.wf T s&&t.plain&&b.plain&&o.plain|.tup es _=>es.wfs T s&&decide (es.len<=1000)|.lst es _=>es.wfs T s&&decide (es.len<=1000)|.sub v i _=>v.wf T s&&i.wf T s&&v.plain&&i.plain|.cal j as _ _=>ZO T s j&&as.wfs T s|.clv f as _=>f.wf T s&&(match f with|.loc _ _=>true|_=>false)&&as.wfs T s|.met o _ as q p=>o.wf T s&&o.obj&&as.wfs T s&&decide (as.len<30)&&Nat.beq (zu q).endLine (zu p).line|.bop _ es _=>es.wfs T s|.raw e=>Cp e|.n|.k _ _=>false|_=>true
noncomputable def RE.wfs (T:Tx)(s:Sc):RE->Bool|.n=>true|.k e r=>e.wf T s&&r.wfs T s|_=>false
end
noncomputable def RE.noTup:RE->Bool|.tup _ _=>false|_=>true
mutual
noncomputable def RS.wf (T:Tx)(s:Sc):RS->Bool|.asn i _ e _=>(s.kd i==some .local||s.kd i==some .cell)&&e.wf T s&&e.plain|.asA o _ _ e _=>o.wf T s&&o.obj&&e.wf T s&&e.plain|.asI o i _ e _=>o.wf T s&&o.obj&&i.wf T s&&i.plain&&e.wf T s&&e.plain|.un2 i _ j _ _ e _=>s.kd i==some .local&&s.kd j==some .local&&e.wf T s&&e.plain&&e.noTup|.aug i _ _ e _=>s.kd i==some .local&&e.wf T s&&e.plain|.exr e _=>e.wf T s&&e.plain|.ret e _=>e.wf T s|.iff t b o _=>t.wf T s&&t.plain&&b.wfs T s&&o.wfs T s|.whl t b _=>t.wf T s&&t.plain&&b.wfs T s|.fo i _ it b _=>s.kd i==some .local&&it.wf T s&&it.plain&&b.wfs T s|.fx i _ it b _=>s.kd i==some .local&&it.wf T s&&it.plain&&b.wfs T s|.rai e _=>e.wf T s|.n|.k _ _=>false|_=>true
noncomputable def RS.wfs (T:Tx)(s:Sc):RS->Bool|.n=>true|.k st r=>st.wf T s&&r.wfs T s|_=>false
end
end
section
local macro_rules |`($n:num)=>if n.getNat<4000000 then Lean.Macro.throwUnsupported else `(nat_lit $n)
noncomputable abbrev gI:=NameKind.globalImplicit
noncomputable abbrev lL:=NameKind.local
noncomputable abbrev fS (l:List (Str×NameKind))(h:(l.map (·.1)).Nodup):Sc:=⟨⟨.function,l,false,false,[]⟩,h⟩
noncomputable def tx:Tx:=⟨[("ball":Str),("texts":Str),("atom_numbers":Str),("functors":Str),("functor_numbers":Str),("atom":Str),("func":Str),("get":Str),("append":Str),("functor":Str),("symbols":Str),("max_heap":Str),("heap":Str),("stack":Str),("trail":Str),("hb":Str),("bb":Str),("push":Str),("bind":Str),("deref":Str),("new_var":Str),("arity":Str),("base":Str),("reserve":Str),("globalise":Str),("new_block":Str),("pop":Str),("functor_of":Str),("width":Str),("name":Str),("text":Str),("bit_length":Str),("store":Str),("max_bits":Str),("arg":Str),("unify":Str),("is_unbound":Str),("take":Str),("span":Str),("met":Str),("add":Str),("bind_pair":Str),("is_compound":Str),("code":Str),("occurs":Str),("reset":Str),("x":Str),("p":Str),("cp":Str),("e":Str),("b":Str),("b0":Str),("mode":Str),("s":Str),("guard":Str),("roots":Str),("bags":Str),("collect_wanted":Str),("set_x":Str),("take_term":Str),("put_term":Str),("set_arguments":Str),("put":Str)],
 [(("fixed_atoms":Str),.raw (.ref 60)),(("fixed_functors":Str),.raw (.ref 67)),(("len":Str),.raw (.builtin "len")),(("tuple":Str),.raw (.type "tuple")),(("PrologError":Str),.raw (.ref 51)),(("F_ERROR":Str),.int 16),(("A_SYSTEM":Str),.int 25),(("isinstance":Str),.raw (.builtin "isinstance")),(("str":Str),.raw (.type "str")),(("system_error":Str),.raw (.ref 186)),(("formal_of":Str),.raw (.ref 193)),(("resource_error":Str),.raw (.ref 221)),(("REF":Str),.int 0),(("range":Str),.raw (.type "range")),(("SRF":Str),.int 1),(("STR":Str),.int 2),(("LIS":Str),.int 3),(("F_DOT":Str),.int 0),(("CON":Str),.int 4),(("FUN":Str),.int 6),(("list":Str),.raw (.type "list")),(("INT":Str),.int 5),(("VISIT":Str),.int 0),(("BUILD":Str),.int 1),(("struct":Str),.raw (.ref 179)),(("F_SLASH":Str),.int 15),(("atom":Str),.raw (.ref 165)),(("integer":Str),.raw (.ref 172)),(("type_error":Str),.raw (.ref 207)),(("UNARY_NAMES":Str),.tup [.str ("-":Str),.str ("+":Str),.str ("abs":Str),.str ("sign":Str),.str ("\\":Str),.str ("msb":Str),.str ("succ":Str),.str ("truncate":Str),.str ("round":Str),.str ("ceiling":Str),.str ("floor":Str)]),(("BINARY_NAMES":Str),.tup [.str ("+":Str),.str ("-":Str),.str ("*":Str),.str ("//":Str),.str ("rem":Str),.str ("mod":Str),.str ("div":Str),.str ("min":Str),.str ("max":Str),.str ("gcd":Str),.str (">>":Str),.str ("<<":Str),.str ("/\\":Str),.str ("\\/":Str),.str ("xor":Str),.str ("^":Str),.str ("**":Str),.str ("plus":Str)]),(("is_evaluable":Str),.raw (.ref 434)),(("not_evaluable":Str),.raw (.ref 427)),(("abs":Str),.raw (.builtin "abs")),(("divide_toward_zero":Str),.raw (.ref 455)),(("shift_right":Str),.raw (.ref 490)),(("shift_left":Str),.raw (.ref 483)),(("sign_of":Str),.raw (.ref 497)),(("evaluation_error":Str),.raw (.ref 214)),(("remainder":Str),.raw (.ref 462)),(("apply_division":Str),.raw (.ref 511)),(("power":Str),.raw (.ref 476)),(("greatest_divisor":Str),.raw (.ref 469)),(("apply_bits":Str),.raw (.ref 518)),(("apply_unary":Str),.raw (.ref 504)),(("apply_binary":Str),.raw (.ref 525)),(("check_size":Str),.raw (.ref 448)),(("apply_functor":Str),.raw (.ref 532)),(("check_evaluable":Str),.raw (.ref 441)),(("instantiation_error":Str),.raw (.ref 200)),(("APPLY":Str),.str ("apply":Str)),(("reversed":Str),.raw (.type "reversed")),(("evaluate":Str),.raw (.ref 539)),(("integer_or_variable":Str),.raw (.ref 602)),(("natural_or_variable":Str),.raw (.ref 609)),(("set":Str),.raw (.type "set")),(("PairSet":Str),.raw (.ref 647)),(("is_variable":Str),.raw (.ref 679)),(("bind_checked":Str),.raw (.ref 693)),(("same_shape":Str),.raw (.ref 672)),(("push_pairs":Str),.raw (.ref 665)),(("occurs_in":Str),.raw (.ref 700)),(("push_arguments":Str),.raw (.ref 658)),(("Store":Str),.raw (.ref 416)),(("VOID":Str),.tup [.int 5,.int 0]),(("READ":Str),.str ("read":Str)),(("unify_unify":Str),.raw (.ref 686)),(("_law_pick":Str),.raw (.ref 869)),(("_law_tree":Str),.raw (.ref 876)),(("_law_full":Str),.raw (.ref 881)),(("evaluate_term":Str),.raw (.ref 546)),(("_law_error":Str),.raw (.ref 888)),(("_law_counted":Str),.raw (.ref 914)),(("_law_told":Str),.raw (.ref 902)),(("is_value":Str),.raw (.ref 553)),(("sum":Str),.raw (.builtin "sum")),(("Symbols":Str),.raw (.ref 154)),(("Areas":Str),.raw (.ref 858)),(("sorted":Str),.raw (.builtin "sorted")),(("_law_value":Str),.raw (.ref 895)),(("_law_is":Str),.raw (.ref 926)),(("equal_values":Str),.raw (.ref 560)),(("other_values":Str),.raw (.ref 567)),(("less_value":Str),.raw (.ref 574)),(("greater_value":Str),.raw (.ref 581)),(("at_most_value":Str),.raw (.ref 588)),(("at_least_value":Str),.raw (.ref 595)),(("_law_side":Str),.raw (.ref 909)),(("_law_one_lacks":Str),.raw (.ref 919)),(("successor":Str),.raw (.ref 616)),(("sum_of_two":Str),.raw (.ref 623))],
 [(154,[(5,88),(30,95),(9,102),(6,109),(29,116),(21,123)]),(416,[(60,406),(59,413),(17,244),(20,251),(23,258),(19,272),(36,279),(18,286),(41,293),(24,300),(42,328),(27,335),(28,342),(22,349),(34,356),(25,363)]),(858,[(45,722),(58,729),(61,736),(34,743),(35,750),(37,757),(62,764)])]⟩
noncomputable def Ht:Sc:=fS [("self",lL),("ball",lL)] (by decide+kernel)
noncomputable def HU:RS:=(.k (.asA (.loc 0 10493964) 0 10493969 (.loc 1 10506264) 10493976) .n)
noncomputable def GS:Sc:=fS [] (by decide+kernel)
noncomputable def HJ:RS:=(.k (.ret (.tup (.k (.str "[]" 16789520) (.k (.str "." 16795669) (.k (.str "{}" 16800795) (.k (.str "-" 16806944) (.k (.str "+" 16812069) (.k (.str "*" 16817194) (.k (.str "/" 16822319) (.k (.str "," 16827444) (.k (.str "|" 16832569) (.k (.str ";" 16837694) (.k (.str "->" 16842820) (.k (.str "\\+" 16848971) (.k (.str ":-" 16856145) (.k (.str "?-" 16862295) (.k (.str "-->" 16868446) (.k (.str "!" 16875619) (.k (.str "true" 16880747) (.k (.str "fail" 16888947) (.k (.str "false" 16897148) (.k (.str "call" 16906372) (.k (.str "=" 16914569) (.k (.str "^" 16919694) (.k (.str "error" 16924823) (.k (.str "" 16934043) (.k (.str "end_of_file" 16938154) (.k (.str "system" 16953524) (.k (.str "$VAR" 16963772) (.k (.str "catch" 16971973) (.k (.str "throw" 16981198) .n))))))))))))))))))))))))))))) 16788687) 16781519) .n)
noncomputable def He:Sc:=fS [] (by decide+kernel)
noncomputable def G_:RS:=(.k (.ret (.tup (.k (.tup (.k (.str "." 18887696) (.k (.int 2 18892819) .n)) 18886676) (.k (.tup (.k (.str "," 18897946) (.k (.int 2 18903069) .n)) 18896926) (.k (.tup (.k (.str ";" 18908196) (.k (.int 2 18913319) .n)) 18907176) (.k (.tup (.k (.str "->" 18918447) (.k (.int 2 18924594) .n)) 18917427) (.k (.tup (.k (.str "\\+" 18929723) (.k (.int 1 18936894) .n)) 18928703) (.k (.tup (.k (.str ":-" 18942022) (.k (.int 2 18948169) .n)) 18941002) (.k (.tup (.k (.str ":-" 18953297) (.k (.int 1 18959444) .n)) 18952277) (.k (.tup (.k (.str "?-" 18964572) (.k (.int 1 18970719) .n)) 18963552) (.k (.tup (.k (.str "-->" 18975848) (.k (.int 2 18983019) .n)) 18974828) (.k (.tup (.k (.str "{}" 18988147) (.k (.int 1 18994294) .n)) 18987127) (.k (.tup (.k (.str "=" 18999421) (.k (.int 2 19004544) .n)) 18998401) (.k (.tup (.k (.str "^" 19009671) (.k (.int 2 19014794) .n)) 19008651) (.k (.tup (.k (.str "-" 19019921) (.k (.int 1 19025044) .n)) 19018901) (.k (.tup (.k (.str "-" 19030171) (.k (.int 2 19035294) .n)) 19029151) (.k (.tup (.k (.str "+" 19040421) (.k (.int 2 19045544) .n)) 19039401) (.k (.tup (.k (.str "/" 19050671) (.k (.int 2 19055794) .n)) 19049651) (.k (.tup (.k (.str "error" 19060925) (.k (.int 2 19070144) .n)) 19059905) (.k (.tup (.k (.str "$VAR" 19075274) (.k (.int 1 19083469) .n)) 19074254) (.k (.tup (.k (.str "catch" 19088600) (.k (.int 3 19097819) .n)) 19087580) (.k (.tup (.k (.str "throw" 19102950) (.k (.int 1 19112169) .n)) 19101930) (.k (.tup (.k (.str "!" 19117296) (.k (.int 0 19122419) .n)) 19116276) (.k (.tup (.k (.str "true" 19127549) (.k (.int 0 19135744) .n)) 19126529) (.k (.tup (.k (.str "fail" 19140874) (.k (.int 0 19149069) .n)) 19139854) (.k (.tup (.k (.str "false" 19154200) (.k (.int 0 19163419) .n)) 19153180) (.k (.tup (.k (.str "call" 19168549) (.k (.int 1 19176744) .n)) 19167529) (.k (.tup (.k (.str "call" 19181874) (.k (.int 2 19190069) .n)) 19180854) (.k (.tup (.k (.str "call" 19195199) (.k (.int 3 19203394) .n)) 19194179) (.k (.tup (.k (.str "call" 19208524) (.k (.int 4 19216719) .n)) 19207504) (.k (.tup (.k (.str "call" 19221849) (.k (.int 5 19230044) .n)) 19220829) (.k (.tup (.k (.str "call" 19235174) (.k (.int 6 19243369) .n)) 19234154) (.k (.tup (.k (.str "call" 19248499) (.k (.int 7 19256694) .n)) 19247479) (.k (.tup (.k (.str "call" 19261824) (.k (.int 8 19270019) .n)) 19260804) .n)))))))))))))))))))))))))))))))) 18886021) 18878853) .n)
noncomputable def GK:Sc:=fS [("self",lL),("text",lL),("row",lL),("fixed_atoms",gI),("fixed_functors",gI)] (by decide+kernel)
noncomputable def Hi:RS:=(.k (.asA (.loc 0 23076876) 1 23076882 (.lst .n 23090199) 23076887) (.k (.asA (.loc 0 24125452) 2 24125465 (.dc0 24145950) 24125470) (.k (.asA (.loc 0 25174028) 3 25174037 (.lst .n 25190426) 25174042) (.k (.asA (.loc 0 26222604) 4 26222620 (.dc0 26246177) 26222625) (.k (.fo 1 27275280 (.cal 0 .n 27283487 27283489) (.k (.exr (.met (.loc 0 28323856) 5 (.k (.loc 1 28334106) .n) 28323861 28323867) 28323867) .n) 1101013019) (.k (.fo 2 29372431 (.cal 1 .n 29379617 29379619) (.k (.exr (.met (.loc 0 30421008) 6 (.k (.sub (.loc 2 30431257) (.int 0 30435355) 30431260) (.k (.sub (.loc 2 30439457) (.int 1 30443555) 30439460) .n)) 30421013 30421029) 30421029) .n) 1103110181) .n))))))
noncomputable def HL:Sc:=fS [("self",lL),("text",lL),("found",lL),("number",lL),("len",gI)] (by decide+kernel)
noncomputable def Ii:RS:=(.k (.asn 2 33562637 (.met (.att (.loc 0 33570836) 2 33570849) 7 (.k (.loc 1 33593386) (.k (.una .USub (.int 1 33600558) 33599534) .n)) 33570853 33570863) 33562671) (.k (.iff (.cmp .GtE (.loc 2 34614288) (.int 0 34623509) 34614293) (.k (.ret (.loc 2 35671064) 35663896) .n) .n 1108353048) (.k (.asn 3 36708366 (.cal 2 (.k (.att (.loc 0 36721689) 1 36721695) .n) 36717588 36717600) 36708384) (.k (.exr (.met (.att (.loc 0 37756940) 1 37756946) 8 (.k (.loc 1 37775390) .n) 37756953 37756959) 37756959) (.k (.asI (.att (.loc 0 38805516) 2 38805529) (.loc 1 38823966) 38805535 (.loc 3 38832168) 38805544) (.k (.ret (.loc 3 39861269) 39854101) .n))))))
noncomputable def HO:Sc:=fS [("self",lL),("number",lL)] (by decide+kernel)
noncomputable def HM:RS:=(.k (.ret (.sub (.att (.loc 0 43006995) 1 43007001) (.loc 1 43018272) 43007009) 42999841) .n)
noncomputable def Ed:Sc:=fS [("self",lL),("atom",lL),("arity",lL),("key",lL),("found",lL),("number",lL),("len",gI)] (by decide+kernel)
noncomputable def Dh:RS:=(.k (.asn 3 46145547 (.tup (.k (.loc 1 46152723) (.k (.loc 2 46158874) .n)) 46151707) 46145563) (.k (.asn 4 47194125 (.met (.att (.loc 0 47202324) 4 47202340) 7 (.k (.loc 3 47227948) (.k (.una .USub (.int 1 47234096) 47233072) .n)) 47202344 47202353) 47194161) (.k (.iff (.cmp .GtE (.loc 4 48245776) (.int 0 48254997) 48245781) (.k (.ret (.loc 4 49302552) 49295384) .n) .n 1121984536) (.k (.asn 5 50339854 (.cal 2 (.k (.att (.loc 0 50353177) 3 50353186) .n) 50349076 50349091) 50339875) (.k (.exr (.met (.att (.loc 0 51388428) 3 51388437) 8 (.k (.loc 3 51409952) .n) 51388444 51388449) 51388449) (.k (.asI (.att (.loc 0 52437004) 4 52437020) (.loc 3 52458528) 52437025 (.loc 5 52465706) 52437034) (.k (.ret (.loc 5 53492757) 53485589) .n)))))))
noncomputable def As:Sc:=fS [("self",lL),("text",lL),("arity",lL)] (by decide+kernel)
noncomputable def D6:RS:=(.k (.ret (.met (.loc 0 56638483) 9 (.k (.met (.loc 0 56651808) 5 (.k (.loc 1 56662058) .n) 56651813 56651819) (.k (.loc 2 56669234) .n)) 56638491 56638515) 56631347) .n)
noncomputable def C3:Sc:=fS [("self",lL),("functor",lL)] (by decide+kernel)
noncomputable def CW:RS:=(.k (.ret (.sub (.sub (.att (.loc 0 59784211) 3 59784220) (.loc 1 59798564) 59784229) (.int 0 59807783) 59784232) 59777064) .n)
noncomputable def CH:Sc:=fS [("self",lL),("functor",lL)] (by decide+kernel)
noncomputable def BV:RS:=(.k (.ret (.sub (.sub (.att (.loc 0 62929939) 3 62929948) (.loc 1 62944292) 62929957) (.int 1 62953511) 62929960) 62922792) .n)
noncomputable def Dk:Sc:=fS [("number",lL)] (by decide+kernel)
noncomputable def CK:RS:=(.k (.ret (.tup (.k (.str "a" 81801231) (.k (.loc 0 81806359) .n)) 81800216) 81793048) .n)
noncomputable def E_:Sc:=fS [("whole",lL)] (by decide+kernel)
noncomputable def Cq:RS:=(.k (.ret (.tup (.k (.str "i" 83898383) (.k (.loc 0 83903510) .n)) 83897367) 83890199) .n)
noncomputable def D5:Sc:=fS [("functor",lL),("args",lL),("tuple",gI)] (by decide+kernel)
noncomputable def Az:RS:=(.k (.ret (.tup (.k (.str "s" 85995535) (.k (.loc 0 86000664) (.k (.cal 3 (.k (.loc 1 86016036) .n) 86009887 86009893) .n))) 85994534) 85987366) .n)
noncomputable def Ai:Sc:=fS [("formal",lL),("PrologError",gI),("F_ERROR",gI),("A_SYSTEM",gI)] (by decide+kernel)
noncomputable def Bq:RS:=(.k (.ret (.cal 4 (.k (.tup (.k (.str "s" 88104987) (.k (.glo 5 88110116) (.k (.tup (.k (.loc 0 88120365) (.k (.tup (.k (.str "a" 88129587) (.k (.glo 6 88134717) .n)) 88128574) .n)) 88119359) .n))) 88104000) .n) 88091670 88091713) 88084545) .n)
noncomputable def t7:Sc:=fS [("symbols",lL),("name",lL),("parts",lL),("args",lL),("part",lL),("isinstance",gI),("str",gI),("len",gI),("tuple",gI)] (by decide+kernel)
noncomputable def Ek:RS:=(.k (.asn 3 90181640 (.lst .n 90188813) 90181645) (.k (.fo 4 91234316 (.loc 2 91242517) (.k (.exr (.met (.loc 3 92282892) 8 (.k (.ife (.cal 7 (.k (.loc 4 92336192) (.k (.glo 8 92342341) .n)) 92324923 92324934) (.tup (.k (.str "a" 92296216) (.k (.met (.loc 0 92301345) 5 (.k (.loc 4 92314667) .n) 92301350 92301356) .n)) 92295213) (.loc 4 92352592) 92295248) .n) 92282899 92282961) 92282961) .n) 1164972113) (.k (.ret (.tup (.k (.str "s" 93335567) (.k (.met (.loc 0 93340696) 6 (.k (.loc 1 93354018) (.k (.cal 2 (.k (.loc 3 93364268) .n) 93360167 93360173) .n)) 93340701 93340718) (.k (.cal 3 (.k (.loc 3 93378618) .n) 93372469 93372475) .n))) 93334588) 93327420) .n)))
noncomputable def AQ:Sc:=fS [("symbols",lL),("system_error",gI)] (by decide+kernel)
noncomputable def Aj:RS:=(.k (.ret (.cal 9 (.k (.tup (.k (.str "a" 95446044) (.k (.met (.loc 0 95451173) 5 (.k (.str "instantiation_error" 95464512) .n) 95451178 95451201) .n)) 95445058) .n) 95431703 95431747) 95424579) .n)
noncomputable def DK:Sc:=fS [("symbols",lL),("kind",lL),("culprit",lL),("system_error",gI),("formal_of",gI)] (by decide+kernel)
noncomputable def BL:RS:=(.k (.ret (.cal 9 (.k (.cal 10 (.k (.loc 0 97552425) (.k (.str "type_error" 97561655) (.k (.tup (.k (.loc 1 97577022) (.k (.loc 2 97583175) .n)) 97576008) .n))) 97542177 97542217) .n) 97528855 97528906) 97521738) .n)
noncomputable def Eh:Sc:=fS [("symbols",lL),("what",lL),("system_error",gI),("formal_of",gI)] (by decide+kernel)
noncomputable def Ce:RS:=(.k (.ret (.cal 9 (.k (.cal 10 (.k (.loc 0 99649577) (.k (.str "evaluation_error" 99658813) (.k (.tup (.k (.loc 1 99680324) .n) 99679302) .n))) 99639329 99639367) .n) 99626007 99626056) 99618888) .n)
noncomputable def E3:Sc:=fS [("symbols",lL),("what",lL),("system_error",gI),("formal_of",gI)] (by decide+kernel)
noncomputable def EW:RS:=(.k (.ret (.cal 9 (.k (.cal 10 (.k (.loc 0 101746729) (.k (.str "resource_error" 101755963) (.k (.tup (.k (.loc 1 101775426) .n) 101774404) .n))) 101736481 101736517) .n) 101723159 101723206) 101716038) .n)
noncomputable def iY:Sc:=fS [("self",lL),("symbols",lL),("max_heap",lL)] (by decide+kernel)
noncomputable def Df:RS:=(.k (.asA (.loc 0 117448716) 10 117448724 (.loc 1 117464094) 117448734) (.k (.asA (.loc 0 118497292) 11 118497301 (.loc 2 118513696) 118497312) (.k (.asA (.loc 0 119545868) 12 119545873 (.lst .n 119558166) 119545878) (.k (.asA (.loc 0 120594444) 13 120594450 (.lst .n 120607767) 120594455) (.k (.asA (.loc 0 121643020) 14 121643026 (.lst .n 121656343) 121643031) (.k (.asA (.loc 0 122691596) 15 122691599 (.int 0 122701843) 122691603) (.k (.asA (.loc 0 123740172) 16 123740175 (.int 0 123750419) 123740179) .n)))))))
noncomputable def Ci:Sc:=fS [("self",lL),("cell",lL),("address",lL),("len",gI),("resource_error",gI)] (by decide+kernel)
noncomputable def EH:RS:=(.k (.asn 2 126885903 (.cal 2 (.k (.att (.loc 0 126900250) 12 126900255) .n) 126896149 126896160) 126885920) (.k (.iff (.cmp .GtE (.loc 2 127937554) (.att (.loc 0 127948826) 11 127948835) 127937571) (.k (.rai (.cal 11 (.k (.att (.loc 0 129008677) 10 129008685) (.k (.str "memory" 129023031) .n)) 128993312 128993336) 128987192) .n) .n 1201676344) (.k (.exr (.met (.att (.loc 0 130031628) 12 130031633) 8 (.k (.loc 1 130049053) .n) 130031640 130031646) 130031646) (.k (.ret (.loc 2 131087382) 131080214) .n))))
noncomputable def DS:Sc:=fS [("self",lL),("cell",lL),("REF",gI),("len",gI)] (by decide+kernel)
noncomputable def DM:RS:=(.k (.asn 1 134225932 (.tup (.k (.glo 12 134234131) (.k (.cal 2 (.k (.att (.loc 0 134243357) 12 134243362) .n) 134239256 134239267) .n)) 134233124) 134225956) (.k (.exr (.met (.loc 0 135274508) 17 (.k (.loc 1 135284758) .n) 135274513 135274519) 135274519) (.k (.ret (.loc 1 136330259) 136323091) .n)))
noncomputable def DC:Sc:=fS [("self",lL),("count",lL),("first",lL),("step",lL),("len",gI),("resource_error",gI),("range",gI),("REF",gI)] (by decide+kernel)
noncomputable def BO:RS:=(.k (.asn 2 139468813 (.cal 2 (.k (.att (.loc 0 139481112) 12 139481117) .n) 139477011 139477022) 139468830) (.k (.iff (.cmp .Gt (.bin .Add (.loc 2 140520464) (.loc 1 140528664) 140520472) (.att (.loc 0 140536863) 11 140536872) 140520488) (.k (.rai (.cal 11 (.k (.att (.loc 0 141591589) 10 141591597) (.k (.str "memory" 141605943) .n)) 141576224 141576248) 141570104) .n) .n 1214259256) (.k (.fx 3 142618640 (.cal 13 (.k (.loc 1 142632991) .n) 142626841 142626848) (.k (.exr (.met (.att (.loc 0 143667216) 12 143667221) 8 (.k (.tup (.k (.glo 12 143685665) (.k (.bin .Add (.loc 2 143690792) (.loc 3 143698991) 143690799) .n)) 143684656) .n) 143667228 143667249) 143667249) .n) 1216356401) (.k (.ret (.loc 2 144718868) 144711700) .n))))
noncomputable def B6:Sc:=fS [("self",lL),("cell",lL),("tag",lL),("found",lL),("REF",gI),("SRF",gI)] (by decide+kernel)
noncomputable def Cg:RS:=(.k (.whl (.boo true 151009298) (.k (.asn 2 152055823 (.sub (.loc 1 152061974) (.int 0 152067096) 152061977) 152055833) (.k (.iff (.cmp .Eq (.loc 2 153107474) (.glo 12 153114649) 153107481) (.k (.asn 3 154157077 (.sub (.att (.loc 0 154165276) 12 154165281) (.sub (.loc 1 154175526) (.int 1 154180648) 154175529) 154165290) 154157098) .n) (.k (.iff (.cmp .Eq (.loc 2 155206676) (.glo 14 155213851) 155206683) (.k (.asn 3 156254229 (.sub (.att (.loc 0 156262428) 13 156262434) (.sub (.loc 1 156273703) (.int 1 156278825) 156273706) 156262443) 156254251) .n) (.k (.ret (.loc 1 158358555) 158351387) .n) 3376427035) .n) 5521813531) (.k (.iff (.cmp .Eq (.loc 3 159398932) (.loc 1 159408156) 159398940) (.k (.ret (.loc 1 160455707) 160448539) .n) .n 1233137691) (.k (.asn 1 161493008 (.loc 3 161500184) 161493016) .n)))) 10888421400) .n)
noncomputable def Di:Sc:=fS [("self",lL),("cell",lL),("REF",gI),("SRF",gI)] (by decide+kernel)
noncomputable def BN:RS:=(.k (.iff (.cmp .Eq (.sub (.loc 1 164637711) (.int 0 164642833) 164637714) (.glo 12 164648985) 164637721) (.k (.ret (.cmp .Eq (.sub (.att (.loc 0 165694487) 12 165694492) (.sub (.loc 1 165704737) (.int 1 165709859) 165704740) 165694501) (.loc 1 165717037) 165694509) 165687341) .n) .n 1238376493) (.k (.iff (.cmp .Eq (.sub (.loc 1 166734863) (.int 0 166739985) 166734866) (.glo 14 166746137) 166734873) (.k (.ret (.cmp .Eq (.sub (.att (.loc 0 167791639) 13 167791645) (.sub (.loc 1 167802914) (.int 1 167808036) 167802917) 167791654) (.loc 1 167815214) 167791662) 167784494) .n) .n 1240473646) (.k (.ret (.boo false 168836116) 168828948) .n)))
noncomputable def Fl:Sc:=fS [("self",lL),("cell",lL),("value",lL),("place",lL),("REF",gI)] (by decide+kernel)
noncomputable def tQ:RS:=(.k (.asn 3 171974669 (.sub (.loc 1 171982868) (.int 1 171987990) 171982871) 171974679) (.k (.iff (.cmp .Eq (.sub (.loc 1 173026319) (.int 0 173031441) 173026322) (.glo 12 173037593) 173026329) (.k (.asI (.att (.loc 0 174075920) 12 174075925) (.loc 3 174086171) 174075932 (.loc 2 174095396) 174075940) (.k (.iff (.cmp .Lt (.loc 3 175127572) (.att (.loc 0 175135771) 15 175135774) 175127582) (.k (.exr (.met (.att (.loc 0 176177172) 14 176177178) 8 (.k (.loc 3 176195623) .n) 176177185 176177192) 176177192) .n) .n 1248866344) .n)) (.k (.asI (.att (.loc 0 178270224) 13 178270230) (.loc 3 178281500) 178270237 (.loc 2 178290725) 178270245) (.k (.iff (.cmp .Lt (.loc 3 179321876) (.att (.loc 0 179330075) 16 179330078) 179321886) (.k (.exr (.met (.att (.loc 0 180371476) 14 180371482) 8 (.k (.bin .Sub (.una .USub (.int 1 180390948) 180389924) (.loc 3 180395052) 180389932) .n) 180371489 180371501) 180371501) .n) .n 1253060653) .n)) 7689216045) .n))
noncomputable def Bf:Sc:=fS [("self",lL),("c1",lL),("c2",lL),("SRF",gI)] (by decide+kernel)
noncomputable def AS:RS:=(.k (.iff (.cmp .Eq (.loc 1 183512077) (.loc 2 183518227) 183512083) (.k (.re0 184561682) .n) .n 1257250834) (.k (.iff (.cmp .Eq (.sub (.loc 1 185609229) (.int 0 185612303) 185609232) (.sub (.loc 2 185618454) (.int 0 185621528) 185618457) 185609241) (.k (.iff (.cmp .Lt (.sub (.loc 1 186661905) (.int 1 186664979) 186661908) (.sub (.loc 2 186670105) (.int 1 186673179) 186670108) 186661916) (.k (.exr (.met (.loc 0 187711508) 18 (.k (.loc 2 187721756) (.k (.loc 1 187725856) .n)) 187711513 187711521) 187711521) .n) (.k (.exr (.met (.loc 0 189808660) 18 (.k (.loc 1 189818908) (.k (.loc 2 189823008) .n)) 189808665 189808673) 189808673) .n) 3407884321) .n) (.k (.iff (.cmp .Eq (.sub (.loc 1 190854159) (.int 0 190857233) 190854162) (.glo 14 190863385) 190854169) (.k (.exr (.met (.loc 0 191901712) 18 (.k (.loc 1 191911960) (.k (.loc 2 191916060) .n)) 191901717 191901725) 191901725) .n) (.k (.exr (.met (.loc 0 193998864) 18 (.k (.loc 2 194009112) (.k (.loc 1 194013212) .n)) 193998869 193998877) 193998877) .n) 3412074525) .n) 8775540765) .n))
noncomputable def A4:Sc:=fS [("self",lL),("cell",lL),("fresh",lL),("SRF",gI)] (by decide+kernel)
noncomputable def t_:RS:=(.k (.asn 1 197140492 (.met (.loc 0 197147667) 19 (.k (.loc 1 197158942) .n) 197147673 197147679) 197140511) (.k (.iff (.cmp .Eq (.sub (.loc 1 198192143) (.int 0 198197265) 198192146) (.glo 14 198203417) 198192153) (.k (.asn 2 199241745 (.met (.loc 0 199249944) 20 .n 199249952 199249954) 199241762) (.k (.exr (.met (.loc 0 200290320) 18 (.k (.loc 1 200300570) (.k (.loc 2 200306721) .n)) 200290325 200290338) 200290338) (.k (.ret (.loc 2 201346072) 201338904) .n))) .n 3419414552) (.k (.ret (.loc 1 202390547) 202383379) .n)))
noncomputable def DT:Sc:=fS [("self",lL),("cell",lL),("STR",gI),("LIS",gI)] (by decide+kernel)
noncomputable def Cc:RS:=(.k (.ret (.bop .Or (.k (.cmp .Eq (.sub (.loc 1 214973459) (.int 0 214978581) 214973462) (.glo 15 214984733) 214973469) (.k (.cmp .Eq (.sub (.loc 1 214991909) (.int 0 214997031) 214991912) (.glo 16 215003183) 214991919) .n)) 214973487) 214966319) .n)
noncomputable def tK:Sc:=fS [("self",lL),("cell",lL),("tag",lL),("STR",gI),("LIS",gI),("F_DOT",gI),("CON",gI)] (by decide+kernel)
noncomputable def Au:RS:=(.k (.asn 2 218112011 (.sub (.loc 1 218118162) (.int 0 218123284) 218118165) 218112021) (.k (.iff (.cmp .Eq (.loc 2 219163662) (.glo 15 219170837) 219163669) (.k (.ret (.sub (.sub (.att (.loc 0 220220439) 12 220220444) (.sub (.loc 1 220230689) (.int 1 220235811) 220230692) 220220453) (.int 1 220239911) 220220456) 220213288) .n) .n 1292902440) (.k (.iff (.cmp .Eq (.loc 2 221260814) (.glo 16 221267989) 221260821) (.k (.ret (.glo 17 222317592) 222310424) .n) .n 1294999576) (.k (.iff (.cmp .Eq (.loc 2 223357966) (.glo 18 223365141) 223357973) (.k (.ret (.met (.att (.loc 0 224414743) 10 224414751) 9 (.k (.sub (.loc 1 224436268) (.int 1 224441390) 224436271) (.k (.int 0 224445490) .n)) 224414759 224414771) 224407603) .n) .n 1297096755) (.k (.ret (.una .USub (.int 1 225460241) 225459217) 225452049) .n)))))
noncomputable def Dg:Sc:=fS [("self",lL),("cell",lL),("tag",lL),("LIS",gI),("STR",gI)] (by decide+kernel)
noncomputable def DU:RS:=(.k (.asn 2 228597771 (.sub (.loc 1 228603922) (.int 0 228609044) 228603925) 228597781) (.k (.iff (.cmp .Eq (.loc 2 229649422) (.glo 16 229656597) 229649429) (.k (.ret (.int 2 230706196) 230699028) .n) .n 1303388180) (.k (.iff (.cmp .Eq (.loc 2 231746574) (.glo 15 231753749) 231746581) (.k (.ret (.met (.att (.loc 0 232803351) 10 232803359) 21 (.k (.sub (.sub (.att (.loc 0 232822826) 12 232822831) (.sub (.loc 1 232833076) (.int 1 232838198) 232833079) 232822840) (.int 1 232842298) 232822843) .n) 232803365 232803388) 232796220) .n) .n 1305485372) (.k (.ret (.int 0 233847824) 233840656) .n))))
noncomputable def Ct:Sc:=fS [("self",lL),("cell",lL),("LIS",gI)] (by decide+kernel)
noncomputable def Bk:RS:=(.k (.iff (.cmp .Eq (.sub (.loc 1 236989455) (.int 0 236994577) 236989458) (.glo 16 237000729) 236989465) (.k (.ret (.sub (.loc 1 238046231) (.int 1 238051353) 238046234) 238039066) .n) .n 1310728218) (.k (.ret (.bin .Add (.sub (.loc 1 239090707) (.int 1 239095829) 239090710) (.int 1 239100954) 239090714) 239083546) .n))
noncomputable def Fc:Sc:=fS [("self",lL),("cell",lL),("i",lL)] (by decide+kernel)
noncomputable def El:RS:=(.k (.ret (.sub (.att (.loc 0 242236435) 12 242236440) (.bin .Sub (.bin .Add (.met (.loc 0 242246685) 22 (.k (.loc 1 242256935) .n) 242246690 242246696) (.loc 2 242265132) 242246700) (.int 1 242269232) 242246704) 242236465) 242229297) .n)
noncomputable def Cr:Sc:=fS [("self",lL),("f",lL),("start",lL),("F_DOT",gI),("LIS",gI),("FUN",gI),("STR",gI)] (by decide+kernel)
noncomputable def A5:RS:=(.k (.iff (.cmp .Eq (.loc 1 245378060) (.glo 17 245383189) 245378069) (.k (.ret (.tup (.k (.glo 16 246435863) (.k (.met (.loc 0 246440989) 23 (.k (.int 2 246454311) .n) 246440997 246441000) .n)) 246434857) 246427689) .n) .n 1319116841) (.k (.asn 2 247472141 (.met (.loc 0 247480340) 23 (.k (.bin .Add (.int 1 247493662) (.met (.att (.loc 0 247497765) 10 247497773) 21 (.k (.loc 1 247517237) .n) 247497779 247497782) 247493686) .n) 247480348 247480375) 247472183) (.k (.asI (.att (.loc 0 248520716) 12 248520721) (.loc 2 248530967) 248520728 (.tup (.k (.glo 19 248541215) (.k (.loc 1 248546338) .n)) 248540195) 248520739) (.k (.ret (.tup (.k (.glo 15 249577491) (.k (.loc 2 249582618) .n)) 249576475) 249569307) .n))))
noncomputable def Cb:Sc:=fS [("self",lL),("term",lL),("table",lL),("k",lL),("kind",lL),("made",lL),("waiting",lL),("at",lL),("place",lL),("items",lL),("item",lL),("inner",lL),("list",gI),("SRF",gI),("CON",gI),("INT",gI),("len",gI),("REF",gI)] (by decide+kernel)
noncomputable def A6:RS:=(.k (.fo 3 263204877 (.cal 20 (.k (.loc 2 263215131) .n) 263210005 263210012) (.k (.iff (.cmp .Eq (.sub (.sub (.loc 2 264256532) (.loc 3 264262678) 264256535) (.int 0 264265753) 264256538) (.glo 14 264271905) 264256545) (.k (.asI (.loc 2 265306133) (.loc 3 265312279) 265306136 (.met (.loc 0 265317407) 24 (.k (.sub (.loc 2 265332783) (.loc 3 265338929) 265332786) .n) 265317417 265317427) 265306163) .n) .n 1337995315) .n) 2410684467) (.k (.asn 4 266346508 (.sub (.loc 1 266353683) (.int 0 266358805) 266353686) 266346518) (.k (.iff (.cmp .Eq (.loc 4 267398159) (.str "v" 267406358) 267398166) (.k (.iff (.cmp .NotIn (.sub (.loc 1 268450835) (.int 1 268455957) 268450838) (.loc 2 268466211) 268450851) (.k (.asI (.loc 2 269500437) (.sub (.loc 1 269506586) (.int 1 269511708) 269506589) 269500446 (.met (.loc 0 269517861) 20 .n 269517869 269517871) 269500463) .n) .n 1342189615) (.k (.ret (.sub (.loc 2 270552088) (.sub (.loc 1 270558237) (.int 1 270563359) 270558240) 270552097) 270544929) .n)) .n 3488620577) (.k (.iff (.cmp .Eq (.loc 4 271592463) (.str "a" 271600662) 271592470) (.k (.ret (.tup (.k (.glo 18 272650263) (.k (.sub (.loc 1 272655389) (.int 1 272660511) 272655392) .n)) 272649249) 272642081) .n) .n 1345331233) (.k (.iff (.cmp .Eq (.loc 4 273689615) (.str "i" 273697814) 273689622) (.k (.ret (.tup (.k (.glo 21 274747415) (.k (.sub (.loc 1 274752541) (.int 1 274757663) 274752544) .n)) 274746401) 274739233) .n) .n 1347428385) (.k (.asn 5 275783692 (.met (.loc 0 275790867) 25 (.k (.sub (.loc 1 275806242) (.int 1 275811364) 275806245) .n) 275790877 275790886) 275783718) (.k (.asn 6 276832271 (.lst (.k (.tup (.k (.met (.loc 0 276844568) 22 (.k (.loc 5 276854818) .n) 276844573 276844579) (.k (.sub (.loc 1 276861993) (.int 2 276867115) 276861996) .n)) 276843565) .n) 276842542) 276832302) (.k (.asn 7 277880842 (.int 0 277885966) 277880846) (.k (.whl (.cmp .Lt (.loc 7 278935568) (.cal 2 (.k (.loc 6 278944798) .n) 278940694 278940703) 278935583) (.k (.un2 8 279982097 9 279989272 279982104 (.sub (.loc 6 279997474) (.loc 7 280005669) 279997478) 279982118) (.k (.aug 7 281030670 .Add (.int 1 281036819) 281030675) (.k (.fo 10 282083348 (.loc 9 282091549) (.k (.asn 4 283131924 (.sub (.loc 10 283139099) (.int 0 283144221) 283139102) 283131934) (.k (.iff (.cmp .Eq (.loc 4 284183575) (.str "v" 284191774) 284183582) (.k (.iff (.cmp .In (.sub (.loc 10 285236251) (.int 1 285241373) 285236254) (.loc 2 285247527) 285236263) (.k (.asI (.att (.loc 0 286285852) 12 286285857) (.loc 8 286296103) 286285864 (.sub (.loc 2 286305328) (.sub (.loc 10 286311477) (.int 1 286316599) 286311480) 286305337) 286285881) .n) (.k (.asI (.loc 2 288383005) (.sub (.loc 10 288389154) (.int 1 288394276) 288389157) 288383014 (.tup (.k (.glo 12 288401453) (.k (.loc 8 288406580) .n)) 288400437) 288383029) .n) 3506458677) .n) (.k (.iff (.cmp .Eq (.loc 4 289428505) (.str "a" 289436704) 289428512) (.k (.asI (.att (.loc 0 290476056) 12 290476061) (.loc 8 290486307) 290476068 (.tup (.k (.glo 18 290496555) (.k (.sub (.loc 10 290501681) (.int 1 290506803) 290501684) .n)) 290495541) 290476085) .n) (.k (.iff (.cmp .Eq (.loc 4 291525657) (.str "i" 291533856) 291525664) (.k (.asI (.att (.loc 0 292573208) 12 292573213) (.loc 8 292583459) 292573220 (.tup (.k (.glo 21 292593707) (.k (.sub (.loc 10 292598833) (.int 1 292603955) 292598836) .n)) 292592693) 292573237) .n) (.k (.asn 11 294670361 (.met (.loc 0 294678560) 25 (.k (.sub (.loc 10 294693935) (.int 1 294699057) 294693938) .n) 294678570 294678579) 294670387) (.k (.asI (.att (.loc 0 295718936) 12 295718941) (.loc 8 295729187) 295718948 (.loc 11 295738412) 295718956) (.k (.exr (.met (.loc 6 296767515) 8 (.k (.tup (.k (.met (.loc 0 296783912) 22 (.k (.loc 11 296794163) .n) 296783917 296783924) (.k (.sub (.loc 10 296802362) (.int 2 296807484) 296802365) .n)) 296782910) .n) 296767522 296767551) 296767551) .n))) 5660229695) .n) 7805616191) .n) 13169082431) (.k (.aug 8 297811989 .Add (.int 1 297821210) 297811994) .n))) 16388206618) .n))) 19606282266) (.k (.ret (.loc 5 298859539) 298852371) .n))))))))))
noncomputable def WN:Sc:=fS [("self",lL),("cell",lL),("table",lL),("known",lL),("results",lL),("work",lL),("what",lL),("f",lL),("first",lL),("term",lL),("tag",lL),("place",lL),("step",lL),("VISIT",gI),("len",gI),("BUILD",gI),("tuple",gI),("REF",gI),("CON",gI),("INT",gI),("resource_error",gI),("range",gI)] (by decide+kernel)
noncomputable def CE:RS:=(.k (.asn 3 301998093 (.dc0 302006290) 301998098) (.k (.asn 4 303046671 (.lst .n 303056916) 303046676) (.k (.asn 5 304095244 (.lst (.k (.tup (.k (.glo 22 304104470) (.k (.met (.loc 0 304111644) 24 (.k (.loc 1 304127019) .n) 304111654 304111660) .n)) 304103469) .n) 304102446) 304095278) (.k (.whl (.cmp .Gt (.cal 2 (.k (.loc 5 305154070) .n) 305149969 305149975) (.int 0 305162267) 305149979) (.k (.un2 6 306196496 1 306202646 306196502 (.met (.loc 5 306209821) 26 .n 306209825 306209827) 306196515) (.k (.iff (.cmp .Eq (.loc 6 307248147) (.glo 23 307256348) 307248156) (.k (.asn 7 308297745 (.met (.loc 0 308301848) 27 (.k (.loc 1 308318248) .n) 308301859 308301865) 308297769) (.k (.asn 8 309346325 (.bin .Sub (.cal 2 (.k (.loc 4 309358627) .n) 309354523 309354532) (.met (.loc 0 309369899) 28 (.k (.loc 1 309381174) .n) 309369905 309369911) 309354551) 309346359) (.k (.asn 9 310394900 (.tup (.k (.str "s" 310403099) (.k (.loc 7 310408222) (.k (.cal 3 (.k (.raw (.Subscript (RE.ast tx WN (.loc 4 310417453)) (.Slice (some (RE.ast tx WN (.loc 8 310425651))) none none (zu 310425652)) (zu 310417461))) .n) 310411301 310411318) .n))) 310402103) 310394935) (.k (.raw (.Delete [.Subscript (RE.ast tx WN (.loc 4 311447579)) (.Slice (some (RE.ast tx WN (.loc 8 311455777))) none none (zu 311455778)) (zu 311447587)] (zu 311443491))) (.k (.asI (.loc 3 312492053) (.sub (.loc 1 312498202) (.int 1 312503324) 312498205) 312492062 (.loc 9 312509477) 312492069) (.k (.exr (.met (.loc 4 313540631) 8 (.k (.loc 9 313556003) .n) 313540638 313540644) 313540644) (.k (.con 314589208) .n))))))) .n 7823437848) (.k (.asn 1 315633680 (.met (.loc 0 315640855) 19 (.k (.loc 1 315652130) .n) 315640861 315640867) 315633699) (.k (.asn 10 316682255 (.sub (.loc 1 316688406) (.int 0 316693528) 316688409) 316682265) (.k (.iff (.cmp .Eq (.loc 10 317733906) (.glo 12 317741081) 317733913) (.k (.iff (.cmp .NotIn (.sub (.loc 1 318786583) (.int 1 318791705) 318786586) (.loc 2 318801959) 318786599) (.k (.asI (.loc 2 319836185) (.sub (.loc 1 319842334) (.int 1 319847456) 319842337) 319836194 (.cal 2 (.k (.loc 2 319857710) .n) 319853608 319853615) 319836207) .n) .n 1392525359) (.k (.exr (.met (.loc 4 320880663) 8 (.k (.tup (.k (.str "v" 320897059) (.k (.sub (.loc 2 320902186) (.sub (.loc 1 320908335) (.int 1 320913457) 320908338) 320902195) .n)) 320896052) .n) 320880670 320880693) 320880693) .n)) (.k (.iff (.cmp .Eq (.loc 10 321930260) (.glo 18 321937435) 321930267) (.k (.exr (.met (.loc 4 322977815) 8 (.k (.tup (.k (.str "a" 322994211) (.k (.sub (.loc 1 322999337) (.int 1 323004459) 322999340) .n)) 322993197) .n) 322977822 322977838) 322977838) .n) (.k (.iff (.cmp .Eq (.loc 10 324027412) (.glo 21 324034587) 324027419) (.k (.exr (.met (.loc 4 325074967) 8 (.k (.tup (.k (.str "i" 325091363) (.k (.sub (.loc 1 325096489) (.int 1 325101611) 325096492) .n)) 325090349) .n) 325074974 325074990) 325074990) .n) (.k (.iff (.cmp .In (.sub (.loc 1 326124565) (.int 1 326129687) 326124568) (.loc 3 326135841) 326124577) (.k (.asn 9 327172116 (.sub (.loc 3 327179292) (.sub (.loc 1 327185441) (.int 1 327190563) 327185444) 327179301) 327172133) (.k (.iff (.cmp .Is (.loc 9 328223767) (.non 328231967) 328223775) (.k (.rai (.cal 11 (.k (.att (.loc 0 329294893) 10 329294901) (.k (.str "memory" 329309247) .n)) 329279528 329279552) 329273408) .n) .n 1401962560) (.k (.exr (.met (.loc 4 330317847) 8 (.k (.loc 9 330333219) .n) 330317854 330317860) 330317860) .n))) (.k (.asI (.loc 3 332414997) (.sub (.loc 1 332421146) (.int 1 332426268) 332421149) 332415006 (.non 332432421) 332415013) (.k (.exr (.met (.loc 5 333463572) 8 (.k (.tup (.k (.glo 23 333476898) (.k (.loc 1 333484072) .n)) 333475881) .n) 333463579 333463594) 333463594) (.k (.asn 11 334512149 (.met (.loc 0 334520348) 22 (.k (.loc 1 334530598) .n) 334520353 334520359) 334512167) (.k (.fx 12 335564824 (.cal 13 (.k (.bin .Sub (.met (.loc 0 335579174) 28 (.k (.loc 1 335590449) .n) 335579180 335579186) (.int 1 335598646) 335579190) (.k (.una .USub (.int 1 335602746) 335601722) (.k (.una .USub (.int 1 335606846) 335605822) .n))) 335573025 335573055) (.k (.exr (.met (.loc 5 336613400) 8 (.k (.tup (.k (.glo 22 336626726) (.k (.sub (.att (.loc 0 336633900) 12 336633905) (.bin .Add (.loc 11 336644151) (.loc 12 336652350) 336644158) 336633919) .n)) 336625728) .n) 336613407 336613441) 336613441) .n) 1409302593) .n)))) 11063537729) .n) 13208924225) .n) 15354310721) .n) 19645083713) .n))))) 32517398593) (.k (.ret (.sub (.loc 4 337656854) (.int 0 337665048) 337656857) 337649689) .n)))))
noncomputable def Dz:Sc:=fS [("symbols",lL),("name",lL),("arity",lL),("culprit",lL),("struct",gI),("F_SLASH",gI),("atom",gI),("integer",gI),("type_error",gI)] (by decide+kernel)
noncomputable def Bs:RS:=(.k (.asn 3 343937035 (.cal 24 (.k (.glo 25 343954460) (.k (.tup (.k (.cal 26 (.k (.loc 1 343969832) .n) 343964707 343964713) (.k (.cal 27 (.k (.loc 2 343985208) .n) 343977010 343977017) .n)) 343963706) .n)) 343947284 343947323) 343937083) (.k (.ret (.cal 28 (.k (.loc 0 345004061) (.k (.str "evaluable" 345013290) (.k (.loc 3 345026611) .n))) 344992789 344992820) 344985652) .n))
noncomputable def Fg:Sc:=fS [("text",lL),("arity",lL),("UNARY_NAMES",gI),("BINARY_NAMES",gI)] (by decide+kernel)
noncomputable def tN:RS:=(.k (.iff (.cmp .Eq (.loc 1 347085836) (.int 1 347095057) 347085841) (.k (.ret (.cmp .In (.loc 0 348142611) (.glo 29 348150818) 348142626) 348135458) .n) .n 1420824610) (.k (.iff (.cmp .Eq (.loc 1 349182988) (.int 2 349192209) 349182993) (.k (.ret (.cmp .In (.loc 0 350239763) (.glo 30 350247971) 350239779) 350232611) .n) .n 1422921763) (.k (.ret (.boo false 351284240) 351277072) .n)))
noncomputable def B7:Sc:=fS [("symbols",lL),("functor",lL),("name",lL),("arity",lL),("is_evaluable",gI),("not_evaluable",gI)] (by decide+kernel)
noncomputable def Br:RS:=(.k (.asn 2 353374216 (.met (.loc 0 353381394) 29 (.k (.loc 1 353394719) .n) 353381399 353381408) 353374240) (.k (.asn 3 354422793 (.met (.loc 0 354430995) 21 (.k (.loc 1 354445345) .n) 354431001 354431010) 354422818) (.k (.iff (.una .Not (.cal 31 (.k (.met (.loc 0 355491871) 30 (.k (.loc 2 355505193) .n) 355491876 355491882) (.k (.loc 3 355512369) .n)) 355478551 355478578) 355474482) (.k (.rai (.cal 32 (.k (.loc 0 356544547) (.k (.loc 2 356553769) (.k (.loc 3 356559920) .n))) 356530203 356530225) 356524081) .n) .n 1429213233) .n)))
noncomputable def ET:Sc:=fS [("symbols",lL),("value",lL),("max_bits",lL),("resource_error",gI)] (by decide+kernel)
noncomputable def tT:RS:=(.k (.iff (.cmp .Gt (.met (.loc 1 358620172) 31 .n 358620183 358620185) (.loc 2 358641700) 358620196) (.k (.rai (.cal 11 (.k (.loc 0 359691300) (.k (.str "memory" 359700526) .n)) 359675932 359675951) 359669807) .n) .n 1432358959) (.k (.ret (.loc 1 360721424) 360714256) .n))
noncomputable def Ee:Sc:=fS [("first",lL),("second",lL),("quotient",lL),("abs",gI)] (by decide+kernel)
noncomputable def DY:RS:=(.k (.asn 2 362811404 (.bin .FloorDiv (.cal 33 (.k (.loc 0 362826776) .n) 362822674 362822681) (.cal 33 (.k (.loc 1 362841127) .n) 362837024 362837032) 362822696) 362811432) (.k (.iff (.cmp .NotEq (.cmp .Lt (.loc 0 363864077) (.int 0 363872273) 363864081) (.cmp .Lt (.loc 1 363879453) (.int 0 363888673) 363879457) 363863074) (.k (.ret (.una .USub (.loc 2 364920856) 364919832) 364912664) .n) .n 1437601816) (.k (.ret (.loc 2 365964307) 365957139) .n)))
noncomputable def tZ:Sc:=fS [("first",lL),("second",lL),("divide_toward_zero",gI)] (by decide+kernel)
noncomputable def Cs:RS:=(.k (.ret (.bin .Sub (.loc 0 368061456) (.bin .Mult (.loc 1 368069657) (.cal 34 (.k (.loc 0 368098356) (.k (.loc 1 368105532) .n)) 368078894 368078909) 368069693) 368061501) 368054333) .n)
noncomputable def UW:Sc:=fS [("first",lL),("second",lL),("abs",gI)] (by decide+kernel)
noncomputable def E4:RS:=(.k (.asn 0 370151433 (.cal 33 (.k (.loc 0 370163733) .n) 370159631 370159638) 370151446) (.k (.asn 1 371200010 (.cal 33 (.k (.loc 1 371213335) .n) 371209232 371209240) 371200024) (.k (.whl (.loc 1 372254736) (.k (.raw (.Assign [.Tuple [.Name (UW.nm 0) (zu 373301261),.Name (UW.nm 1) (zu 373308437)] 0 (zu 373301269)] (RE.ast tx UW (.tup (.k (.loc 1 373318687) (.k (.bin .Mod (.loc 0 373326886) (.loc 1 373335087) 373326895) .n)) 373317680)) (zu 373301296))) .n) 1445990448) (.k (.ret (.loc 0 374352912) 374345744) .n))))
noncomputable def AX:Sc:=fS [("symbols",lL),("base",lL),("exponent",lL),("max_bits",lL),("type_error",gI),("integer",gI),("resource_error",gI)] (by decide+kernel)
noncomputable def tS:RS:=(.k (.iff (.cmp .Eq (.loc 1 376445963) (.int 1 376454160) 376445968) (.k (.ret (.int 1 377502736) 377495568) .n) .n 1450184720) (.k (.iff (.cmp .Eq (.loc 1 378543115) (.una .USub (.int 1 378552337) 378551313) 378543121) (.k (.iff (.cmp .Eq (.bin .Mod (.loc 2 379595795) (.int 2 379607063) 379595799) (.int 0 379612188) 379595804) (.k (.ret (.int 1 380652564) 380645396) .n) .n 1453334548) (.k (.ret (.una .USub (.int 1 381698065) 381697041) 381689873) .n)) .n 3599765521) (.k (.iff (.cmp .Lt (.loc 2 382737423) (.int 0 382748691) 382737427) (.k (.rai (.cal 28 (.k (.loc 0 383804448) (.k (.str "float" 383813673) (.k (.cal 27 (.k (.loc 1 383831095) .n) 383822898 383822904) .n))) 383793176 383793209) 383787065) .n) .n 1456476217) (.k (.iff (.cmp .Eq (.loc 2 384834575) (.int 0 384846868) 384834580) (.k (.ret (.int 1 385891344) 385884176) .n) .n 1458573328) (.k (.iff (.cmp .Eq (.loc 1 386931723) (.int 0 386939920) 386931728) (.k (.ret (.int 0 387988496) 387981328) .n) .n 1460670480) (.k (.iff (.cmp .GtE (.bin .Mult (.bin .Sub (.met (.loc 1 389029900) 31 .n 389029911 389029913) (.int 1 389050397) 389029917) (.loc 2 389055529) 389028905) (.loc 3 389067829) 389028917) (.k (.rai (.cal 11 (.k (.loc 0 390100004) (.k (.str "memory" 390109230) .n)) 390084636 390084655) 390078511) .n) .n 1462767663) (.k (.ret (.bin .Pow (.loc 1 391130127) (.loc 2 391138331) 391130139) 391122971) .n)))))))
noncomputable def B9:Sc:=fS [("symbols",lL),("value",lL),("count",lL),("max_bits",lL),("shift_right",gI),("resource_error",gI)] (by decide+kernel)
noncomputable def Be:RS:=(.k (.iff (.cmp .Lt (.loc 2 393223180) (.int 0 393231376) 393223184) (.k (.ret (.cal 35 (.k (.loc 0 394292258) (.k (.loc 1 394301481) (.k (.una .USub (.loc 2 394309681) 394308657) (.k (.loc 3 394316859) .n)))) 394279962 394279996) 394272828) .n) .n 1466961980) (.k (.iff (.cmp .Eq (.loc 1 395320332) (.int 0 395329553) 395320337) (.k (.ret (.int 0 396377104) 396369936) .n) .n 1469059088) (.k (.iff (.cmp .Gt (.bin .Add (.met (.loc 1 397417484) 31 .n 397417495 397417497) (.loc 2 397439009) 397417505) (.loc 3 397447212) 397417516) (.k (.rai (.cal 11 (.k (.loc 0 398488612) (.k (.str "memory" 398497838) .n)) 398473244 398473263) 398467119) .n) .n 1471156271) (.k (.ret (.bin .LShift (.loc 1 399518736) (.loc 2 399527961) 399518745) 399511577) .n))))
noncomputable def CT:Sc:=fS [("symbols",lL),("value",lL),("count",lL),("max_bits",lL),("shift_left",gI)] (by decide+kernel)
noncomputable def B2:RS:=(.k (.iff (.cmp .Lt (.loc 2 401611788) (.int 0 401619984) 401611792) (.k (.ret (.cal 36 (.k (.loc 0 402679841) (.k (.loc 1 402689064) (.k (.una .USub (.loc 2 402697264) 402696240) (.k (.loc 3 402704442) .n)))) 402668569 402668603) 402661435) .n) .n 1475350587) (.k (.iff (.cmp .GtE (.loc 2 403708940) (.met (.loc 1 403718165) 31 .n 403718176 403718178) 403708962) (.k (.iff (.cmp .Lt (.loc 1 404761616) (.int 0 404769812) 404761620) (.k (.ret (.una .USub (.int 1 405819413) 405818389) 405811221) .n) .n 1478500373) (.k (.ret (.int 0 406862864) 406855696) .n)) .n 3624931344) (.k (.ret (.bin .RShift (.loc 1 407907344) (.loc 2 407916569) 407907353) 407900185) .n)))
noncomputable def DG:Sc:=fS [("value",lL)] (by decide+kernel)
noncomputable def tM:RS:=(.k (.iff (.cmp .Lt (.loc 0 410000396) (.int 0 410008592) 410000400) (.k (.ret (.una .USub (.int 1 411058193) 411057169) 411050001) .n) .n 1483739153) (.k (.iff (.cmp .Gt (.loc 0 412097548) (.int 0 412105744) 412097552) (.k (.ret (.int 1 413154320) 413147152) .n) .n 1485836304) (.k (.ret (.int 0 414198796) 414191628) .n)))
noncomputable def CN:Sc:=fS [("symbols",lL),("text",lL),("value",lL),("abs",gI),("sign_of",gI),("type_error",gI),("integer",gI)] (by decide+kernel)
noncomputable def Ah:RS:=(.k (.iff (.cmp .Eq (.loc 1 416291851) (.str "-" 416300050) 416291858) (.k (.ret (.una .USub (.loc 2 417349653) 417348629) 417341461) .n) .n 1490030613) (.k (.iff (.cmp .Eq (.loc 1 418389003) (.str "abs" 418397204) 418389012) (.k (.ret (.cal 33 (.k (.loc 2 419449880) .n) 419445778 419445785) 419438617) .n) .n 1492127769) (.k (.iff (.cmp .Eq (.loc 1 420486155) (.str "sign" 420494357) 420486165) (.k (.ret (.cal 37 (.k (.loc 2 421551132) .n) 421542934 421542941) 421535773) .n) .n 1494224925) (.k (.iff (.cmp .Eq (.loc 1 422583307) (.str "\\" 422591507) 422583315) (.k (.ret (.bin .Sub (.una .USub (.loc 2 423641109) 423640085) (.int 1 423649305) 423640089) 423632921) .n) .n 1496322073) (.k (.iff (.cmp .Eq (.loc 1 424680459) (.str "succ" 424688661) 424680469) (.k (.ret (.bin .Add (.loc 2 425737236) (.int 1 425745432) 425737240) 425730072) .n) .n 1498419224) (.k (.iff (.cmp .Eq (.loc 1 426777611) (.str "msb" 426785812) 426777620) (.k (.iff (.cmp .Lt (.loc 2 427830288) (.int 1 427838484) 427830292) (.k (.rai (.cal 28 (.k (.loc 0 428897316) (.k (.str "not_less_than_one" 428906553) (.k (.cal 27 (.k (.loc 2 428936264) .n) 428928066 428928073) .n))) 428886044 428886090) 428879946) .n) .n 1501569098) (.k (.ret (.bin .Sub (.met (.loc 2 429931540) 31 .n 429931551 429931553) (.int 1 429953061) 429931557) 429924389) .n)) .n 3648000037) (.k (.ret (.loc 2 430976016) 430968848) .n)))))))
noncomputable def CJ:Sc:=fS [("symbols",lL),("text",lL),("first",lL),("second",lL),("evaluation_error",gI),("divide_toward_zero",gI),("remainder",gI)] (by decide+kernel)
noncomputable def C9:RS:=(.k (.iff (.cmp .Eq (.loc 3 433069069) (.int 0 433079314) 433069074) (.k (.rai (.cal 38 (.k (.loc 0 434142246) (.k (.str "zero_divisor" 434151478) .n)) 434124830 434124855) 434118711) .n) .n 1506807863) (.k (.iff (.cmp .Eq (.loc 1 435166219) (.str "//" 435174419) 435166227) (.k (.ret (.cal 34 (.k (.loc 2 436242471) (.k (.loc 3 436249647) .n)) 436223009 436223024) 436215856) .n) .n 1508905008) (.k (.iff (.cmp .Eq (.loc 1 437263371) (.str "rem" 437271572) 437263380) (.k (.ret (.cal 39 (.k (.loc 2 438330398) (.k (.loc 3 438337574) .n)) 438320152 438320167) 438312999) .n) .n 1511002151) (.k (.iff (.cmp .Eq (.loc 1 439360523) (.str "mod" 439368724) 439360532) (.k (.ret (.bin .Mod (.loc 2 440417300) (.loc 3 440425501) 440417309) 440410141) .n) .n 1513099293) (.k (.ret (.bin .FloorDiv (.loc 2 441461776) (.loc 3 441471002) 441461786) 441454618) .n)))))
noncomputable def Dt:Sc:=fS [("symbols",lL),("text",lL),("first",lL),("second",lL),("max_bits",lL),("shift_right",gI),("shift_left",gI)] (by decide+kernel)
noncomputable def Ew:RS:=(.k (.iff (.cmp .Eq (.loc 1 443554827) (.str ">>" 443563027) 443554835) (.k (.ret (.cal 35 (.k (.loc 0 444623906) (.k (.loc 2 444633129) (.k (.loc 3 444640305) (.k (.loc 4 444648507) .n)))) 444611610 444611644) 444604476) .n) .n 1517293628) (.k (.iff (.cmp .Eq (.loc 1 445651979) (.str "<<" 445660179) 445651987) (.k (.ret (.cal 36 (.k (.loc 0 446720033) (.k (.loc 2 446729256) (.k (.loc 3 446736432) (.k (.loc 4 446744634) .n)))) 446708761 446708795) 446701627) .n) .n 1519390779) (.k (.iff (.cmp .Eq (.loc 1 447749131) (.str "/\\" 447757332) 447749140) (.k (.ret (.bin .BitAnd (.loc 2 448805908) (.loc 3 448814109) 448805917) 448798749) .n) .n 1521487901) (.k (.iff (.cmp .Eq (.loc 1 449846283) (.str "\\/" 449854484) 449846292) (.k (.ret (.bin .BitOr (.loc 2 450903060) (.loc 3 450911261) 450903069) 450895901) .n) .n 1523585053) (.k (.ret (.bin .BitXor (.loc 2 451947536) (.loc 3 451955737) 451947545) 451940377) .n)))))
noncomputable def Dw:Sc:=fS [("symbols",lL),("text",lL),("first",lL),("second",lL),("max_bits",lL),("apply_division",gI),("power",gI),("greatest_divisor",gI),("apply_bits",gI)] (by decide+kernel)
noncomputable def BU:RS:=(.k (.iff (.bop .Or (.k (.cmp .Eq (.loc 1 454040587) (.str "+" 454048786) 454040594) (.k (.cmp .Eq (.loc 1 454055962) (.str "plus" 454064164) 454055972) .n)) 454040612) (.k (.ret (.bin .Add (.loc 2 455097364) (.loc 3 455105565) 455097373) 455090205) .n) .n 1527779357) (.k (.iff (.cmp .Eq (.loc 1 456137739) (.str "-" 456145938) 456137746) (.k (.ret (.bin .Sub (.loc 2 457194516) (.loc 3 457202717) 457194525) 457187357) .n) .n 1529876509) (.k (.iff (.cmp .Eq (.loc 1 458234891) (.str "*" 458243090) 458234898) (.k (.ret (.bin .Mult (.loc 2 459291668) (.loc 3 459299869) 459291677) 459284509) .n) .n 1531973661) (.k (.iff (.cmp .In (.loc 1 460332043) (.tup (.k (.str "//" 460341268) (.k (.str "rem" 460347419) (.k (.str "mod" 460354594) (.k (.str "div" 460361769) .n)))) 460340266) 460332074) (.k (.ret (.cal 40 (.k (.loc 0 461404197) (.k (.loc 1 461413419) (.k (.loc 2 461419570) (.k (.loc 3 461426746) .n)))) 461388829 461388859) 461381691) .n) .n 1534070843) (.k (.iff (.bop .Or (.k (.cmp .Eq (.loc 1 462429195) (.str "^" 462437394) 462429202) (.k (.cmp .Eq (.loc 1 462444570) (.str "**" 462452770) 462444578) .n)) 462429218) (.k (.ret (.cal 41 (.k (.loc 0 463492124) (.k (.loc 2 463501347) (.k (.loc 3 463508523) (.k (.loc 4 463516725) .n)))) 463485972 463486006) 463478838) .n) .n 1536167990) (.k (.iff (.cmp .Eq (.loc 1 464526347) (.str "min" 464534548) 464526356) (.k (.iff (.cmp .Lt (.loc 3 465579025) (.loc 2 465588249) 465579033) (.k (.ret (.loc 3 466635801) 466628633) .n) .n 1539317785) (.k (.ret (.loc 2 467680276) 467673108) .n)) .n 3685748756) (.k (.iff (.cmp .Eq (.loc 1 468720651) (.str "max" 468728852) 468720660) (.k (.iff (.cmp .Gt (.loc 3 469773329) (.loc 2 469782553) 469773337) (.k (.ret (.loc 3 470830105) 470822937) .n) .n 1543512089) (.k (.ret (.loc 2 471874580) 471867412) .n)) .n 3689943060) (.k (.iff (.cmp .Eq (.loc 1 472914955) (.str "gcd" 472923156) 472914964) (.k (.ret (.cal 42 (.k (.loc 2 473989157) (.k (.loc 3 473996333) .n)) 473971743 473971758) 473964590) .n) .n 1546653742) (.k (.ret (.cal 43 (.k (.loc 0 475027485) (.k (.loc 1 475036707) (.k (.loc 2 475042858) (.k (.loc 3 475050034) (.k (.loc 4 475058236) .n))))) 475016213 475016253) 475009085) .n)))))))))
noncomputable def Es:Sc:=fS [("symbols",lL),("functor",lL),("values",lL),("max_bits",lL),("text",lL),("second",lL),("value",lL),("first",lL),("apply_unary",gI),("apply_binary",gI),("check_size",gI)] (by decide+kernel)
noncomputable def DQ:RS:=(.k (.asn 4 477106184 (.met (.loc 0 477113362) 30 (.k (.met (.loc 0 477126687) 29 (.k (.loc 1 477140012) .n) 477126692 477126701) .n) 477113367 477113390) 477106222) (.k (.asn 5 478154762 (.met (.loc 2 478163987) 26 .n 478163991 478163993) 478154777) (.k (.iff (.cmp .Eq (.met (.loc 0 479206414) 21 (.k (.loc 1 479220764) .n) 479206420 479206429) (.int 1 479233058) 479206434) (.k (.asn 6 480256013 (.cal 44 (.k (.loc 0 480276515) (.k (.loc 4 480285737) (.k (.loc 5 480291889) .n))) 480264219 480264242) 480256050) .n) (.k (.asn 7 482353165 (.met (.loc 2 482361366) 26 .n 482361370 482361372) 482353180) (.k (.asn 6 483401741 (.cal 45 (.k (.loc 0 483423268) (.k (.loc 4 483432490) (.k (.loc 7 483438641) (.k (.loc 5 483445817) (.k (.loc 3 483454019) .n))))) 483409948 483409988) 483401796) .n)) 4774170692) (.k (.exr (.met (.loc 2 484446218) 8 (.k (.cal 46 (.k (.loc 0 484471844) (.k (.loc 6 484481067) (.k (.loc 3 484488245) .n))) 484460572 484460598) .n) 484446225 484446263) 484446263) .n))))
noncomputable def DP:Sc:=fS [("m",lL),("cell",lL),("store",lL),("symbols",lL),("todo",lL),("values",lL),("item",lL),("functor",lL),("place",lL),("FUN",gI),("apply_functor",gI),("INT",gI),("CON",gI),("not_evaluable",gI),("STR",gI),("LIS",gI),("check_evaluable",gI),("range",gI),("len",gI),("resource_error",gI),("instantiation_error",gI)] (by decide+kernel)
noncomputable def CF:RS:=(.k (.asn 2 486543369 (.att (.loc 0 486551565) 32 486551571) 486543379) (.k (.asn 3 487591947 (.att (.loc 0 487602191) 10 487602199) 487591959) (.k (.asn 4 488640520 (.lst (.k (.loc 1 488648720) .n) 488647697) 488640529) (.k (.asn 5 489689098 (.lst .n 489698319) 489689103) (.k (.whl (.loc 4 490743822) (.k (.asn 6 491790348 (.met (.loc 4 491797523) 26 .n 491797527 491797529) 491790361) (.k (.iff (.cmp .Eq (.sub (.loc 6 492841999) (.int 0 492847121) 492842002) (.glo 19 492853273) 492842009) (.k (.exr (.cal 47 (.k (.loc 3 493905953) (.k (.sub (.loc 6 493915175) (.int 1 493920297) 493915178) (.k (.loc 5 493924402) (.k (.att (.loc 0 493932597) 33 493932606) .n)))) 493891609 493891647) 493891647) (.k (.con 494940180) .n)) .n 2640322580) (.k (.asn 6 495984652 (.met (.loc 2 495991828) 19 (.k (.loc 6 496004127) .n) 495991834 495991840) 495984672) (.k (.iff (.cmp .Eq (.sub (.loc 6 497036303) (.int 0 497041425) 497036306) (.glo 21 497047577) 497036313) (.k (.exr (.met (.loc 5 498085906) 8 (.k (.sub (.loc 6 498100254) (.int 1 498105376) 498100257) .n) 498085913 498085922) 498085922) .n) (.k (.iff (.cmp .Eq (.sub (.loc 6 499135505) (.int 0 499140627) 499135508) (.glo 18 499146779) 499135515) (.k (.rai (.cal 32 (.k (.loc 3 500203559) (.k (.sub (.loc 6 500212781) (.int 1 500217903) 500212784) (.k (.int 0 500222003) .n))) 500189215 500189236) 500183092) .n) (.k (.iff (.bop .Or (.k (.cmp .Eq (.sub (.loc 6 501232657) (.int 0 501237779) 501232660) (.glo 15 501243931) 501232667) (.k (.cmp .Eq (.sub (.loc 6 501251107) (.int 0 501256229) 501251110) (.glo 16 501262381) 501251117) .n)) 501232685) (.k (.asn 7 502280211 (.met (.loc 2 502290459) 27 (.k (.loc 6 502307883) .n) 502290470 502290476) 502280236) (.k (.exr (.cal 48 (.k (.loc 3 503345187) (.k (.loc 7 503354412) .n)) 503328795 503328813) 503328813) (.k (.exr (.met (.loc 4 504377360) 8 (.k (.tup (.k (.glo 19 504390684) (.k (.loc 7 504395813) .n)) 504389670) .n) 504377367 504377383) 504377383) (.k (.fx 8 505430037 (.cal 13 (.k (.met (.loc 3 505445414) 21 (.k (.loc 7 505459764) .n) 505445420 505445429) (.k (.int 0 505470008) (.k (.una .USub (.int 1 505474108) 505473084) .n))) 505439262 505439293) (.k (.exr (.met (.loc 4 506478612) 8 (.k (.met (.loc 2 506490913) 34 (.k (.loc 6 506501162) (.k (.loc 8 506507313) .n)) 506490917 506490930) .n) 506478619 506478643) 506478643) .n) 1579167795) (.k (.iff (.cmp .Gt (.cal 2 (.k (.loc 4 507530263) .n) 507526162 507526168) (.bin .Add (.cal 2 (.k (.att (.loc 2 507542564) 12 507542569) .n) 507538462 507538474) (.int 1 507556910) 507538478) 507526190) (.k (.rai (.cal 11 (.k (.loc 3 508597292) (.k (.str "memory" 508606518) .n)) 508581924 508581943) 508575799) .n) .n 1581264951) .n))))) (.k (.rai (.cal 49 (.k (.loc 3 510695469) .n) 510674981 510674990) 510668846) .n) 10164903982) .n) 12310290478) .n) 14455676974) .n)))) 20891832366) (.k (.ret (.sub (.loc 5 511716369) (.int 0 511723539) 511716372) 511709204) .n))))))
noncomputable def DL:Sc:=fS [("symbols",lL),("term",lL),("max_bits",lL),("todo",lL),("values",lL),("item",lL),("kind",lL),("argument",lL),("APPLY",gI),("apply_functor",gI),("not_evaluable",gI),("check_evaluable",gI),("reversed",gI),("instantiation_error",gI)] (by decide+kernel)
noncomputable def Bm:RS:=(.k (.asn 3 513806344 (.lst (.k (.loc 1 513814544) .n) 513813521) 513806353) (.k (.asn 4 514854922 (.lst .n 514864143) 514854927) (.k (.whl (.loc 3 515909646) (.k (.asn 5 516956172 (.met (.loc 3 516963347) 26 .n 516963351 516963353) 516956185) (.k (.asn 6 518004748 (.sub (.loc 5 518011923) (.int 0 518017045) 518011926) 518004758) (.k (.iff (.cmp .Eq (.loc 6 519056399) (.glo 50 519064600) 519056408) (.k (.exr (.cal 47 (.k (.loc 0 520120353) (.k (.sub (.loc 5 520129575) (.int 1 520134697) 520129578) (.k (.loc 4 520138802) (.k (.loc 2 520147004) .n)))) 520106009 520106045) 520106045) .n) (.k (.iff (.cmp .Eq (.loc 6 521155601) (.str "i" 521163800) 521155608) (.k (.exr (.met (.loc 4 522203154) 8 (.k (.sub (.loc 5 522217502) (.int 1 522222624) 522217505) .n) 522203161 522203170) 522203170) .n) (.k (.iff (.cmp .Eq (.loc 6 523252753) (.str "a" 523260952) 523252760) (.k (.rai (.cal 32 (.k (.loc 0 524320807) (.k (.sub (.loc 5 524330029) (.int 1 524335151) 524330032) (.k (.int 0 524339251) .n))) 524306463 524306484) 524300340) .n) (.k (.iff (.cmp .Eq (.loc 6 525349905) (.str "s" 525358104) 525349912) (.k (.exr (.cal 48 (.k (.loc 0 526413859) (.k (.sub (.loc 5 526423081) (.int 1 526428203) 526423084) .n)) 526397467 526397485) 526397485) (.k (.exr (.met (.loc 3 527446032) 8 (.k (.tup (.k (.glo 50 527459358) (.k (.sub (.loc 5 527466532) (.int 1 527471654) 527466535) .n)) 527458344) .n) 527446039 527446057) 527446057) (.k (.fx 7 528498712 (.cal 51 (.k (.sub (.loc 5 528520233) (.int 2 528525355) 528520236) .n) 528511012 528511021) (.k (.exr (.met (.loc 3 529547284) 8 (.k (.loc 7 529559588) .n) 529547291 529547301) 529547301) .n) 1602236453) .n))) (.k (.rai (.cal 49 (.k (.loc 0 531666989) .n) 531646501 531646510) 531640366) .n) 6967795758) .n) 9113182254) .n) 11258568750) .n) 13403955246) .n))) 16622030894) (.k (.ret (.sub (.loc 4 532687889) (.int 0 532695059) 532687892) 532680724) .n))))
noncomputable def EL:Sc:=fS [("m",lL),("value",lL),("evaluate",gI),("INT",gI)] (by decide+kernel)
noncomputable def Ao:RS:=(.k (.asn 1 534777865 (.cal 52 (.k (.loc 0 534795286) (.k (.met (.loc 0 534798361) 34 (.k (.int 2 534804511) .n) 534798365 534798368) .n)) 534786068 534786081) 534777889) (.k (.ret (.met (.loc 0 535833612) 35 (.k (.met (.loc 0 535841812) 34 (.k (.int 1 535847962) .n) 535841816 535841819) (.k (.tup (.k (.glo 21 535853089) (.k (.loc 1 535858216) .n)) 535852073) .n)) 535833618 535833642) 535826474) .n))
noncomputable def D9:Sc:=fS [("m",lL),("first",lL),("evaluate",gI)] (by decide+kernel)
noncomputable def D8:RS:=(.k (.asn 1 537923593 (.cal 52 (.k (.loc 0 537941014) (.k (.met (.loc 0 537944089) 34 (.k (.int 1 537950239) .n) 537944093 537944096) .n)) 537931796 537931809) 537923617) (.k (.ret (.cmp .Eq (.loc 1 538979344) (.cal 52 (.k (.loc 0 538997790) (.k (.met (.loc 0 539000865) 34 (.k (.int 2 539007015) .n) 539000869 539000872) .n)) 538988572 538988585) 538979369) 538972201) .n))
noncomputable def D_:Sc:=fS [("m",lL),("first",lL),("evaluate",gI)] (by decide+kernel)
noncomputable def Bw:RS:=(.k (.asn 1 541069321 (.cal 52 (.k (.loc 0 541086742) (.k (.met (.loc 0 541089817) 34 (.k (.int 1 541095967) .n) 541089821 541089824) .n)) 541077524 541077537) 541069345) (.k (.ret (.cmp .NotEq (.loc 1 542125072) (.cal 52 (.k (.loc 0 542143518) (.k (.met (.loc 0 542146593) 34 (.k (.int 2 542152743) .n) 542146597 542146600) .n)) 542134300 542134313) 542125097) 542117929) .n))
noncomputable def Fh:Sc:=fS [("m",lL),("first",lL),("evaluate",gI)] (by decide+kernel)
noncomputable def AJ:RS:=(.k (.asn 1 544215049 (.cal 52 (.k (.loc 0 544232470) (.k (.met (.loc 0 544235545) 34 (.k (.int 1 544241695) .n) 544235549 544235552) .n)) 544223252 544223265) 544215073) (.k (.ret (.cmp .Lt (.loc 1 545270800) (.cal 52 (.k (.loc 0 545288221) (.k (.met (.loc 0 545291296) 34 (.k (.int 2 545297446) .n) 545291300 545291303) .n)) 545279003 545279016) 545270824) 545263656) .n))
noncomputable def Ac:Sc:=fS [("m",lL),("first",lL),("evaluate",gI)] (by decide+kernel)
noncomputable def BE:RS:=(.k (.asn 1 547360777 (.cal 52 (.k (.loc 0 547378198) (.k (.met (.loc 0 547381273) 34 (.k (.int 1 547387423) .n) 547381277 547381280) .n)) 547368980 547368993) 547360801) (.k (.ret (.cmp .Gt (.loc 1 548416528) (.cal 52 (.k (.loc 0 548433949) (.k (.met (.loc 0 548437024) 34 (.k (.int 2 548443174) .n) 548437028 548437031) .n)) 548424731 548424744) 548416552) 548409384) .n))
noncomputable def C8:Sc:=fS [("m",lL),("first",lL),("evaluate",gI)] (by decide+kernel)
noncomputable def CQ:RS:=(.k (.asn 1 550506505 (.cal 52 (.k (.loc 0 550523926) (.k (.met (.loc 0 550527001) 34 (.k (.int 1 550533151) .n) 550527005 550527008) .n)) 550514708 550514721) 550506529) (.k (.ret (.cmp .LtE (.loc 1 551562256) (.cal 52 (.k (.loc 0 551580702) (.k (.met (.loc 0 551583777) 34 (.k (.int 2 551589927) .n) 551583781 551583784) .n)) 551571484 551571497) 551562281) 551555113) .n))
noncomputable def D7:Sc:=fS [("m",lL),("first",lL),("evaluate",gI)] (by decide+kernel)
noncomputable def DJ:RS:=(.k (.asn 1 553652233 (.cal 52 (.k (.loc 0 553669654) (.k (.met (.loc 0 553672729) 34 (.k (.int 1 553678879) .n) 553672733 553672736) .n)) 553660436 553660449) 553652257) (.k (.ret (.cmp .GtE (.loc 1 554707984) (.cal 52 (.k (.loc 0 554726430) (.k (.met (.loc 0 554729505) 34 (.k (.int 2 554735655) .n) 554729509 554729512) .n)) 554717212 554717225) 554708009) 554700841) .n))
noncomputable def Am:Sc:=fS [("m",lL),("place",lL),("cell",lL),("INT",gI),("type_error",gI)] (by decide+kernel)
noncomputable def AF:RS:=(.k (.asn 2 556797960 (.met (.loc 0 556805132) 34 (.k (.loc 1 556811286) .n) 556805136 556805143) 556797975) (.k (.iff (.cmp .Eq (.sub (.loc 2 557849611) (.int 0 557854733) 557849614) (.glo 21 557860885) 557849621) (.k (.ret (.sub (.loc 2 558906387) (.int 1 558911509) 558906390) 558899222) .n) .n 1631588374) (.k (.iff (.met (.att (.loc 0 559946760) 32 559946766) 36 (.k (.loc 2 559966238) .n) 559946777 559946783) (.k (.ret (.non 561003539) 560996371) .n) .n 1633685523) (.k (.rai (.cal 28 (.k (.att (.loc 0 562058262) 10 562058270) (.k (.str "integer" 562069545) (.k (.met (.loc 0 562080812) 37 (.k (.loc 2 562087990) .n) 562080817 562080823) .n))) 562046996 562047032) 562040888) .n))))
noncomputable def C5:Sc:=fS [("m",lL),("place",lL),("value",lL),("integer_or_variable",gI),("type_error",gI),("integer",gI)] (by decide+kernel)
noncomputable def EK:RS:=(.k (.asn 2 564137993 (.cal 53 (.k (.loc 0 564166689) (.k (.loc 1 564169768) .n)) 564146207 564146217) 564138025) (.k (.iff (.bop .And (.k (.cmp .IsNot (.loc 2 565189644) (.non 565202968) 565189656) (.k (.cmp .Lt (.loc 2 565212194) (.int 0 565220390) 565212198) .n)) 565189670) (.k (.rai (.cal 28 (.k (.att (.loc 0 566256666) 10 566256674) (.k (.str "not_less_than_zero" 566267960) (.k (.cal 27 (.k (.loc 2 566298695) .n) 566290497 566290504) .n))) 566245400 566245449) 566239305) .n) .n 1638928457) (.k (.ret (.loc 2 567290896) 567283728) .n)))
noncomputable def AZ:Sc:=fS [("m",lL),("before",lL),("behind",lL),("value",lL),("natural_or_variable",gI),("check_size",gI),("INT",gI),("instantiation_error",gI)] (by decide+kernel)
noncomputable def Em:RS:=(.k (.asn 1 569380874 (.cal 54 (.k (.loc 0 569410594) (.k (.int 1 569413669) .n)) 569390112 569390118) 569380902) (.k (.asn 2 570429450 (.cal 54 (.k (.loc 0 570459170) (.k (.int 2 570462245) .n)) 570438688 570438694) 570429478) (.k (.iff (.cmp .IsNot (.loc 1 571481101) (.non 571495449) 571481113) (.k (.asn 3 572530701 (.cal 46 (.k (.att (.loc 0 572550172) 10 572550180) (.k (.bin .Add (.loc 1 572561452) (.int 1 572570672) 572561456) (.k (.att (.loc 0 572573747) 33 572573756) .n))) 572538906 572538941) 572530749) (.k (.ret (.met (.loc 0 573586448) 35 (.k (.met (.loc 0 573594648) 34 (.k (.int 2 573600798) .n) 573594652 573594655) (.k (.tup (.k (.glo 21 573605925) (.k (.loc 3 573611052) .n)) 573604909) .n)) 573586454 573586478) 573579310) .n)) .n 2718961710) (.k (.iff (.cmp .Is (.loc 2 574626829) (.non 574637077) 574626837) (.k (.rai (.cal 49 (.k (.att (.loc 0 575703075) 10 575703083) .n) 575682593 575682604) 575676460) .n) .n 1648365612) (.k (.iff (.cmp .Eq (.loc 2 576723981) (.int 0 576734226) 576723986) (.k (.ret (.boo false 577780756) 577773588) .n) .n 1650462740) (.k (.ret (.met (.loc 0 578825228) 35 (.k (.met (.loc 0 578833428) 34 (.k (.int 1 578839578) .n) 578833432 578833435) (.k (.tup (.k (.glo 21 578844705) (.k (.bin .Sub (.loc 2 578849833) (.int 1 578859053) 578849837) .n)) 578843694) .n)) 578825234 578825263) 578818095) .n))))))
noncomputable def DO:Sc:=fS [("m",lL),("first",lL),("second",lL),("total",lL),("place",lL),("value",lL),("integer_or_variable",gI),("instantiation_error",gI),("check_size",gI),("INT",gI)] (by decide+kernel)
noncomputable def CC:RS:=(.k (.asn 1 580915209 (.cal 53 (.k (.loc 0 580943905) (.k (.int 1 580946980) .n)) 580923423 580923429) 580915237) (.k (.asn 2 581963786 (.cal 53 (.k (.loc 0 581993506) (.k (.int 2 581996581) .n)) 581973024 581973030) 581963814) (.k (.asn 3 583012361 (.cal 53 (.k (.loc 0 583041057) (.k (.int 3 583044132) .n)) 583020575 583020581) 583012389) (.k (.iff (.cmp .Is (.loc 1 584064012) (.non 584073236) 584064020) (.k (.iff (.bop .Or (.k (.cmp .Is (.loc 2 585116689) (.non 585126937) 585116697) (.k (.cmp .Is (.loc 3 585135138) (.non 585144362) 585135146) .n)) 585116714) (.k (.rai (.cal 49 (.k (.att (.loc 0 586192935) 10 586192943) .n) 586172453 586172464) 586166320) .n) .n 1658855472) (.k (.asn 4 587210765 (.int 1 587218961) 587210769) (.k (.asn 5 588259341 (.bin .Sub (.loc 3 588267541) (.loc 2 588275742) 588267550) 588259358) .n))) (.k (.iff (.cmp .Is (.loc 2 589308943) (.non 589319191) 589308951) (.k (.iff (.cmp .Is (.loc 3 590359568) (.non 590368792) 590359576) (.k (.rai (.cal 49 (.k (.att (.loc 0 591435815) 10 591435823) .n) 591415333 591415344) 591409200) .n) .n 1664098352) (.k (.asn 4 592453645 (.int 2 592461841) 592453649) (.k (.asn 5 593502221 (.bin .Sub (.loc 3 593510421) (.loc 1 593518621) 593510429) 593502237) .n))) (.k (.asn 4 595599373 (.int 3 595607569) 595599377) (.k (.asn 5 596647949 (.bin .Add (.loc 1 596656149) (.loc 2 596664350) 596656158) 596647966) .n)) 8105496606) .n) 13468962846) (.k (.exr (.cal 46 (.k (.att (.loc 0 597703696) 10 597703704) (.k (.loc 5 597714975) (.k (.att (.loc 0 597722146) 33 597722155) .n))) 597692430 597692460) 597692460) (.k (.ret (.met (.loc 0 598748172) 35 (.k (.met (.loc 0 598756372) 34 (.k (.loc 4 598762526) .n) 598756376 598756383) (.k (.tup (.k (.glo 21 598771749) (.k (.loc 5 598776876) .n)) 598770733) .n)) 598748178 598748206) 598741038) .n))))))
noncomputable def Fp:Sc:=fS [("self",lL),("store",lL),("len",gI),("set",gI)] (by decide+kernel)
noncomputable def Ax:RS:=(.k (.asA (.loc 0 603987980) 38 603987985 (.bin .Add (.cal 2 (.k (.att (.loc 1 604004381) 12 604004386) .n) 604000279 604000291) (.int 1 604018727) 604000295) 603988007) (.k (.asA (.loc 0 605036556) 39 605036560 (.cal 55 .n 605047830 605047832) 605036568) .n))
noncomputable def AM:Sc:=fS [("self",lL),("left",lL),("right",lL),("number",lL)] (by decide+kernel)
noncomputable def EJ:RS:=(.k (.asn 3 608182286 (.bin .Add (.bin .Mult (.sub (.loc 1 608191509) (.int 1 608196631) 608191512) (.att (.loc 0 608201759) 38 608201764) 608191524) (.sub (.loc 2 608214060) (.int 1 608220206) 608214063) 608191535) 608182319) (.k (.iff (.cmp .In (.loc 3 609233937) (.att (.loc 0 609244185) 39 609244189) 609233949) (.k (.ret (.boo false 610290712) 610283544) .n) .n 1682972696) (.k (.exr (.met (.att (.loc 0 611328012) 39 611328016) 40 (.k (.loc 3 611341339) .n) 611328020 611328028) 611328028) (.k (.ret (.boo true 612383763) 612376595) .n))))
noncomputable def Eo:Sc:=fS [("store",lL),("cell",lL),("work",lL),("place",lL),("step",lL),("range",gI)] (by decide+kernel)
noncomputable def BF:RS:=(.k (.asn 3 614469641 (.met (.loc 0 614477841) 22 (.k (.loc 1 614489115) .n) 614477846 614477852) 614469660) (.k (.fx 4 615522316 (.cal 13 (.k (.bin .Sub (.met (.loc 0 615536667) 28 (.k (.loc 1 615548966) .n) 615536673 615536679) (.int 1 615557163) 615536683) (.k (.una .USub (.int 1 615561263) 615560239) (.k (.una .USub (.int 1 615565363) 615564339) .n))) 615530517 615530548) (.k (.exr (.met (.loc 2 616570892) 8 (.k (.sub (.att (.loc 0 616583193) 12 616583198) (.bin .Add (.loc 3 616594468) (.loc 4 616602667) 616594475) 616583212) .n) 616570899 616570925) 616570925) .n) 1689260077) .n))
noncomputable def D3:Sc:=fS [("store",lL),("left",lL),("right",lL),("work",lL),("left_place",lL),("right_place",lL),("step",lL),("range",gI)] (by decide+kernel)
noncomputable def BH:RS:=(.k (.asn 4 618663950 (.met (.loc 0 618677270) 22 (.k (.loc 1 618688544) .n) 618677275 618677281) 618663969) (.k (.asn 5 619712527 (.met (.loc 0 619726871) 22 (.k (.loc 2 619738146) .n) 619726876 619726883) 619712547) (.k (.fx 6 620765196 (.cal 13 (.k (.bin .Sub (.met (.loc 0 620779547) 28 (.k (.loc 1 620791846) .n) 620779553 620779559) (.int 1 620800043) 620779563) (.k (.una .USub (.int 1 620804143) 620803119) (.k (.una .USub (.int 1 620808243) 620807219) .n))) 620773397 620773428) (.k (.exr (.met (.loc 3 621813772) 8 (.k (.tup (.k (.sub (.att (.loc 0 621827098) 12 621827103) (.bin .Add (.loc 4 621838378) (.loc 6 621851697) 621838385) 621827122) (.k (.sub (.att (.loc 0 621858873) 12 621858878) (.bin .Add (.loc 5 621870154) (.loc 6 621884497) 621870161) 621858898) .n)) 621826131) .n) 621813779 621813844) 621813844) .n) 1694502996) .n)))
noncomputable def Fb:Sc:=fS [("store",lL),("left",lL),("right",lL),("LIS",gI)] (by decide+kernel)
noncomputable def CY:RS:=(.k (.iff (.cmp .NotEq (.sub (.loc 1 623909899) (.int 0 623915021) 623909902) (.sub (.loc 2 623921175) (.int 0 623927321) 623921178) 623909914) (.k (.ret (.boo false 624966676) 624959508) .n) .n 1697648660) (.k (.iff (.cmp .Eq (.sub (.loc 1 626007051) (.int 0 626012173) 626007054) (.glo 16 626018325) 626007061) (.k (.ret (.boo true 627063827) 627056659) .n) .n 1699745811) (.k (.ret (.cmp .Eq (.sub (.att (.loc 0 628108304) 12 628108309) (.sub (.loc 1 628119578) (.int 1 628124700) 628119581) 628108318) (.sub (.att (.loc 0 628131879) 12 628131884) (.sub (.loc 2 628143154) (.int 1 628149300) 628143157) 628131894) 628108342) 628101174) .n)))
noncomputable def Eb:Sc:=fS [("cell",lL),("REF",gI),("SRF",gI)] (by decide+kernel)
noncomputable def t8:RS:=(.k (.ret (.bop .Or (.k (.cmp .Eq (.sub (.loc 0 630205455) (.int 0 630210577) 630205458) (.glo 12 630216729) 630205465) (.k (.cmp .Eq (.sub (.loc 0 630223905) (.int 0 630229027) 630223908) (.glo 14 630235179) 630223915) .n)) 630205483) 630198315) .n)
noncomputable def Av:Sc:=fS [("store",lL),("c1",lL),("c2",lL),("occurs",lL),("met",lL),("work",lL),("left",lL),("right",lL),("PairSet",gI),("len",gI),("is_variable",gI),("bind_checked",gI),("same_shape",gI),("push_pairs",gI)] (by decide+kernel)
noncomputable def Bj:RS:=(.k (.asn 4 632295431 (.cal 56 (.k (.loc 0 632309783) .n) 632301585 632301592) 632295448) (.k (.asn 5 633344008 (.lst (.k (.tup (.k (.loc 1 633353231) (.k (.loc 2 633357331) .n)) 633352212) .n) 633351189) 633344021) (.k (.whl (.cmp .Gt (.cal 2 (.k (.loc 5 634402834) .n) 634398733 634398739) (.int 0 634411031) 634398743) (.k (.un2 6 635445260 7 635451411 635445267 (.met (.loc 5 635459610) 26 .n 635459614 635459616) 635445280) (.k (.asn 6 636493836 (.met (.loc 0 636501012) 19 (.k (.loc 6 636513311) .n) 636501018 636501024) 636493856) (.k (.asn 7 637542413 (.met (.loc 0 637550613) 19 (.k (.loc 7 637562913) .n) 637550619 637550626) 637542434) (.k (.iff (.cmp .Eq (.loc 6 638594063) (.loc 7 638602264) 638594072) (.k (.con 639643668) .n) .n 1712332820) (.k (.iff (.cal 57 (.k (.loc 6 640703515) .n) 640691222 640691228) (.k (.iff (.cal 57 (.k (.loc 7 641756192) .n) 641743898 641743905) (.k (.exr (.met (.loc 0 642793493) 41 (.k (.loc 6 642809892) (.k (.loc 7 642816043) .n)) 642793503 642793516) 642793516) .n) (.k (.iff (.una .Not (.cal 58 (.k (.loc 0 643860519) (.k (.loc 6 643867693) (.k (.loc 7 643873844) (.k (.loc 3 643881020) .n)))) 643847201 643847229) 643843133) (.k (.ret (.boo false 644897820) 644890652) .n) .n 1717579804) .n) 3862966300) .n) (.k (.iff (.cal 57 (.k (.loc 7 645948446) .n) 645936152 645936159) (.k (.iff (.una .Not (.cal 58 (.k (.loc 0 647004197) (.k (.loc 7 647011372) (.k (.loc 6 647018546) (.k (.loc 3 647024698) .n)))) 646990879 646990907) 646986811) (.k (.ret (.boo false 648043548) 648036380) .n) .n 1720725532) .n) (.k (.iff (.bop .And (.k (.met (.loc 0 649081874) 42 (.k (.loc 6 649100323) .n) 649081886 649081892) (.k (.cal 59 (.k (.loc 0 649121849) (.k (.loc 6 649129023) (.k (.loc 7 649135174) .n))) 649110579 649110599) .n)) 649081927) (.k (.iff (.met (.loc 4 650132498) 40 (.k (.loc 6 650140699) (.k (.loc 7 650146850) .n)) 650132502 650132515) (.k (.exr (.cal 60 (.k (.loc 0 651193376) (.k (.loc 6 651200550) (.k (.loc 7 651206701) (.k (.loc 5 651213875) .n)))) 651182106 651182132) 651182132) .n) .n 1723871284) .n) (.k (.ret (.boo false 653282328) 653275160) .n) 4944044056) .n) 8162123800) .n) 13525590040) .n))))) 19961745432) (.k (.ret (.boo true 654322703) 654315535) .n))))
noncomputable def EY:Sc:=fS [("store",lL),("variable",lL),("value",lL),("occurs",lL),("occurs_in",gI)] (by decide+kernel)
noncomputable def AK:RS:=(.k (.iff (.bop .And (.k (.loc 3 657464333) (.k (.cal 61 (.k (.loc 0 657485857) (.k (.loc 1 657493035) (.k (.loc 2 657503282) .n))) 657475611 657475635) .n)) 657464371) (.k (.ret (.boo false 658521108) 658513940) .n) .n 1731203092) (.k (.exr (.met (.loc 0 659558409) 18 (.k (.loc 1 659569687) (.k (.loc 2 659579934) .n)) 659558414 659558431) 659558431) (.k (.ret (.boo true 660614159) 660606991) .n)))
noncomputable def Cj:Sc:=fS [("store",lL),("variable",lL),("cell",lL),("met",lL),("work",lL),("SRF",gI),("set",gI),("len",gI),("push_arguments",gI)] (by decide+kernel)
noncomputable def A8:RS:=(.k (.asn 2 662704136 (.met (.loc 0 662711312) 19 (.k (.loc 2 662723611) .n) 662711318 662711324) 662704156) (.k (.iff (.cmp .Eq (.loc 2 663755787) (.loc 1 663763991) 663755799) (.k (.ret (.boo true 664812563) 664805395) .n) .n 1737494547) (.k (.iff (.bop .Or (.k (.cmp .Eq (.sub (.loc 1 665852943) (.int 0 665862161) 665852946) (.glo 14 665868313) 665852953) (.k (.una .Not (.met (.loc 0 665879590) 42 (.k (.loc 2 665898039) .n) 665879602 665879608) 665875512) .n)) 665852984) (.k (.ret (.boo false 666909716) 666902548) .n) .n 1739591700) (.k (.asn 3 667947015 (.cal 55 .n 667953165 667953167) 667947023) (.k (.asn 4 668995592 (.lst (.k (.loc 2 669003792) .n) 669002769) 668995601) (.k (.whl (.cmp .Gt (.cal 2 (.k (.loc 4 670054418) .n) 670050317 670050323) (.int 0 670062615) 670050327) (.k (.asn 2 671096844 (.met (.loc 0 671104020) 19 (.k (.met (.loc 4 671116319) 26 .n 671116323 671116325) .n) 671104026 671104038) 671096870) (.k (.iff (.cmp .Eq (.loc 2 672148495) (.loc 1 672156699) 672148507) (.k (.ret (.boo true 673205271) 673198103) .n) .n 1745887255) (.k (.iff (.bop .And (.k (.met (.loc 0 674245648) 42 (.k (.loc 2 674264097) .n) 674245660 674245666) (.k (.cmp .NotIn (.sub (.loc 2 674274347) (.int 1 674279469) 674274350) (.loc 3 674289721) 674274361) .n)) 674245689) (.k (.exr (.met (.loc 3 675295247) 40 (.k (.sub (.loc 2 675303448) (.int 1 675308570) 675303451) .n) 675295251 675295260) 675295260) (.k (.exr (.cal 62 (.k (.loc 0 676359200) (.k (.loc 2 676366374) (.k (.loc 4 676372524) .n))) 676343834 676343853) 676343853) .n)) .n 2821726253) .n))) 7112495149) (.k (.ret (.boo false 677391376) 677384208) .n)))))))
noncomputable def UR:Sc:=fS [("self",lL),("symbols",lL),("code",lL),("max_heap",lL),("occurs",lL),("max_bits",lL)] (by decide+kernel)
noncomputable def DN:RS:=(.k (.asA (.loc 0 684728332) 10 684728340 (.loc 1 684743710) 684728350) (.k (.asA (.loc 0 685776908) 43 685776913 (.loc 2 685789208) 685776920) (.k (.asA (.loc 0 686825484) 11 686825493 (.loc 3 686841888) 686825504) (.k (.asA (.loc 0 687874060) 44 687874067 (.loc 4 687888412) 687874076) (.k (.asA (.loc 0 688922636) 33 688922645 (.loc 5 688939040) 688922656) (.k (.exr (.met (.loc 0 689971212) 45 .n 689971218 689971220) 689971220) .n))))))
noncomputable def EU:Sc:=fS [("self",lL),("Store",gI),("VOID",gI),("READ",gI)] (by decide+kernel)
noncomputable def Dy:RS:=(.k (.asA (.loc 0 693116940) 32 693116946 (.cal 63 (.k (.att (.loc 0 693136415) 10 693136423) (.k (.att (.loc 0 693150765) 11 693150774) .n)) 693130266 693130295) 693116983) (.k (.asA (.loc 0 694165516) 46 694165518 (.lst (.k (.glo 64 694175766) .n) 694174743) 694165527) (.k (.asA (.loc 0 695214092) 47 695214094 (.int 0 695223314) 695214098) (.k (.asA (.loc 0 696262668) 48 696262671 (.int 0 696272915) 696262675) (.k (.asA (.loc 0 697311244) 49 697311246 (.una .USub (.int 1 697321491) 697320467) 697311251) (.k (.asA (.loc 0 698359820) 50 698359822 (.una .USub (.int 1 698370067) 698369043) 698359827) (.k (.asA (.loc 0 699408396) 51 699408399 (.una .USub (.int 1 699419668) 699418644) 699408404) (.k (.asA (.loc 0 700456972) 52 700456977 (.glo 65 700469272) 700456984) (.k (.asA (.loc 0 701505548) 53 701505550 (.int 0 701514770) 701505554) (.k (.asA (.loc 0 702554124) 54 702554130 (.glo 64 702567449) 702554137) (.k (.asA (.loc 0 703602700) 55 703602706 (.lst .n 703616023) 703602711) (.k (.asA (.loc 0 704651276) 56 704651281 (.dc0 704663574) 704651286) (.k (.asA (.loc 0 705699852) 57 705699867 (.boo false 705722403) 705699875) .n)))))))))))))
noncomputable def En:Sc:=fS [("self",lL),("number",lL),("cell",lL),("len",gI),("VOID",gI)] (by decide+kernel)
noncomputable def Bd:RS:=(.k (.whl (.cmp .LtE (.cal 2 (.k (.att (.loc 0 708855830) 46 708855832) .n) 708851729 708851737) (.loc 1 708867107) 708851747) (.k (.exr (.met (.att (.loc 0 709898256) 46 709898258) 8 (.k (.glo 64 709912606) .n) 709898265 709898271) 709898271) .n) 1782587423) (.k (.asI (.att (.loc 0 710942732) 46 710942734) (.loc 1 710949909) 710942742 (.loc 2 710960157) 710942749) .n))
noncomputable def Ds:Sc:=fS [("self",lL),("cells",lL),("number",lL),("cell",lL)] (by decide+kernel)
noncomputable def Et:RS:=(.k (.asn 2 714088462 (.int 0 714097682) 714088466) (.k (.fo 3 715141136 (.loc 1 715149337) (.k (.aug 2 716189714 .Add (.int 1 716199959) 716189719) (.k (.exr (.met (.loc 0 717238288) 58 (.k (.loc 2 717249565) (.k (.loc 3 717257763) .n)) 717238294 717238308) 717238308) .n)) 2862620708) .n))
noncomputable def Cn:Sc:=fS [("self",lL),("i",lL)] (by decide+kernel)
noncomputable def CO:RS:=(.k (.ret (.met (.att (.loc 0 720387091) 32 720387097) 24 (.k (.sub (.att (.loc 0 720408616) 46 720408618) (.loc 1 720415788) 720408621) .n) 720387107 720387118) 720379950) .n)
noncomputable def E9:Sc:=fS [("self",lL),("c1",lL),("c2",lL),("unify_unify",gI)] (by decide+kernel)
noncomputable def DE:RS:=(.k (.ret (.cal 66 (.k (.att (.loc 0 723545119) 32 723545125) (.k (.loc 1 723557417) (.k (.loc 2 723561517) (.k (.att (.loc 0 723565619) 44 723565626) .n)))) 723532826 723532859) 723525691) .n)
noncomputable def B5:Sc:=fS [("self",lL),("cell",lL)] (by decide+kernel)
noncomputable def EX:RS:=(.k (.ret (.met (.att (.loc 0 726678547) 32 726678553) 59 (.k (.loc 1 726700072) (.k (.dc0 726706220) .n)) 726678563 726678573) 726671405) .n)
noncomputable def DF:Sc:=fS [("self",lL),("term",lL)] (by decide+kernel)
noncomputable def Dj:RS:=(.k (.ret (.met (.att (.loc 0 729824275) 32 729824281) 60 (.k (.loc 1 729844775) (.k (.dc0 729850923) .n)) 729824290 729824300) 729817132) .n)
noncomputable def Ar:Sc:=fS [("hand",lL),("limit",lL),("number",lL),("digit",lL),("len",gI)] (by decide+kernel)
noncomputable def C1:RS:=(.k (.iff (.cmp .Eq (.sub (.loc 0 778050571) (.int 2 778055693) 778050574) (.int 0 778061843) 778050579) (.k (.iff (.cmp .Eq (.sub (.loc 0 779103247) (.int 1 779108369) 779103250) (.cal 2 (.k (.sub (.loc 0 779118622) (.int 0 779123744) 779118625) .n) 779114521 779114530) 779103266) (.k (.asI (.loc 0 780152848) (.int 3 780157970) 780152851 (.bin .Mod (.bin .Mult (.sub (.loc 0 780163098) (.int 3 780168220) 780163101) (.int 48271 780173349) 780163109) (.int (OfNat.ofNat 2147483647) 780181554) 780163122) 780152882) (.k (.ret (.bin .Mod (.bin .FloorDiv (.sub (.loc 0 781208599) (.int 3 781213721) 781208602) (.int 7 781219871) 781208607) (.loc 1 781223975) 781208615) 781201447) .n)) .n 2926583847) (.k (.asn 2 782245902 (.sub (.sub (.loc 0 782255125) (.int 0 782260247) 782255128) (.sub (.loc 0 782263325) (.int 1 782268447) 782263328) 782255137) 782245921) (.k (.asI (.loc 0 783294476) (.int 1 783299598) 783294479 (.bin .Add (.sub (.loc 0 783304726) (.int 1 783309848) 783304729) (.int 1 783314973) 783304733) 783294493) (.k (.asI (.loc 0 784343052) (.int 2 784348174) 784343055 (.ife (.cmp .GtE (.loc 2 784363554) (.int 0 784373799) 784363559) (.loc 2 784353304) (.una .USub (.loc 2 784382004) 784380980) 784353332) 784343092) .n)))) .n 7220498484) (.k (.asn 3 785387529 (.bin .Mod (.sub (.loc 0 785395728) (.int 2 785400850) 785395731) (.loc 1 785405979) 785395739) 785387547) (.k (.asI (.loc 0 786436104) (.int 2 786441226) 786436107 (.bin .FloorDiv (.sub (.loc 0 786446354) (.int 2 786451476) 786446357) (.loc 1 786457630) 786446366) 786436126) (.k (.ret (.loc 3 787491856) 787484688) .n))))
noncomputable def Cz:Sc:=fS [("hand",lL),("names",lL),("depth",lL),("kind",lL),("texts",lL),("shape",lL),("_law_pick",gI),("_law_tree",gI),("F_DOT",gI)] (by decide+kernel)
noncomputable def Fd:RS:=(.k (.asn 3 789581832 (.cal 67 (.k (.loc 0 789599257) (.k (.int 8 789605404) .n)) 789589012 789589021) 789581853) (.k (.iff (.bop .Or (.k (.cmp .Lt (.loc 3 790633483) (.int 2 790640655) 790633487) (.k (.cmp .Eq (.loc 2 790645784) (.int 0 790655005) 790645789) (.k (.cmp .Eq (.sub (.loc 0 790660133) (.int 4 790665255) 790660136) (.int 0 790671405) 790660141) .n))) 790633517) (.k (.asn 3 791683084 (.cal 67 (.k (.loc 0 791700509) (.k (.int 9 791706656) .n)) 791690264 791690273) 791683105) (.k (.iff (.cmp .Lt (.loc 3 792734735) (.int 3 792741907) 792734739) (.k (.ret (.sub (.lst (.k (.tup (.k (.str "a" 793793560) (.k (.met (.loc 1 793798687) 5 (.k (.str "e" 793809960) .n) 793798692 793798697) .n)) 793792554) (.k (.tup (.k (.str "v" 793818160) (.k (.cal 67 (.k (.loc 0 793833536) (.k (.int 3 793839683) .n)) 793823291 793823300) .n)) 793817157) (.k (.tup (.k (.str "v" 793845835) (.k (.int 2 793850958) .n)) 793844815) .n))) 793791568) (.loc 3 793855061) 793791574) 793784406) .n) .n 1866473558) (.k (.ret (.tup (.k (.str "i" 794837011) (.k (.ife (.cmp .Eq (.loc 3 794878012) (.int 3 794886209) 794878017) (.bin .Sub (.cal 67 (.k (.loc 0 794852387) (.k (.bin .Pow (.int 10 794858535) (.int 6 794864684) 794858540) .n)) 794842142 794842157) (.int 1000 794869812) 794842164) (.bin .Sub (.cal 67 (.k (.loc 0 794903637) (.k (.int 12 794909785) .n)) 794893392 794893402) (.int 4 794915934) 794893406) 794842206) .n)) 794836063) 794828895) .n))) .n 5085597791) (.k (.asI (.loc 0 795873288) (.int 4 795878410) 795873291 (.bin .Sub (.sub (.loc 0 795883538) (.int 4 795888660) 795883541) (.int 1 795893785) 795883545) 795873305) (.k (.iff (.cmp .Eq (.loc 3 796924939) (.int 2 796933136) 796924944) (.k (.asn 4 797974541 (.lst (.k (.str "-" 797983764) (.k (.str "abs" 797988891) (.k (.str "msb" 797996066) (.k (.str "\\" 798003240) (.k (.str "succ" 798009392) (.k (.str "foo" 798017591) .n)))))) 797982776) 797974584) (.k (.ret (.tup (.k (.str "s" 799031315) (.k (.met (.loc 1 799036442) 6 (.k (.sub (.loc 4 799047717) (.cal 67 (.k (.loc 0 799064116) (.k (.int 6 799070263) .n)) 799053871 799053880) 799047737) (.k (.int 1 799075388) .n)) 799036447 799036477) (.k (.tup (.k (.cal 68 (.k (.loc 0 799090766) (.k (.loc 1 799096917) (.k (.bin .Sub (.loc 2 799104092) (.int 1 799112288) 799104096) .n))) 799080521 799080545) .n) 799079523) .n))) 799030372) 799023204) .n)) .n 2944405604) (.k (.asn 4 800067593 (.lst (.k (.str "+" 800076816) (.k (.str "-" 800081941) (.k (.str "*" 800087066) (.k (.str "//" 800092192) (.k (.str "mod" 800098343) (.k (.str "^" 800105516) (.k (.str "<<" 800110642) (.k (.str "rem" 800116793) (.k (.str "min" 800123968) (.k (.str "xor" 800131143) .n)))))))))) 800075848) 800067656) (.k (.asn 5 801116169 (.ife (.cmp .Eq (.cal 67 (.k (.loc 0 801143843) (.k (.int 24 801149991) .n)) 801133598 801133608) (.int 7 801157165) 801133613) (.glo 17 801124369) (.met (.loc 1 801164344) 6 (.k (.sub (.loc 4 801175619) (.cal 67 (.k (.loc 0 801192018) (.k (.int 10 801198166) .n)) 801181773 801181783) 801175640) (.k (.int 2 801204315) .n)) 801164349 801164380) 801124444) 801116252) (.k (.ret (.tup (.k (.str "s" 802172943) (.k (.loc 5 802178070) (.k (.tup (.k (.cal 68 (.k (.loc 0 802196519) (.k (.loc 1 802202670) (.k (.bin .Sub (.loc 2 802209845) (.int 1 802218041) 802209849) .n))) 802186274 802186298) (.k (.cal 68 (.k (.loc 0 802232394) (.k (.loc 1 802238545) (.k (.bin .Sub (.loc 2 802245720) (.int 1 802253916) 802245724) .n))) 802222149 802222173) .n)) 802185310) .n))) 802171999) 802164831) .n)))))))
noncomputable def Wu:Sc:=⟨⟨.function,[("tree",lL),("values",.cell),("tuple",gI)],false,false,[("fast",.str "tree"),("fast",.str "values"),("fast",.str "part")]⟩,by decide+kernel⟩
noncomputable def WU:Scope:=⟨.function,[((".0":Str),.local),(("part":Str),.local),(("_law_full":Str),.globalImplicit),(("values":Str),.free)],false,false,[]⟩
noncomputable def lE:Sc:=⟨uh WU Wu.c,by decide+kernel⟩
noncomputable def DA:RS:=(.k (.iff (.cmp .Eq (.sub (.loc 0 804264971) (.int 0 804270093) 804264974) (.str "v" 804276245) 804264981) (.k (.ret (.met (.cel 1 805321749) 7 (.k (.sub (.loc 0 805333022) (.int 1 805338144) 805333025) (.k (.loc 0 805342247) .n)) 805321753 805321768) 805314600) .n) .n 1878003752) (.k (.iff (.cmp .Eq (.sub (.loc 0 806362123) (.int 0 806367245) 806362126) (.str "s" 806373397) 806362133) (.k (.ret (.tup (.k (.str "s" 807419923) (.k (.sub (.loc 0 807425049) (.int 1 807430171) 807425052) (.k (.cal 3 (.k (.raw (.ListComp (RE.ast tx lE (.cal 69 (.k (.loc 1 807451699) (.k (.cel 3 807457851) .n)) 807441454 807441468)) [⟨.Name ("part":Str) (zu 807470149),RE.ast tx Wu (.sub (.loc 0 807478349) (.int 2 807483471) 807478352),[],0⟩] WU (zu 807440465))) .n) 807434275 807434322) .n))) 807418963) 807411795) .n) .n 1880100947) (.k (.ret (.loc 0 808463375) 808456207) .n)))
noncomputable def Bo:Sc:=fS [("names",lL),("kind",lL),("parts",lL),("formal",lL),("len",gI),("tuple",gI),("F_ERROR",gI),("A_SYSTEM",gI)] (by decide+kernel)
noncomputable def Dd:RS:=(.k (.asn 3 810553354 (.tup (.k (.str "s" 810563601) (.k (.met (.loc 0 810568728) 6 (.k (.loc 1 810580002) (.k (.cal 2 (.k (.loc 2 810590253) .n) 810586151 810586158) .n)) 810568733 810568751) (.k (.cal 3 (.k (.loc 2 810605628) .n) 810599478 810599485) .n))) 810562622) 810553406) (.k (.iff (.cmp .Eq (.loc 2 811605004) (.lst .n 811614226) 811605010) (.k (.asn 3 812654606 (.tup (.k (.str "a" 812664853) (.k (.met (.loc 0 812669980) 5 (.k (.loc 1 812681254) .n) 812669985 812669991) .n)) 812663848) 812654632) .n) .n 1885343784) (.k (.ret (.tup (.k (.str "error" 813707283) (.k (.tup (.k (.str "s" 813717529) (.k (.glo 5 813722658) (.k (.tup (.k (.loc 3 813732907) (.k (.tup (.k (.str "a" 813742129) (.k (.glo 6 813747259) .n)) 813741116) .n)) 813731901) .n))) 813716542) .n)) 813706303) 813699135) .n)))
noncomputable def UX:Sc:=fS [("names",lL),("tree",lL),("most",lL),("error",lL),("evaluate_term",gI),("PrologError",gI)] (by decide+kernel)
noncomputable def BX:RS:=(.k (.raw (.Try [.Return (some (RE.ast tx UX (.tup (.k (.str "value" 816857111) (.k (.cal 70 (.k (.loc 0 816880684) (.k (.loc 1 816887858) (.k (.loc 2 816894008) .n))) 816866342 816866361) .n)) 816856122))) (zu 816848954)] [.ExceptHandler (some (.Name ("PrologError":Str) (zu 817900566))) (some (UX.nm 3)) [.Return (some (.Tuple [.Constant (.str "error") 0 (zu 818954263),.Attribute (.Name (UX.nm 3) (zu 818963486)) ("ball":Str) (zu 818963491)] 0 (zu 818953252))) (zu 818946084)] (zu 1891635236)] [] [] (zu 4037021732))) .n)
noncomputable def UN:Sc:=fS [("pred",lL),("machine",lL),("cells",lL),("error",lL),("PrologError",gI)] (by decide+kernel)
noncomputable def Bv:RS:=(.k (.exr (.met (.loc 1 821039115) 61 (.k (.loc 2 821061663) .n) 821039129 821039136) 821039136) (.k (.raw (.Try [.Return (some (RE.ast tx UN (.tup (.k (.str "holds" 823148567) (.k (.clv (.loc 0 823157789) (.k (.loc 1 823162917) .n) 823157798) .n)) 823147559))) (zu 823140391)] [.ExceptHandler (some (.Name ("PrologError":Str) (zu 824192022))) (some (UN.nm 3)) [.Return (some (.Tuple [.Constant (.str "error") 0 (zu 825245719),.Attribute (.Name (UN.nm 3) (zu 825254942)) ("ball":Str) (zu 825254947)] 0 (zu 825244708))) (zu 825237540)] (zu 1897926692)] [] [] (zu 4043313188))) .n))
noncomputable def C_:Sc:=fS [("hand",lL),("names",lL),("near",lL),("kind",lL),("_law_pick",gI)] (by decide+kernel)
noncomputable def E7:RS:=(.k (.asn 3 827330568 (.cal 67 (.k (.loc 0 827347993) (.k (.int 10 827354141) .n)) 827337748 827337758) 827330590) (.k (.iff (.cmp .Lt (.loc 3 828382219) (.int 3 828389391) 828382223) (.k (.ret (.tup (.k (.str "v" 829440019) (.k (.int 0 829445142) .n)) 829438999) 829431831) .n) .n 1902120983) (.k (.iff (.cmp .Eq (.loc 3 830479371) (.int 3 830487568) 830479376) (.k (.ret (.tup (.k (.str "a" 831537171) (.k (.met (.loc 1 831542298) 5 (.k (.str "e" 831553571) .n) 831542303 831542308) .n)) 831536165) 831528997) .n) .n 1904218149) (.k (.iff (.cmp .Eq (.loc 3 832576523) (.int 4 832584720) 832576528) (.k (.ret (.tup (.k (.str "s" 833634323) (.k (.met (.loc 1 833639450) 6 (.k (.str "f" 833650723) (.k (.int 1 833655846) .n)) 833639455 833639463) (.k (.tup (.k (.tup (.k (.str "i" 833661998) (.k (.int 3 833667121) .n)) 833660978) .n) 833659956) .n))) 833633333) 833626165) .n) .n 1906315317) (.k (.ret (.tup (.k (.str "i" 834678799) (.k (.sub (.lst (.k (.int 0 834684947) (.k (.loc 2 834688025) (.k (.bin .Sub (.loc 2 834694175) (.int 1 834701347) 834694179) (.k (.bin .Sub (.int 1 834704422) (.loc 2 834708525) 834704429) (.k (.int 7 834714672) (.k (.una .USub (.int 1 834718772) 834717748) .n)))))) 834683957) (.cal 67 (.k (.loc 0 834732100) (.k (.int 6 834738247) .n)) 834721855 834721864) 834683977) .n)) 834677834) 834670666) .n)))))
noncomputable def jk:Sc:=⟨⟨.function,[("names",lL),("sides",lL),("most",lL),("natural",lL),("whole",.cell),("side",lL),("place",lL),("lacking",lL),("last",lL),("value",lL),("_law_error",gI),("range",gI),("len",gI)],false,false,[("fast",.str "names"),("fast",.str "sides"),("fast",.str "most"),("fast",.str "natural"),("fast",.str "whole"),("fast",.str "side"),("fast",.str "place"),("fast",.str "lacking"),("fast",.str "last"),("fast",.str "value")]⟩,by decide+kernel⟩
noncomputable def W6:Scope:=⟨.function,[((".0":Str),.local),(("place":Str),.local),(("whole":Str),.free)],false,false,[]⟩
noncomputable def aJ:Sc:=⟨uh W6 jk.c,by decide+kernel⟩
noncomputable def bk:RS:=(.k (.asn 4 836767753 (.lst .n 836775950) 836767758) (.k (.fo 5 837820428 (.loc 1 837828629) (.k (.iff (.bop .And (.k (.cmp .NotEq (.sub (.loc 5 838872079) (.int 0 838877201) 838872082) (.str "v" 838883353) 838872089) (.k (.cmp .NotEq (.sub (.loc 5 838891554) (.int 0 838896676) 838891557) (.str "i" 838902828) 838891564) .n)) 838872108) (.k (.ret (.cal 71 (.k (.loc 0 839940131) (.k (.str "type_error" 839947313) (.k (.lst (.k (.tup (.k (.str "a" 839963704) (.k (.met (.loc 0 839968831) 5 (.k (.str "integer" 839980110) .n) 839968836 839968847) .n)) 839962704) (.k (.loc 5 839993430) .n)) 839961687) .n))) 839928861 839928920) 839921752) .n) .n 1912610904) (.k (.iff (.bop .And (.k (.loc 3 840969234) (.k (.cmp .Eq (.sub (.loc 5 840981531) (.int 0 840986653) 840981534) (.str "i" 840992805) 840981541) (.k (.cmp .Lt (.sub (.loc 5 841002031) (.int 1 841007153) 841002034) (.int 0 841012278) 841002038) .n))) 840969271) (.k (.ret (.cal 71 (.k (.loc 0 842037283) (.k (.str "type_error" 842044465) (.k (.lst (.k (.tup (.k (.str "a" 842060856) (.k (.met (.loc 0 842065983) 5 (.k (.str "not_less_than_zero" 842077273) .n) 842065988 842066010) .n)) 842059867) (.k (.loc 5 842101857) .n)) 842058850) .n))) 842026013 842026083) 842018915) .n) .n 1914708067) (.k (.exr (.met (.cel 4 843063309) 8 (.k (.ife (.cmp .Eq (.sub (.loc 5 843087908) (.int 0 843093030) 843087911) (.str "i" 843099182) 843087918) (.sub (.loc 5 843076633) (.int 1 843081755) 843076636) (.non 843108408) 843076664) .n) 843063316 843063353) 843063353) .n))) 6206525497) (.k (.raw (.Assign [.Name (jk.nm 7) (zu 844107787)] (RE.ast tx jk (.raw (.ListComp (RE.ast tx aJ (.loc 1 844119060)) [⟨.Name ("place":Str) (zu 844129310),RE.ast tx jk (.cal 13 (.k (.cal 2 (.k (.cel 4 844148785) .n) 844144683 844144690) .n) 844138535 844138547),[RE.ast tx aJ (.cmp .Is (.sub (.cel 2 844160060) (.loc 1 844166210) 844160067) (.non 844176459) 844160075)],0⟩] W6 (zu 844118092)))) (zu 844107852))) (.k (.iff (.cmp .Gt (.cal 2 (.k (.loc 7 845163538) .n) 845159434 845159443) (.int 1 845174807) 845159447) (.k (.ret (.cal 71 (.k (.loc 0 846227487) (.k (.str "instantiation_error" 846234678) (.k (.lst .n 846258234) .n))) 846216217 846216251) 846209083) .n) .n 1918898235) (.k (.asn 8 847253512 (.bin .Sub (.cal 2 (.k (.cel 4 847264788) .n) 847260686 847260693) (.int 1 847274009) 847260697) 847253529) (.k (.asn 6 848302089 (.ife (.cmp .NotEq (.loc 7 848324641) (.lst .n 848335911) 848324647) (.sub (.loc 7 848310291) (.int 0 848318485) 848310294) (.loc 8 848344113) 848310321) 848302129) (.k (.iff (.cmp .Eq (.loc 6 849353740) (.loc 8 849362964) 849353748) (.k (.asn 9 850403341 (.bin .Add (.sub (.cel 4 850411541) (.int 0 850417687) 850411544) (.ife (.loc 3 850428968) (.int 1 850423837) (.sub (.cel 4 850442291) (.int 1 850448437) 850442294) 850423862) 850411575) 850403383) .n) (.k (.iff (.loc 3 851452944) (.k (.iff (.cmp .Eq (.sub (.cel 4 852503568) (.int 1 852509714) 852503571) (.int 0 852515864) 852503576) (.k (.ret (.tup (.k (.str "holds" 853561371) (.k (.boo false 853570594) .n)) 853560355) 853553187) .n) .n 1926242339) (.k (.asn 9 854597645 (.bin .Sub (.sub (.cel 4 854605845) (.int 1 854611991) 854605848) (.int 1 854617116) 854605852) 854597660) .n)) (.k (.asn 9 856694797 (.bin .Sub (.sub (.cel 4 856702997) (.int 2 856709143) 856703000) (.sub (.cel 4 856714272) (.bin .Sub (.int 1 856720418) (.loc 6 856724522) 856720426) 856714283) 856703019) 856694827) .n) 6220156971) .n) 8365543467) (.k (.iff (.bop .And (.k (.bop .Or (.k (.cmp .Eq (.loc 6 857743373) (.loc 8 857752597) 857743381) (.k (.una .Not (.loc 3 857764900) 857760804) .n)) 857743396) (.k (.bop .Or (.k (.cmp .GtE (.loc 9 857779248) (.bin .Pow (.int 2 857788469) (.loc 2 857793597) 857788477) 857779261) (.k (.cmp .LtE (.loc 9 857801798) (.una .USub (.bin .Pow (.int 2 857812044) (.loc 2 857817172) 857812052) 857811028) 857801812) .n)) 857779284) .n)) 857742421) (.k (.ret (.cal 71 (.k (.loc 0 858810399) (.k (.str "resource_error" 858817585) (.k (.lst (.k (.tup (.k (.str "a" 858838072) (.k (.met (.loc 0 858843199) 5 (.k (.str "memory" 858854477) .n) 858843204 858843214) .n)) 858837071) .n) 858836048) .n))) 858799129 858799185) 858792017) .n) .n 1931481169) (.k (.iff (.cmp .Eq (.loc 7 859839502) (.lst .n 859850772) 859839508) (.k (.ret (.tup (.k (.str "holds" 860897303) (.k (.cmp .Eq (.sub (.cel 4 860906526) (.loc 8 860912675) 860906532) (.loc 9 860921901) 860906541) .n)) 860896302) 860889134) .n) .n 1933578286) (.k (.ret (.tup (.k (.str "value" 861941779) (.k (.loc 9 861951002) (.k (.loc 6 861958177) .n))) 861940770) 861933602) .n))))))))))
noncomputable def ZP:Sc:=⟨⟨.function,[("pred",lL),("machine",.cell),("names",lL),("sides",lL),("most",lL),("natural",lL),("cells",lL),("due",lL),("told",lL),("_law_counted",gI),("_law_told",gI),("INT",gI)],false,false,[("fast",.str "pred"),("fast",.str "machine"),("fast",.str "names"),("fast",.str "sides"),("fast",.str "most"),("fast",.str "natural"),("fast",.str "side"),("fast",.str "cells"),("fast",.str "due"),("fast",.str "told")]⟩,by decide+kernel⟩
noncomputable def WA:Scope:=⟨.function,[((".0":Str),.local),(("side":Str),.local),(("machine":Str),.free)],false,false,[]⟩
noncomputable def lK:Sc:=⟨uh WA ZP.c,by decide+kernel⟩
noncomputable def A9:RS:=(.k (.raw (.Assign [.Name (ZP.nm 6) (zu 864030729)] (RE.ast tx ZP (.raw (.ListComp (RE.ast tx lK (.met (.cel 2 864039956) 62 (.k (.loc 1 864052253) .n) 864039960 864039966)) [⟨.Name ("side":Str) (zu 864062503),RE.ast tx ZP (.loc 3 864070704),[],0⟩] WA (zu 864038961)))) (zu 864030769))) (.k (.asn 7 865079303 (.cal 72 (.k (.loc 2 865098780) (.k (.loc 3 865105955) (.k (.loc 4 865113129) (.k (.loc 5 865119282) .n)))) 865085462 865085491) 865079347) (.k (.asn 8 866127880 (.cal 73 (.k (.loc 0 866145305) (.k (.cel 1 866151458) (.k (.loc 6 866160681) .n))) 866135060 866135082) 866127914) (.k (.iff (.cmp .Eq (.sub (.loc 7 867179530) (.int 0 867183628) 867179533) (.str "value" 867189784) 867179544) (.k (.ret (.bop .And (.k (.cmp .Eq (.loc 8 868236307) (.tup (.k (.str "holds" 868245535) (.k (.boo true 868254757) .n)) 868244518) 868236326) (.k (.cmp .Eq (.met (.att (.cel 1 868265010) 32 868265016) 19 (.k (.sub (.loc 6 868285508) (.sub (.loc 7 868291656) (.int 2 868295754) 868291659) 868285516) .n) 868265022 868265037) (.tup (.k (.glo 21 868304981) (.k (.sub (.loc 7 868310106) (.int 1 868314204) 868310109) .n)) 868303966) 868265054) .n)) 868236382) 868229214) .n) .n 1940918366) (.k (.ret (.cmp .Eq (.loc 8 869280783) (.loc 7 869288982) 869280790) 869273622) .n)))))
noncomputable def Ab:Sc:=fS [("machine",lL),("is_value",gI)] (by decide+kernel)
noncomputable def Dr:RS:=(.k (.ret (.cal 74 (.k (.loc 0 871387163) .n) 871377939 871377948) 871370780) .n)
noncomputable def yY:Sc:=⟨⟨.function,[(("script":Str),lL),(("cells":Str),lL),(("hand":Str),.cell),(("names":Str),.cell),(("most":Str),lL),(("one":Str),lL),(("two":Str),lL),(("values":Str),lL),(("machine":Str),lL),(("table":Str),lL),(("left":Str),lL),(("right":Str),lL),(("number":Str),lL),(("due_left":Str),lL),(("due_right":Str),lL),(("told":Str),lL),(("error":Str),lL),(("side":Str),lL),(("kind":Str),lL),(("pair":Str),lL),(("relations":Str),lL),(("relation":Str),lL),(("due":Str),lL),(("near":Str),.cell),(("sides":Str),lL),(("sum":Str),gI),(("Symbols":Str),gI),(("_law_pick":Str),gI),(("_law_tree":Str),gI),(("_law_full":Str),gI),(("Areas":Str),gI),(("sorted":Str),gI),(("_law_value":Str),gI),(("evaluate":Str),gI),(("PrologError":Str),gI),(("INT":Str),gI),(("_law_told":Str),gI),(("_law_is":Str),gI),(("equal_values":Str),gI),(("other_values":Str),gI),(("less_value":Str),gI),(("greater_value":Str),gI),(("at_most_value":Str),gI),(("at_least_value":Str),gI),(("range":Str),gI),(("_law_one_lacks":Str),gI),(("successor":Str),gI),(("sum_of_two":Str),gI)],false,false,[(("fast":Str),.str ("script":Str)),(("fast":Str),.str ("cells":Str)),(("fast":Str),.str ("hand":Str)),(("fast":Str),.str ("names":Str)),(("fast":Str),.str ("most":Str)),(("fast":Str),.str ("one":Str)),(("fast":Str),.str ("two":Str)),(("fast":Str),.str ("values":Str)),(("fast":Str),.str ("machine":Str)),(("fast":Str),.str ("table":Str)),(("fast":Str),.str ("left":Str)),(("fast":Str),.str ("right":Str)),(("fast":Str),.str ("number":Str)),(("fast":Str),.str ("due_left":Str)),(("fast":Str),.str ("due_right":Str)),(("fast":Str),.str ("told":Str)),(("fast":Str),.str ("error":Str)),(("fast":Str),.str ("side":Str)),(("fast":Str),.str ("kind":Str)),(("fast":Str),.str ("pair":Str)),(("fast":Str),.str ("relations":Str)),(("fast":Str),.str ("relation":Str)),(("fast":Str),.str ("due":Str)),(("fast":Str),.str ("near":Str)),(("fast":Str),.str ("_":Str)),(("fast":Str),.str ("sides":Str))]⟩,by decide+kernel⟩
noncomputable def WX:Scope:=⟨.function,[((".0":Str),.local),(("_":Str),.local),(("_law_side":Str),.globalImplicit),(("hand":Str),.free),(("names":Str),.free),(("near":Str),.free)],false,false,[]⟩
noncomputable def iX:Sc:=⟨uh WX yY.c,by decide+kernel⟩
noncomputable def bj:RS:=(.k (.raw (.Assign [.Name (yY.nm 1) (zu 873467913)] (RE.ast tx yY (.raw (.Subscript (RE.ast tx yY (.loc 0 873476114)) (.Slice none (some (RE.ast tx yY (.int 63 873484310))) none (zu 873483286)) (zu 873476119)))) (zu 873467927))) (.k (.asn 2 874516488 (.lst (.k (.loc 1 874524689) (.k (.int 0 874531860) (.k (.int 0 874534935) (.k (.bin .Mult (.bin .Mod (.cal 75 (.k (.loc 1 874542114) .n) 874538012 874538019) (.int 100003 874551340) 874538028) (.int 7 874560560) 874538032) (.k (.int 6 874563635) .n))))) 874523700) 874516532) (.k (.asn 3 875565065 (.cal 76 .n 875573267 875573269) 875565077) (.k (.asn 4 876613640 (.bin .Add (.int 8 876620812) (.cal 67 (.k (.cel 2 876635165) (.k (.int 33 876641313) .n)) 876624920 876624930) 876620834) 876613666) (.k (.asn 5 877662215 (.cal 68 (.k (.cel 2 877678616) (.k (.cel 3 877684767) (.k (.int 3 877691938) .n))) 877668371 877668387) 877662243) (.k (.asn 6 878710791 (.cal 68 (.k (.cel 2 878727192) (.k (.cel 3 878733343) (.k (.int 2 878740514) .n))) 878716947 878716963) 878710819) (.k (.raw (.Assign [.Name (yY.nm 7) (zu 879759370)] (RE.ast tx yY (.raw (.Dict [some (RE.ast tx yY (.int 0 879769615))] [RE.ast tx yY (.tup (.k (.str "i" 879773717) (.k (.bin .Sub (.cal 67 (.k (.cel 2 879789093) (.k (.int 50 879795241) .n)) 879778848 879778858) (.int 9 879801390) 879778862) .n)) 879772719)] (zu 879768624)))) (zu 879759408))) (.k (.iff (.cmp .Eq (.cal 67 (.k (.cel 2 880821269) (.k (.int 2 880827416) .n)) 880811024 880811033) (.int 0 880833566) 880811038) (.k (.asI (.cel 2 881860620) (.int 4 881865742) 881860623 (.int 2 881870867) 881860627) (.k (.asI (.loc 7 882909198) (.int 1 882916368) 882909201 (.cal 69 (.k (.cal 68 (.k (.cel 2 882941996) (.k (.cel 3 882948147) (.k (.int 2 882955318) .n))) 882931751 882931767) (.k (.raw (.Dict [some (RE.ast tx yY (.int 0 882960443)),some (RE.ast tx yY (.int 1 882973768))] [RE.ast tx yY (.tup (.k (.str "i" 882964545) (.k (.int 3 882969668) .n)) 882963525),RE.ast tx yY (.tup (.k (.str "i" 882977870) (.k (.una .USub (.int 2 882984018) 882982994) .n)) 882976851)] (zu 882959444))) .n)) 882921501 882921557) 882909269) .n)) .n 3028291669) (.k (.iff (.cmp .Gt (.cal 67 (.k (.cel 2 883966997) (.k (.int 3 883973144) .n)) 883956752 883956761) (.int 0 883978269) 883956765) (.k (.asI (.loc 7 885006350) (.int 2 885013520) 885006353 (.tup (.k (.str "i" 885019672) (.k (.int 2 885024795) .n)) 885018652) 885006364) .n) .n 1957695516) (.k (.raw (.Assign [.Name (yY.nm 8) (zu 886050827)] (RE.ast tx yY (.raw (.Call (.Name (XB tx.gT 77) (zu 886061075)) (RE.asts tx yY (.k (.cel 3 886067225) (.k (.lst .n 886074397) .n))) [⟨some ("max_bits":Str),RE.ast tx yY (.loc 4 886087724),zu 886078508⟩] (zu 886061101)))) (zu 886050861))) (.k (.asn 9 887099401 (.dc0 887107598) 887099406) (.k (.asn 10 888147976 (.met (.att (.loc 8 888155154) 32 888155160) 60 (.k (.loc 5 888178725) (.k (.loc 9 888183852) .n)) 888155169 888155181) 888148013) (.k (.asn 11 889196553 (.met (.att (.loc 8 889204755) 32 889204761) 60 (.k (.loc 6 889228326) (.k (.loc 9 889233453) .n)) 889204770 889204782) 889196590) (.k (.fo 12 890249230 (.cal 78 (.k (.loc 7 890266655) .n) 890259480 890259488) (.k (.iff (.una .Not (.met (.loc 8 891304982) 35 (.k (.met (.att (.loc 8 891319332) 32 891319338) 60 (.k (.tup (.k (.str "v" 891343928) (.k (.loc 12 891349056) .n)) 891342913) (.k (.loc 9 891358280) .n)) 891319347 891319369) (.k (.met (.att (.loc 8 891366482) 32 891366488) 60 (.k (.sub (.loc 7 891390056) (.loc 12 891397231) 891390064) (.k (.loc 9 891406455) .n)) 891366497 891366520) .n)) 891304988 891305081) 891300985) (.k (.ret (.boo false 892357656) 892350488) .n) .n 1965039640) .n) 3037728792) (.k (.asn 13 893390860 (.cal 79 (.k (.cel 3 893413407) (.k (.cal 69 (.k (.cal 69 (.k (.loc 5 893441080) (.k (.loc 7 893446208) .n)) 893430836 893430849) (.k (.loc 7 893455433) .n)) 893420586 893420618) (.k (.loc 4 893464656) .n))) 893402137 893402193) 893390929) (.k (.asn 14 894439437 (.cal 79 (.k (.cel 3 894463008) (.k (.cal 69 (.k (.cal 69 (.k (.loc 6 894490681) (.k (.loc 7 894495809) .n)) 894480437 894480450) (.k (.loc 7 894505034) .n)) 894470187 894470219) (.k (.loc 4 894514257) .n))) 894451738 894451794) 894439506) (.k (.raw (.Try [.Assign [.Name (yY.nm 15) (zu 896540684)] (RE.ast tx yY (.tup (.k (.str "value" 896548887) (.k (.cal 52 (.k (.loc 8 896567337) (.k (.loc 10 896576559) .n)) 896558113 896558128) .n)) 896547889)) (zu 896540721)] [.ExceptHandler (some (.Name ("PrologError":Str) (zu 897592342))) (some (yY.nm 16)) [.Assign [.Name (yY.nm 15) (zu 898637836)] (.Tuple [.Constant (.str "error") 0 (zu 898646039),.Attribute (.Name (yY.nm 16) (zu 898655262)) ("ball":Str) (zu 898655267)] 0 (zu 898645028)) (zu 898637860)] (zu 1971327012)] [] [] (zu 4116713508))) (.k (.iff (.cmp .NotEq (.loc 15 899685387) (.loc 13 899693591) 899685399) (.k (.ret (.boo false 900742164) 900734996) .n) .n 1973424148) (.k (.asn 17 901779464 (.met (.loc 8 901786642) 62 (.k (.tup (.k (.str "v" 901799963) (.k (.int 0 901805086) .n)) 901798943) .n) 901786646 901786656) 901779488) (.k (.asn 18 902828040 (.cal 67 (.k (.cel 2 902845465) (.k (.int 4 902851612) .n)) 902835220 902835229) 902828061) (.k (.iff (.cmp .Gt (.loc 18 903879691) (.int 1 903886863) 903879695) (.k (.asn 17 904929292 (.ife (.cmp .Eq (.sub (.loc 13 904970296) (.int 0 904979514) 904970299) (.str "value" 904985670) 904970310) (.tup (.k (.glo 21 904937491) (.k (.bin .Sub (.bin .Add (.sub (.loc 13 904942621) (.int 1 904951839) 904942624) (.loc 18 904956967) 904942631) (.int 2 904964139) 904942635) .n)) 904936492) (.tup (.k (.glo 21 905000016) (.k (.int 5 905005139) .n)) 904998996) 904936532) 904929364) .n) .n 1977618516) (.k (.asn 15 905973768 (.cal 73 (.k (.glo 80 905991196) (.k (.loc 8 906000421) (.k (.lst (.k (.loc 17 906010668) (.k (.loc 10 906016818) .n)) 906009651) .n))) 905980948 905980980) 905973812) (.k (.iff (.cmp .Eq (.sub (.loc 13 907025423) (.int 0 907034641) 907025426) (.str "error" 907040797) 907025437) (.k (.iff (.cmp .NotEq (.loc 15 908078095) (.loc 13 908086299) 908078107) (.k (.ret (.boo false 909134872) 909127704) .n) .n 1981816856) .n) (.k (.iff (.bop .Or (.k (.cmp .NotEq (.loc 15 910173197) (.tup (.k (.str "holds" 910182425) (.k (.cmp .Lt (.loc 18 910191647) (.int 3 910198819) 910191651) .n)) 910181412) 910173220) (.k (.bop .And (.k (.cmp .Lt (.loc 18 910205997) (.int 3 910213169) 910206001) (.k (.cmp .NotEq (.met (.att (.loc 8 910219325) 32 910219331) 19 (.k (.loc 17 910239822) .n) 910219337 910219343) (.tup (.k (.glo 21 910250071) (.k (.sub (.loc 13 910255201) (.int 1 910264419) 910255204) .n)) 910249061) 910219365) .n)) 910206053) .n)) 910173286) (.k (.ret (.boo false 911227924) 911220756) .n) .n 1983909908) .n) 5201989652) (.k (.asn 19 912265224 (.ife (.bop .And (.k (.cmp .Eq (.sub (.loc 13 912304178) (.int 0 912313396) 912304181) (.str "value" 912319552) 912304192) (.k (.cmp .Eq (.sub (.loc 14 912331854) (.int 0 912342096) 912331857) (.str "value" 912348252) 912331868) .n)) 912304220) (.tup (.k (.sub (.loc 13 912273428) (.int 1 912282646) 912273431) (.k (.sub (.loc 14 912286754) (.int 1 912296996) 912286757) .n)) 912272422) (.tup (.k (.int 0 912362596) (.k (.int 0 912365671) .n)) 912361576) 912272488) 912265320) (.k (.asn 20 913313805 (.lst (.k (.tup (.k (.glo 81 913328158) (.k (.cmp .Eq (.sub (.loc 19 913342500) (.int 0 913347622) 913342503) (.sub (.loc 19 913353775) (.int 1 913358897) 913353778) 913342514) .n)) 913327155) (.k (.tup (.k (.glo 82 913365058) (.k (.cmp .NotEq (.sub (.loc 19 913379400) (.int 0 913384522) 913379403) (.sub (.loc 19 913390675) (.int 1 913395797) 913390678) 913379414) .n)) 913364055) (.k (.tup (.k (.glo 83 913401956) (.k (.cmp .Lt (.sub (.loc 19 913414250) (.int 0 913419372) 913414253) (.sub (.loc 19 913424500) (.int 1 913429622) 913424503) 913414263) .n)) 913400952) .n))) 913326201) 913313913) (.k (.aug 20 914362381 .Add (.lst (.k (.tup (.k (.glo 84 914377760) (.k (.cmp .Gt (.sub (.loc 19 914393126) (.int 0 914398248) 914393129) (.sub (.loc 19 914403376) (.int 1 914408498) 914403379) 914393139) .n)) 914376756) (.k (.tup (.k (.glo 85 914414660) (.k (.cmp .LtE (.sub (.loc 19 914430026) (.int 0 914435148) 914430029) (.sub (.loc 19 914441301) (.int 1 914446423) 914441304) 914430040) .n)) 914413657) (.k (.tup (.k (.glo 86 914452586) (.k (.cmp .GtE (.sub (.loc 19 914468976) (.int 0 914474098) 914468979) (.sub (.loc 19 914480251) (.int 1 914485373) 914480254) 914468990) .n)) 914451583) .n))) 914375808) 914362496) (.k (.fo 21 915415056 (.loc 20 915427357) (.k (.asn 22 916463627 (.tup (.k (.str "holds" 916470806) (.k (.sub (.loc 21 916480032) (.int 1 916489250) 916480035) .n)) 916469796) 916463652) (.k (.iff (.cmp .Eq (.sub (.loc 13 917515283) (.int 0 917524501) 917515286) (.str "error" 917530657) 917515297) (.k (.asn 22 918564879 (.loc 13 918571034) 918564890) .n) (.k (.iff (.cmp .Eq (.sub (.loc 14 919614486) (.int 0 919624728) 919614489) (.str "error" 919630884) 919614500) (.k (.asn 22 920662031 (.loc 14 920668187) 920662043) .n) .n 1993351195) .n) 4138737691) (.k (.iff (.cmp .NotEq (.cal 73 (.k (.sub (.loc 21 921719837) (.int 0 921729055) 921719840) (.k (.loc 8 921733161) (.k (.lst (.k (.loc 10 921743408) (.k (.loc 11 921749559) .n)) 921742392) .n))) 921709588 921709625) (.loc 22 921760832) 921709632) (.k (.ret (.boo false 922766360) 922759192) .n) .n 1995448344) .n))) 8431603736) (.k (.asn 23 923799560 (.bin .Pow (.int 2 923806732) (.loc 4 923811860) 923806740) 923799572) (.k (.raw (.Assign [.Name (yY.nm 24) (zu 924848137)] (RE.ast tx yY (.raw (.ListComp (RE.ast tx iX (.cal 87 (.k (.cel 3 924867611) (.k (.cel 4 924873762) (.k (.cel 5 924880936) .n))) 924857366 924857385)) [⟨.Name ("_":Str) (zu 924891183),RE.ast tx yY (.cal 13 (.k (.int 3 924902458) .n) 924896312 924896315),[],0⟩] WX (zu 924856380)))) (zu 924848188))) (.k (.iff (.una .Not (.cal 88 (.k (.glo 89 925919267) (.k (.loc 8 925930540) (.k (.cel 3 925939763) (.k (.raw (.Subscript (RE.ast tx yY (.loc 24 925946938)) (.Slice none (some (RE.ast tx yY (.int 2 925954109))) none (zu 925953085)) (zu 925946942))) (.k (.loc 4 925958212) (.k (.boo true 925964362) .n)))))) 925903897 925903947) 925899851) (.k (.ret (.boo false 926956564) 926949396) .n) .n 1999638548) (.k (.ret (.cal 88 (.k (.glo 90 928016420) (.k (.loc 8 928028717) (.k (.cel 3 928037940) (.k (.loc 24 928045115) (.k (.loc 4 928052289) (.k (.boo false 928058440) .n)))))) 928001049 928001097) 927993929) .n)))))))))))))))))))))))))))))))
end
section
set_option genInjectivity false
set_option genSizeOf false
set_option genCtorIdx false
noncomputable def vS (s:String)(t:Nat):Value:=.str (Str.ofString s) t
noncomputable def dE (P:Params)(s:String)(t:Nat)(v:Value):DictEntry:={hash:=PyData.keyHash P (Str.ofString s),key:=.str (Str.ofString s) t,val:=v}
structure FR where
 s:Sc
 b:RS
 n:String
 q:String
 ps:List Nat
 df:List Expr
 dV:Value
 pm:Value
 cd:Addr
 nl:Nat
noncomputable def FR.args (r:FR):List Arg:=(r.s.c.names.zip r.ps).map fun x=>{arg:=x.1.1,annotation:=none,pos:=zu x.2}
noncomputable def FR.obj (r:FR):Obj:=
 {cls:=.type "function",data:=.func (fnOf (Str.ofString r.n) (Str.ofString r.q) {posonlyargs:=[],args:=r.args,vararg:=none,kwonlyargs:=[],kw_defaults:=[],kwarg:=none,defaults:=r.df} (r.b.asts tx r.s) r.s.c r.dV .none .none r.pm none (.ref r.cd) .none)}
noncomputable def I3 (vs:List Value):Obj:={cls:=.type "code",data:=.fields (Array.mk vs)}
noncomputable abbrev XM:Value:=vS "clausemill.symbols" 194
noncomputable abbrev Wy:Value:=vS "clausemill.terms" 381
noncomputable abbrev jJ:Value:=vS "clausemill.store" 455
noncomputable abbrev vq:Value:=vS "clausemill.arith" 750
noncomputable abbrev Va:Value:=vS "clausemill.unify" 1064
noncomputable abbrev Ku:Value:=vS "clausemill.areas" 1182
noncomputable abbrev YE:Value:=vS "law_no0201_01" 1398
noncomputable abbrev fA (s:Sc)(b:RS)(n q:String)(ps:List Nat)(m:Value)(a nl:Nat):FR:=⟨s,b,n,q,ps,[],.none,m,a,nl⟩
noncomputable def rt:FR:=fA Ht HU "__init__" "PrologError.__init__" [9454613,9460763] XM 47 0
noncomputable def HG:FR:=fA GS HJ "fixed_atoms" "fixed_atoms" [] XM 59 0
noncomputable def Hq:FR:=fA He G_ "fixed_functors" "fixed_functors" [] XM 66 0
noncomputable def Ih:FR:=fA GK Hi "__init__" "Symbols.__init__" [22037525] XM 80 2
noncomputable def G9:FR:=fA HL Ii "atom" "Symbols.atom" [32519185,32525335] XM 87 2
noncomputable def G6:FR:=fA HO HM "text" "Symbols.text" [41956369,41962521] XM 94 0
noncomputable def Ck:FR:=fA Ed Dh "functor" "Symbols.functor" [45105172,45111322,45117473] XM 101 3
noncomputable def EZ:FR:=fA As D6 "func" "Symbols.func" [55587857,55594007,55600158] XM 108 0
noncomputable def Bx:FR:=fA C3 CW "name" "Symbols.name" [58733585,58739738] XM 115 0
noncomputable def ES:FR:=fA CH BV "arity" "Symbols.arity" [61880338,61886491] XM 122 0
noncomputable def By:FR:=fA Dk CK "atom" "atom" [80749583] Wy 164 0
noncomputable def BZ:FR:=fA E_ Cq "integer" "integer" [82849809] Wy 171 0
noncomputable def BB:FR:=fA D5 Az "struct" "struct" [84945938,84955160] Wy 178 0
noncomputable def DX:FR:=fA Ai Bq "system_error" "system_error" [87049239] Wy 185 0
noncomputable def DB:FR:=fA t7 Ek "formal_of" "formal_of" [89143317,89152539,89158690] Wy 192 2
noncomputable def EM:FR:=fA AQ Aj "instantiation_error" "instantiation_error" [94396447] Wy 199 0
noncomputable def CR:FR:=fA DK BL "type_error" "type_error" [96484374,96493596,96499749] Wy 206 0
noncomputable def BJ:FR:=fA Eh Ce "evaluation_error" "evaluation_error" [98587676,98596898] Wy 213 0
noncomputable def EN:FR:=fA E3 EW "resource_error" "resource_error" [100682778,100692000] Wy 220 0
noncomputable def ae:FR:=⟨iY,Df,"__init__","Cells.__init__",[116409365,116415518,116424744],[RE.ast tx iY (.int (.ofNat 100000) (nat_lit 116433967))],(.ref 230),(vS "clausemill.store" 455),236,0⟩
noncomputable def Ba:FR:=fA Ci EH "push" "Cells.push" [125842449,125848599] jJ 243 1
noncomputable def CD:FR:=fA DS DM "new_var" "Cells.new_var" [133185556] jJ 250 1
noncomputable def ER:FR:=fA DC BO "reserve" "Cells.reserve" [138428436,138434587] jJ 257 2
noncomputable def tU:FR:=fA B6 Cg "deref" "Cells.deref" [149960722,149966872] jJ 271 2
noncomputable def Ef:FR:=fA Di BN "is_unbound" "Cells.is_unbound" [163597335,163603485] jJ 278 0
noncomputable def Dx:FR:=fA Fl tQ "bind" "Cells.bind" [170931217,170937367,170943518] jJ 285 1
noncomputable def BP:FR:=fA Bf AS "bind_pair" "Cells.bind_pair" [182470678,182476826,182480926] jJ 292 0
noncomputable def Ap:FR:=fA A4 t_ "globalise" "Cells.globalise" [196102166,196108316] jJ 299 1
noncomputable def DZ:FR:=fA DT Cc "is_compound" "Cells.is_compound" [213930008,213936158] jJ 327 0
noncomputable def C2:FR:=fA tK Au "functor_of" "Cells.functor_of" [217074711,217080861] jJ 334 1
noncomputable def Bl:FR:=fA Dg DU "width" "Cells.width" [227555346,227561496] jJ 341 1
noncomputable def Bb:FR:=fA Ct Bk "base" "Cells.base" [235942929,235949079] jJ 348 0
noncomputable def De:FR:=fA Fc El "arg" "Cells.arg" [241184784,241190934,241197081] jJ 355 0
noncomputable def Ak:FR:=fA Cr A5 "new_block" "Cells.new_block" [244336662,244342809] jJ 362 1
noncomputable def B_:FR:=fA Cb A6 "put_term" "Store.put_term" [262161429,262167579,262173730] jJ 405 9
noncomputable def AD:FR:=fA WN CE "take_term" "Store.take_term" [300959766,300965916,300972067] jJ 412 10
noncomputable def BM:FR:=fA Dz Bs "not_evaluable" "not_evaluable" [342902809,342912031,342918182] vq 426 1
noncomputable def Ei:FR:=fA Fg tN "is_evaluable" "is_evaluable" [346047509,346053660] vq 433 0
noncomputable def EP:FR:=fA B7 Br "check_evaluable" "check_evaluable" [352342043,352351268] vq 440 2
noncomputable def EE:FR:=fA ET tT "check_size" "check_size" [357579798,357589021,357596199] vq 447 0
noncomputable def CP:FR:=fA Ee DY "divide_toward_zero" "divide_toward_zero" [361782300,361789476] vq 454 1
noncomputable def C0:FR:=fA tZ Cs "remainder" "remainder" [367015955,367023131] vq 461 0
noncomputable def CM:FR:=fA UW E4 "greatest_divisor" "greatest_divisor" [369120282,369127458] vq 468 0
noncomputable def Af:FR:=fA AX tS "power" "power" [375400465,375409687,375415841,375426091] vq 475 0
noncomputable def tW:FR:=fA B9 Be "shift_left" "shift_left" [392182806,392192029,392199204,392206382] vq 482 0
noncomputable def AG:FR:=fA CT B2 "shift_right" "shift_right" [400572439,400581662,400588837,400596015] vq 489 0
noncomputable def Bu:FR:=fA DG tM "sign_of" "sign_of" [408956945] vq 496 0
noncomputable def Al:FR:=fA CN Ah "apply_unary" "apply_unary" [415252503,415261725,415267876] vq 503 0
noncomputable def Ey:FR:=fA CJ C9 "apply_division" "apply_division" [432032794,432042016,432048167,432055343] vq 510 0
noncomputable def Cy:FR:=fA Dt Ew "apply_bits" "apply_bits" [442514454,442523676,442529827,442537003,442545205] vq 517 0
noncomputable def Bt:FR:=fA Dw BU "apply_binary" "apply_binary" [453002264,453011486,453017637,453024813,453033015] vq 524 0
noncomputable def CB:FR:=fA Es DQ "apply_functor" "apply_functor" [476071961,476081186,476090410,476098612] vq 531 4
noncomputable def Cw:FR:=fA DP CF "evaluate" "evaluate" [485504014,485507092] vq 538 7
noncomputable def DH:FR:=fA DL Bm "evaluate_term" "evaluate_term" [512772121,512781343,512787497] vq 545 5
noncomputable def CG:FR:=fA EL Ao "is_value" "is_value" [533738510] vq 552 1
noncomputable def Dv:FR:=fA D9 D8 "equal_values" "equal_values" [536888338] vq 559 1
noncomputable def Du:FR:=fA D_ Bw "other_values" "other_values" [540034066] vq 566 1
noncomputable def Ae:FR:=fA Fh AJ "less_value" "less_value" [543177744] vq 573 1
noncomputable def AY:FR:=fA Ac BE "greater_value" "greater_value" [546326547] vq 580 1
noncomputable def Eg:FR:=fA C8 CQ "at_most_value" "at_most_value" [549472275] vq 587 1
noncomputable def Eu:FR:=fA D7 DJ "at_least_value" "at_least_value" [552619028] vq 594 1
noncomputable def CL:FR:=fA Am AF "integer_or_variable" "integer_or_variable" [555769881,555772960] vq 601 1
noncomputable def Ea:FR:=fA C5 EK "natural_or_variable" "natural_or_variable" [563109913,563112992] vq 608 1
noncomputable def A_:FR:=fA AZ Em "successor" "successor" [568342543] vq 615 3
noncomputable def Ay:FR:=fA DO CC "sum_of_two" "sum_of_two" [579877904] vq 622 5
noncomputable def BW:FR:=fA Fp Ax "__init__" "PairSet.__init__" [602948629,602954780] Va 636 0
noncomputable def Ez:FR:=fA AM EJ "add" "PairSet.add" [607137808,607143958,607150109] Va 643 1
noncomputable def Fi:FR:=fA Eo BF "push_arguments" "push_arguments" [613436440,613443614,613449764] Va 657 2
noncomputable def Ej:FR:=fA D3 BH "push_pairs" "push_pairs" [617626644,617633818,617639969,617647143] Va 664 3
noncomputable def tL:FR:=fA Fb CY "same_shape" "same_shape" [622869524,622876698,622882849] Va 671 0
noncomputable def CA:FR:=fA Eb t8 "is_variable" "is_variable" [629162004] Va 678 0
noncomputable def AL:FR:=fA Av Bj "unify" "unify" [631253007,631260179,631264279,631268383] Va 685 4
noncomputable def Dp:FR:=fA EY AK "bind_checked" "bind_checked" [656426006,656433184,656443431,656450607] Va 692 0
noncomputable def A7:FR:=fA Cj A8 "occurs_in" "occurs_in" [661665811,661672989,661683235] Va 699 2
noncomputable def aF:FR:=⟨UR,DN,"__init__","Areas.__init__",[683688981,683695134,683704356,683710510,683727933,683741260],[RE.ast tx UR (.int (.ofNat 100000) (nat_lit 683719733)),RE.ast tx UR (.boo true (nat_lit 683735106)),RE.ast tx UR (.int (.ofNat 4096) (nat_lit 683750481))],(.ref 708),(vS "clausemill.areas" 1182),714,0⟩
noncomputable def Ff:FR:=fA EU Dy "reset" "Areas.reset" [692074514] Ku 721 0
noncomputable def C6:FR:=fA En Bd "set_x" "Areas.set_x" [707803154,707809306,707817504] Ku 728 0
noncomputable def Aa:FR:=fA Ds Et "set_arguments" "Areas.set_arguments" [713054234,713060385] Ku 735 2
noncomputable def C7:FR:=fA Cn CO "arg" "Areas.arg" [719335440,719341587] Ku 742 0
noncomputable def AV:FR:=fA E9 DE "unify" "Areas.unify" [722483218,722489366,722493466] Ku 749 0
noncomputable def tJ:FR:=fA B5 EX "take" "Areas.take" [725627921,725634071] Ku 756 0
noncomputable def CS:FR:=fA DF Dj "put" "Areas.put" [728772624,728778774] Ku 763 0
noncomputable def BY:FR:=fA Ar C1 "_law_pick" "_law_pick" [777009170,777015321] YE 868 2
noncomputable def BC:FR:=fA Cz Fd "_law_tree" "_law_tree" [788543506,788549657,788556832] YE 875 3
noncomputable def Fe:FR:=fA Wu DA "_law_full" "_law_full" [803223570,803229722] YE 880 0
noncomputable def EG:FR:=fA Bo Dd "_law_error" "_law_error" [809516052,809523226,809529377] YE 887 1
noncomputable def Co:FR:=fA UX BX "_law_value" "_law_value" [814758932,814766106,814772256] YE 894 1
noncomputable def DV:FR:=fA UN Bv "_law_told" "_law_told" [820000786,820006939,820016162] YE 901 1
noncomputable def DI:FR:=fA C_ E7 "_law_side" "_law_side" [826292242,826298393,826305567] YE 908 1
noncomputable def Ad:FR:=fA jk bk "_law_counted" "_law_counted" [835732502,835739677,835746851,835753004] YE 913 6
noncomputable def An:FR:=fA ZP A9 "_law_one_lacks" "_law_one_lacks" [862997527,863003680,863012903,863020078,863027252,863033405] YE 918 3
noncomputable def Ca:FR:=fA Ab Dr "_law_is" "_law_is" [870330387] YE 925 0
noncomputable def ED:FR:=fA yY bj "law" "law" [872423438] YE 930 24
noncomputable def fT:List (Addr×FR):=[(48,rt),(60,HG),(67,Hq),(81,Ih),(88,G9),(95,G6),(102,Ck),(109,EZ),(116,Bx),(123,ES),(165,By),(172,BZ),(179,BB),(186,DX),(193,DB),(200,EM),(207,CR),(214,BJ),(221,EN),(237,ae),(244,Ba),(251,CD),(258,ER),(272,tU),(279,Ef),(286,Dx),(293,BP),(300,Ap),(328,DZ),(335,C2),(342,Bl),(349,Bb),(356,De),(363,Ak),(406,B_),(413,AD),(427,BM),(434,Ei),(441,EP),(448,EE),(455,CP),(462,C0),(469,CM),(476,Af),(483,tW),(490,AG),(497,Bu),(504,Al),(511,Ey),(518,Cy),(525,Bt),(532,CB),(539,Cw),(546,DH),(553,CG),(560,Dv),(567,Du),(574,Ae),(581,AY),(588,Eg),(595,Eu),(602,CL),(609,Ea),(616,A_),(623,Ay),(637,BW),(644,Ez),(658,Fi),(665,Ej),(672,tL),(679,CA),(686,AL),(693,Dp),(700,A7),(715,aF),(722,Ff),(729,C6),(736,Aa),(743,C7),(750,AV),(757,tJ),(764,CS),(869,BY),(876,BC),(881,Fe),(888,EG),(895,Co),(902,DV),(909,DI),(914,Ad),(919,An),(926,Ca),(931,ED)]
noncomputable def KB (P:Params):Frag:=[(3,⟨.type "dict",none,.dict (Array.mk [dE P "__name__" 165 (vS "law_no0201_01" 1398),dE P "__doc__" 166 (.none),dE P "__package__" 167 (.none),dE P "__loader__" 168 (.builtin "__main__.__loader__#opaque"),dE P "__spec__" 169 (.none),dE P "__annotations__" 170 (.ref 6),dE P "__builtins__" 171 (.ref 4),dE P "__file__" 173 (vS "/claim/cut.py" 172),dE P "__cached__" 174 (.none),dE P "_wall" 193 (.ref 21),dE P "ClausemillError" 215 (.ref 31),dE P "PrologError" 240 (.ref 51),dE P "A_SYSTEM" 242 (.int (.ofNat 25) 241),dE P "F_DOT" 244 (.int (.ofNat 0) 243),dE P "F_SLASH" 246 (.int (.ofNat 15) 245),dE P "F_ERROR" 248 (.int (.ofNat 16) 247),dE P "fixed_atoms" 254 (.ref 60),dE P "fixed_functors" 260 (.ref 67),dE P "Symbols" 380 (.ref 154),dE P "atom" 389 (.ref 165),dE P "integer" 396 (.ref 172),dE P "struct" 404 (.ref 179),dE P "system_error" 411 (.ref 186),dE P "formal_of" 422 (.ref 193),dE P "instantiation_error" 429 (.ref 200),dE P "type_error" 438 (.ref 207),dE P "evaluation_error" 446 (.ref 214),dE P "resource_error" 454 (.ref 221),dE P "REF" 458 (.int (.ofNat 0) 457),dE P "SRF" 460 (.int (.ofNat 1) 459),dE P "STR" 462 (.int (.ofNat 2) 461),dE P "LIS" 464 (.int (.ofNat 3) 463),dE P "CON" 466 (.int (.ofNat 4) 465),dE P "INT" 468 (.int (.ofNat 5) 467),dE P "FUN" 470 (.int (.ofNat 6) 469),dE P "VOID" 472 (.ref 222),dE P "VISIT" 474 (.int (.ofNat 0) 473),dE P "BUILD" 476 (.int (.ofNat 1) 475),dE P "Cells" 670 (.ref 366),dE P "Store" 749 (.ref 416),dE P "UNARY_NAMES" 763 (.ref 419),dE P "BINARY_NAMES" 782 (.ref 420),dE P "APPLY" 784 (vS "apply" 783),dE P "not_evaluable" 794 (.ref 427),dE P "is_evaluable" 802 (.ref 434),dE P "check_evaluable" 812 (.ref 441),dE P "check_size" 821 (.ref 448),dE P "divide_toward_zero" 830 (.ref 455),dE P "remainder" 838 (.ref 462),dE P "greatest_divisor" 846 (.ref 469),dE P "power" 856 (.ref 476),dE P "shift_left" 866 (.ref 483),dE P "shift_right" 876 (.ref 490),dE P "sign_of" 883 (.ref 497),dE P "apply_unary" 892 (.ref 504),dE P "apply_division" 902 (.ref 511),dE P "apply_bits" 913 (.ref 518),dE P "apply_binary" 924 (.ref 525),dE P "apply_functor" 938 (.ref 532),dE P "evaluate" 953 (.ref 539),dE P "evaluate_term" 967 (.ref 546),dE P "is_value" 975 (.ref 553),dE P "equal_values" 983 (.ref 560),dE P "other_values" 991 (.ref 567),dE P "less_value" 999 (.ref 574),dE P "greater_value" 1007 (.ref 581),dE P "at_most_value" 1015 (.ref 588),dE P "at_least_value" 1023 (.ref 595),dE P "integer_or_variable" 1032 (.ref 602),dE P "natural_or_variable" 1041 (.ref 609),dE P "successor" 1051 (.ref 616),dE P "sum_of_two" 1063 (.ref 623),dE P "PairSet" 1105 (.ref 647),dE P "push_arguments" 1116 (.ref 658),dE P "push_pairs" 1129 (.ref 665),dE P "same_shape" 1138 (.ref 672),dE P "is_variable" 1145 (.ref 679),dE P "unify" 1159 (.ref 686),dE P "unify_unify" 1160 (.ref 686),dE P "bind_checked" 1170 (.ref 693),dE P "occurs_in" 1181 (.ref 700),dE P "READ" 1185 (vS "read" 1184),dE P "EXTRA" 1187 (.int (.ofNat 8) 1186),dE P "Areas" 1397 (.ref 858),dE P "_law_pick" 1409 (.ref 869),dE P "_law_tree" 1421 (.ref 876),dE P "_law_full" 1427 (.ref 881),dE P "_law_error" 1437 (.ref 888),dE P "_law_value" 1447 (.ref 895),dE P "_law_told" 1457 (.ref 902),dE P "_law_side" 1467 (.ref 909),dE P "_law_counted" 1473 (.ref 914),dE P "_law_one_lacks" 1479 (.ref 919),dE P "_law_is" 1486 (.ref 926),dE P "law" 1492 (.ref 931)]) 95,Array.mk []⟩),(222,⟨.type "tuple",none,.seq (Array.mk [.int (.ofNat 5) 467,.int (.ofNat 0) 471]) 0,Array.mk []⟩),(230,⟨.type "tuple",none,.seq (Array.mk [.int (.ofNat 100000) 489]) 0,Array.mk []⟩),(708,⟨.type "tuple",none,.seq (Array.mk [.int (.ofNat 100000) 1200,.bool true,.int (.ofNat 4096) 1201]) 0,Array.mk []⟩),(51,⟨.type "type",none,.cls {name:=("PrologError":Str),bases:=[.ref 31],mro:=[.ref 51,.ref 31,.type "Exception",.type "BaseException",.type "object"],ns:=50,qualname:=("PrologError":Str),subclasses:=[]},Array.mk [some (.ref 35),none,some (vS "PrologError" 216),some (vS "PrologError" 224),some (.builtin "Exception.__new__"),some (.bool true)]⟩),(419,⟨.type "tuple",none,.seq (Array.mk [vS "-" 752,vS "+" 753,vS "abs" 754,vS "sign" 755,vS "\\" 756,vS "msb" 757,vS "succ" 758,vS "truncate" 759,vS "round" 760,vS "ceiling" 761,vS "floor" 762]) 0,Array.mk []⟩),(420,⟨.type "tuple",none,.seq (Array.mk [vS "+" 764,vS "-" 765,vS "*" 766,vS "//" 767,vS "rem" 768,vS "mod" 769,vS "div" 770,vS "min" 771,vS "max" 772,vS "gcd" 773,vS ">>" 774,vS "<<" 775,vS "/\\" 776,vS "\\/" 777,vS "xor" 778,vS "^" 779,vS "**" 780,vS "plus" 781]) 0,Array.mk []⟩),(647,⟨.type "type",none,.cls {name:=("PairSet":Str),bases:=[.type "object"],mro:=[.ref 647,.type "object"],ns:=646,qualname:=("PairSet":Str),subclasses:=[]},Array.mk [none,none,some (vS "PairSet" 1066),some (vS "PairSet" 1074),some (.builtin "object.__new__"),some (.bool true)]⟩),(416,⟨.type "type",none,.cls {name:=("Store":Str),bases:=[.ref 366],mro:=[.ref 416,.ref 366,.type "object"],ns:=415,qualname:=("Store":Str),subclasses:=[]},Array.mk [some (.ref 371),none,some (vS "Store" 671),some (vS "Store" 679),some (.builtin "object.__new__"),some (.bool true)]⟩),(154,⟨.type "type",none,.cls {name:=("Symbols":Str),bases:=[.type "object"],mro:=[.ref 154,.type "object"],ns:=153,qualname:=("Symbols":Str),subclasses:=[]},Array.mk [none,none,some (vS "Symbols" 261),some (vS "Symbols" 269),some (.builtin "object.__new__"),some (.bool true)]⟩),(858,⟨.type "type",none,.cls {name:=("Areas":Str),bases:=[.type "object"],mro:=[.ref 858,.type "object"],ns:=857,qualname:=("Areas":Str),subclasses:=[]},Array.mk [none,none,some (vS "Areas" 1188),some (vS "Areas" 1196),some (.builtin "object.__new__"),some (.bool true)]⟩),(31,⟨.type "type",none,.cls {name:=("ClausemillError":Str),bases:=[.type "Exception"],mro:=[.ref 31,.type "Exception",.type "BaseException",.type "object"],ns:=30,qualname:=("ClausemillError":Str),subclasses:=[.ref 51]},Array.mk [some (.ref 22),none,some (vS "ClausemillError" 196),some (vS "ClausemillError" 204),some (.builtin "Exception.__new__"),some (.bool true)]⟩),(366,⟨.type "type",none,.cls {name:=("Cells":Str),bases:=[.type "object"],mro:=[.ref 366,.type "object"],ns:=365,qualname:=("Cells":Str),subclasses:=[.ref 416]},Array.mk [none,none,some (vS "Cells" 477),some (vS "Cells" 485),some (.builtin "object.__new__"),some (.bool true)]⟩),(50,⟨.type "dict",none,.dict (Array.mk [dE P "__module__" 223 (vS "clausemill.symbols" 194),dE P "__firstlineno__" 227 (.int (.ofNat 7) 226),dE P "__init__" 235 (.ref 48),dE P "__static_attributes__" 237 (.ref 49),dE P "__doc__" 238 (.none)]) 2,Array.mk []⟩),(646,⟨.type "dict",none,.dict (Array.mk [dE P "__module__" 1073 (vS "clausemill.unify" 1064),dE P "__firstlineno__" 1077 (.int (.ofNat 573) 1076),dE P "__init__" 1085 (.ref 637),dE P "add" 1095 (.ref 644),dE P "__static_attributes__" 1098 (.ref 645),dE P "__dict__" 1100 (.ref 648),dE P "__weakref__" 1102 (.ref 649),dE P "__doc__" 1103 (.none)]) 4,Array.mk []⟩),(415,⟨.type "dict",none,.dict (Array.mk [dE P "__module__" 678 (vS "clausemill.store" 455),dE P "__firstlineno__" 682 (.int (.ofNat 239) 681),dE P "new_struct" 691 (.ref 384),dE P "build_list" 700 (.ref 392),dE P "list_cells" 708 (.ref 399),dE P "put_term" 726 (.ref 406),dE P "take_term" 745 (.ref 413),dE P "__static_attributes__" 746 (.ref 414),dE P "__doc__" 747 (.none)]) 2,Array.mk []⟩),(153,⟨.type "dict",none,.dict (Array.mk [dE P "__module__" 268 (vS "clausemill.symbols" 194),dE P "__firstlineno__" 272 (.int (.ofNat 19) 271),dE P "__init__" 281 (.ref 81),dE P "atom" 291 (.ref 88),dE P "text" 299 (.ref 95),dE P "functor" 311 (.ref 102),dE P "func" 320 (.ref 109),dE P "name" 328 (.ref 116),dE P "arity" 336 (.ref 123),dE P "label" 344 (.ref 130),dE P "count" 351 (.ref 137),dE P "functor_count" 358 (.ref 144),dE P "known" 368 (.ref 151),dE P "__static_attributes__" 373 (.ref 152),dE P "__dict__" 375 (.ref 155),dE P "__weakref__" 377 (.ref 156),dE P "__doc__" 378 (.none)]) 4,Array.mk []⟩),(857,⟨.type "dict",none,.dict (Array.mk [dE P "__module__" 1195 (vS "clausemill.areas" 1182),dE P "__firstlineno__" 1199 (.int (.ofNat 650) 1198),dE P "__init__" 1213 (.ref 715),dE P "reset" 1220 (.ref 722),dE P "set_x" 1229 (.ref 729),dE P "set_arguments" 1239 (.ref 736),dE P "arg" 1247 (.ref 743),dE P "unify" 1256 (.ref 750),dE P "take" 1264 (.ref 757),dE P "put" 1272 (.ref 764),dE P "top" 1279 (.ref 771),dE P "push_environment" 1287 (.ref 778),dE P "pop_environment" 1294 (.ref 785),dE P "in_chain" 1302 (.ref 792),dE P "set_choice" 1310 (.ref 799),dE P "push_choice" 1319 (.ref 806),dE P "set_alternative" 1327 (.ref 813),dE P "choice_part" 1335 (.ref 820),dE P "restore_choice" 1342 (.ref 827),dE P "pop_choice" 1349 (.ref 834),dE P "cut_back" 1357 (.ref 841),dE P "choices" 1364 (.ref 848),dE P "environments" 1371 (.ref 855),dE P "__static_attributes__" 1390 (.ref 856),dE P "__dict__" 1392 (.ref 859),dE P "__weakref__" 1394 (.ref 860),dE P "__doc__" 1395 (.none)]) 4,Array.mk []⟩),(30,⟨.type "dict",none,.dict (Array.mk [dE P "__module__" 203 (vS "clausemill.symbols" 194),dE P "__firstlineno__" 207 (.int (.ofNat 5) 206),dE P "__static_attributes__" 208 (.ref 29),dE P "__weakref__" 210 (.ref 32),dE P "__doc__" 211 (.none)]) 3,Array.mk []⟩),(365,⟨.type "dict",none,.dict (Array.mk [dE P "__module__" 484 (vS "clausemill.store" 455),dE P "__firstlineno__" 488 (.int (.ofNat 109) 487),dE P "__init__" 498 (.ref 237),dE P "push" 507 (.ref 244),dE P "new_var" 515 (.ref 251),dE P "reserve" 525 (.ref 258),dE P "trim" 533 (.ref 265),dE P "deref" 543 (.ref 272),dE P "is_unbound" 551 (.ref 279),dE P "bind" 561 (.ref 286),dE P "bind_pair" 570 (.ref 293),dE P "globalise" 579 (.ref 300),dE P "mark" 586 (.ref 307),dE P "undo_to" 594 (.ref 314),dE P "stack_put" 603 (.ref 321),dE P "is_compound" 611 (.ref 328),dE P "functor_of" 620 (.ref 335),dE P "width" 629 (.ref 342),dE P "base" 637 (.ref 349),dE P "arg" 646 (.ref 356),dE P "new_block" 655 (.ref 363),dE P "__static_attributes__" 663 (.ref 364),dE P "__dict__" 665 (.ref 367),dE P "__weakref__" 667 (.ref 368),dE P "__doc__" 668 (.none)]) 4,Array.mk []⟩)]
noncomputable def kQ (n q:String)(t l k u:Nat)(a b c d e:Value):Obj:=I3 [vS n t,vS q (t+1),vS "/claim/cut.py" (t+2),.int (.ofNat l) 0,.int (.ofNat k) 0,.int (.ofNat 0) 0,.int (.ofNat 0) 0,.int (.ofNat 3) 0,a,.bool true,.int (.ofNat 181) 0,b,.none,c,d,e,.int (.ofNat u) 0,.int (.ofNat l) 0,vS "/claim/cut.py" (u+1)]
noncomputable def kO (a:Nat)(n q:String)(t l k u:Nat):Addr×Obj:=(a,kQ n q t l k u (.ref (a-5)) (.ref (a-4)) (.ref (a-3)) (.ref (a-2)) (.ref (a-1)))
noncomputable def kP (a:Nat)(n q:String)(t l k u:Nat):Addr×Obj:=(a,kQ n q t l k u (.ref (a-3)) (.ref (a-2)) .none .none (.ref (a-1)))
noncomputable def KC:Frag:=[
 kO 47 "__init__" "PrologError.__init__" 228 9 2 233,kO 59 "fixed_atoms" "fixed_atoms" 249 15 0 252,kO 66 "fixed_functors" "fixed_functors" 255 17 0 258,kO 80 "__init__" "Symbols.__init__" 273 21 1 279,kO 87 "atom" "Symbols.atom" 282 31 2 289,kO 94 "text" "Symbols.text" 292 40 2 297,kO 101 "functor" "Symbols.functor" 300 43 3 309,kO 108 "func" "Symbols.func" 312 53 3 318,kO 115 "name" "Symbols.name" 321 56 2 326,kO 122 "arity" "Symbols.arity" 329 59 2 334,kO 164 "atom" "atom" 383 77 1 387,kO 171 "integer" "integer" 390 79 1 394,kO 178 "struct" "struct" 397 81 2 402,kO 185 "system_error" "system_error" 405 83 1 409,kO 192 "formal_of" "formal_of" 412 85 3 420,kO 199 "instantiation_error" "instantiation_error" 423 90 1 427,kO 206 "type_error" "type_error" 430 92 3 436,kO 213 "evaluation_error" "evaluation_error" 439 94 2 444,kO 220 "resource_error" "resource_error" 447 96 2 452,kO 236 "__init__" "Cells.__init__" 490 111 3 496,kO 243 "push" "Cells.push" 499 120 2 505,kO 250 "new_var" "Cells.new_var" 508 127 1 513,kO 257 "reserve" "Cells.reserve" 516 132 2 523,kO 271 "deref" "Cells.deref" 534 143 2 541,kO 278 "is_unbound" "Cells.is_unbound" 544 156 2 549,kO 285 "bind" "Cells.bind" 552 163 3 559,kO 292 "bind_pair" "Cells.bind_pair" 562 174 3 568,kO 299 "globalise" "Cells.globalise" 571 187 2 577,kO 327 "is_compound" "Cells.is_compound" 604 204 2 609,kO 334 "functor_of" "Cells.functor_of" 612 207 2 618,kO 341 "width" "Cells.width" 621 217 2 627,kO 348 "base" "Cells.base" 630 225 2 635,kO 355 "arg" "Cells.arg" 638 230 3 644,kO 362 "new_block" "Cells.new_block" 647 233 2 653,kO 405 "put_term" "Store.put_term" 709 250 3 724,kO 412 "take_term" "Store.take_term" 727 287 3 743,kO 426 "not_evaluable" "not_evaluable" 785 327 3 792,kO 433 "is_evaluable" "is_evaluable" 795 330 2 800,kO 440 "check_evaluable" "check_evaluable" 803 336 2 810,kO 447 "check_size" "check_size" 813 341 3 819,kO 454 "divide_toward_zero" "divide_toward_zero" 822 345 2 828,kO 461 "remainder" "remainder" 831 350 2 836,kO 468 "greatest_divisor" "greatest_divisor" 839 352 2 844,kO 475 "power" "power" 847 358 4 854,kO 482 "shift_left" "shift_left" 857 374 4 864,kO 489 "shift_right" "shift_right" 867 382 4 874,kO 496 "sign_of" "sign_of" 877 390 1 881,kO 503 "apply_unary" "apply_unary" 884 396 3 890,kO 510 "apply_division" "apply_division" 893 412 4 900,kO 517 "apply_bits" "apply_bits" 903 422 5 911,kO 524 "apply_binary" "apply_binary" 914 432 5 922,kO 531 "apply_functor" "apply_functor" 925 454 4 936,kO 538 "evaluate" "evaluate" 939 463 2 951,kO 545 "evaluate_term" "evaluate_term" 954 489 3 965,kO 552 "is_value" "is_value" 968 509 1 973,kO 559 "equal_values" "equal_values" 976 512 1 981,kO 566 "other_values" "other_values" 984 515 1 989,kO 573 "less_value" "less_value" 992 518 1 997,kO 580 "greater_value" "greater_value" 1000 521 1 1005,kO 587 "at_most_value" "at_most_value" 1008 524 1 1013,kO 594 "at_least_value" "at_least_value" 1016 527 1 1021,kO 601 "integer_or_variable" "integer_or_variable" 1024 530 2 1030,kO 608 "natural_or_variable" "natural_or_variable" 1033 537 2 1039,kO 615 "successor" "successor" 1042 542 1 1049,kO 622 "sum_of_two" "sum_of_two" 1052 553 1 1061,kO 636 "__init__" "PairSet.__init__" 1078 575 2 1083,kO 643 "add" "PairSet.add" 1086 579 3 1093,kO 657 "push_arguments" "push_arguments" 1106 585 3 1114,kO 664 "push_pairs" "push_pairs" 1117 589 4 1127,kO 671 "same_shape" "same_shape" 1130 594 3 1136,kO 678 "is_variable" "is_variable" 1139 600 1 1143,kO 685 "unify" "unify" 1146 602 4 1157,kO 692 "bind_checked" "bind_checked" 1161 626 4 1168,kO 699 "occurs_in" "occurs_in" 1171 631 3 1179,kO 714 "__init__" "Areas.__init__" 1202 652 6 1211,kO 721 "reset" "Areas.reset" 1214 660 1 1218,kO 728 "set_x" "Areas.set_x" 1221 675 3 1227,kO 735 "set_arguments" "Areas.set_arguments" 1230 680 2 1237,kO 742 "arg" "Areas.arg" 1240 686 2 1245,kO 749 "unify" "Areas.unify" 1248 689 3 1254,kO 756 "take" "Areas.take" 1257 692 2 1262,kO 763 "put" "Areas.put" 1265 695 2 1270,kO 868 "_law_pick" "_law_pick" 1400 741 2 1407,kO 875 "_law_tree" "_law_tree" 1410 752 3 1419,kP 880 "_law_full" "_law_full" 1422 766 2 1425,kO 887 "_law_error" "_law_error" 1428 772 3 1435,kO 894 "_law_value" "_law_value" 1438 777 3 1445,kO 901 "_law_told" "_law_told" 1448 782 3 1455,kO 908 "_law_side" "_law_side" 1458 788 3 1465,kP 913 "_law_counted" "_law_counted" 1468 797 4 1471,kP 918 "_law_one_lacks" "_law_one_lacks" 1474 823 6 1477,kO 925 "_law_is" "_law_is" 1480 830 1 1484,kP 930 "law" "law" 1487 832 1 1490]
noncomputable def KK (P:Params):Frag:=KB P++(fT.map fun x=>(x.1,x.2.obj))++KC
end
noncomputable abbrev pr:Program:=PySem.Challenge.pw_no0201_01
noncomputable def fP:Env:={scope:=pr.main.scope,locals:=mainNs,globals:=mainNs,cells:=[],code:=.ref 13,frame:=some 14}
noncomputable def bd:List Stmt:=behindTheImports pr
noncomputable abbrev V2:Pos:=⟨0,0,0,0⟩
noncomputable def Fv:Obj:={cls:=.type "tuple",data:=.seq #[]}
noncomputable def Fu:Obj:={cls:=.none,data:=.fields #[]}
noncomputable def Fx:Obj:={cls:=.type "code",data:=.fields #[.str ("<module>":Str) 182,.str ("<module>":Str) 183,.str ("/claim/cut.py":Str) 184,.int 1 0,.int 0 0,.int 0 0,.int 0 0,.int 0 0,.ref 11,.bool false,.int 181 0,.ref 12,.none,.none,.none,.none,.int 185 0,.int 1 0,.str ("/claim/cut.py":Str) 186]}
noncomputable def FC:Obj:={cls:=.type "frame",slots:=#[some (.ref 13),some (.ref 3),some (.ref 3),none,some (.str ("__main__":Str) 164),none,some (.ref 0)]}
noncomputable abbrev N1 (o:Obj):BT:=.node o .nil .nil
noncomputable def lF (P:Params):BT:=
 .node (boot_o_0 P) (.node (boot_o_1 P) (.node (boot_o_3 P) (N1 (boot_o_7 P)) (N1 Fv)) (.node (boot_o_5 P) (N1 (boot_o_9 P)) (N1 Fx))) (.node (boot_o_2 P) (.node (boot_o_4 P) (N1 (boot_o_8 P)) (N1 Fu)) (.node (boot_o_6 P) (N1 (boot_o_10 P)) (N1 FC)))
noncomputable def Ud:Code:=.body bd fP
noncomputable def fO:Str:=("law":Str)
noncomputable def qv:Program:=view pr [92]
noncomputable def YG:List Str:=pr.boundNames.filter fun n=> !(n==fO||startupNames.contains n)
noncomputable def Wt:List Addr:=[3,222,230,708,51,419,420,647,416,154,858,31,366,50,646,415,153,857,30,365,48,60,67,81,88,95,102,109,116,123,165,172,179,186,193,200,207,214,221,237,244,251,258,272,279,286,293,300,328,335,342,349,356,363,406,413,427,434,441,448,455,462,469,476,483,490,497,504,511,518,525,532,539,546,553,560,567,574,581,588,595,602,609,616,623,637,644,658,665,672,679,686,693,700,715,722,729,736,743,750,757,764,869,876,881,888,895,902,909,914,919,926,931,47,59,66,80,87,94,101,108,115,122,164,171,178,185,192,199,206,213,220,236,243,250,257,271,278,285,292,299,327,334,341,348,355,362,405,412,426,433,440,447,454,461,468,475,482,489,496,503,510,517,524,531,538,545,552,559,566,573,580,587,594,601,608,615,622,636,643,657,664,671,678,685,692,699,714,721,728,735,742,749,756,763,868,875,880,887,894,901,908,913,918,925,930]
noncomputable def lA (P:Params)(s:Shared):=(staticsOk (Fast.tw5923862056798008813 pr.main.body) (boot_heap P) s.heap&&namesBound pr s.heap&&gensDone s&&laidKept (boot_heap P) s.heap,
  Fast.tw4187177175401517315 qv YG (Fast.tw5923862056798008813 pr.main.body) (fun _=>true) true s,(Wt.take 90).map s.heap.get?)
noncomputable def ah (w:World)(os:OsState):=Fast.tw10110043849684766642 Fast.tw14364793385576792824 pr w 11 (some (.ref 6)) 1 5500 ⟨lF w.params,15,{},#[],{},187,os⟩ (piecesOf bd fP Ud V2 [topFrame V2])
noncomputable def oV {α:Type}(f:Shared->α)(w:World)(r:Flow×SharedT×Code×Pos):=(r.1,r.2.2.1,r.2.2.2,(Fast.tw14082659384304107361 Fast.tw14364793385576792824 pr w 11 (some (.ref 6)) 2 r.2.1.abs ⟨doneF .next,Ud,⟨832,0,885,73⟩,[topFrame V2]⟩).map f)
theorem Hl (w:World):(fun os=>(ah w os).map (oV (lA w.params) w))=fun os=>some (.next,Ud,⟨832,0,885,73⟩,some (true,openGood qv YG,((KK w.params).take 90).map fun p=>some p.2)):=by kernel_rfl
theorem HF (w:World):(fun os=>(ah w os).map (oV (fun s=>(Wt.drop 90).map s.heap.get?) w))=fun os=>some (.next,Ud,⟨832,0,885,73⟩,some (((KK w.params).drop 90).map fun p=>some p.2)):=by kernel_rfl
noncomputable def cI (P:Params):Heap:=⟨Array.mk [boot_o_0 P,boot_o_1 P,boot_o_2 P,boot_o_3 P,boot_o_4 P,boot_o_5 P,boot_o_6 P,boot_o_7 P,boot_o_8 P,boot_o_9 P,boot_o_10 P,Fv,Fu,Fx,FC],{}⟩
theorem Ie (w:World):(fun os=>topGo treeTable pr w 11 (some (.ref 6)) 12 ⟨boot_heap w.params,#[],boot_drawn,boot_toks,os⟩ (topStub pr))=fun os=>some (⟨cI w.params,#[],{},187,os⟩,⟨denote treeTable Ud,Ud,V2,[topFrame V2]⟩):=by rw[Fast.te15667345088766844465,Fast.te14364793385576792824,Fast.te11892475500146522536];kernel_rfl
theorem oH (w:World)(os:OsState):segRun treeTable pr w 11 (some (.ref 6)) 1 1 ⟨cI w.params,#[],{},187,os⟩ (blockOf bd fP Ud V2 [topFrame V2])=some (.next,(⟨lF w.params,15,{},#[],{},187,os⟩:SharedT).abs,Ud,V2):=by kernel_rfl
theorem A2 (w:World):((boot_heap w.params).isNs mainGlobals&&(#[]:Array GenState).size==0)=true/\(boot_heap w.params).objs.size=11/\(boot_heap w.params).nsMap mainGlobals "__annotations__"=some (.ref 6):=⟨by kernel_rfl,by kernel_rfl,by kernel_rfl⟩
theorem AW (w:World):(fencedOpening treeTable pr w 6200).map (fun s=>(s.heap,s.gens,s.drawn,s.toks))=some (boot_heap w.params,Array.mk [],boot_drawn,boot_toks):=
 boot_open (p:=pr) (N:=6200) (by kernel_rfl) (by decide) (fun s=>(by kernel_rfl)) w
theorem Hj (w:World)(os:OsState):∃ s,topRun treeTable pr w 11 (some (.ref 6)) 5515 ⟨boot_heap w.params,#[],boot_drawn,boot_toks,os⟩ (topStub pr)=some s/\lA w.params s=(true,openGood qv YG,((KK w.params).take 90).map fun p=>some p.2)/\(Wt.drop 90).map s.heap.get?=((KK w.params).drop 90).map fun p=>some p.2:=by have h:=congrFun (Hl w) os;obtain⟨⟨f,s',c,q⟩,h1,h2⟩:=Option.map_eq_some_iff.mp h;obtain⟨e1,h2⟩:=Prod.mk.inj h2;obtain⟨e2,h2⟩:=Prod.mk.inj h2;obtain⟨e3,h2⟩:=Prod.mk.inj h2;dsimp only at e1 e2 e3;subst e1 e2 e3;obtain⟨s,h3,h4⟩:=Option.map_eq_some_iff.mp h2;have u:(ah w os).map _=_:=congrFun (HF w) os;rw[h1] at u;have u:=(Prod.mk.inj (Prod.mk.inj (Prod.mk.inj (yd u)).2).2).2;rw[h3] at u;refine⟨s,?_,h4,yd u⟩;unfold ah at h1;rw[<-Fast.te10110043849684766642,<-Fast.te14364793385576792824] at h1;rw[<-Fast.te14082659384304107361,<-Fast.te14364793385576792824] at h3;have r:=piece_app (rest:=[]) (segRun_of h1) h3;rw[List.append_nil] at r;exact go_top (congrFun (Ie w) os) (piece_block (oH w os) r)
theorem mono0 {w:World}{os:OsState}{s:Shared}(r:topRun treeTable pr w 11 (some (.ref 6)) 5515 ⟨boot_heap w.params,#[],boot_drawn,boot_toks,os⟩ (topStub pr)=some s):topRun treeTable pr w 11 (some (.ref 6)) 6200 ⟨boot_heap w.params,Array.mk [],boot_drawn,boot_toks,os⟩ (topStub pr)=some s:=by have r:=topRun_mono 685 _ _ _ _ r;rw[show 5515+685=6200 from rfl] at r;exact r
theorem Hx {p:Program}{w:World}{N m:Nat}{an:Option Value}{sX s:Shared}(z1:(sX.heap.isNs mainGlobals&&sX.gens.size==0)=true)(z2:sX.heap.objs.size=m)(z3:sX.heap.nsMap mainGlobals "__annotations__"=an)(r:topRun treeTable p w m an N sX (topStub p)=some s) (l1:(staticsOk (importedModules p.main.body) sX.heap s.heap&&namesBound p s.heap&&gensDone s&&laidKept sX.heap s.heap)=true):topFrom treeTable p w N sX=some s:=by unfold topFrom;rw[z1,z2,z3,r];show(match staticsOk (importedModules p.main.body) sX.heap s.heap&&namesBound p s.heap&&gensDone s&&laidKept sX.heap s.heap with|true=>_|false=>_)=_;rw[l1]
theorem E5 {p q:Program}{loose:List Str}{Xt:Shared->Bool}{α:Type}{Yf:Shared->α}{Ya:World->α}{N:Nat}{w:World}{sX s:Shared}(e:fencedOpening treeTable p w N=some sX)(t:topFrom treeTable p w N sX=some s)(l2:openSeen q loose (importedModules p.main.body) Xt true s=openGood q loose)(l3:Yf s=Ya w): (openEnds treeTable p w N).map (fun s=>(openSeen q loose (importedModules p.main.body) Xt true s,Yf s))=some (openGood q loose,Ya w):=by unfold openEnds;rw[e];show(topFrom treeTable p w N _).map _=_;rw[t];exact congrArg some (Prod.ext l2 l3)
theorem BQ:LeftO pr qv YG (fun _=>true) (fun s=>Wt.map s.heap.get?) (fun w=>(KK w.params).map fun p=>some p.2) 6200:=fun w=>by
 obtain⟨⟨h,gs,d,k,os⟩,e,e'⟩:=Option.map_eq_some_iff.mp (AW w);obtain⟨rfl,rfl,rfl,rfl⟩:h=boot_heap w.params/\gs=Array.mk []/\d=boot_drawn/\k=boot_toks:=by simpa using e'
 obtain⟨z1,z2,z3⟩:=A2 w;obtain⟨s,r,hl,l4⟩:=Hj w os;obtain⟨l1,hl⟩:=Prod.mk.inj hl;obtain⟨l2,l3⟩:=Prod.mk.inj hl;rw[<-Fast.te5923862056798008813] at l1;rw[<-Fast.te4187177175401517315,<-Fast.te5923862056798008813] at l2;exact E5 (Yf:=fun s=>Wt.map s.heap.get?) (Ya:=fun w=>(KK w.params).map fun p=>some p.2) e (Hx z1 z2 z3 (mono0 r) l1) l2 (show Wt.map s.heap.get?=_ by rw[<-List.take_append_drop 90 Wt,List.map_append,l3,l4,<-List.map_append,List.take_append_drop])
theorem BG:looksOpen PySem.Challenge.rw_no0201_01.row.prog=true:=by rw[Fast.te12908688711261696721];kernel_rfl
theorem BK:PySem.Challenge.rw_no0201_01.row.wellSaid=true:=by unfold OpenRow.wellSaid OpenRow.partSaid;rw[BG];kernel_rfl
theorem t9:PySem.Challenge.rw_no0201_01.wellSaid=true:=by unfold OpenLaw.wellSaid;rw[BK,Fast.te8326940854005059898,Fast.te17119622794617984870];kernel_rfl
theorem ll:(defOf qv fO).isSome=true:=by kernel_rfl
noncomputable def XD:DefRec×List (Str×Expr):=(defOf qv fO).get ll
theorem Ig:defOf qv PySem.Challenge.rw_no0201_01.row.name=some (XD.1,XD.2):=(Option.some_get ll).symm
theorem Hh:PySem.Challenge.rw_no0201_01.row.prog.theDef PySem.Challenge.rw_no0201_01.row.name=some (XD.1.params,XD.1.body,XD.1.scope):=by kernel_rfl
theorem I1:kwWritten? XD.1.params.kwonlyargs XD.1.params.kw_defaults=some XD.2:=by kernel_rfl
theorem p9:(chainsOk qv&&opensWell PySem.Challenge.rw_no0201_01.row.prog&&(frees PySem.Challenge.rw_no0201_01.row.toRowW&&PySem.Challenge.rw_no0201_01.row.within.isEmpty))=true:=by kernel_rfl
theorem Fm (call:WalkO qv YG (fun _ _=>True) (InK KK) PySem.Challenge.rw_no0201_01.row.toRowW XD.1 XD.2 fun f vs=>PySem.call f vs):PySem.Challenge.rw_no0201_01.Holds:=
 PySem.W.holds_law t9 fun IH=>PySem.W.holds_open (r:=PySem.Challenge.rw_no0201_01.row) (Xt:=fun _=>true) (XP:=fun _ _=>True) (Yf:=fun s=>Wt.map s.heap.get?) (Ya:=fun w=>(KK w.params).map fun p=>some p.2) (YP:=InK KK) (N:=6200) BQ (InK.of (as:=Wt) fun _=>rfl) InK.keeps (fun _ _=>trivial) (fun _ _ _ _ _=>trivial) Ig Hh I1 (fun _ _=>recFacts_nil rfl) rfl IH p9 ⟨rfl,rfl,rfl,rfl,rfl,by decide+kernel⟩ ⟨[.list []],by decide+kernel,by decide+kernel⟩ call
section
set_option genInjectivity false
set_option genSizeOf false
set_option genCtorIdx false
noncomputable abbrev AH:=Id->Option MO
structure Gr where
 prog:Program
 w:World
 K:Frag
 B:Heap
 C:Addr
structure Gr.Ok (g:Gr):Prop where
 X:g.K.In g.B
 T:∃ p loose Ye mg mb,Top p loose Ye mg mb g.B
 seer:g.B.NoSeer
 tree:g.prog.given.tree=none
 mods:∃ o,g.B.get? sysModules=some o
def jq {K:Type}(θ:Nm)(h:Heap)(l:List (K×PV))(kvs:List (K×Value)):Prop:=kvs.map (·.1)=l.map (·.1)/\yb θ h (l.map (·.2)) (kvs.map (·.2))
def Zt (θ:Nm)(h:Heap):List (Str×PV)->List DictEntry->Prop|[],es=>es=[]|(x,p)::l,es=>∃ e r t,es=e::r/\e.key=.str x t/\Rd θ h p e.val/\Zt θ h l r
theorem Zt.mono {θ zl:Nm}{h h':Heap}(hn:zZ θ zl)(ht:∀ a items,IsTup h a items->IsTup h' a items):∀ (l:List (Str×PV)) (es:List DictEntry),Zt θ h l es->Zt zl h' l es|[],_,e=>e|(x,p)::l,_,⟨e,r,t,e1,e2,e3,e4⟩=>⟨e,r,t,e1,e2,Rd.mono hn ht _ _ e3,Zt.mono hn ht l r e4⟩
variable (g:Gr)
def w6 (θ:Nm)(h:Heap)(a:Addr):MO->Prop|.list l=>∃ items n,IsL h a items n/\yb θ h l items.toList|.dictI l=>∃ kvs,h.DictOf (intKind g.prog g.w) a kvs/\jq θ h l kvs|.dictS l=>∃ kvs,h.DictOf (strKind g.prog g.w) a kvs/\jq θ h l kvs|.dictT l=>∃ xs:List (List Int×Addr×Value),h.DictOfH (tupleKind (intKind g.prog g.w)) a xs/\jq θ h l (xs.map fun x=>(x.1,x.2.2))|.setI S n=>h.SetOf (intKind g.prog g.w) a S n|.inst C d=>∃ da sl,d.at θ=some da/\h.get? a=some ⟨.ref C,some da,.plain,sl⟩|.ns l=>∃ es n,h.get? a=some (dictOf es n)/\Zt θ h l es|.exc C d=>∃ od t,h.get? a=some ⟨.ref C,od,.fields #[.ref t,.none,.none,.none,.bool false,.none],#[]⟩/\(match d with|none=>od=none|some i=>∃ da,i.at θ=some da/\od=some da)
def wI (θ:Nm)(H:AH)(a:Addr):Prop:=∃ i mo,H i=some mo/\i.at θ=some a
noncomputable def zE (za:List Env):List Addr:=za.filterMap (·.frame)
structure HI (θ:Nm)(H:AH)(F:List Addr)(h:Heap):Prop where
 stays:g.B.StaysIn h
 rep:∀ i mo,H i=some mo->∃ a,i.at θ=some a/\g.B.get? a=none/\a∉F/\w6 g θ h a mo
 inj:∀ i j a,(H i).isSome->(H j).isSome->i.at θ=some a->j.at θ=some a->i=j
 named:∀ k,(θ k).isSome->(H (.nm k)).isSome
 frames:∀ b∈F,g.B.get? b=none/\∃ o es n,h.get? b=some o/\o.data=.dict es n
structure Go (F:List Addr)(S:Addr->Prop)(θ:Nm)(H:AH)(h:Heap)(zl:Nm)(H':AH)(h':Heap):Prop where
 inv:HI g zl H' F h'
 nm:zZ θ zl
 keep:∀ b o,h.get? b=some o->¬wI θ H b->¬S b->b∉F->h'.get? b=some o
 fram:∀ b o,h.get? b=some o->¬S b->b∈F->∃ sl,h'.get? b=some {o with slots:=sl}
 ex:∀ b o,h.get? b=some o->∃ o',h'.get? b=some o'
 dom:∀ b o,h.get? b=some o->wI zl H' b->wI θ H b
variable {g}
theorem w6.there {θ:Nm}{h:Heap}{a:Addr}{mo:MO}(r:w6 g θ h a mo):∃ o,h.get? a=some o/\(∀ items n,o.cls=.type "tuple"->o.data≠.seq items n):=by
 cases mo with
 |list l=>obtain⟨items,n,ho,_⟩:=r;exact⟨_,ho,fun _ _ e=>by simp at e⟩
 |dictI l=>obtain⟨kvs,⟨o,es,ep,ho,_,hd,_⟩,_⟩:=r;exact⟨o,ho,fun _ _ _ e=>by rw[hd] at e;cases e⟩
 |dictS l=>obtain⟨kvs,⟨o,es,ep,ho,_,hd,_⟩,_⟩:=r;exact⟨o,ho,fun _ _ _ e=>by rw[hd] at e;cases e⟩
 |dictT l=>obtain⟨xs,⟨o,es,ep,ho,_,hd,_⟩,_⟩:=r;exact⟨o,ho,fun _ _ _ e=>by rw[hd] at e;cases e⟩
 |setI S n=>obtain⟨o,es,ep,t,ho,_,hd,_⟩:=r;exact⟨o,ho,fun _ _ _ e=>by rw[hd] at e;cases e⟩
 |inst C d=>obtain⟨da,sl,_,ho⟩:=r;exact⟨_,ho,fun _ _ e=>by simp at e⟩
 |ns l=>obtain⟨es,n,ho,_⟩:=r;exact⟨_,ho,fun _ _ _ e=>by simp at e⟩
 |exc C d=>obtain⟨od,t,ho,_⟩:=r;exact⟨_,ho,fun _ _ e=>by simp at e⟩
theorem jq.mono {K:Type}{θ zl:Nm}{h h':Heap}(hn:zZ θ zl)(ht:∀ a items,IsTup h a items->IsTup h' a items){l:List (K×PV)}{kvs:List (K×Value)}(p:jq θ h l kvs):jq zl h' l kvs:=⟨p.1,yb.mono hn ht _ _ p.2⟩
theorem JL {h h':Heap}(ht:∀ a o items n,o.cls=.type "tuple"->o.data=.seq items n->h.get? a=some o->h'.get? a=some o){ks:List Int}{a:Addr}(x:IsTupleKey (intKind g.prog g.w) h ks a):IsTupleKey (intKind g.prog g.w) h' ks a:=by refine jI x fun o items n ho hc hd hi=>?_;clear x;exact⟨o,items,n,ht a o items n hc hd ho,hc,hd,hi⟩
def qX (h h':Heap):Prop:=∀ a o items n,o.cls=.type "tuple"->o.data=.seq items n->h.get? a=some o->h'.get? a=some o
theorem qX.isTup {h h':Heap}(k:qX h h'):∀ a items,IsTup h a items->IsTup h' a items:=fun a _ ⟨o,ho,hc,n,hd⟩=>⟨o,k a o _ n hc hd ho,hc,n,hd⟩
theorem w6.mono {θ zl:Nm}{h h':Heap}(hn:zZ θ zl)(ht:qX h h'){a:Addr}{mo:MO}(he:∀ o,h.get? a=some o->h'.get? a=some o)(r:w6 g θ h a mo):w6 g zl h' a mo:=by
 cases mo with
 |list l=>obtain⟨items,n,x,y⟩:=r;exact⟨items,n,he _ x,yb.mono hn ht.isTup _ _ y⟩
 |dictI l=>obtain⟨kvs,x,y⟩:=r;exact⟨kvs,x.at he,y.mono hn ht.isTup⟩
 |dictS l=>obtain⟨kvs,x,y⟩:=r;exact⟨kvs,x.at he,y.mono hn ht.isTup⟩
 |dictT l=>refine zg r fun xs qu y=>?_;clear r;obtain⟨o,es,ep,ho,hx,hd,e1,e2,e3⟩:=qu;exact⟨xs,⟨o,es,ep,he _ ho,hx,hd,e1,fun x hx=>JL ht (e2 x hx),e3⟩,y.mono hn ht.isTup⟩
 |setI S n=>obtain⟨o,es,ep,t,ho,x⟩:=r;exact⟨o,es,ep,t,he _ ho,x⟩
 |inst C d=>obtain⟨da,sl,x,ho⟩:=r;exact⟨da,sl,Id.at_le hn x,he _ ho⟩
 |ns l=>obtain⟨es,n,ho,x⟩:=r;exact⟨es,n,he _ ho,x.mono hn ht.isTup⟩
 |exc C d=>
  refine yE r fun od t ho z=>?_;clear r;refine⟨od,t,he _ ho,?_⟩;cases d with
  |none=>exact z|some i=>obtain⟨da,z1,z2⟩:=z;exact⟨da,Id.at_le hn z1,z2⟩
theorem Go.tupK {F:List Addr}{S:Addr->Prop}{θ zl:Nm}{H H':AH}{h h':Heap}(I:HI g θ H F h)(G:Go g F S θ H h zl H' h')(hS:∀ b o items n,S b->h.get? b=some o->o.data≠.seq items n):qX h h':=by
 intro a o items n hc hd ho;have nF:a∉F:=by intro hm;refine a2 (I.frames a hm) fun _ zz=>?_;refine vW zz fun o' es n' yg xi=>?_;rw[ho] at yg;cases yg;rw[hd] at xi;cases xi
 refine G.keep a o ho ?_ (fun s=>hS a o items n s ho hd) nF;intro zq;refine yE zq fun i mo hi ha=>?_;clear zq;refine xI (I.rep i mo hi) fun a' we _ _ r=>?_;rw[ha] at we;obtain rfl:=yd we;refine zg r.there fun o' yg x=>?_;rw[ho] at yg;obtain rfl:=yd yg;exact x items n hc hd
theorem Go.rdS {F:List Addr}{S:Addr->Prop}{θ zl:Nm}{H H':AH}{h h':Heap}(I:HI g θ H F h)(G:Go g F S θ H h zl H' h')(hS:∀ b o items n,S b->h.get? b=some o->o.data≠.seq items n){p:PV}{v:Value}(r:Rd θ h p v):Rd zl h' p v:=Rd.mono G.nm (G.tupK I hS).isTup p v r
abbrev yB:Addr->Prop:=fun _=>False
theorem Go.rd {F:List Addr}{θ zl:Nm}{H H':AH}{h h':Heap}(I:HI g θ H F h)(G:Go g F yB θ H h zl H' h'){p:PV}{v:Value}(r:Rd θ h p v):Rd zl h' p v:=G.rdS I (fun _ _ _ _ f=>f.elim) r
theorem Go.rds {F:List Addr}{θ zl:Nm}{H H':AH}{h h':Heap}(I:HI g θ H F h)(G:Go g F yB θ H h zl H' h'){p:List PV}{v:List Value}(r:yb θ h p v):yb zl h' p v:=yb.mono G.nm (G.tupK I (fun _ _ _ _ f=>f.elim)).isTup p v r
theorem Go.refl {F:List Addr}{S:Addr->Prop}{θ:Nm}{H:AH}{h:Heap}(I:HI g θ H F h):Go g F S θ H h θ H h:=⟨I,zZ.refl θ,fun _ _ e _ _ _=>e,fun _ o e _ _=>⟨o.slots,e⟩,fun _ o e=>⟨o,e⟩,fun _ _ _ d=>d⟩
theorem Go.trans {F:List Addr}{S:Addr->Prop}{θZ θY θW:Nm}{HZ H2_ HW:AH}{hZ hY h3_:Heap}(x:Go g F S θZ HZ hZ θY H2_ hY)(y:Go g F S θY H2_ hY θW HW h3_):Go g F S θZ HZ hZ θW HW h3_:=by
 refine⟨y.inv,x.nm.trans y.nm,fun b o e nd ns nF=>?_,fun b o e ns hF=>?_,fun b o e=>?_,fun b o e d=>?_⟩
 .exact y.keep b o (x.keep b o e nd ns nF) (fun d=>nd (x.dom b o e d)) ns nF
 .refine zA (x.fram b o e ns hF) fun sl e1=>?_;refine zA (y.fram b _ e1 ns hF) fun fm e2=>?_;exact⟨fm,e2⟩
 .refine zA (x.ex b o e) fun o1 e1=>?_;exact y.ex b o1 e1
 .refine zA (x.ex b o e) fun o1 e1=>?_;exact x.dom b o e (y.dom b o1 e1 d)
theorem Go.mono {F:List Addr}{S S':Addr->Prop}{θZ θY:Nm}{HZ H2_:AH}{hZ hY:Heap}(x:Go g F S θZ HZ hZ θY H2_ hY)(hS:∀ b,S b->S' b):Go g F S' θZ HZ hZ θY H2_ hY:=⟨x.inv,x.nm,fun b o e nd ns=>x.keep b o e nd fun s=>ns (hS b s),fun b o e ns=>x.fram b o e fun s=>ns (hS b s),x.ex,x.dom⟩
theorem Go.ext {F:List Addr}{S:Addr->Prop}{θ:Nm}{H:AH}{h h':Heap}(I:HI g θ H F h)(k:∀ b o,h.get? b=some o->h'.get? b=some o):Go g F S θ H h θ H h':=by
 refine⟨⟨fun b o e=>k b o (I.stays b o e),fun i mo hi=>?_,I.inj,I.named,fun b hb=>?_⟩,zZ.refl θ,fun b o e _ _ _=>k b o e,fun b o e _ _=>⟨o.slots,k b o e⟩,fun b o e=>⟨o,k b o e⟩,fun _ _ _ d=>d⟩
 .refine xI (I.rep i mo hi) fun a e1 e2 e3 r=>?_;exact⟨a,e1,e2,e3,r.mono (zZ.refl θ) (fun a o _ _ _ _=>k a o) (fun o=>k a o)⟩
 .refine a2 (I.frames b hb) fun e1 zz=>?_;refine vW zz fun o es n e2 e3=>?_;exact⟨e1,o,es,n,k _ _ e2,e3⟩
noncomputable def AH.upd (H:AH)(i:Id)(mo:MO):AH:=fun j=>if j=i then some mo else H j
noncomputable def AH.del (H:AH)(i:Id):AH:=fun j=>if j=i then none else H j
@[simp] theorem AH.upd_same (H:AH) (i:Id) (mo:MO):H.upd i mo i=some mo:=by simp[AH.upd]
theorem AH.upd_ne (H:AH)(mo:MO)(h:j≠i):H.upd i mo j=H j:=by simp[AH.upd,h]
theorem HI.del (I:HI g θ H F h)(a:Addr):HI g θ (H.del (.an a)) F h:=by
 refine⟨I.stays,fun i mo hi=>?_,fun i j b hi hj=>?_,fun k hk=>?_,I.frames⟩
 .unfold AH.del at hi;split at hi
  .exact zJ hi
  .exact I.rep i mo hi
 .unfold AH.del at hi hj;split at hi
  .exact zU hi
  .split at hj
   .exact zU hj
   .exact I.inj i j b hi hj
 .unfold AH.del;rw[if_neg (by simp)];exact I.named k hk
theorem Go.del (I:HI g θ H F h)(a:Addr):Go g F S θ H h θ (H.del (.an a)) h:=⟨I.del a,zZ.refl θ,fun _ _ e _ _ _=>e,fun _ o e _ _=>⟨o.slots,e⟩,fun _ o e=>⟨o,e⟩,fun _ _ _ ⟨i,mo,hi,ha⟩=>by
  unfold AH.del at hi;split at hi
  .exact zJ hi
  .exact⟨i,mo,hi,ha⟩⟩
theorem Go.upd (I:HI g θ H F h)(hi:H i=some mo)(ha:i.at θ=some a)(k:∀ b o,b≠a->h.get? b=some o->h'.get? b=some o) (r:w6 g θ h' a mo'):Go g F S θ H h θ (H.upd i mo') h':=by
 refine xI (I.rep i mo hi) fun a' we hB hF r0=>?_;rw[ha] at we;obtain rfl:=yd we;have tk:qX h h':=by intro b o items n hc hd ho;refine k b o (fun e=>?_) ho;subst e;refine zg r0.there fun o' yg x=>?_;rw[ho] at yg;obtain rfl:=yd yg;exact x items n hc hd
 refine⟨⟨fun b o e=>k b o (fun q=>by rw[q,hB] at e;cases e) (I.stays b o e),fun j m hj=>?_,fun j1 j2 b h1 h2=>?_,fun n hn=>?_,fun b hb=>?_⟩,zZ.refl θ,fun b o e nd _ _=>k b o (fun q=>nd (q▸⟨i,mo,hi,ha⟩)) e,fun b o e _ hb=>⟨o.slots,k b o (fun q=>hF (q▸hb)) e⟩,fun b o e=>?_,fun b o e d=>?_⟩
 .unfold AH.upd at hj;by_cases q:j=i
  .rw[if_pos q] at hj;cases hj;subst q;exact⟨a,ha,hB,hF,r⟩
  .rw[if_neg q] at hj;refine xI (I.rep j m hj) fun b e1 e2 e3 rb=>?_;refine⟨b,e1,e2,e3,rb.mono (zZ.refl θ) tk fun o ho=>k b o (fun z=>q ?_) ho⟩;exact I.inj j i a (by rw[hj];rfl) (by rw[hi];rfl) (z▸e1) ha
 .refine I.inj j1 j2 b ?_ ?_
  .unfold AH.upd at h1;split at h1
   .rename_i q;subst q;rw[hi];rfl
   .exact h1
  .unfold AH.upd at h2;split at h2
   .rename_i q;subst q;rw[hi];rfl
   .exact h2
 .unfold AH.upd;split
  .rfl
  .exact I.named n hn
 .refine a2 (I.frames b hb) fun e1 zz=>?_;refine vW zz fun o es n e2 e3=>?_;exact⟨e1,o,es,n,k _ _ (fun q=>hF (q▸hb)) e2,e3⟩
 .by_cases q:b=a
  .refine zg r.there fun o' yg _=>?_;exact⟨o',q▸yg⟩
  .exact⟨o,k b o q e⟩
 .refine yE d fun j m hj hb=>?_;clear d;unfold AH.upd at hj;split at hj
  .rename_i q;subst q;exact⟨j,mo,hi,hb⟩
  .exact⟨j,m,hj,hb⟩
theorem Go.newA (I:HI g θ H F h)(hn:h.get? a=none)(k:∀ b o,h.get? b=some o->h'.get? b=some o) (r:w6 g θ h' a mo):Go g F S θ H h θ (H.upd (.an a) mo) h'/\H (.an a)=none:=by
 have E:=Go.ext (S:=S) I k;have fresh:∀ i,(H i).isSome->i.at θ≠some a:=by intro i hi e;refine zA (Yi hi) fun mo hm=>?_;refine xI (I.rep i mo hm) fun a' e1 _ _ r=>?_;rw[e] at e1;obtain rfl:=yd e1;refine zg r.there fun o ho _=>?_;rw[hn] at ho;exact zJ ho
 have Mb:H (.an a)=none:=by cases q:H (.an a) with|none=>rfl|some m=>exact absurd rfl (fresh (.an a) (by rw[q];rfl))
 refine⟨⟨⟨E.inv.stays,fun j m hj=>?_,fun j1 j2 b h1 h2 e1 e2=>?_,fun n hk=>?_,E.inv.frames⟩,zZ.refl θ,fun b o e _ _ _=>k b o e,fun b o e _ _=>⟨o.slots,k b o e⟩,E.ex,fun b o e d=>?_⟩,Mb⟩
 .unfold AH.upd at hj;by_cases q:j=.an a
  .rw[if_pos q] at hj;cases hj;subst q;refine⟨a,rfl,?_,?_,r⟩
   .cases qb:g.B.get? a with|none=>rfl|some o=>have:=I.stays a o qb;rw[hn] at this;exact zJ this
   .intro hm;refine a2 (I.frames a hm) fun _ zz=>?_;refine vW zz fun o _ _ ho _=>?_;rw[hn] at ho;exact zJ ho
  .rw[if_neg q] at hj;exact E.inv.rep j m hj
 .unfold AH.upd at h1 h2;by_cases q1:j1=.an a
  .by_cases q2:j2=.an a
   .rw[q1,q2]
   .rw[if_neg q2] at h2;subst q1;have:b=a:=yd e1.symm;subst this;exact absurd e2 (fresh j2 h2)
  .rw[if_neg q1] at h1;by_cases q2:j2=.an a
   .subst q2;have:b=a:=yd e2.symm;subst this;exact absurd e1 (fresh j1 h1)
   .rw[if_neg q2] at h2;exact I.inj j1 j2 b h1 h2 e1 e2
 .unfold AH.upd;rw[if_neg (by simp)];exact I.named n hk
 .refine yE d fun j m hj hb=>?_;clear d;unfold AH.upd at hj;split at hj
  .rename_i q;subst q;have:b=a:=yd hb.symm;subst this;rw[hn] at e;exact zJ e
  .exact⟨j,m,hj,hb⟩
theorem Go.newN (I:HI g θ H F h)(hH:H (.nm n)=none)(hn:h.get? a=none)(k:∀ b o,h.get? b=some o->h'.get? b=some o) (r:w6 g (fun m=>if m=n then some a else θ m) h' a mo):Go g F S θ H h (fun m=>if m=n then some a else θ m) (H.upd (.nm n) mo) h':=by
 have E:=Go.ext (S:=S) I k;have ID:θ n=none:=by cases q:θ n with|none=>rfl|some b=>have:=I.named n (by rw[q];rfl);rw[hH] at this;exact zU this
 have le:zZ θ (fun m=>if m=n then some a else θ m):=by
  intro m b e;by_cases q:m=n
  .subst q;rw[ID] at e;exact zJ e
  .simp[q,e]
 have back:∀ i b,(H i).isSome->i.at (fun m=>if m=n then some a else θ m)=some b->i.at θ=some b:=by
  intro i b hi e;cases i with
  |an x=>exact e|nm m=>
   simp only[Id.at] at e;by_cases q:m=n
   .subst q;rw[hH] at hi;exact zU hi
   .rw[if_neg q] at e;exact e
 have fresh:∀ i,(H i).isSome->i.at θ≠some a:=by intro i hi e;refine zA (Yi hi) fun mo hm=>?_;refine xI (I.rep i mo hm) fun a' e1 _ _ r=>?_;rw[e] at e1;obtain rfl:=yd e1;refine zg r.there fun o ho _=>?_;rw[hn] at ho;exact zJ ho
 have Yc:Id.at (fun m=>if m=n then some a else θ m) (.nm n)=some a:=by simp[Id.at]
 refine⟨⟨E.inv.stays,fun j m hj=>?_,fun j1 j2 b h1 h2 e1 e2=>?_,fun m hk=>?_,E.inv.frames⟩,le,fun b o e _ _ _=>k b o e,fun b o e _ _=>⟨o.slots,k b o e⟩,E.ex,fun b o e d=>?_⟩
 .unfold AH.upd at hj;by_cases q:j=.nm n
  .rw[if_pos q] at hj;cases hj;subst q;refine⟨a,Yc,?_,?_,r⟩
   .cases qb:g.B.get? a with|none=>rfl|some o=>have:=I.stays a o qb;rw[hn] at this;exact zJ this
   .intro hm;refine a2 (I.frames a hm) fun _ zz=>?_;refine vW zz fun o _ _ ho _=>?_;rw[hn] at ho;exact zJ ho
  .rw[if_neg q] at hj;refine xI (E.inv.rep j m hj) fun b e1 e2 e3 rb=>?_;exact⟨b,Id.at_le le e1,e2,e3,rb.mono le (fun _ _ _ _ _ _ e=>e) fun _ e=>e⟩
 .unfold AH.upd at h1 h2;by_cases q1:j1=.nm n
  .by_cases q2:j2=.nm n
   .rw[q1,q2]
   .rw[if_neg q2] at h2;subst q1;rw[Yc] at e1;obtain rfl:=yd e1;exact absurd (back j2 _ h2 e2) (fresh j2 h2)
  .rw[if_neg q1] at h1;by_cases q2:j2=.nm n
   .subst q2;rw[Yc] at e2;obtain rfl:=yd e2;exact absurd (back j1 _ h1 e1) (fresh j1 h1)
   .rw[if_neg q2] at h2;exact I.inj j1 j2 b h1 h2 (back j1 b h1 e1) (back j2 b h2 e2)
 .unfold AH.upd;by_cases q:m=n
  .simp[q]
  .rw[if_neg (by simpa using q)];refine I.named m ?_;simp only[if_neg q] at hk;exact hk
 .refine yE d fun j m hj hb=>?_;clear d;unfold AH.upd at hj;split at hj
  .rename_i q;subst q;rw[Yc] at hb;obtain rfl:=yd hb;rw[hn] at e;exact zJ e
  .exact⟨j,m,hj,back j b (by rw[hj];rfl) hb⟩
end
section
set_option genInjectivity false
set_option genSizeOf false
set_option genCtorIdx false
noncomputable abbrev zS:=List (Str×PV)
noncomputable def zS.get (ρ:zS)(x:Str):Option PV:=ρ.lookup x
noncomputable def zS.put (ρ:zS)(x:Str)(p:PV):zS:=match ρ with
 |[]=>[(x,p)]|(y,q)::r=>if x=y then(x,p)::r else(y,q)::zS.put r x p
theorem zS.get_put (ρ:zS)(x:Str)(p:PV)(y:Str):(ρ.put x p).get y=if y=x then some p else ρ.get y:=by
 induction ρ with
 |nil=>
  unfold zS.put zS.get;by_cases h:y=x
  .subst h;simp
  .have:(y==x)=false:=by simpa using h
   simp[List.lookup,this,h]
 |cons z r ih=>
  obtain⟨z,q⟩:=z;unfold zS.put;by_cases h:x=z
  .subst h;rw[if_pos rfl];unfold zS.get;by_cases hy:y=x
   .subst hy;simp
   .have:(y==x)=false:=by simpa using hy
    simp[List.lookup,this,hy]
  .rw[if_neg h];unfold zS.get at ih|-;by_cases hy:y=z
   .subst hy;have:¬y=x:=fun e=>h e.symm;simp[List.lookup,this]
   .have:(y==z)=false:=by simpa using hy
    simp only[List.lookup,this];exact ih
variable (g:Gr)
structure LI (θ:Nm)(H:AH)(F:List Addr)(env:Env)(ρ:zS)(h:Heap):Prop where
 newL:g.B.get? env.locals=none
 ndL:¬wI θ H env.locals
 ns:∃ m,h.Ns env.locals m/\∀ x p,ρ.get x=some p->env.kindOf x=some .local->∃ v,m x=some v/\Rd θ h p v
 cells:∀ x a,env.cells.lookup x=some a->g.B.get? a=none/\¬wI θ H a/\a∉F/\∃ o ov,h.get? a=some o/\o.data=.cell ov/\ ∀ p,ρ.get x=some p->env.kindOf x=some .cell\/env.kindOf x=some .free->∃ v,ov=some v/\Rd θ h p v
 apart:∀ x y a,env.cells.lookup x=some a->env.cells.lookup y=some a->x=y
def xX (env:Env)(b:Addr):Prop:=b=env.locals\/∃ x,env.cells.lookup x=some b
structure CI (A:Around)(d:Nat)(za:List Env):Prop where
 ok:g.Ok
 handled:A.handled=none
 depth:A.depth+4*d<=890
 units:A.units+60*d<=9800
 frames:A.frames=some za
 kinds:∀ env∈za,env.scope.kind≠.module/\(∃ L,env.frame=some L)/\env.scope.isGenerator=false/\env.scope.isCoroutine=false/\env.builtins=builtinsNs/\env.globals=mainGlobals
 ne:za≠[]
structure wh (c:Scope)(env zb:Env):Prop where
 scope:env.scope=c
 fn:c.kind=.function
 globals:env.globals=mainGlobals
 builtins:env.builtins=builtinsNs
 frame:env.frame=zb.frame
 cells:∀ x,c.names.lookup x=some .cell\/c.names.lookup x=some .free->∃ a,env.cells.lookup x=some a
def V4 (h₀:Heap)(θ:Nm)(H:AH)(h:Heap)(e:Value)(p:PV):Prop:=∃ a vs sl da es n bt,e=.ref a/\¬wI θ H a/\h₀.get? a=none/\h.get? a=some ⟨.ref g.C,some da,.fields vs,sl⟩/\vs.size=6/\
  h₀.get? da=none/\h.get? da=some (dictOf es n)/\getL "ball" es=some (some bt)/\Rd θ h p bt/\
  (vs[1]?=some .none\/∃ T oT ts,vs[1]?=some (.ref T)/\T≠a/\h₀.get? T=none/\h.get? T=some oT/\oT.cls=.type "traceback"/\oT.data=.fields ts/\3<ts.size)
def XE (F:List Addr)(θ:Nm)(H:AH)(s:Shared)(Q:PV->AH->Prop)(Qc:Value->Shared->Prop):Prop:=∀ v p zl H' h' tk,Q p H'->Go g F yB θ H s.heap zl H' h'->Rd zl h' p v->Qc v {s with heap:=h',toks:=tk}
def vJ (F:List Addr)(S:Addr->Prop)(θ:Nm)(H:AH)(s:Shared)(X:PV->AH->Prop)(Ec:Value->Shared->Prop):Prop:=∀ e p zl H' h' tk,X p H'->Go g F S θ H s.heap zl H' h'->V4 g s.heap zl H' h' e p->Ec e {s with heap:=h',toks:=tk}
inductive jy where|next (ρ:zS) (H:AH)|cont (ρ:zS) (H:AH)|brk (ρ:zS) (H:AH)|ret (p:PV) (H:AH)
structure Y7 (F:List Addr)(env:Env)(θ:Nm)(H:AH)(s:Shared)(Q:jy->Prop)(Qc:Flow->Shared->Prop):Prop where
 next:∀ zO zl H' h' tk,Q (.next zO H')->Go g F (xX env) θ H s.heap zl H' h'->LI g zl H' F env zO h'->Qc .next {s with heap:=h',toks:=tk}
 cont:∀ zO zl H' h' tk,Q (.cont zO H')->Go g F (xX env) θ H s.heap zl H' h'->LI g zl H' F env zO h'->Qc .cont {s with heap:=h',toks:=tk}
 brk:∀ zO zl H' h' tk,Q (.brk zO H')->Go g F (xX env) θ H s.heap zl H' h'->LI g zl H' F env zO h'->Qc .brk {s with heap:=h',toks:=tk}
 ret:∀ v p zl H' h' tk,Q (.ret p H')->Go g F (xX env) θ H s.heap zl H' h'->Rd zl h' p v->Qc (.ret v) {s with heap:=h',toks:=tk}
def z_ (d:Nat)(c:Scope)(ρ:zS)(H:AH)(e:Expr)(Q X:PV->AH->Prop):Prop:=∀ (A:Around) (env zb:Env) (za:List Env) (θ:Nm) (s:Shared) (Qc Ec:Value->Shared->Prop),
  CI g A d (zb::za)->wh c env zb->HI g θ H (zE (zb::za)) s.heap->LI g θ H (zE (zb::za)) env ρ s.heap->
  XE g (zE (zb::za)) θ H s Q Qc->vJ g (zE (zb::za)) yB θ H s X Ec->wpAny (model g.prog g.w) A (eval e env) Qc Ec s
def HH (F:List Addr)(θ:Nm)(H:AH)(s:Shared)(Q:List PV->AH->Prop)(Qc:List Value->Shared->Prop):Prop:=∀ v p zl H' h' tk,Q p H'->Go g F yB θ H s.heap zl H' h'->yb zl h' p v->Qc v {s with heap:=h',toks:=tk}
def u5 (d:Nat)(c:Scope)(ρ:zS)(H:AH)(es:List Expr)(Q:List PV->AH->Prop)(X:PV->AH->Prop):Prop:=∀ (A:Around) (env zb:Env) (za:List Env) (θ:Nm) (s:Shared) (Qc:List Value->Shared->Prop) (Ec:Value->Shared->Prop) (pos:Pos),
  CI g A d (zb::za)->wh c env zb->HI g θ H (zE (zb::za)) s.heap->LI g θ H (zE (zb::za)) env ρ s.heap->
  HH g (zE (zb::za)) θ H s Q Qc->vJ g (zE (zb::za)) yB θ H s X Ec->wpAny (model g.prog g.w) A (spliced (backTo pos (starEach es env))) Qc Ec s
def cW (F:List Addr)(θ:Nm)(H:AH)(s:Shared)(Q:Bool->AH->Prop)(Qc:Bool->Shared->Prop):Prop:=∀ b zl H' h' tk,Q b H'->Go g F yB θ H s.heap zl H' h'->Qc b {s with heap:=h',toks:=tk}
def kM (d:Nat)(c:Scope)(ρ:zS)(H:AH)(e:Expr)(Q:Bool->AH->Prop)(X:PV->AH->Prop):Prop:=∀ (A:Around) (env zb:Env) (za:List Env) (θ:Nm) (s:Shared) (Qc:Bool->Shared->Prop) (Ec:Value->Shared->Prop),
  CI g A d (zb::za)->wh c env zb->HI g θ H (zE (zb::za)) s.heap->LI g θ H (zE (zb::za)) env ρ s.heap->
  cW g (zE (zb::za)) θ H s Q Qc->vJ g (zE (zb::za)) yB θ H s X Ec->wpAny (model g.prog g.w) A (isTrue e env (eval e env)) Qc Ec s
def uS (d:Nat)(c:Scope)(ρ:zS)(H:AH)(b:List Stmt)(Q:jy->Prop)(X:PV->AH->Prop):Prop:=∀ (A:Around) (env zb:Env) (za:List Env) (θ:Nm) (s:Shared) (Qc:Flow->Shared->Prop) (Ec:Value->Shared->Prop),
  CI g A d (zb::za)->wh c env zb->HI g θ H (zE (zb::za)) s.heap->LI g θ H (zE (zb::za)) env ρ s.heap->
  Y7 g (zE (zb::za)) env θ H s Q Qc->vJ g (zE (zb::za)) (xX env) θ H s X Ec->wpAny (model g.prog g.w) A (execs b env) Qc Ec s
def wR (d:Nat)(c:Scope)(ρ:zS)(H:AH)(b:Stmt)(Q:jy->Prop)(X:PV->AH->Prop):Prop:=∀ (A:Around) (env zb:Env) (za:List Env) (θ:Nm) (s:Shared) (Qc:Flow->Shared->Prop) (Ec:Value->Shared->Prop),
  CI g A d (zb::za)->wh c env zb->HI g θ H (zE (zb::za)) s.heap->LI g θ H (zE (zb::za)) env ρ s.heap->
  Y7 g (zE (zb::za)) env θ H s Q Qc->vJ g (zE (zb::za)) (xX env) θ H s X Ec->wpAny (model g.prog g.w) A (exec b env) Qc Ec s
def zh (d:Nat)(H:AH)(ps:List PV)(t:List Value->Sem Value)(Q X:PV->AH->Prop):Prop:=∀ (A:Around) (za:List Env) (θ:Nm) (s:Shared) (vs:List Value) (Qc Ec:Value->Shared->Prop),
  CI g A d za->HI g θ H (zE za) s.heap->yb θ s.heap ps vs->
  XE g (zE za) θ H s Q Qc->vJ g (zE za) yB θ H s X Ec->wpAny (model g.prog g.w) A (t vs) Qc Ec s
variable {g}
theorem V4.back (x:V4 g hZ θ H h e p)(k:∀ b o,h₀.get? b=some o->∃ o',hZ.get? b=some o'):V4 g h₀ θ H h e p:=by
 have no:∀ b,hZ.get? b=none->h₀.get? b=none:=fun b q=>by
  cases r:h₀.get? b with
  |none=>rfl|some o=>obtain⟨o',z⟩:=k b o r;rw[q] at z;exact zJ z
 refine iU x fun a vs sl da es n bt e1 vL e2 e3 e4 e5 e6 e7 e8 e9=>?_;clear x;refine⟨a,vs,sl,da,es,n,bt,e1,vL,no _ e2,e3,e4,no _ e5,e6,e7,e8,?_⟩;rcases e9 with q|⟨T,oT,ts,q1,q2,q3,q4⟩
 .exact .inl q
 .exact .inr ⟨T,oT,ts,q1,q2,no _ q3,q4⟩
section
variable {F:List Addr} {θ θZ:Nm} {H HZ:AH} {s:Shared} {hZ:Heap} {tkZ:Nat} {Q X:PV->AH->Prop} {Qc Ec:Value->Shared->Prop}
theorem XE.after (k:XE g F θ H s Q Qc)(G:Go g F yB θ H s.heap θZ HZ hZ):XE g F θZ HZ {s with heap:=hZ,toks:=tkZ} Q Qc:=fun v p zl H' h' tk q G' r=>k v p zl H' h' tk q (G.trans G') r
theorem cW.after {Q:Bool->AH->Prop}{Qc:Bool->Shared->Prop}(k:cW g F θ H s Q Qc)(G:Go g F yB θ H s.heap θZ HZ hZ):cW g F θZ HZ {s with heap:=hZ,toks:=tkZ} Q Qc:=fun v zl H' h' tk q G'=>k v zl H' h' tk q (G.trans G')
theorem vJ.after (k:vJ g F S θ H s X Ec)(G:Go g F S θ H s.heap θZ HZ hZ):vJ g F S θZ HZ {s with heap:=hZ,toks:=tkZ} X Ec:=fun e p zl H' h' tk q G' r=>k e p zl H' h' tk q (G.trans G') (r.back G.ex)
theorem Y7.after {Q:jy->Prop}{Qc:Flow->Shared->Prop}(k:Y7 g F env θ H s Q Qc)(G:Go g F (xX env) θ H s.heap θZ HZ hZ):Y7 g F env θZ HZ {s with heap:=hZ,toks:=tkZ} Q Qc:=⟨fun zO zl H' h' tk q G' r=>k.next zO zl H' h' tk q (G.trans G') r,fun zO zl H' h' tk q G' r=>k.cont zO zl H' h' tk q (G.trans G') r,fun zO zl H' h' tk q G' r=>k.brk zO zl H' h' tk q (G.trans G') r,fun v p zl H' h' tk q G' r=>k.ret v p zl H' h' tk q (G.trans G') r⟩
theorem vJ.mono (k:vJ g F S' θ H s X Ec)(hS:∀ b,S b->S' b):vJ g F S θ H s X Ec:=fun e p zl H' h' tk q G' r=>k e p zl H' h' tk q (G'.mono hS) r
theorem vJ.none (k:vJ g F S θ H s X Ec):vJ g F yB θ H s X Ec:=k.mono fun _ f=>f.elim
end
theorem LI.go (l:LI g θ H F env ρ h)(I:HI g θ H F h)(G:Go g F yB θ H h zl H' h'):LI g zl H' F env ρ h':=by
 refine zg l.ns fun m hn hm=>?_;refine wo hn fun o es ep ho hd r=>?_;clear hn;refine⟨l.newL,fun d=>l.ndL (G.dom _ o ho d),⟨m,?_,fun x p e k=>?_⟩,fun x a e=>?_,l.apart⟩
 .by_cases hF:env.locals∈F
  .refine zA (G.fram _ o ho (fun f=>f.elim) hF) fun sl e=>?_;exact⟨_,es,ep,e,hd,r⟩
  .exact⟨o,es,ep,G.keep _ o ho l.ndL (fun f=>f.elim) hF,hd,r⟩
 .refine zg (hm x p e k) fun v e1 e2=>?_;exact⟨v,e1,G.rd I e2⟩
 .refine a4 (l.cells x a e) fun e1 e2 e3 zz=>?_;refine zB zz fun o ov e4 e5 e6=>?_;refine⟨e1,fun d=>e2 (G.dom _ o e4 d),e3,o,ov,G.keep _ o e4 e2 (fun f=>f.elim) e3,e5,fun p q k=>?_⟩;refine zg (e6 p q k) fun v z1 z2=>?_;exact⟨v,z1,G.rd I z2⟩
theorem LI.le (l:LI g θ H F env ρ h)(k:∀ x p,σ.get x=some p->ρ.get x=some p):LI g θ H F env σ h:=by refine zg l.ns fun m hn hm=>?_;refine⟨l.newL,l.ndL,⟨m,hn,fun x p e=>hm x p (k x p e)⟩,fun x a e=>?_,l.apart⟩;refine a4 (l.cells x a e) fun e1 e2 e3 zz=>?_;refine zB zz fun o ov e4 e5 e6=>?_;exact⟨e1,e2,e3,o,ov,e4,e5,fun p q=>e6 p (k x p q)⟩
theorem LI.own (l:LI g θ H F env ρ h):∀ b o items n,xX env b->h.get? b=some o->o.data≠.seq items n:=by
 intro b o items n hb ho e;rcases hb with rfl|⟨x,hx⟩
 .refine zg l.ns fun m qu _=>?_;obtain⟨o',es,ep,yg,hd,_⟩:=qu;rw[ho] at yg;cases yg;rw[hd] at e;cases e
 .refine a4 (l.cells x b hx) fun _ _ _ zz=>?_;refine zB zz fun o' ov e4 e5 _=>?_;rw[ho] at e4;cases e4;rw[e5] at e;cases e
noncomputable abbrev cZ (a:Addr)(vs:List Value):Sem Value:=call (.ref a) vs
end
section
variable {g:Gr} {d:Nat} {c:Scope} {ρ:zS} {H:AH} {Q X:PV->AH->Prop}
noncomputable abbrev t1 (f:Value->Sem Value):List Value->Sem Value:=fun vs=>match vs with|[a]=>f a|_=>pure .none
noncomputable abbrev t2 (f:Value->Value->Sem Value):List Value->Sem Value:=fun vs=>match vs with|[a,b]=>f a b|_=>pure .none
theorem CI.fKind (C:CI g A d (zb::za)):∃ L,zb.frame=some L:=(C.kinds zb (.head _)).2.1
theorem CI.le (C:CI g A d za)(h:d'<=d):CI g A d' za:=⟨C.ok,C.handled,by have:=C.depth;exact A32 0x1040406F5E58889020010037AF2C2448100 this h,by have:=C.units;exact A32 0x208001E7932479620079E4810008132479610079E48100 this h,C.frames,C.kinds,C.ne⟩
theorem CI.room (C:CI g A d za):A.depth<recursionLimit:=by have:=C.depth;unfold recursionLimit;exact A21 0x6F5E5848902001003E8F2C01 this
theorem CI.unit (C:CI g A d za):A.units+90<cLine:=by have:=C.units;have:=cLine_is;exact A32 0x9AB3CB08C29923CB1003CF24080040100B5E58101 (by assumption) this
theorem CI.pylong (C:CI g A d za)(I:HI g θ H F s.heap):PylongRoom (model g.prog g.w) A s:=by refine YW C.ok.T fun p loose Ye mg mb T=>?_;cases za with|nil=>exact absurd rfl C.ne|cons env l=>refine a6 (C.kinds env (.head _)) fun _ _ h1 h2 h3 h4=>?_;exact PylongRoom.of (T.nolimit.keeps I.stays) (by have:=C.depth;unfold recursionLimit Builtin.pylongFrames;exact A21 0x1BD79612240800400FA3CB00C9E58101 this) (SeerAt.of (C.ok.seer.keeps I.stays) C.ok.tree C.frames h1 h2 h3 h4)
theorem HI.kin (I:HI g θ H F h)(ok:g.Ok):g.K.In h:=ok.X.keeps I.stays
theorem XE.now (k:XE g F θ H s Q Qc)(I:HI g θ H F s.heap)(q:Q p H)(r:Rd θ s.heap p v):Qc v {s with toks:=tk}:=
 k v p θ H s.heap tk q (Go.refl I) r
theorem nH (hx:c.names.lookup x=some .local)(e:ρ.get x=some p)(q:Q p H)(hd:autoParam ((x==("__debug__":Str))=false) ta._auto_2):z_ g d c ρ H (.Name x pos) Q X:=by
 intro A env zb za θ s Qc Ec C EI I L hQ _;have hk:env.kindOf x=some .local:=by unfold Env.kindOf;rw[EI.scope];exact hx
 refine zg L.ns fun m hn hm=>?_;refine zg (hm x p e hk) fun v e1 e2=>?_;refine wpAny_Name (wpAny_loadName_local (by rw[EI.scope];exact EI.fn) hk hn e1 ?_) hd;exact hQ.now I q e2
theorem pK (hx:c.names.lookup x=some .cell)(e:ρ.get x=some p)(q:Q p H)(hd:autoParam ((x==("__debug__":Str))=false) ta._auto_2):z_ g d c ρ H (.Name x pos) Q X:=by
 intro A env zb za θ s Qc Ec C EI I L hQ _;have hk:env.kindOf x=some .cell:=by unfold Env.kindOf;rw[EI.scope];exact hx
 refine zA (EI.cells x (.inl hx)) fun a ha=>?_;refine a4 (L.cells x a ha) fun _ _ _ zz=>?_;refine zB zz fun o ov e4 e5 e6=>?_;refine zg (e6 p e (.inl hk)) fun v zW r=>?_;subst zW;exact wpAny_Name (wpAny_loadName_cell (by rw[EI.scope];exact EI.fn) hk ha ⟨o,e4,e5⟩ (hQ.now (tk:=s.toks) I q r)) hd
theorem r8 (hx:c.names.lookup x=some .free)(e:ρ.get x=some p)(q:Q p H)(hd:autoParam ((x==("__debug__":Str))=false) ta._auto_2)(hn:autoParam ((x==("__classdict__":Str))=false) ta._auto_2):z_ g d c ρ H (.Name x pos) Q X:=by
 intro A env zb za θ s Qc Ec C EI I L hQ _;have hk:env.kindOf x=some .free:=by unfold Env.kindOf;rw[EI.scope];exact hx
 refine zA (EI.cells x (.inr hx)) fun a ha=>?_;refine a4 (L.cells x a ha) fun _ _ _ zz=>?_;refine zB zz fun o ov e4 e5 e6=>?_;refine zg (e6 p e (.inr hk)) fun v zW r=>?_;subst zW;exact wpAny_Name (wpAny_loadName_free (by rw[EI.scope];exact EI.fn) hk ha ⟨o,e4,e5⟩ (hQ.now (tk:=s.toks) I q r) hn) hd
theorem h9 (hx:c.names.lookup x=some .globalImplicit)(e:nsIn g.K mainGlobals x=some (some v))(q:Q (.raw v) H)(hd:autoParam ((x==("__debug__":Str))=false) ta._auto_2):z_ g d c ρ H (.Name x pos) Q X:=by
 intro A env zb za θ s Qc Ec C EI I L hQ _;have hk:env.kindOf x=some .globalImplicit:=by unfold Env.kindOf;rw[EI.scope];exact hx
 refine YW C.ok.T fun p loose Ye mg mb T=>?_;refine Name_function_global (by rw[EI.scope];exact EI.fn) hk (loadGlobal_global (mg:=mg) (by rw[EI.globals];exact T.g.keeps I.stays) (mg_of C.ok.X T.g e) ?_) hd;exact hQ.now I q rfl
theorem qI (hx:c.names.lookup x=some .globalImplicit)(e:nsIn g.K mainGlobals x=some none)(hv:bootBuiltins x=some v)(q:Q (.raw v) H)(hn:autoParam (x≠"__name__") ta._auto_2)(hd:autoParam ((x==("__debug__":Str))=false) ta._auto_2):z_ g d c ρ H (.Name x pos) Q X:=by
 intro A env zb za θ s Qc Ec C EI I L hQ _;have hk:env.kindOf x=some .globalImplicit:=by unfold Env.kindOf;rw[EI.scope];exact hx
 refine YW C.ok.T fun p loose Ye mg mb T=>?_;have T':=topRead_of T;refine Name_function_global (by rw[EI.scope];exact EI.fn) hk (loadGlobal_builtin (mg:=mg) (mb:=mb) (by rw[EI.globals];exact T.g.keeps I.stays) (mg_none_of C.ok.X T.g e) (by rw[EI.builtins];exact T'.b.keeps I.stays) ((T'.builtins x hn).trans hv) ?_) hd;exact hQ.now I q rfl
theorem Y5 (hx:c.names.lookup x=some .globalImplicit)(e:nsIn g.K mainGlobals x=some (some v))(r:∀ (θ:Nm) (h:Heap),g.K.In h->Rd θ h p v)(q:Q p H)(hd:autoParam ((x==("__debug__":Str))=false) ta._auto_2):z_ g d c ρ H (.Name x pos) Q X:=by
 intro A env zb za θ s Qc Ec C EI I L hQ _;have hk:env.kindOf x=some .globalImplicit:=by unfold Env.kindOf;rw[EI.scope];exact hx
 refine YW C.ok.T fun p' loose Ye mg mb T=>?_;refine Name_function_global (by rw[EI.scope];exact EI.fn) hk (loadGlobal_global (mg:=mg) (by rw[EI.globals];exact T.g.keeps I.stays) (mg_of C.ok.X T.g e) ?_) hd;exact hQ.now I q (r θ _ (I.kin C.ok))
theorem Wv (q:Q (.int i) H):z_ g d c ρ H (.Constant (.int i) k pos) Q X:=fun _ _ _ _ _ _ _ _ _ _ I _ hQ _=>wpAny_Constant_int (hQ.now I q (⟨_,rfl⟩))
theorem lI (q:Q (.str x) H):z_ g d c ρ H (.Constant (.str x) k pos) Q X:=fun _ _ _ _ _ _ _ _ _ _ I _ hQ _=>wpAny_Constant_str (hQ.now I q (⟨_,rfl⟩))
theorem cP (q:Q .none H):z_ g d c ρ H (.Constant .none k pos) Q X:=fun _ _ _ _ _ s _ _ _ _ I _ hQ _=>wpAny_Constant_none (hQ.now (tk:=s.toks) I q rfl)
theorem cX (q:Q (.bool b) H):z_ g d c ρ H (.Constant (.bool b) k pos) Q X:=fun _ _ _ _ _ s _ _ _ _ I _ hQ _=>wpAny_Constant_bool (hQ.now (tk:=s.toks) I q rfl)
theorem EO (h:z_ g d c ρ H l (fun a HZ=>z_ g d c ρ HZ r (fun b H2_=>zh g d H2_ [a,b] (t2 (binaryOp op)) Q X) X) X):z_ g d c ρ H (.BinOp l op r pos) Q X:=by intro A env zb za θ s Qc Ec C EI I L hQ hX;refine wpAny_BinOp (h A env zb za θ s _ _ C EI I L (fun va a θZ HZ hZ tkZ qZ GZ rZ=>?_) hX);refine qZ A env zb za θZ _ _ _ C EI GZ.inv (L.go I GZ) (fun vb b θY H2_ hY tkY qY GY rY=>?_) (hX.after GZ);exact qY A _ θY _ [va,vb] _ _ C GY.inv (⟨va,_,rfl,GY.rd GZ.inv rZ,vb,_,rfl,rY,rfl⟩) (hQ.after (GZ.trans GY)) (hX.after (GZ.trans GY))
theorem EV (h:z_ g d c ρ H l (fun a HZ=>z_ g d c ρ HZ r (fun b H2_=>zh g d H2_ [a,b] (t2 (compareOp op)) Q X) X) X)(hm:autoParam (behindInMarks op r=false) ta._auto_3):z_ g d c ρ H (.Compare l [op] [r] pos) Q X:=by intro A env zb za θ s Qc Ec C EI I L hQ hX;refine wpAny_Compare1 (h A env zb za θ s _ _ C EI I L (fun va a θZ HZ hZ tkZ qZ GZ rZ=>?_) hX) hm;refine qZ A env zb za θZ _ _ _ C EI GZ.inv (L.go I GZ) (fun vb b θY H2_ hY tkY qY GY rY=>?_) (hX.after GZ);exact qY A _ θY _ [va,vb] _ _ C GY.inv (⟨va,_,rfl,GY.rd GZ.inv rZ,vb,_,rfl,rY,rfl⟩) (hQ.after (GZ.trans GY)) (hX.after (GZ.trans GY))
theorem Hp (h:z_ g d c ρ H x (fun a HZ=>zh g d HZ [a] (t1 (unaryOp op)) Q X) X):z_ g d c ρ H (.UnaryOp op x pos) Q X:=by intro A env zb za θ s Qc Ec C EI I L hQ hX;refine wpAny_UnaryOp (h A env zb za θ s _ _ C EI I L (fun va a θZ HZ hZ tkZ qZ GZ rZ=>?_) hX);exact qZ A _ θZ _ [va] _ _ C GZ.inv (⟨va,_,rfl,rZ,rfl⟩) (hQ.after GZ) (hX.after GZ)
theorem GN (h:kM g d c ρ H t (fun z HZ=>if z then z_ g d c ρ HZ b Q X else z_ g d c ρ HZ o Q X) X):z_ g d c ρ H (.IfExp t b o pos) Q X:=by
 intro A env zb za θ s Qc Ec C EI I L hQ hX;refine wpAny_IfExp (h A env zb za θ s _ _ C EI I L (fun z θZ HZ hZ tkZ qZ GZ=>?_) hX);cases z
 .exact qZ A env zb za θZ _ _ _ C EI GZ.inv (L.go I GZ) (hQ.after GZ) (hX.after GZ)
 .exact qZ A env zb za θZ _ _ _ C EI GZ.inv (L.go I GZ) (hQ.after GZ) (hX.after GZ)
def Yb (g:Gr)(d:Nat)(H:AH)(p:PV)(b:Bool):Prop:=∀ {A:Around} {za:List Env} {θ:Nm} {s:Shared} {v:Value} {Qc:Bool->Shared->Prop} {Ec:Value->Shared->Prop},
  CI g A d za->HI g θ H (zE za) s.heap->Rd θ s.heap p v->(∀ tk,Qc b {s with toks:=tk})->wpAny (model g.prog g.w) A (truthy v) Qc Ec s
theorem Xq:Yb g d H (.bool b) b:=by intro A za θ s v Qc Ec C I R k;cases R;exact wpAny_truthy_bool (k s.toks)
theorem rE:Yb g d H (.int i) (i !=0):=by intro A za θ s v Qc Ec C I R k;obtain⟨t,rfl⟩:=R;exact truthy_int (k s.toks)
theorem Vr (h:H i=some (.list l))(hz:l.length<=10000000):Yb g d H (.obj i) (!l.isEmpty):=by
 intro A za θ s v Qc Ec C I R k;obtain⟨a,ha,rfl⟩:=R;refine xI (I.rep i _ h) fun a' we _ _ zz=>?_;refine yE zz fun items n hl hr=>?_;rw[ha] at we;obtain rfl:=yd we;have yf:=hr.length;refine wpAny_truthy_list hl.isList (by rw[<-Array.length_toList,yf];exact Int.lt_of_le_of_lt (Int.ofNat_le.mpr hz) (by decide)) ?_;have:items.isEmpty=l.isEmpty:=by
  rw[<-Array.isEmpty_toList];cases h1:items.toList with
  |nil=>rw[h1] at yf;cases l with|nil=>rfl|cons _ _=>simp at yf
  |cons _ _=>rw[h1] at yf;cases l with|nil=>simp at yf|cons _ _=>rfl
 rw[this];exact k _
theorem tP {Q:Bool->AH->Prop}(h:z_ g d c ρ H e (fun p HZ=>∃ b,Yb g d HZ p b/\Q b HZ) X) (he:autoParam (∀ env (whole:Sem Value),isTrue e env whole=(do let v <-whole;standAt e.pos;holding [v] (truthy v))) ta._auto_1):kM g d c ρ H e Q X:=by intro A env zb za θ s Qc Ec C EI I L hQ hX;refine wpAny_isTrue_value (h A env zb za θ s _ _ C EI I L (fun va a θZ HZ hZ tkZ qZ GZ rZ=>?_) hX) (he env _);refine zg qZ fun b tb q=>?_;clear qZ;exact tb C GZ.inv rZ fun tk=>hQ b θZ HZ hZ tk q GZ
theorem B8 {Q:Bool->AH->Prop}(h:z_ g d c ρ H l (fun a HZ=>z_ g d c ρ HZ r (fun b H2_=>zh g d H2_ [a,b] (t2 (compareOp op)) (fun p HW=>∃ z,p=.bool z/\Q z HW) X) X) X)(hm:autoParam (behindInMarks op r=false) ta._auto_3):kM g d c ρ H (.Compare l [op] [r] pos) Q X:=by intro A env zb za θ s Qc Ec C EI I L hQ hX;refine wpAny_isTrue_Compare1 (h A env zb za θ s _ _ C EI I L (fun va a θZ HZ hZ tkZ qZ GZ rZ=>?_) hX) hm;refine qZ A env zb za θZ _ _ _ C EI GZ.inv (L.go I GZ) (fun vb b θY H2_ hY tkY qY GY rY=>?_) (hX.after GZ);refine qY A _ θY _ [va,vb] _ _ C GY.inv (⟨va,_,rfl,GY.rd GZ.inv rZ,vb,_,rfl,rY,rfl⟩) (fun vc p θW HW h3_ tkW qW GW rW=>?_) (hX.after (GZ.trans GY));refine zg qW fun z zW q=>?_;clear qW;subst zW;exact Xq C GW.inv rW fun tk=>hQ z θW HW h3_ tk q ((GZ.trans GY).trans GW)
theorem Bg {Q:Bool->AH->Prop}(h:kM g d c ρ H x (fun b HZ=>Q (!b) HZ) X):kM g d c ρ H (.UnaryOp .Not x pos) Q X:=by intro A env zb za θ s Qc Ec C EI I L hQ hX;exact wpAny_isTrue_Not (h A env zb za θ s _ _ C EI I L (fun z θZ HZ hZ tkZ qZ GZ=>hQ _ θZ HZ hZ tkZ qZ GZ) hX)
def YS (g:Gr)(d:Nat)(c:Scope)(ρ:zS)(H:AH)(op:BoolOp)(es:List Expr)(Q:Bool->AH->Prop)(X:PV->AH->Prop):Prop:=∀ (A:Around) (env zb:Env) (za:List Env) (θ:Nm) (s:Shared) (Qc:Bool->Shared->Prop) (Ec:Value->Shared->Prop),
  CI g A d (zb::za)->wh c env zb->HI g θ H (zE (zb::za)) s.heap->LI g θ H (zE (zb::za)) env ρ s.heap->
  cW g (zE (zb::za)) θ H s Q Qc->vJ g (zE (zb::za)) yB θ H s X Ec->wpAny (model g.prog g.w) A (allTrue op es env) Qc Ec s
theorem HD {Q:Bool->AH->Prop}(h:YS g d c ρ H op es Q X):kM g d c ρ H (.BoolOp op es pos) Q X:=by intro A env zb za θ s Qc Ec C EI I L hQ hX;exact wpAny_isTrue_BoolOp (h A env zb za θ s _ _ C EI I L hQ hX)
theorem bo {Q:Bool->AH->Prop}(q:Q true H):YS g d c ρ H .And [] Q X:=by intro A env zb za θ s Qc Ec C EI I L hQ hX;exact wpAny_allTrue_And_nil (hQ _ θ H s.heap s.toks q (Go.refl I))
theorem bR {Q:Bool->AH->Prop}(q:Q false H):YS g d c ρ H .Or [] Q X:=by intro A env zb za θ s Qc Ec C EI I L hQ hX;exact wpAny_allTrue_Or_nil (hQ _ θ H s.heap s.toks q (Go.refl I))
theorem oA {Q:Bool->AH->Prop}(h:kM g d c ρ H x (fun b HZ=>if b then YS g d c ρ HZ .And r Q X else Q false HZ) X):YS g d c ρ H .And (x::r) Q X:=by
 intro A env zb za θ s Qc Ec C EI I L hQ hX;refine wpAny_allTrue_And_cons (h A env zb za θ s _ _ C EI I L (fun z θZ HZ hZ tkZ qZ GZ=>?_) hX);cases z
 .exact hQ _ θZ HZ hZ tkZ qZ GZ
 .exact qZ A env zb za θZ _ _ _ C EI GZ.inv (L.go I GZ) (hQ.after GZ) (hX.after GZ)
theorem DW {Q:Bool->AH->Prop}(h:kM g d c ρ H x (fun b HZ=>if b then Q true HZ else YS g d c ρ HZ .Or r Q X) X):YS g d c ρ H .Or (x::r) Q X:=by
 intro A env zb za θ s Qc Ec C EI I L hQ hX;refine wpAny_allTrue_Or_cons (h A env zb za θ s _ _ C EI I L (fun z θZ HZ hZ tkZ qZ GZ=>?_) hX);cases z
 .exact qZ A env zb za θZ _ _ _ C EI GZ.inv (L.go I GZ) (hQ.after GZ) (hX.after GZ)
 .exact hQ _ θZ HZ hZ tkZ qZ GZ
theorem E0 (h:z_ g d c ρ H x (fun p HZ=>∃ b,Yb g d HZ p b/\if b then Q p HZ else z_ g d c ρ HZ y Q X) X):z_ g d c ρ H (.BoolOp .Or [x,y] pos) Q X:=by
 intro A env zb za θ s Qc Ec C EI I L hQ hX;refine wpAny_Or2 (h A env zb za θ s _ _ C EI I L (fun va a θZ HZ hZ tkZ qZ GZ rZ=>?_) hX);refine zg qZ fun b tb q=>?_;clear qZ;refine tb C GZ.inv rZ fun tk=>?_;cases b
 .exact q A env zb za θZ {s with heap:=hZ,toks:=tk} _ _ C EI GZ.inv (L.go I GZ) (hQ.after GZ) (hX.after GZ)
 .exact hQ va a θZ HZ hZ tk q GZ rZ
theorem rF (h:z_ g d c ρ H x (fun p HZ=>∃ b,Yb g d HZ p b/\if b then z_ g d c ρ HZ y Q X else Q p HZ) X):z_ g d c ρ H (.BoolOp .And [x,y] pos) Q X:=by
 intro A env zb za θ s Qc Ec C EI I L hQ hX;refine wpAny_And2 (h A env zb za θ s _ _ C EI I L (fun va a θZ HZ hZ tkZ qZ GZ rZ=>?_) hX);refine zg qZ fun b tb q=>?_;clear qZ;refine tb C GZ.inv rZ fun tk=>?_;cases b
 .exact hQ va a θZ HZ hZ tk q GZ rZ
 .exact q A env zb za θZ {s with heap:=hZ,toks:=tk} _ _ C EI GZ.inv (L.go I GZ) (hQ.after GZ) (hX.after GZ)
theorem WH {Q:List PV->AH->Prop}(q:Q [] H):u5 g d c ρ H [] Q X:=by intro A env zb za θ s Qc Ec pos C EI I L hQ hX;exact wpAny_items_nil (hQ [] [] θ H s.heap s.toks q (Go.refl I) rfl)
theorem VO {Q:List PV->AH->Prop}(h:z_ g d c ρ H e (fun a HZ=>u5 g d c ρ HZ r (fun as H2_=>Q (a::as) H2_) X) X) (he:autoParam (∀ env,starEach (e::r) env=(false,eval e env)::starEach r env) ta._auto_1):u5 g d c ρ H (e::r) Q X:=by intro A env zb za θ s Qc Ec pos C EI I L hQ hX;refine wpAny_items_cons (h A env zb za θ s _ _ C EI I L (fun va a θZ HZ hZ tkZ qZ GZ rZ=>?_) hX) (he env);refine qZ A env zb za θZ _ _ _ pos C EI GZ.inv (L.go I GZ) (fun vs as θY H2_ hY tkY qY GY rY=>?_) (hX.after GZ);exact hQ _ _ θY H2_ hY tkY qY (GZ.trans GY) (⟨va,vs,rfl,GY.rd GZ.inv rZ,rY⟩)
theorem yw (h:Heap)(o:Obj):∀ b o',h.get? b=some o'->(h.push o).get? b=some o':=fun _ _ e=>Heap.get?_push_of_some o e
theorem y8 (h:Heap):h.get? h.objs.size=none:=Heap.get?_none_of_le (Nat.le_refl _)
theorem mJ (h:u5 g d c ρ H es (fun as HZ=>as.length<=1000000/\Q (.tup as) HZ) X):z_ g d c ρ H (.Tuple es k pos) Q X:=by intro A env zb za θ s Qc Ec C EI I L hQ hX;refine wpAny_Tuple (h A env zb za θ s _ _ pos C EI I L (fun vs as θZ HZ hZ tkZ qZ GZ rZ=>?_) hX);refine⟨by rw[sizeLine_eq];exact Nat.le_trans (Nat.le_trans (Nat.le_of_eq rZ.length) qZ.1) (by decide),?_⟩;have GY:=Go.ext (g:=g) (F:=zE (zb::za)) (S:=yB) GZ.inv (yw hZ {cls:=.type "tuple",data:=.seq vs.toArray});refine hQ _ _ θZ HZ _ tkZ qZ.2 (GZ.trans GY) ?_;exact⟨_,vs.toArray,rfl,⟨_,Heap.get?_push_size _ rfl,rfl,0,rfl⟩,by simpa using GY.rds GZ.inv rZ⟩
end
section
variable {g:Gr} {d:Nat} {H:AH} {Q X:PV->AH->Prop}
theorem lh (h:∀ {A:Around} {za:List Env} {θ:Nm} {s:Shared} {v:Value} {Qc Ec:Value->Shared->Prop},CI g A d za->HI g θ H (zE za) s.heap->Rd θ s.heap p v-> (∀ z tk,Rd θ s.heap r z->Qc z {s with toks:=tk})->wpAny (model g.prog g.w) A (f v) Qc Ec s) (q:Q r H):zh g d H [p] (t1 f) Q X:=by intro A za θ s vs Qc Ec C I R hQ hX;obtain⟨v,_,rfl,R,rfl⟩:=R;exact h C I R fun z tk rz=>hQ.now I q rz
theorem xa (h:∀ {A:Around} {za:List Env} {θ:Nm} {s:Shared} {v u:Value} {Qc Ec:Value->Shared->Prop},CI g A d za->HI g θ H (zE za) s.heap->Rd θ s.heap pZ v->Rd θ s.heap pY u-> (∀ z tk,Rd θ s.heap r z->Qc z {s with toks:=tk})->wpAny (model g.prog g.w) A (f v u) Qc Ec s) (q:Q r H):zh g d H [pZ,pY] (t2 f) Q X:=by intro A za θ s vs Qc Ec C I R hQ hX;refine zB R fun v _ zm R1 zz=>?_;refine zB zz fun u _ wj R2 ZI=>?_;clear R;subst zm wj ZI;exact h C I R1 R2 fun z tk rz=>hQ.now I q rz
theorem kb (θ:Nm)(h:Heap)(i:Int)(t:Tok):Rd θ h (.int i) (.int i t):=⟨t,rfl⟩
theorem uQ (θ:Nm)(h:Heap)(b:Bool):Rd θ h (.bool b) (.bool b):=rfl
theorem rdS (θ:Nm)(h:Heap)(x:Str)(t:Tok):Rd θ h (.str x) (.str x t):=⟨t,rfl⟩
theorem zX (r:Rd θ h (.int i) v):∃ t,v=.int i t:=r
theorem vC (r:Rd θ h (.str i) v):∃ t,v=.str i t:=r
theorem uV (r:Rd θ h (.bool i) v):v=.bool i:=r
variable {a b:Int}
theorem Dc (q:Q (.int (a+b)) H):zh g d H [.int a,.int b] (t2 (binaryOp .Add)) Q X:=xa (fun _ _ r1 r2 k=>by obtain⟨t,rfl⟩:=zX r1;obtain⟨u,rfl⟩:=zX r2;exact add_int (k _ _ (kb _ _ _ _))) q
theorem AU (q:Q (.int (a-b)) H):zh g d H [.int a,.int b] (t2 (binaryOp .Sub)) Q X:=xa (fun _ _ r1 r2 k=>by obtain⟨t,rfl⟩:=zX r1;obtain⟨u,rfl⟩:=zX r2;exact sub_int (k _ _ (kb _ _ _ _))) q
theorem gd (h:a.natAbs<2^64):Builtin.Int.intBits a<=64:=intBits_le_64 (Int.neg_lt_of_neg_lt (Int.lt_of_le_of_lt (by rw[<-Int.natAbs_neg];exact Int.le_natAbs) (Int.ofNat_lt.mpr h))) (Int.lt_of_le_of_lt Int.le_natAbs (Int.ofNat_lt.mpr h))
theorem W0 (hm:a.natAbs<2^64\/b.natAbs<2^64)(q:Q (.int (a*b)) H):zh g d H [.int a,.int b] (t2 (binaryOp .Mult)) Q X:=xa (fun _ _ r1 r2 k=>by obtain⟨t,rfl⟩:=zX r1;obtain⟨u,rfl⟩:=zX r2;refine PySem.P.mul_int (k _ _ (kb _ _ _ _)) (hm.elim (fun h=>.of_left (gd h)) fun h=>.of_right (gd h))) q
theorem ZL (hb:b≠0)(q:Q (.int (a.fmod b)) H):zh g d H [.int a,.int b] (t2 (binaryOp .Mod)) Q X:=xa (fun _ _ r1 r2 k=>by obtain⟨t,rfl⟩:=zX r1;obtain⟨u,rfl⟩:=zX r2;exact mod_int hb (k _ _ (kb _ _ _ _))) q
theorem W3 (hb:b≠0)(q:Q (.int (a.fdiv b)) H):zh g d H [.int a,.int b] (t2 (binaryOp .FloorDiv)) Q X:=xa (fun C I r1 r2 k=>by obtain⟨t,rfl⟩:=zX r1;obtain⟨u,rfl⟩:=zX r2;exact floordiv_int hb (k _ _ (kb _ _ _ _)) (.inr (C.pylong I))) q
theorem DD (q:Q (.int (Builtin.bitXor a b)) H):zh g d H [.int a,.int b] (t2 (binaryOp .BitXor)) Q X:=xa (fun _ _ r1 r2 k=>by obtain⟨t,rfl⟩:=zX r1;obtain⟨u,rfl⟩:=zX r2;exact xor_int (k _ _ (kb _ _ _ _))) q
theorem E8 (hn:0<=b)(Qz:b<=1000000)(ha:a.natAbs<2^64)(q:Q (.int (a*2^b.toNat)) H):zh g d H [.int a,.int b] (t2 (binaryOp .LShift)) Q X:=xa (fun _ _ r1 r2 k=>by obtain⟨t,rfl⟩:=zX r1;obtain⟨u,rfl⟩:=zX r2;exact lshift_int_small hn Qz ha (k _ _ (kb _ _ _ _))) q
theorem B3 (hn:0<=b)(q:Q (.int (a.fdiv (2^b.toNat))) H):zh g d H [.int a,.int b] (t2 (binaryOp .RShift)) Q X:=xa (fun _ _ r1 r2 k=>by obtain⟨t,rfl⟩:=zX r1;obtain⟨u,rfl⟩:=zX r2;exact rshift_int hn (k _ _ (kb _ _ _ _))) q
theorem lG (q:Q (.int (-a)) H):zh g d H [.int a] (t1 (unaryOp .USub)) Q X:=lh (fun _ _ r1 k=>by obtain⟨t,rfl⟩:=zX r1;exact PySem.P.neg_int (k _ _ (kb _ _ _ _))) q
theorem Cv (q:Q (.bool (a==b)) H):zh g d H [.int a,.int b] (t2 (compareOp .Eq)) Q X:=xa (fun{_ _ _ s _ _ _ _} _ _ r1 r2 k=>by obtain⟨t,rfl⟩:=zX r1;obtain⟨u,rfl⟩:=zX r2;exact eq_int (k _ s.toks (uQ _ _ _))) q
theorem Ex (q:Q (.bool (a !=b)) H):zh g d H [.int a,.int b] (t2 (compareOp .NotEq)) Q X:=xa (fun{_ _ _ s _ _ _ _} _ _ r1 r2 k=>by obtain⟨t,rfl⟩:=zX r1;obtain⟨u,rfl⟩:=zX r2;exact ne_int (k _ s.toks (uQ _ _ _))) q
theorem Ho (q:Q (.bool (decide (a<b))) H):zh g d H [.int a,.int b] (t2 (compareOp .Lt)) Q X:=xa (fun{_ _ _ s _ _ _ _} _ _ r1 r2 k=>by obtain⟨t,rfl⟩:=zX r1;obtain⟨u,rfl⟩:=zX r2;exact lt_int (k _ s.toks (uQ _ _ _))) q
theorem Hn (q:Q (.bool (decide (a<=b))) H):zh g d H [.int a,.int b] (t2 (compareOp .LtE)) Q X:=xa (fun{_ _ _ s _ _ _ _} _ _ r1 r2 k=>by obtain⟨t,rfl⟩:=zX r1;obtain⟨u,rfl⟩:=zX r2;exact le_int (k _ s.toks (uQ _ _ _))) q
theorem GQ (q:Q (.bool (decide (b<a))) H):zh g d H [.int a,.int b] (t2 (compareOp .Gt)) Q X:=xa (fun{_ _ _ s _ _ _ _} _ _ r1 r2 k=>by obtain⟨t,rfl⟩:=zX r1;obtain⟨u,rfl⟩:=zX r2;exact gt_int (k _ s.toks (uQ _ _ _))) q
theorem Hk (q:Q (.bool (decide (b<=a))) H):zh g d H [.int a,.int b] (t2 (compareOp .GtE)) Q X:=xa (fun{_ _ _ s _ _ _ _} _ _ r1 r2 k=>by obtain⟨t,rfl⟩:=zX r1;obtain⟨u,rfl⟩:=zX r2;exact ge_int (k _ s.toks (uQ _ _ _))) q
theorem Fj (q:Q (.bool (x==y)) H):zh g d H [.str x,.str y] (t2 (compareOp .Eq)) Q X:=xa (fun{_ _ _ s _ _ _ _} _ _ r1 r2 k=>by obtain⟨t,rfl⟩:=vC r1;obtain⟨u,rfl⟩:=vC r2;exact eq_str (k _ s.toks (uQ _ _ _))) q
theorem B1 (q:Q (.bool (x !=y)) H):zh g d H [.bool x,.bool y] (t2 (compareOp .NotEq)) Q X:=xa (fun{_ _ _ s _ _ _ _} _ _ r1 r2 k=>by cases uV r1;cases uV r2;exact ne_bool (k _ s.toks (uQ _ _ _))) q
noncomputable def PV.isNone:PV->Bool|.none=>true|_=>false
theorem J9 (r:Rd θ h p v)(hr:∀ x,p≠.raw x):(v==Value.none)=p.isNone:=by
 cases p with
 |none=>cases r;rfl|bool b=>cases r;rfl|int i=>obtain⟨t,rfl⟩:=r;rfl
 |str i=>obtain⟨t,rfl⟩:=r;rfl
 |tup l=>obtain⟨t,_,rfl,_⟩:=r;rfl
 |obj i=>obtain⟨t,_,rfl⟩:=r;rfl
 |raw x=>exact absurd rfl (hr x)
theorem U5 (hr:∀ x,p≠.raw x)(q:Q (.bool p.isNone) H):zh g d H [p,.none] (t2 (compareOp .Is)) Q X:=xa (fun{_ _ _ s _ _ _ _} _ _ r1 r2 k=>by cases r2;exact is_none (by rw[J9 r1 hr];exact k _ s.toks (uQ _ _ _))) q
theorem m9 (hr:∀ x,p≠.raw x)(q:Q (.bool (!p.isNone)) H):zh g d H [p,.none] (t2 (compareOp .IsNot)) Q X:=xa (fun{_ _ _ s _ _ _ _} _ _ r1 r2 k=>by cases r2;exact isNot_none (by rw[J9 r1 hr];exact k _ s.toks (uQ _ _ _))) q
end
noncomputable def IT:PV->Bool|.none=>true|_=>false
noncomputable def HB (a:Bool):PV->Bool|.bool b=>a==b|.int b=>(if a then 1 else 0)==b|_=>false
noncomputable def Hd (a:Int):PV->Bool|.bool b=>a==(if b then 1 else 0)|.int b=>a==b|_=>false
noncomputable def HK (a:Str):PV->Bool|.str b=>a==b|_=>false
mutual
noncomputable def qf:PV->PV->Bool|.none,q=>IT q|.bool a,q=>HB a q|.int a,q=>Hd a q|.str a,q=>HK a q|.tup l,q=>(match q with|.tup m=>ZR l m|_=>false)|.obj _,_=>false|.raw _,_=>false
noncomputable def ZR:List PV->List PV->Bool|[],m=>m.isEmpty|p::l,m=>(match m with|[]=>false|q::m=>qf p q&&ZR l m)
end
mutual
noncomputable def PV.ok:Nat->PV->Bool|_,.none=>true|_,.bool _=>true|_,.int _=>true|_,.str _=>true|n,.tup l=>(match n with|0=>false|m+1=>PV.oks m l)|_,.obj _=>false|_,.raw _=>false
noncomputable def PV.oks:Nat->List PV->Bool|_,[]=>true|n,p::l=>PV.ok n p&&PV.oks n l
end
mutual
theorem gW:∀ (n:Nat) (p:PV),p.ok n=true->qf p p=true|_,.none,_=>rfl|_,.bool _,_=>beq_self_eq_true _|_,.int _,_=>beq_self_eq_true _|_,.str _,_=>beq_self_eq_true _|0,.tup _,h=>zU h|n+1,.tup l,h=>js n l h|_,.obj _,h=>zU h|_,.raw _,h=>zU h
theorem js:∀ (n:Nat) (l:List PV),PV.oks n l=true->ZR l l=true|_,[],_=>rfl|n,p::l,h=>a2 (yP h) fun a b=>Bool.and_eq_true_iff.mpr ⟨gW n p a,js n l b⟩
end
theorem gB (p:IsTup h a x)(q:IsTup h a y):x=y:=by refine wU p fun o ho _ zz=>?_;refine zA zz fun n hd=>?_;clear p;refine wU q fun o' yg _ zz=>?_;refine zA zz fun n' xi=>?_;clear q;rw[ho] at yg;cases yg;rw[hd] at xi;cases xi;rfl
theorem oJ (n:Nat)(p q:PV)(v:Value):p.ok n=true->q.ok n=true->Rd θ h p v->Rd θ h q v->qf p q=true:=by
 refine lN (P:=fun p=>∀ n q v,p.ok n=true->q.ok n=true->Rd θ h p v->Rd θ h q v->qf p q=true) (Q:=fun l=>∀ n m v,PV.oks n l=true->PV.oks n m=true->yb θ h l v->yb θ h m v->ZR l m=true) ?_ ?_ ?_ ?_ ?_ ?_ ?_ ?_ ?_ p n q v
 .intro n q v hp hq r r';obtain rfl:v=.none:=r;cases q with|none=>rfl|bool b=>exact nomatch (r':Value.none=.bool b)|int b=>exact r'.elim fun _ e=>nomatch e|str b=>exact r'.elim fun _ e=>nomatch e|tup b=>exact r'.elim fun _ ⟨_,e,_⟩=>nomatch e|_=>exact zU hq
 .intro b n q v hp hq r r';obtain rfl:v=.bool b:=r;cases q with|none=>exact nomatch (r':Value.bool b=.none)|bool b=>cases(r':Value.bool _=.bool b);exact beq_self_eq_true _|int b=>exact r'.elim fun _ e=>nomatch e|str b=>exact r'.elim fun _ e=>nomatch e|tup b=>exact r'.elim fun _ ⟨_,e,_⟩=>nomatch e|_=>exact zU hq
 .intro b n q v hp hq ⟨t,r⟩ r';subst r;cases q with
  |none=>exact nomatch (r':Value.int b t=.none)|bool b=>exact nomatch (r':Value.int _ t=.bool b)|int b=>obtain⟨_,e⟩:=r';cases e;exact beq_self_eq_true _
  |str b=>exact r'.elim fun _ e=>nomatch e|tup b=>exact r'.elim fun _ ⟨_,e,_⟩=>nomatch e|_=>exact zU hq
 .intro b n q v hp hq ⟨t,r⟩ r';subst r;cases q with
  |none=>exact nomatch (r':Value.str b t=.none)|bool b=>exact nomatch (r':Value.str _ t=.bool b)|int b=>exact r'.elim fun _ e=>nomatch e|str b=>obtain⟨_,e⟩:=r';cases e;exact beq_self_eq_true _
  |tup b=>exact r'.elim fun _ ⟨_,e,_⟩=>nomatch e|_=>exact zU hq
 .intro l ih n q v hp hq ⟨a,items,r,ht,hr⟩ r';subst r;cases q with
  |none=>exact nomatch (r':Value.ref a=.none)|bool b=>exact nomatch (r':Value.ref a=.bool b)|int b=>exact r'.elim fun _ e=>nomatch e|str b=>exact r'.elim fun _ e=>nomatch e|tup m=>
   obtain⟨a',vh,e,uM,uW⟩:=r';cases e;cases gB ht uM;cases n with
   |zero=>exact zU hp|succ n=>exact ih n m _ hp hq hr uW
  |_=>exact zU hq
 .exact fun _ _ _ _ hp=>zU hp
 .exact fun _ _ _ _ hp=>zU hp
 .intro n m v _ _ r r';obtain rfl:v=[]:=r;cases m with|nil=>rfl|cons _ _=>exact r'.elim fun _ ⟨_,e,_⟩=>nomatch e
 .intro p l ip il n m v hp hq ⟨x,xs,r,r1,r2⟩ r';subst r;cases m with
  |nil=>exact nomatch (r':x::xs=[])|cons q m=>obtain⟨y,ys,e,s1,s2⟩:=r';cases e;have hp:=yP hp;have hq:=yP hq;exact Bool.and_eq_true_iff.mpr ⟨ip n q _ hp.1 hq.1 r1 s1,il n m _ hp.2 hq.2 r2 s2⟩
theorem Z0 (l:List PV):∀ m:List PV,((List.range (min l.length m.length)).all (fun j=>qf (l.getD j .none) (m.getD j .none))&&l.length==m.length)=ZR l m:=by
 induction l with
 |nil=>intro m;cases m<;>rfl|cons p l ih=>
  intro m;cases m with
  |nil=>rfl|cons q m=>
   have e:(List.range (min (l.length+1) (m.length+1))).all (fun j=>qf ((p::l).getD j .none) ((q::m).getD j .none))=(qf p q&&(List.range (min l.length m.length)).all fun j=>qf (l.getD j .none) (m.getD j .none)):=
    (congrArg (fun k=>(List.range k).all _) (Nat.succ_min_succ ..)).trans ((congrArg (List.all · _) List.range_succ_eq_map).trans (congrArg (qf p q&&·) List.all_map))
   exact(congr (congrArg and e) (decide_eq_decide.mpr Nat.succ_inj)).trans ((Bool.and_assoc ..).trans (congrArg (qf p q&&·) (ih m)))
theorem j5 {n:Nat}{l:List PV}:∀ {j:Nat} {p:PV},PV.oks n l=true->l[j]?=some p->p.ok n=true:=by
 induction l with
 |nil=>exact fun _ e=>zJ e|cons q l ih=>intro j p h e;have h:=yP h;cases j with|zero=>cases yd e;exact h.1|succ j=>exact ih h.2 e
theorem Zv {θ:Nm}{h:Heap}{l:List PV}{items:Array Value}(r:yb θ h l items.toList){j:Nat}(hj:j<items.size):∃ p,l[j]?=some p/\Rd θ h p items[j]:=by have hl:=r.length;rw[Array.length_toList] at hl;have kh:j<l.length:=A32 0x88411002100401 hj hl;refine zg (r.get (List.getElem?_eq_getElem kh)) fun v e1 e2=>?_;rw[Array.getElem?_toList,Array.getElem?_eq_getElem hj] at e1;obtain rfl:=yd e1;exact⟨_,List.getElem?_eq_getElem kh,e2⟩
theorem bN (p q:PV)(v u:Value)(hp:p.ok 0=true)(hq:q.ok 0=true)(r:Rd θ s.heap p v)(r':Rd θ s.heap q u):EqAt A s v u (qf p q):=by
 cases p with
 |none=>
  obtain rfl:v=.none:=r;cases q with
  |none=>obtain rfl:u=.none:=r';exact EqAt.same _
  |bool _=>obtain rfl:=uV r';exact EqAt.none_bool _
  |int _=>obtain⟨_,rfl⟩:=zX r';exact EqAt.none_int _ _
  |str _=>obtain⟨_,rfl⟩:=vC r';exact EqAt.none_str _ _
  |_=>exact zU hq
 |bool _=>
  obtain rfl:=uV r;cases q with
  |none=>obtain rfl:u=.none:=r';exact EqAt.bool_none _
  |bool _=>obtain rfl:=uV r';exact EqAt.bool_bool _ _
  |int _=>obtain⟨_,rfl⟩:=zX r';exact EqAt.bool_int _ _ _
  |str _=>obtain⟨_,rfl⟩:=vC r';exact EqAt.bool_str _ _ _
  |_=>exact zU hq
 |int _=>
  obtain⟨_,rfl⟩:=zX r;cases q with
  |none=>obtain rfl:u=.none:=r';exact EqAt.int_none _ _
  |bool _=>obtain rfl:=uV r';exact EqAt.int_bool _ _ _
  |int _=>obtain⟨_,rfl⟩:=zX r';exact EqAt.int_int _ _ _ _
  |str _=>obtain⟨_,rfl⟩:=vC r';exact EqAt.int_str _ _ _ _
  |_=>exact zU hq
 |str _=>
  obtain⟨_,rfl⟩:=vC r;cases q with
  |none=>obtain rfl:u=.none:=r';exact EqAt.str_none _ _
  |bool _=>obtain rfl:=uV r';exact EqAt.str_bool _ _ _
  |int _=>obtain⟨_,rfl⟩:=zX r';exact EqAt.str_int _ _ _ _
  |str _=>obtain⟨_,rfl⟩:=vC r';exact EqAt.str_str _ _ _ _
  |_=>exact zU hq
 |_=>exact zU hp
noncomputable def PV.atom:PV->Bool|.tup _=>false|_=>true
theorem Fw {n:Nat}{p:PV}(h:p.ok n=true)(a:p.atom=true):p.ok 0=true:=by cases p with|tup _=>exact zU a|obj _=>exact zU h|raw _=>exact zU h|_=>rfl
theorem nX {θ:Nm}{s:Shared}(n:Nat):∀ {A:Around} (p q:PV) (v u:Value),p.ok n=true->q.ok n=true->Rd θ s.heap p v->Rd θ s.heap q u->A.units+n<cLine->EqAt A s v u (qf p q):=by
 induction n with
 |zero=>exact fun p q v u hp hq r r' hu=>bN p q v u hp hq r r'|succ n ih=>
  intro A p q v u hp hq r r' hu;have qp:A.units<cLine:=A31 0xB4480202100401 hu;by_cases ap:p.atom=true
  .by_cases aq:q.atom=true
   .exact bN p q v u (Fw hp ap) (Fw hq aq) r r'
   .cases q with
    |tup m=>
     obtain⟨b,vh,rfl,uM,uW⟩:=r';cases p with
     |none=>obtain rfl:v=.none:=r;exact EqAt.none_tuple uM qp
     |bool b=>obtain rfl:=uV r;exact EqAt.bool_tuple _ uM qp
     |int b=>obtain⟨t,rfl⟩:=zX r;exact EqAt.int_tuple _ _ uM qp
     |str b=>obtain⟨t,rfl⟩:=vC r;exact EqAt.str_tuple _ _ uM qp
     |tup b=>exact zU ap|_=>exact zU hp
    |_=>exact(aq rfl).elim
  .cases p with
   |tup l=>
    have r0:=r;obtain⟨a,items,rfl,ht,hr⟩:=r;cases q with
    |tup m=>
     have MV:=r';obtain⟨b,vh,rfl,uM,uW⟩:=r';by_cases xN:a=b
     .subst xN;exact(oJ (n+1) _ _ _ hp hq r0 MV)▸EqAt.same _
     .refine EqAt.of_refs xN ?_;have:=RcAt.tuples (e:=fun j=>qf (l.getD j .none) (m.getD j .none)) (A:=A) ht uM qp (fun j h1 h2=>?_)
      .have hl:=hr.length;have Vl:=uW.length;rw[Array.length_toList] at hl Vl;rw[hl,Vl,Z0] at this;exact this
      .refine zg (Zv hr h1) fun p e1 e2=>?_;refine zg (Zv uW h2) fun q vL Y9=>?_;simp only[List.getD,e1,vL,Option.getD_some];exact ih p q _ _ (j5 hp e1) (j5 hq vL) e2 Y9 (A31 0x13428020210082D02101 hu)
    |none=>obtain rfl:u=.none:=r';exact EqAt.tuple_none ht qp
    |bool b=>obtain rfl:=uV r';exact EqAt.tuple_bool _ ht qp
    |int b=>obtain⟨t,rfl⟩:=zX r';exact EqAt.tuple_int _ _ ht qp
    |str b=>obtain⟨t,rfl⟩:=vC r';exact EqAt.tuple_str _ _ ht qp
    |_=>exact zU hq
   |_=>exact(ap rfl).elim
section
variable {g:Gr} {d:Nat} {c:Scope} {ρ:zS} {H:AH} {Q X:PV->AH->Prop}
theorem CI.mods (C:CI g A d za)(I:HI g θ H F h)(ha:g.B.get? a=none):(a==sysModules)=false:=by
 refine zA C.ok.mods fun o ho=>?_;by_cases e:a=sysModules
 .subst e;rw[ha] at ho;exact zJ ho
 .exact beq_false_of_ne e
theorem lj (n:Nat)(hl:PV.oks n l=true)(hm:PV.oks n m=true)(hn:n<=60)(q:Q (.bool (ZR l m)) H):zh g d H [.tup l,.tup m] (t2 (compareOp .Eq)) Q X:=xa (fun{_ _ _ s _ _ _ _} C _ r1 r2 k=>by
 refine zB r1 fun a items zm ht hr=>?_;clear r1;subst zm;refine zB r2 fun b vh zm uM uW=>?_;clear r2;subst zm;have hu:=C.unit;refine eq_tupleAt (e:=fun j=>qf (l.getD j .none) (m.getD j .none)) ht uM (A21 0x2016BCB0202100401 hu) (fun j h1 h2=>?_) ?_
 .refine zg (Zv hr h1) fun p e1 e2=>?_;refine zg (Zv uW h2) fun q vL Y9=>?_;simp only[List.getD,e1,vL,Option.getD_some];exact nX n p q _ _ (j5 hl e1) (j5 hm vL) e2 Y9 (by simp only[Around.in1_units];exact A32 0x1E79610044016BCB020210082D02101 hu hn)
 .have z1:=hr.length;have z2:=uW.length;rw[Array.length_toList] at z1 z2;rw[z1,z2,Z0];exact k _ s.toks (uQ _ _ _)) q
theorem i5 (n:Nat)(hl:PV.oks n l=true)(hm:PV.oks n m=true)(hn:n<=60)(q:Q (.bool (!ZR l m)) H):zh g d H [.tup l,.tup m] (t2 (compareOp .NotEq)) Q X:=xa (fun{_ _ _ s _ _ _ _} C _ r1 r2 k=>by
 refine zB r1 fun a items zm ht hr=>?_;clear r1;subst zm;refine zB r2 fun b vh zm uM uW=>?_;clear r2;subst zm;have hu:=C.unit;refine RcNeAt.tuples (e:=fun j=>qf (l.getD j .none) (m.getD j .none)) ht uM (A21 0x2016BCB0202100401 hu) (fun j h1 h2=>?_) _ _ _ _ ?_
 .refine zg (Zv hr h1) fun p e1 e2=>?_;refine zg (Zv uW h2) fun q vL Y9=>?_;simp only[List.getD,e1,vL,Option.getD_some];exact nX n p q _ _ (j5 hl e1) (j5 hm vL) e2 Y9 (by simp only[Around.in1_units];exact A32 0x1E79610044016BCB020210082D02101 hu hn)
 .have z1:=hr.length;have z2:=uW.length;rw[Array.length_toList] at z1 z2;rw[z1,z2,Z0];exact k _ s.toks (uQ _ _ _)) q
theorem UM (n:Nat)(h:PV.oks n l=true)(hn:n<=60)(q:Q (.bool true) H):zh g d H [.tup l,.tup l] (t2 (compareOp .Eq)) Q X:=lj n h h hn (by rw[js n l h];exact q)
theorem qj (n:Nat)(h:PV.oks n l=true)(hn:n<=60)(q:Q (.bool false) H):zh g d H [.tup l,.tup l] (t2 (compareOp .NotEq)) Q X:=i5 n h h hn (by rw[js n l h];exact q)
theorem Kx (h:p.ok n=true):PV.oks n [.str s,p]=true:=by show(true&&(_&&true))=true;rw[h];rfl
theorem HI.listAt (I:HI g θ H F h)(e:H i=some (.list l))(ha:i.at θ=some a):∃ items n,IsL h a items n/\yb θ h l items.toList/\items.size=l.length:=by refine xI (I.rep i _ e) fun a' we _ _ zz=>?_;refine yE zz fun items n hl hr=>?_;rw[ha] at we;obtain rfl:=yd we;exact⟨items,n,hl,hr,by rw[<-Array.length_toList];exact hr.length⟩
theorem yz (r:Rd θ h (.obj i) v):∃ a,i.at θ=some a/\v=.ref a:=r
theorem QN {x:Str}{l:List Str}(q:Q (.bool (l.contains x)) H):zh g d H [.str x,.tup (l.map .str)] (t2 (compareOp .In)) Q X:=xa (fun{_ _ θ s _ _ _ _} C _ r1 r2 k=>by
 refine zA (vC r1) fun t zW=>?_;subst zW;refine zB r2 fun b vh zm uM uW=>?_;clear r2;subst zm;have all:∀ (l:List Str) (vs:List Value),yb θ s.heap (l.map .str) vs->(∀ v∈vs,∃ y u,v=.str y u)/\vs.any (fun v=>match v with|.str y _=>y==x|_=>false)=l.contains x:=by
  intro l;induction l with
  |nil=>intro vs r;cases r;exact⟨fun _ h=>(wg h),rfl⟩|cons y l ih=>
   intro vs r;refine zB r fun v r' zm r1 r2=>?_;clear r;subst zm;refine zA (vC r1) fun u zW=>?_;subst zW;refine a2 (ih _ r2) fun i1 i2=>?_;refine⟨fun v hv=>?_,?_⟩
   .rcases kS hv with rfl|hv
    .exact⟨y,u,rfl⟩
    .exact i1 v hv
   .rw[List.any_cons,i2,List.contains_cons,Bool.beq_comm]
 refine a2 (all l _ uW) fun h1 h2=>?_;refine in_tupleAt (fun v=>match v with|.str y _=>y==x|_=>false) uM (fun y hy=>?_) ?_
 .refine vg (h1 y (Array.mem_toList_iff.mpr hy)) fun z u zm=>?_;subst zm;exact EqAt.str_str _ _ _ _
 .rw[<-Array.any_toList,h2];exact k _ s.toks (uQ _ _ _)) q
noncomputable def vF (l:List (Int×PV))(k:Int):Option PV:=(l.find? fun x=>decide (x.1=k)).map (·.2)
noncomputable def X8 (l:List (Int×PV))(k:Int)(v:PV):List (Int×PV):=if l.any (fun x=>decide (x.1=k)) then l.map (fun x=>if x.1=k then(x.1,v) else x) else l++[(k,v)]
theorem jq.get {K:Type}[DecidableEq K]{l:List (K×PV)}:∀ {kvs:List (K×Value)},jq θ h l kvs->∀ k,((l.find? fun x=>decide (x.1=k)).map (·.2)).isSome=(valueAt kvs k).isSome/\∀ p,(l.find? fun x=>decide (x.1=k)).map (·.2)=some p->∃ v,valueAt kvs k=some v/\Rd θ h p v:=by
 induction l with
 |nil=>
  intro kvs ⟨e,r⟩ k;cases kvs with
  |nil=>exact⟨rfl,fun p hp=>zJ hp⟩|cons _ _=>exact nomatch e
 |cons xp l ih=>
  obtain⟨x,p⟩:=xp;intro kvs ⟨e,r⟩ k;cases kvs with
  |nil=>exact nomatch e|cons y kvs=>
   obtain⟨y,v⟩:=y;have e0:y=x:=(List.cons.inj e).1;obtain⟨v',r',e1,r1,r2⟩:=r;cases e1;have ih:=ih ⟨(List.cons.inj e).2,r2⟩ k;subst e0;by_cases hk:y=k
   .have f1:((y,p)::l).find? (fun x=>decide (x.1=k))=some (y,p):=List.find?_cons_of_pos (decide_eq_true hk);have f2:valueAt ((y,v)::kvs) k=some v:=congrArg (Option.map fun z:K×Value=>z.2) (List.find?_cons_of_pos (a:=(y,v)) (l:=kvs) (p:=fun kv:K×Value=>decide (kv.1=k)) (decide_eq_true hk));rw[f1,f2];exact⟨rfl,fun p' hp=>⟨v,rfl,by cases hp;exact r1⟩⟩
   .have f1:((y,p)::l).find? (fun x=>decide (x.1=k))=l.find? fun x=>decide (x.1=k):=List.find?_cons_of_neg fun z=>hk (of_decide_eq_true z);have f2:valueAt ((y,v)::kvs) k=valueAt kvs k:=congrArg (Option.map fun z:K×Value=>z.2) (List.find?_cons_of_neg (a:=(y,v)) (l:=kvs) (p:=fun kv:K×Value=>decide (kv.1=k)) fun z=>hk (of_decide_eq_true z));rw[f1,f2];exact ih
theorem jq.store {K:Type}[DecidableEq K]{θ:Nm}{h:Heap}{p:PV}{v:Value}{k:K}(hp:Rd θ h p v){l:List (K×PV)}{kvs:List (K×Value)}(r:jq θ h l kvs):
  jq θ h (if l.any (fun x=>decide (x.1=k)) then l.map (fun x=>if x.1=k then(x.1,p) else x) else l++[(k,p)]) (stored kvs k v):=by
 have any:kvs.any (fun kv=>decide (kv.1=k))=l.any (fun x=>decide (x.1=k)):=by
  have e:=r.1;have:∀ (l:List (K×PV)) (kvs:List (K×Value)),kvs.map (·.1)=l.map (·.1)->kvs.any (fun kv=>decide (kv.1=k))=l.any (fun x=>decide (x.1=k)):=by
   intro l;induction l with
   |nil=>intro kvs e;cases kvs<;>simp at e|-|cons x l ih=>intro kvs e;cases kvs with|nil=>simp at e|cons y kvs=>simp only[List.map_cons,List.cons.injEq] at e;rw[List.any_cons,List.any_cons,ih kvs e.2,e.1]
  exact this l kvs e
 unfold stored;rw[any];by_cases ha:l.any (fun x=>decide (x.1=k))=true
 .rw[if_pos ha,if_pos ha];clear any ha;induction l generalizing kvs with
  |nil=>
   cases kvs with
   |nil=>exact r|cons _ _=>have:=r.1;simp at this
  |cons x l ih=>
   refine a2 r fun e rr=>?_;clear r;cases kvs with
   |nil=>simp at e|cons y kvs=>
    simp only[List.map_cons,List.cons.injEq] at e;refine zB rr fun v' r' e1 r1 r2=>?_;clear rr;cases e1;refine a2 (ih (kvs:=kvs) ⟨e.2,r2⟩) fun i1 i2=>?_;refine⟨?_,?_⟩
    .rw[List.map_cons,List.map_cons,List.map_cons,List.map_cons,i1];congr 1;by_cases h1:x.1=k
     .have:y.1=k:=e.1.trans h1;simp[h1,this]
     .have:¬y.1=k:=fun q=>h1 (e.1.symm.trans q);simp[h1,this,e.1]
    .rw[List.map_cons,List.map_cons,List.map_cons,List.map_cons];refine⟨_,_,rfl,?_,i2⟩;by_cases h1:x.1=k
     .have:y.1=k:=e.1.trans h1;simp[h1,this,hp]
     .have:¬y.1=k:=fun q=>h1 (e.1.symm.trans q);simp[h1,this,r1]
 .rw[if_neg ha,if_neg ha];refine⟨by simp[r.1],?_⟩;rw[List.map_append,List.map_append];exact r.2.append (⟨v,[],rfl,hp,rfl⟩)
theorem xY (prog:Program)(w:World)(i:Int)(t:Tok):(intKind prog w).is i (.int i t)=true:=by exact intKind_is _ _ _ _
theorem HI.dictAt (I:HI g θ H F h)(e:H i=some (.dictI l))(ha:i.at θ=some a):g.B.get? a=none/\∃ kvs,h.DictOf (intKind g.prog g.w) a kvs/\jq θ h l kvs:=by refine xI (I.rep i _ e) fun a' we hB _ zz=>?_;refine zg zz fun kvs hl hr=>?_;rw[ha] at we;obtain rfl:=yd we;exact⟨hB,kvs,hl,hr⟩
theorem lp (hi:H i=some (.dictI l))(q:Q (.bool (vF l k).isSome) H):zh g d H [.int k,.obj i] (t2 (compareOp .In)) Q X:=xa (fun{_ _ _ s _ _ _ _} C I r1 r2 kk=>by refine zA (zX r1) fun t zW=>?_;subst zW;refine zg (yz r2) fun a ha zm=>?_;subst zm;refine a2 (I.dictAt hi ha) fun hB zz=>?_;refine zg zz fun kvs hd hp=>?_;refine wpAny_in_of (xY _ _ _ _) (C.mods I hB) hd.mapOf ?_;have:=(hp.get k).1;unfold vF at kk;rw[<-this];exact kk _ _ (uQ _ _ _)) q
theorem ik (hi:H i=some (.dictI l))(q:Q (.bool (!(vF l k).isSome)) H):zh g d H [.int k,.obj i] (t2 (compareOp .NotIn)) Q X:=xa (fun{_ _ _ s _ _ _ _} C I r1 r2 kk=>by refine zA (zX r1) fun t zW=>?_;subst zW;refine zg (yz r2) fun a ha zm=>?_;subst zm;refine a2 (I.dictAt hi ha) fun hB zz=>?_;refine zg zz fun kvs hd hp=>?_;refine wpAny_notIn_of (xY _ _ _ _) (C.mods I hB) hd.mapOf ?_;have:=(hp.get k).1;unfold vF at kk;rw[<-this];exact kk _ _ (uQ _ _ _)) q
theorem Q5 (hi:H i=some (.setI S n))(q:Q (.bool (!S k)) H):zh g d H [.int k,.obj i] (t2 (compareOp .NotIn)) Q X:=xa (fun{_ _ _ s _ _ _ _} C I r1 r2 kk=>by refine zA (zX r1) fun t zW=>?_;subst zW;refine zg (yz r2) fun a ha zm=>?_;subst zm;refine xI (I.rep i _ hi) fun a' we hB _ hS=>?_;rw[ha] at we;obtain rfl:=yd we;exact wpAny_notInSet_of (xY _ _ _ _) rfl hS (kk _ _ (uQ _ _ _))) q
theorem Cm (h:z_ g d c ρ H value (fun a HZ=>z_ g d c ρ HZ slice (fun b H2_=>zh g d H2_ [a,b] (t2 (subscriptTail value slice)) Q X) X) X):z_ g d c ρ H (.Subscript value slice pos) Q X:=by intro A env zb za θ s Qc Ec C EI I L hQ hX;refine PyProof.Rows.Subscript_ (h A env zb za θ s _ _ C EI I L (fun va a θZ HZ hZ tkZ qZ GZ rZ=>?_) hX);refine qZ A env zb za θZ _ _ _ C EI GZ.inv (L.go I GZ) (fun vb b θY H2_ hY tkY qY GY rY=>?_) (hX.after GZ);exact qY A _ θY _ [va,vb] _ _ C GY.inv (⟨va,_,rfl,GY.rd GZ.inv rZ,vb,_,rfl,rY,rfl⟩) (hQ.after (GZ.trans GY)) (hX.after (GZ.trans GY))
theorem rP (h0:0<=k)(h1:k.toNat<n):seqIndex? k n=some k.toNat:=seqIndex_of h0 ((Int.toNat_lt h0).mp h1)
theorem lJ (h0:0<=k)(hk:k<=100000000)(hx:l[k.toNat]?=some p)(q:Q p H) (hs:autoParam (∀ o i,subscripted slice false o i=operate [o,i] (getItem o i)) ta._auto_3):zh g d H [.tup l,.int k] (t2 (subscriptTail value slice)) Q X:=xa (fun{_ _ _ s _ _ _ _} C I r1 r2 kk=>by
 refine zA (zX r2) fun t zW=>?_;subst zW;refine zB r1 fun b items zm ht hr=>?_;clear r1;subst zm;refine zg (hr.get hx) fun v e1 e2=>?_;have Jp:k.toNat<items.size:=by rw[<-Array.length_toList];exact(xU e1).1
 refine tail_any (T:="tuple") (by obtain⟨o,ho,hc,_⟩:=ht;exact⟨o,ho,hc⟩) F.slot_tuple_getitem.lookup (PyProof.Rows.getItem_tuple ht (Int.le_trans (by decide) h0) (Int.lt_of_le_of_lt hk (by decide)) (rP h0 Jp) (by rw[<-Array.getElem?_toList];exact e1) (kk v s.toks e2)) (hs _ _)) q
theorem D4 (hi:H i=some (.list l))(h0:0<=k)(hk:k<=100000000)(hx:l[k.toNat]?=some p)(q:Q p H) (hs:autoParam (∀ o i,subscripted slice false o i=operate [o,i] (getItem o i)) ta._auto_3):zh g d H [.obj i,.int k] (t2 (subscriptTail value slice)) Q X:=xa (fun{_ _ _ s _ _ _ _} C I r1 r2 kk=>by refine zA (zX r2) fun t zW=>?_;subst zW;refine zg (yz r1) fun a ha zm=>?_;subst zm;refine zB (I.listAt hi ha) fun items n hl hr _=>?_;refine zg (hr.get hx) fun v e1 e2=>?_;exact tail_any (T:="list") ⟨_,hl,rfl⟩ F.slot_list_getitem.lookup (wpAny_getItem_list hl.isList h0 (Int.lt_of_le_of_lt hk (by decide)) (by rw[<-Array.getElem?_toList];exact e1) (kk v s.toks e2)) (hs _ _)) q
theorem E6 (hi:H i=some (.dictI l))(hx:vF l k=some p)(q:Q p H) (hs:autoParam (∀ o i,subscripted slice false o i=operate [o,i] (getItem o i)) ta._auto_3):zh g d H [.obj i,.int k] (t2 (subscriptTail value slice)) Q X:=xa (fun{_ _ _ s _ _ _ _} C I r1 r2 kk=>by refine zA (zX r2) fun t zW=>?_;subst zW;refine zg (yz r1) fun a ha zm=>?_;subst zm;refine a2 (I.dictAt hi ha) fun hB zz=>?_;refine zg zz fun kvs hd hp=>?_;refine zg ((hp.get k).2 p hx) fun v e1 e2=>?_;exact tail_any (T:="dict") hd.typeIs F.slot_dict_getitem.lookup (wpAny_getItem_of (xY _ _ _ _) hd.mapOf e1 (kk v _ e2)) (hs _ _)) q
theorem rG (hb:0<=b)(h:z_ g d c ρ H value (fun o HZ=>∃ i l,o=.obj i/\HZ i=some (.list l)/\l.length<=10000000/\∀ a,HZ (.an a)=none->Q (.obj (.an a)) (HZ.upd (.an a) (.list (l.take b.toNat)))) X) (ht:autoParam (∀ o r,letTemporaryGo value o r=pure ()) ta._auto_1):z_ g d c ρ H (.Subscript value (.Slice none (some (.Constant (.int b) k cp)) none p) pos) Q X:=by
 intro A env zb za θ s Qc Ec C EI I L hQ hX;refine wpAny_Subscript_list_slice (h A env zb za θ s _ _ C EI I L (fun va a θZ HZ hZ tkZ qZ GZ rZ=>?_) hX) ht;refine bw qZ fun i l zm hi hz q=>?_;clear qZ;subst zm;refine zg (yz rZ) fun a ha zm=>?_;subst zm;refine zB (GZ.inv.listAt hi ha) fun items n hl hr hsz=>?_;rw[evalPart_none];refine wpAny_pure ?_;rw[evalPart_some];refine wpAny_Constant_int ?_;refine⟨a,items,none,some b,rfl,hl.isList,by rw[sizeLine_eq];exact A22 0x3FD610042010418FAC00 hsz hz,.none,.int _ _,?_⟩;have pk:=yw hZ {cls:=.type "slice",data:=.fields #[.none,.int b tkZ,.none]};have fh:=yw (hZ.push {cls:=.type "slice",data:=.fields #[.none,.int b tkZ,.none]}) {cls:=.type "list",data:=.seq (slicePick items none (some b) none)};have K:∀ x o,hZ.get? x=some o->((hZ.push {cls:=.type "slice",data:=.fields #[.none,.int b tkZ,.none]}).push {cls:=.type "list",data:=.seq (slicePick items none (some b) none)}).get? x=some o:=fun x o e=>fh x o (pk x o e);have rr:=yb.take b.toNat (yb.mono (zZ.refl θZ) (fun a _ ⟨o,ho,x⟩=>⟨o,K a o ho,x⟩) _ _ hr);have hp:slicePick items none (some b) none=(items.toList.take b.toNat).toArray:=by rw[kms_pick_eq];unfold kms_pick kms_lo kms_hi;have a:¬b<0:=Int.not_lt.mpr hb;simp only[if_neg a,List.drop_zero,Nat.sub_zero];congr 1;rw[kmk_take_min]
 have GY:=Go.newA (g:=g) (F:=zE (zb::za)) (S:=yB) (a:=hZ.objs.size+1) (mo:=.list (l.take b.toNat)) GZ.inv (Heap.get?_none_of_le (A10 0xD02000)) K
  ⟨_,0,by have:=Heap.get?_push_size (hZ.push {cls:=.type "slice",data:=.fields #[.none,.int b tkZ,.none]}) (o:={cls:=.type "list",data:=.seq (slicePick items none (some b) none)}) rfl;rw[Heap.size_push] at this;exact this,by rw[hp] at rr|-;exact rr⟩
 exact hQ _ _ θZ _ _ _ (q _ GY.2) (GZ.trans GY.1) (⟨_,rfl,rfl⟩)
def uu (es:List Expr):Prop:=∀ env,starEach es env=es.map fun e=>(false,eval e env)
theorem YU:∀ es:List Expr,(backTo pos (es.map fun e=>(false,eval e env))).any (·.1)=false|[]=>rfl|e::r=>by have ih:=YU (pos:=pos) (env:=env) r;unfold backTo at ih|-;simp only[List.map_cons,List.any_cons,Bool.false_or];exact ih
theorem Vu {E:Value->Shared->Prop}{Q:Args->Shared->Prop}(hp:uu es) (h:wpAny M A (spliced (backTo pos (starEach es env))) (fun vs s1_=>Q ⟨vs,[]⟩ s1_) E s):wpAny M A (evalArgs f true (backTo pos (starEach es env)) []) Q E s:=by rw[hp env] at h|-;cases es with|nil=>unfold evalArgs;refine wpAny_bind (wpAny_mono h (fun vs s' h'=>?_) fun _ _ x=>x);refine wpAny_holding ?_;exact wpAny_bind (wpAny_pure (wpAny_bind (wpAny_pure (wpAny_pure h'))))|cons e r=>exact evalArgs_plain h
end
section
variable {g:Gr} {d:Nat} {c:Scope} {ρ:zS} {H:AH} {Q X:PV->AH->Prop}
theorem w6.noFields (r:w6 g θ h a mo):∃ o,h.get? a=some o/\∀ vs,o.data=.fields vs->∃ C,o.cls=.ref C:=by
 cases mo with
 |list l=>obtain⟨items,n,ho,_⟩:=r;exact⟨_,ho,fun _ e=>by cases e⟩
 |dictI l=>obtain⟨kvs,⟨o,es,ep,ho,_,hd,_⟩,_⟩:=r;exact⟨o,ho,fun _ e=>by rw[hd] at e;cases e⟩
 |dictS l=>obtain⟨kvs,⟨o,es,ep,ho,_,hd,_⟩,_⟩:=r;exact⟨o,ho,fun _ e=>by rw[hd] at e;cases e⟩
 |dictT l=>obtain⟨xs,⟨o,es,ep,ho,_,hd,_⟩,_⟩:=r;exact⟨o,ho,fun _ e=>by rw[hd] at e;cases e⟩
 |setI S n=>obtain⟨o,es,ep,t,ho,_,hd,_⟩:=r;exact⟨o,ho,fun _ e=>by rw[hd] at e;cases e⟩
 |inst C d=>obtain⟨da,sl,_,ho⟩:=r;exact⟨_,ho,fun _ e=>by cases e⟩
 |ns l=>obtain⟨es,n,ho,_⟩:=r;exact⟨_,ho,fun _ e=>by cases e⟩
 |exc C d=>obtain⟨od,t,ho,_⟩:=r;exact⟨_,ho,fun _ _=>⟨C,rfl⟩⟩
theorem HI.notF (I:HI g θ H F h)(ho:h.get? b=some o)(hd:o.data=.fields vs):b∉F:=by intro hm;refine a2 (I.frames b hm) fun _ zz=>?_;refine vW zz fun o' es n yg xi=>?_;rw[ho] at yg;cases yg;rw[hd] at xi;cases xi
theorem HI.fields (I:HI g θ H F h)(ho:h.get? b=some o)(hd:o.data=.fields vs)(hc:o.cls=.type T):¬wI θ H b/\b∉F:=by refine⟨?_,I.notF ho hd⟩;intro zq;refine yE zq fun i mo hi ha=>?_;clear zq;refine xI (I.rep i mo hi) fun a' we _ _ r=>?_;rw[ha] at we;obtain rfl:=yd we;refine zg r.noFields fun o' yg x=>?_;rw[ho] at yg;obtain rfl:=yd yg;refine zA (x vs hd) fun C e=>?_;rw[hc] at e;cases e
theorem Go.other (G:Go g F S θX HX h₀ θ H h)(hb:h₀.get? b=none)(hB:g.B.get? b=none)(ho:h.get? b=some o)(hd:o.data=.fields vs)(nd:¬wI θ H b) (k:∀ c o,c≠b->h.get? c=some o->h'.get? c=some o):Go g F S θX HX h₀ θ H h':=by
 have nF:=G.inv.notF ho hd;have ne:∀ c o,h₀.get? c=some o->c≠b:=fun c o e q=>by rw[q,hb] at e;exact zJ e
 have tk:qX h h':=fun a o' items n hc xi yg=>k a o' (fun e=>by subst e;rw[ho] at yg;cases yg;rw[hd] at xi;cases xi) yg;refine⟨⟨fun c o e=>k c o (fun q=>by rw[q,hB] at e;cases e) (G.inv.stays c o e),fun i mo hi=>?_,G.inv.inj,G.inv.named,fun c hc=>?_⟩,G.nm,fun c o e fc ns QH=>k c o (ne c o e) (G.keep c o e fc ns QH),fun c o e ns hF=>?_,fun c o e=>?_,G.dom⟩
 .refine xI (G.inv.rep i mo hi) fun a e1 e2 e3 r=>?_;exact⟨a,e1,e2,e3,r.mono (zZ.refl θ) tk fun o=>k a o fun q=>nd ⟨i,mo,hi,q▸e1⟩⟩
 .refine a2 (G.inv.frames c hc) fun e1 zz=>?_;refine vW zz fun o' es n e2 e3=>?_;exact⟨e1,o',es,n,k c o' (fun q=>nF (q▸hc)) e2,e3⟩
 .refine zA (G.fram c o e ns hF) fun sl e1=>?_;exact⟨sl,k c _ (ne c o e) e1⟩
 .refine zA (G.ex c o e) fun o' e1=>?_;exact⟨o',k c o' (ne c o e) e1⟩
theorem Go.slots (G:Go g F S θX HX h₀ θ H h)(x:Heap.SlotsOnly F h h'):Go g F S θX HX h₀ θ H h':=by
 have k:∀ b o,b∉F->h.get? b=some o->h'.get? b=some o:=fun b o hb e=>(x.2.1 b hb).trans e;have tk:qX h h':=fun a o' items n hc xi yg=>k a o' (fun hm=>by refine a2 (G.inv.frames a hm) fun _ zz=>?_;refine vW zz fun o es n' e1 e2=>?_;rw[yg] at e1;cases e1;rw[xi] at e2;cases e2) yg;refine⟨⟨fun c o e=>k c o (fun hm=>by rw[(G.inv.frames c hm).1] at e;cases e) (G.inv.stays c o e),fun i mo hi=>?_,G.inv.inj,G.inv.named,fun c hc=>?_⟩,G.nm,fun c o e fc ns QH=>k c o QH (G.keep c o e fc ns QH),fun c o e ns hF=>?_,fun c o e=>?_,G.dom⟩
 .refine xI (G.inv.rep i mo hi) fun a e1 e2 e3 r=>?_;exact⟨a,e1,e2,e3,r.mono (zZ.refl θ) tk fun o=>k a o e3⟩
 .refine a2 (G.inv.frames c hc) fun e1 zz=>?_;refine vW zz fun o' es n e2 e3=>?_;refine zA (x.2.2 c o' e2) fun sl e4=>?_;exact⟨e1,_,es,n,e4,e3⟩
 .refine zA (G.fram c o e ns hF) fun sl e1=>?_;refine zA (x.2.2 c _ e1) fun fm e2=>?_;exact⟨fm,e2⟩
 .refine zA (G.ex c o e) fun o' e1=>?_;refine zA (x.2.2 c _ e1) fun fm e2=>?_;exact⟨_,e2⟩
theorem Go.grow (G:Go g F S θX HX h₀ θ H h)(k:∀ b o,h.get? b=some o->h'.get? b=some o):Go g F S θX HX h₀ θ H h':=by have E:=Go.ext (S:=S) G.inv k;exact G.trans E
theorem dW {za:List Env}{h:Heap}(C:∀ env∈za,env.scope.kind≠.module/\∃ L,env.frame=some L)(I:∀ b∈zE za,g.B.get? b=none/\∃ o es n,h.get? b=some o/\o.data=.dict es n):h.FunFrames g.B za:=by
 induction za with
 |nil=>trivial|cons env r ih=>
  refine a2 (C env (.head _)) fun h1 zz=>?_;refine zA zz fun L h2=>?_;have hm:L∈zE (env::r):=by unfold zE;rw[List.filterMap_cons,h2];exact .head _
  refine a2 (I L hm) fun e1 zz=>?_;refine vW zz fun o es n e2 e3=>?_;refine⟨h1,⟨L,o,h2,e1,e2,fun vs e=>by rw[e3] at e;cases e⟩,ih (fun e he=>C e (.tail _ he)) fun b hb=>I b ?_⟩;unfold zE;rw[List.filterMap_cons,h2];exact .tail _ hb
structure vp (h₀:Heap)(θ:Nm)(H:AH)(h:Heap)(a da:Addr)(p:PV):Prop where
 nd:¬wI θ H a
 new:h₀.get? a=none
 newB:g.B.get? a=none
 obj:∃ vs sl,h.get? a=some ⟨.ref g.C,some da,.fields vs,sl⟩/\vs.size=6/\ (vs[1]?=some .none\/∃ T oT ts,vs[1]?=some (.ref T)/\T≠a/\h₀.get? T=none/\h.get? T=some oT/\oT.cls=.type "traceback"/\oT.data=.fields ts/\3<ts.size)
 newD:h₀.get? da=none
 ball:∃ es n bt,h.get? da=some (dictOf es n)/\getL "ball" es=some (some bt)/\Rd θ h p bt
theorem VE (x:V4 g h₀ θ H h e p)(st:g.B.StaysIn h₀):∃ a da,e=.ref a/\vp (g:=g) h₀ θ H h a da p:=by refine iU x fun a vs sl da es n bt e1 vL e2 e3 e4 e5 e6 e7 e8 e9=>?_;clear x;refine⟨a,da,e1,vL,e2,?_,⟨vs,sl,e3,e4,e9⟩,e5,es,n,bt,e6,e7,e8⟩;cases q:g.B.get? a with|none=>rfl|some o=>have:=st a o q;rw[e2] at this;exact zJ this
theorem vp.exc (x:vp (g:=g) h₀ θ H h a da p):V4 g h₀ θ H h (.ref a) p:=by refine zB x.obj fun vs sl e3 e4 e9=>?_;refine wo x.ball fun es n bt e6 e7 e8=>?_;exact⟨a,vs,sl,da,es,n,bt,rfl,x.nd,x.new,e3,e4,x.newD,e6,e7,e8,e9⟩
section
variable {M:Model} {A:Around} {E:Value->Shared->Prop} {s:Shared} {F:List Addr} {S:Addr->Prop} {θX θ:Nm} {HX:AH} {h₀:Heap} {a da:Addr} {p:PV}
theorem vp.dne (x:vp (g:=g) h₀ θ H h a da p):da≠a:=by intro e;refine yE x.obj fun vs sl e3 _=>?_;refine vW x.ball fun es n bt e6 _=>?_;rw[e,e3] at e6;cases e6
theorem UD {Q:Unit->Shared->Prop}(G:Go g F S θX HX h₀ θ H s.heap)(x:vp (g:=g) h₀ θ H s.heap a da p)(uL:IsPlace pl) (h:∀ h',Go g F S θX HX h₀ θ H h'->vp (g:=g) h₀ θ H h' a da p->(∃ vs sl T,h'.get? a=some ⟨.ref g.C,some da,.fields vs,sl⟩/\vs.size=6/\vs[1]?=some (.ref T))->Q () {s with heap:=h'}):
  wpAny M A (do let b <-EntryCells.newEntry head z2 z4 (rawInt f) z5 pl;setField (.ref a) 1 b) Q E s:=by
 have Nq:=uL;unfold EntryCells.newEntry newFields;refine wpAny_bind (wpAny_newObj_type ?_ (uL.sizeOk5 _ _ _ _ _));refine zB x.obj fun vs sl e3 e4 e9=>?_;refine wo x.ball fun es n bt e6 e7 e8=>?_;have pk:=yw s.heap {cls:=.type "traceback",dict:=none,data:=.fields ([head,z2,z4,rawInt f,z5]++(if pl.isEmpty then List.replicate 6 Value.none else pl)).toArray};have hT:=Heap.get?_push_size s.heap (o:={cls:=.type "traceback",dict:=none,data:=.fields ([head,z2,z4,rawInt f,z5]++(if pl.isEmpty then List.replicate 6 Value.none else pl)).toArray}) rfl;generalize hh:s.heap.push {cls:=.type "traceback",dict:=none,data:=.fields ([head,z2,z4,rawInt f,z5]++(if pl.isEmpty then List.replicate 6 Value.none else pl)).toArray}=h1 at pk hT|-;have Qu:s.heap.objs.size≠a:=Nat.ne_of_gt (Heap.lt_size e3);have NB:s.heap.objs.size≠da:=Nat.ne_of_gt (Heap.lt_size e6);refine wpAny_setField (pk _ _ e3) rfl (A11 0x90061001A1 e4) ?_;have ge:=Heap.get?_update_self (h:=h1) (Obj.mapFields (·.setIfInBounds 1 (Value.ref s.heap.objs.size))) (pk _ _ e3) rfl;have go:∀ b,b≠a->(h1.update a (Obj.mapFields (·.setIfInBounds 1 (Value.ref s.heap.objs.size)))).get? b=h1.get? b:=fun b hb=>Heap.get?_update_other _ _ (Ne.symm hb);generalize uJ:h1.update a (Obj.mapFields (·.setIfInBounds 1 (Value.ref s.heap.objs.size)))=h2 at ge go|-;have G2:Go g F S θX HX h₀ θ H h2:=(G.grow pk).other x.new x.newB (pk _ _ e3) rfl x.nd fun b o hb e=>(go b hb).trans e;have FW:h2.get? a=some ⟨.ref g.C,some da,.fields (vs.setIfInBounds 1 (Value.ref s.heap.objs.size)),sl⟩:=ge;have v1:(vs.setIfInBounds 1 (Value.ref s.heap.objs.size))[1]?=some (.ref s.heap.objs.size):=by simp[e4]
 have sz:(vs.setIfInBounds 1 (Value.ref s.heap.objs.size)).size=6:=by simp[e4]
 have nT:h₀.get? s.heap.objs.size=none:=by
  cases q:h₀.get? s.heap.objs.size with
  |none=>rfl|some o=>obtain⟨o',e⟩:=G.ex _ _ q;exact absurd (Heap.lt_size e) (Nat.lt_irrefl _)
 refine h h2 G2 ⟨x.nd,x.new,x.newB,⟨_,sl,FW,sz,.inr ⟨_,_,_,v1,Qu,nT,(go _ Qu).trans hT,rfl,rfl,?_⟩⟩,x.newD,es,n,bt,(go _ x.dne).trans (pk _ _ e6),e7,?_⟩ ⟨_,sl,_,FW,sz,v1⟩
 .simp only[List.size_toArray,List.length_append,List.length_cons,List.length_nil];exact A10 0x1AD6B5AC42108421E1
 .refine Rd.mono (zZ.refl θ) (fun b items ⟨o,ho,hc,m,hd⟩=>⟨o,(go b fun q=>?_).trans (pk b o ho),hc,m,hd⟩) _ _ e8;subst q;rw[e3] at ho;cases ho;cases hd
theorem ZK {Q:Unit->Shared->Prop}(sQ:A.frames=some (env::za))(hf:env.frame=some L)(hk:∀ e∈env::za,e.scope.kind≠.module/\∃ L,e.frame=some L)(hF:F=zE (env::za))
  {Wj:Env} (l5:Wj.frame=env.frame) (Vh:∀ b∈F,∃ o,h₀.get? b=some o) (kT:∀ b o,g.B.get? b=some o->∃ o',h₀.get? b=some o')
  (G:Go g F S θX HX h₀ θ H s.heap) (x:vp (g:=g) h₀ θ H s.heap a da p)
  (h:∀ h',Go g F S θX HX h₀ θ H h'->vp (g:=g) h₀ θ H h' a da p->(∃ vs sl T,h'.get? a=some ⟨.ref g.C,some da,.fields vs,sl⟩/\vs.size=6/\vs[1]?=some (.ref T))->Q () {s with heap:=h'}):
  wpAny M A (noteFrame (.ref a) Wj) Q E s:=by
 have Jc:∀ {s':Shared} (head:Value) (b:Bool),Go g F S θX HX h₀ θ H s'.heap->vp (g:=g) h₀ θ H s'.heap a da p->s'={s with heap:=s'.heap}->
   wpAny M A (do let fr <-PySem.frameOf Wj;let pl <-entryPlaceOf L b;let bb <-EntryCells.newEntry head fr .none (rawInt L) .none pl;setField (.ref a) 1 bb) Q E s':=by
  intro s' head b G x ZD;have fo:PySem.frameOf Wj=PySem.frameOf env:=by unfold PySem.frameOf;rw[l5]
  rw[fo];refine wpAny_bind (wpAny_frameOf_fun (base:=g.B) sQ (dW hk (hF▸G.inv.frames)) hf fun h1 Gj=>?_);have Jy:Heap.SlotsOnly F s'.heap h1:=by rw[hF];exact Gj
  have G1:=G.slots Jy;have x1:vp (g:=g) h₀ θ H h1 a da p:=by
   refine zB x.obj fun vs sl e3 e4 e9=>?_;refine wo x.ball fun es n bt e6 e7 e8=>?_;have na:=G.inv.notF e3 rfl;have nd:da∉F:=fun hm=>by refine zA (Vh da hm) fun o e=>?_;rw[x.newD] at e;exact zJ e
   refine⟨x.nd,x.new,x.newB,⟨vs,sl,(Jy.2.1 a na).trans e3,e4,?_⟩,x.newD,es,n,bt,(Jy.2.1 da nd).trans e6,e7,?_⟩
   .rcases e9 with q|⟨T,oT,ts,q1,q2,q3,q4,q4',q5,q6⟩
    .exact .inl q
    .exact .inr ⟨T,oT,ts,q1,q2,q3,(Jy.2.1 T (G.inv.notF q4 q5)).trans q4,q4',q5,q6⟩
   .exact Rd.mono (zZ.refl θ) (fun b items ⟨o,ho,hc,m,hd⟩=>⟨o,(Jy.2.1 b fun hm=>by refine a2 (G.inv.frames b hm) fun _ zz=>?_;refine vW zz fun o' so n' e1 e2=>?_;rw[ho] at e1;cases e1;rw[hd] at e2;cases e2).trans ho,hc,m,hd⟩) _ _ e8
  refine wpAny_bind (wpAny_entryPlaceOf fun pl uL=>?_);exact UD (s:={s' with heap:=h1}) G1 x1 uL fun h2 G2 x2 t2=>by rw[ZD];exact h h2 G2 x2 t2
 refine zB x.obj fun vs sl e3 e4 e9=>?_;unfold noteFrame;rw[l5,hf];rcases e9 with q|⟨T,oT,ts,q1,q2,q3,q4,q4',q5,q6⟩
 .refine wpAny_bind (wpAny_field e3 rfl q ?_);rw[if_neg (by decide)];exact Jc .none _ G x rfl
 .refine wpAny_bind (wpAny_field e3 rfl q1 ?_);rw[if_pos (show(Value.ref T !=Value.none)=true from by simp)];have h3:∃ t3,ts[3]?=some t3:=⟨_,Array.getElem?_eq_getElem q6⟩;refine zA h3 fun t3 h3=>?_;refine wpAny_bind (wpAny_field q4 q5 h3 ?_);by_cases hb:(t3==rawInt L)=true
  .rw[if_pos hb];exact wpAny_pure (h s.heap G x ⟨vs,sl,T,e3,e4,q1⟩)
  .rw[if_neg hb];refine wpAny_bind (wpAny_setField q4 q5 q6 ?_);have kJ:(Obj.mapFields (·.setIfInBounds 3 Value.none) oT).isFreed=false:=Obj.isFreed_of_fields (Obj.data_mapFields q5 _);have gT:=Heap.get?_update_self (h:=s.heap) (Obj.mapFields (·.setIfInBounds 3 Value.none)) q4 kJ;have go:∀ b,b≠T->(s.heap.update T (Obj.mapFields (·.setIfInBounds 3 Value.none))).get? b=s.heap.get? b:=fun b hb=>Heap.get?_update_other _ _ (Ne.symm hb);have sq:g.B.get? T=none:=by
    cases z:g.B.get? T with
    |none=>rfl|some o=>have:=G.inv.stays T o z;rw[q4] at this;cases this;obtain⟨o',z'⟩:=kT T _ z;rw[q3] at z';exact zJ z'
   have G1:=G.other q3 sq q4 q5 (G.inv.fields q4 q5 q4').1 (h':=s.heap.update T (Obj.mapFields (·.setIfInBounds 3 Value.none))) fun b o hb e=>(go b hb).trans e;refine wo x.ball fun es n bt e6 e7 e8=>?_;have dT:da≠T:=fun q=>by rw[<-q,e6] at q4;cases q4;cases q5
   have x1:vp (g:=g) h₀ θ H (s.heap.update T (Obj.mapFields (·.setIfInBounds 3 Value.none))) a da p:=by refine⟨x.nd,x.new,x.newB,⟨vs,sl,(go a (Ne.symm q2)).trans e3,e4,.inr ⟨T,_,_,q1,q2,q3,gT,(Obj.cls_mapFields _ _).trans q4',Obj.data_mapFields q5 _,by simpa using q6⟩⟩,x.newD,es,n,bt,(go da dT).trans e6,e7,?_⟩;exact Rd.mono (zZ.refl θ) (fun b items ⟨o,ho,hc,m,hd⟩=>⟨o,(go b fun hm=>by subst hm;rw[ho] at q4;cases q4;rw[hd] at q5;cases q5).trans ho,hc,m,hd⟩) _ _ e8
   exact Jc (.ref T) true G1 x1 rfl
end
end
section
variable {g:Gr} {d:Nat} {c:Scope} {ρ:zS} {H:AH} {Q X:PV->AH->Prop}
section
variable {M:Model} {A:Around} {E:Value->Shared->Prop} {s:Shared} {F:List Addr} {S:Addr->Prop} {θX θ:Nm} {HX:AH} {h₀:Heap} {a da:Addr} {p:PV}
def Kt (g:Gr)(h:Heap)(a da:Addr):Prop:=∃ vs sl T,h.get? a=some ⟨.ref g.C,some da,.fields vs,sl⟩/\vs.size=6/\vs[1]?=some (.ref T)
theorem jZ {Q:Unit->Shared->Prop}(kT:∀ b o,g.B.get? b=some o->∃ o',h₀.get? b=some o') (G:Go g F S θX HX h₀ θ H s.heap) (x:vp (g:=g) h₀ θ H s.heap a da p) (t:Kt g s.heap a da) (h:∀ h',Go g F S θX HX h₀ θ H h'->vp (g:=g) h₀ θ H h' a da p->Kt g h' a da->Q () {s with heap:=h'}):
  wpAny M A (setFlight (.ref a) fr) Q E s:=by
 refine zB x.obj fun vs sl e3 e4 e9=>?_;refine wo t fun qt fm T' z1 z2 z3=>?_;clear t;rw[e3] at z1;cases z1;rcases e9 with q|⟨T,oT,ts,q1,q2,q3,q4,q4',q5,q6⟩
 .rw[z3] at q;cases q
 .rw[z3] at q1;cases q1;unfold setFlight;refine wpAny_bind (wpAny_field e3 rfl z3 ?_);rw[if_pos (show(Value.ref T' !=Value.none)=true from by simp)];refine wpAny_setField q4 q5 q6 ?_;have kJ:∀ v,(Obj.mapFields (·.setIfInBounds 3 v) oT).isFreed=false:=fun v=>Obj.isFreed_of_fields (Obj.data_mapFields q5 _);generalize (fr.elim Value.none fun f=>rawInt f)=v;have gT:=Heap.get?_update_self (h:=s.heap) (Obj.mapFields (·.setIfInBounds 3 v)) q4 (kJ v);have go:∀ b,b≠T'->(s.heap.update T' (Obj.mapFields (·.setIfInBounds 3 v))).get? b=s.heap.get? b:=fun b hb=>Heap.get?_update_other _ _ (Ne.symm hb);have sq:g.B.get? T'=none:=by
   cases z:g.B.get? T' with
   |none=>rfl|some o=>obtain⟨o',z'⟩:=kT T' _ z;rw[q3] at z';exact zJ z'
  have G1:=G.other q3 sq q4 q5 (G.inv.fields q4 q5 q4').1 (h':=s.heap.update T' (Obj.mapFields (·.setIfInBounds 3 v))) fun b o hb e=>(go b hb).trans e;refine wo x.ball fun es n bt e6 e7 e8=>?_;have dT:da≠T':=fun q=>by rw[<-q,e6] at q4;cases q4;cases q5
  refine h _ G1 ⟨x.nd,x.new,x.newB,⟨vs,sl,(go a (Ne.symm q2)).trans e3,e4,.inr ⟨T',_,_,z3,q2,q3,gT,(Obj.cls_mapFields _ _).trans q4',Obj.data_mapFields q5 _,by simpa using q6⟩⟩,x.newD,es,n,bt,(go da dT).trans e6,e7,?_⟩ ⟨vs,sl,T',(go a (Ne.symm q2)).trans e3,e4,z3⟩;exact Rd.mono (zZ.refl θ) (fun b items ⟨o,ho,hc,m,hd⟩=>⟨o,(go b fun hm=>by subst hm;rw[ho] at q4;cases q4;rw[hd] at q5;cases q5).trans ho,hc,m,hd⟩) _ _ e8
theorem XN {Q:Unit->Shared->Prop}(sQ:A.frames=some (env::za))(hf:env.frame=some L)(hk:∀ e∈env::za,e.scope.kind≠.module/\∃ L,e.frame=some L)(hF:F=zE (env::za))
  {Wj:Env} (l5:Wj.frame=env.frame) (Vh:∀ b∈F,∃ o,h₀.get? b=some o) (kT:∀ b o,g.B.get? b=some o->∃ o',h₀.get? b=some o')
  (G:Go g F S θX HX h₀ θ H s.heap) (x:vp (g:=g) h₀ θ H s.heap a da p)
  (h:∀ h',Go g F S θX HX h₀ θ H h'->vp (g:=g) h₀ θ H h' a da p->Q () {s with heap:=h'}):
  wpAny M A (leaving Wj (.ref a)) Q E s:=by
 unfold leaving;refine wpAny_bind (ZK sQ hf hk hF l5 Vh kT G x fun h' G' x' t'=>?_);exact jZ (s:={s with heap:=h'}) kT G' x' t' fun h2 G2 x2 _=>h h2 G2 x2
theorem YI (kT:∀ b o,g.B.get? b=some o->∃ o',h₀.get? b=some o') (G:Go g F S θX HX h₀ θ H s.heap) (x:vp (g:=g) h₀ θ H s.heap a da p) (t:Kt g s.heap a da) (h:∀ h',Go g F S θX HX h₀ θ H h'->vp (g:=g) h₀ θ H h' a da p->E (.ref a) {s with heap:=h'}):
  cameBackBy M A env E (.ref a) s:=by
 unfold cameBackBy;have t':=t;refine wo t' fun vs sl T z1 z2 z3=>?_;clear t';refine wpAny_bind (wpAny_field z1 rfl z3 ?_);rw[if_neg (show ¬(Value.ref T==Value.none)=true from by simp)];exact jZ kT G x t fun h2 G2 x2 _=>h h2 G2 x2
end
theorem HI.back (I:HI g θ H (L::F) h):HI g θ H F h:=⟨I.stays,fun i mo e=>let⟨a,x,y,z,w⟩:=I.rep i mo e;⟨a,x,y,fun m=>z (.tail _ m),w⟩,I.inj,I.named,fun b m=>I.frames b (.tail _ m)⟩
theorem HI.enter (I:HI g θ H F h)(hL:h.get? L=none)(k:∀ b o,h.get? b=some o->h'.get? b=some o)(hn:h'.Ns L m):HI g θ H (L::F) h':=by
 have E:=(Go.ext (S:=yB) I k).inv;refine⟨E.stays,fun i mo e=>?_,E.inj,E.named,fun b hb=>?_⟩
 .refine xI (E.rep i mo e) fun a x y z w=>?_;refine⟨a,x,y,fun m=>?_,w⟩;rcases kS m with q|q
  .subst q;refine xI (I.rep i mo e) fun a' x' _ _ w'=>?_;rw[x] at x';obtain rfl:=yd x';refine zg w'.there fun o ho _=>?_;rw[hL] at ho;exact zJ ho
  .exact z q
 .rcases kS hb with q|q
  .subst q;refine wo hn fun o es ep ho hd _=>?_;clear hn;refine⟨?_,o,es,ep,ho,hd⟩;cases z:g.B.get? b with|none=>rfl|some o=>have:=I.stays b o z;rw[hL] at this;exact zJ this
  .exact E.frames b q
theorem Go.leave (hL:h.get? L=none)(hS:∀ b,S b->h.get? b=none)(k:∀ b o,h.get? b=some o->hZ.get? b=some o)(G:Go g (L::F) S θ H hZ zl H' h'):Go g F yB θ H h zl H' h':=by
 have nL:∀ b o,h.get? b=some o->b≠L:=fun b o e q=>by rw[q,hL] at e;exact zJ e
 have nS:∀ b o,h.get? b=some o->¬S b:=fun b o e q=>by rw[hS b q] at e;exact zJ e
 refine⟨G.inv.back,G.nm,fun b o e nd _ nF=>G.keep b o (k b o e) nd (nS b o e) (fun m=>(kS m).elim (nL b o e) nF),fun b o e _ hF=>G.fram b o (k b o e) (nS b o e) (.tail _ hF),fun b o e=>G.ex b o (k b o e),fun b o e dd=>G.dom b o (k b o e) dd⟩
def jX:List PV->(List Value->Prop)->Prop|[],P=>P []|_::r,P=>∀ v,jX r fun vs=>P (v::vs)
theorem jX.use:∀ {ps:List PV} {P:List Value->Prop},jX ps P->∀ vs,vs.length=ps.length->P vs
 |[],P,h,vs,e=>by cases vs with|nil=>exact h|cons _ _=>simp at e
 |_::r,P,h,vs,e=>by cases vs with|nil=>simp at e|cons v vs=>exact jX.use (h v) vs (by simpa using e)
def jy.val (Q:PV->AH->Prop):jy->Prop|.ret p H=>Q p H|.next _ H=>Q .none H|.cont _ _=>False|.brk _ _=>False
theorem aE {ns:List Str}:∀ {ps:List PV} {vs:List Value},ns.length=ps.length->ns.Nodup->yb θ h ps vs->∀ x p,zS.get (ns.zip ps) x=some p->∃ v,(ns.zip vs).reverse.lookup x=some v/\Rd θ h p v:=by
 induction ns with
 |nil=>exact fun _ _ _ _ _ e=>zJ e|cons y ns ih=>intro ps vs hl hn r x p e;cases ps with|nil=>exact nomatch hl|cons q ps=>refine zB r fun v r' zm r1 r2=>?_;subst zm;have jM:=List.nodup_cons.mp hn;rw[List.zip_cons_cons,List.reverse_cons];refine du e (fun h1 h2=>?_) fun _ e=>zg (ih (Nat.succ.inj hl) jM.2 r2 x p e) fun u e1 e2=>⟨u,by rw[List.lookup_append,e1];rfl,e2⟩;subst h1;subst h2;refine⟨v,?_,r1⟩;have:List.lookup x (ns.zip r').reverse=none:=List.lookup_eq_none_iff.mpr fun z hz=>bne_iff_ne.mpr fun e=>jM.1 (e▸(List.of_mem_zip (List.mem_reverse.mp hz)).1);rw[List.lookup_append,this];exact WY x
theorem wV {l:List (Str×NameKind)}{x:Str}{k:NameKind}(h:l.lookup x=some k):(x,k)∈l:=by refine yE (List.lookup_eq_some_iff.mp h) fun l1 l2 e _=>?_;rw[e];simp
def kq (g:Gr)(d:Nat)(H:AH)(ps:List PV)(f:Value)(mk:List Value->Args)(Q X:PV->AH->Prop):Prop:=∀ (A:Around) (za:List Env) (θ:Nm) (s:Shared) (vs:List Value) (R:Result->Shared->Prop),
  CI g A d za->HI g θ H (zE za) s.heap->yb θ s.heap ps vs->
  XE g (zE za) θ H s Q (fun v s'=>R (.ok (.ret v)) s')->vJ g (zE za) yB θ H s X (fun e s'=>R (.error e) s')->codeAny (model g.prog g.w) A (.call f (mk vs)) R s
noncomputable abbrev Kz (vs:List Value):Args:=⟨vs,[]⟩
theorem kq.t (h:kq g d H ps f Kz Q X):zh g d H ps (fun vs=>call f vs) Q X:=by intro A za θ s vs Qc Ec C I R hQ hX;exact wpAny_call (h A za θ s vs _ C I R hQ hX)
theorem gY {f:Addr}{name qual:Str}{params:Arguments}{body:List Stmt}{scope:Scope}{dV kV doc pm jz ct oc:Value}{an od:Option Addr}{fg:Array (Option Value)}{ps qs:List PV}{ns:List Str}{mk:List Value->Args} (ho:g.K.lookup f=some ⟨oc,od,.func (fnOf name qual params body scope dV kV doc pm an jz ct),fg⟩) (Jg:codeIn g.K jz qual=true) (Yd:∀ (θ:Nm) (s:Shared) (vs:List Value),g.B.StaysIn s.heap->yb θ s.heap ps vs->∃ us,BindsTo s (fnOf name qual params body scope dV kV doc pm an jz ct) (mk vs) (ns.zip us)/\yb θ s.heap qs us) (yf:ns.length=qs.length) (Jr:ns.Nodup) (Jo:∀ x∈ns,scope.names.lookup x=some .local) (lW:∀ x∈scope.names,x.2≠.cell) (kJ:∀ x∈scope.names,x.2≠.free) (hk:scope.kind=.function) (Uw:scope.isCoroutine=false) (Xb:scope.isGenerator=false) (h:uS g d scope (ns.zip qs) H body (jy.val Q) X):kq g (d+1) H ps (.ref f) mk Q X:=by
 intro A za θ s vs Rc C I R hQ hX;refine YW C.ok.T fun p' loose Ye mg mb T=>?_;have XK:=I.kin C.ok;refine zg (Yd θ s vs I.stays R) fun us hb Ru=>?_;refine codeAny_call_def (fd:=fnOf name qual params body scope dV kV doc pm an jz ct) (body:=body) (binds:=ns.zip us) C.room (XK _ _ ho) rfl (T.nolimit.keeps I.stays) (codeRec_of XK Jg) rfl
  hb lW (fun x hx=>Jo _ (List.of_mem_zip (a:=x.1) (b:=x.2) hx).1) (fun hZ jC hkZ=>?_) Uw Xb hk
 have hL:=y8 s.heap;generalize hLe:s.heap.objs.size=L at jC hL|-;let env:Env:=envOf qual scope L f jz;have IZ:HI g θ H (zE (env::za)) hZ:=I.enter hL hkZ jC;have IF:∀ b,wI θ H b->b≠L:=fun b ⟨i,mo,hi,ha⟩ q=>by refine xI (I.rep i mo hi) fun a' x' _ _ w'=>?_;rw[ha] at x';obtain rfl:=yd x';refine zg w'.there fun o ho _=>?_;rw[q,hL] at ho;exact zJ ho
 have Lv:g.B.get? L=none:=by cases z:g.B.get? L with|none=>rfl|some o=>have:=I.stays L o z;rw[hL] at this;exact zJ this
 have RZ:yb θ hZ qs us:=(Go.ext (S:=yB) I hkZ).rds I Ru;have LZ:LI g θ H (zE (env::za)) env (ns.zip qs) hZ:=by
  refine⟨Lv,fun d=>IF _ d rfl,⟨_,jC,fun x p e _=>aE yf Jr RZ x p e⟩,fun x a e=>?_,fun x y a e=>?_⟩
  .exact zJ e
  .exact zJ e
 have CZ:CI g (A.deeper env) d (env::za):=by
  refine⟨C.ok,C.handled,by have:=C.depth;show A.depth+1+_<=_;exact A21 0x6F5E5B4282240800400DEBCB0912D02100 this,by have:=C.units;show A.units+3+_<=_;exact A21 0x1324796D0A001E7920400204C91E58401E792F02100 this,Around.frames_deeper C.frames,fun e he=>?_,by simp⟩;rcases kS he with q|q
  .subst q;exact⟨by show scope.kind≠_;rw[hk];decide,⟨L,rfl⟩,Xb,Uw,rfl,rfl⟩
  .exact C.kinds e q
 have EI:wh scope env env:=⟨rfl,hk,rfl,rfl,rfl,fun x hx=>by
  exfalso;rcases hx with hx|hx
  .exact lW (x,.cell) (wV hx) rfl
  .exact kJ (x,.free) (wV hx) rfl⟩
 have lv:∀ {zl:Nm} {H':AH} {h':Heap},Go g (zE (env::za)) (xX env) θ H hZ zl H' h'->Go g (zE za) yB θ H s.heap zl H' h':=fun G=>
  Go.leave (L:=L) hL (fun b hb=>by
   rcases hb with q|⟨x,q⟩
   .rw[q];exact hL
   .cases q) hkZ G
 refine h (A.deeper env) env env za θ {s with heap:=hZ,toks:=s.toks+(ns.zip us).length} _ _ CZ EI IZ LZ ⟨?_,?_,?_,?_⟩ ?_
 .intro zO zl H' h' tk q G _;exact hQ _ _ zl H' h' tk q (lv G) rfl
 .intro zO zl H' h' tk q;exact q.elim
 .intro zO zl H' h' tk q;exact q.elim
 .intro v p zl H' h' tk q G r;exact hQ v p zl H' h' tk q (lv G) r
 .intro e p zl H' h' tk q G x;refine yE (VE x IZ.stays) fun a da zm xw=>?_;subst zm;refine XN (g:=g) (A:=A.deeper env) (F:=zE (env::za)) (h₀:=hZ) (s:={s with heap:=h',toks:=tk}) (L:=L) CZ.frames rfl (fun e he=>⟨(CZ.kinds e he).1,(CZ.kinds e he).2.1⟩) rfl rfl (fun b hb=>let⟨_,o,_,_,e,_⟩:=IZ.frames b hb;⟨o,e⟩) (fun b o e=>⟨o,IZ.stays b o e⟩) G xw fun h2 G2 x2=>?_;exact hX (.ref a) p zl H' h2 tk q (lv G2) (x2.exc.back fun b o e=>⟨o,hkZ b o e⟩)
end
section
variable {g:Gr} {d:Nat} {c:Scope} {ρ:zS} {H:AH} {Q:jy->Prop} {X:PV->AH->Prop}
theorem Y7.e (k:Y7 g F env θ H s Q Qc)(G:Go g F yB θ H s.heap θZ HZ hZ):Y7 g F env θZ HZ {s with heap:=hZ,toks:=tkZ} Q Qc:=k.after (G.mono fun _ f=>f.elim)
theorem vJ.e (k:vJ g F (xX env) θ H s X Ec)(G:Go g F yB θ H s.heap θZ HZ hZ):vJ g F (xX env) θZ HZ {s with heap:=hZ,toks:=tkZ} X Ec:=k.after (G.mono fun _ f=>f.elim)
theorem BR (q:Q (.next ρ H)):uS g d c ρ H [] Q X:=by intro A env zb za θ s Qc Ec C EI I L hQ hX;exact wpAny_execs_nil (hQ.next ρ θ H s.heap s.toks q (Go.refl I) L)
theorem nR {st:Stmt}{rest:List Stmt}(h:wR g d c ρ H st (fun o=>match o with|.next zO H'=>uS g d c zO H' rest Q X|.cont zO H'=>Q (.cont zO H')|.brk zO H'=>Q (.brk zO H')|.ret p H'=>Q (.ret p H')) X):uS g d c ρ H (st::rest) Q X:=by
 intro A env zb za θ s Qc Ec C EI I L hQ hX;refine wpAny_execs_cons (h A env zb za θ s _ _ C EI I L ⟨?_,?_,?_,?_⟩ hX)
 .intro zO zl H' h' tk q G L';exact q A env zb za zl _ _ _ C EI G.inv L' (hQ.after G) (hX.after G)
 .exact fun zO zl H' h' tk q G L'=>hQ.cont zO zl H' h' tk q G L'
 .exact fun zO zl H' h' tk q G L'=>hQ.brk zO zl H' h' tk q G L'
 .exact fun v p zl H' h' tk q G r=>hQ.ret v p zl H' h' tk q G r
theorem oD (q:Q (.next ρ H)):wR g d c ρ H (.Pass pos) Q X:=by intro A env zb za θ s Qc Ec C EI I L hQ hX;exact wpAny_Pass (hQ.next ρ θ H s.heap s.toks q (Go.refl I) L)
theorem QO (q:Q (.cont ρ H)):wR g d c ρ H (.Continue pos) Q X:=by intro A env zb za θ s Qc Ec C EI I L hQ hX;exact wpAny_Continue (hQ.cont ρ θ H s.heap s.toks q (Go.refl I) L)
theorem pj (h:z_ g d c ρ H e (fun _ HZ=>Q (.next ρ HZ)) X) (hs:autoParam (∀ env,swapsWith e none pos.line env=pure false) ta._auto_1):wR g d c ρ H (.Expr e pos) Q X:=by intro A env zb za θ s Qc Ec C EI I L hQ hX;refine wpAny_Expr_any (h A env zb za θ s _ _ C EI I L (fun va a θZ HZ hZ tkZ qZ GZ rZ=>?_) hX.none) (by unfold interactive;rw[EI.scope,EI.fn];rfl) (hs env);exact hQ.next ρ θZ HZ hZ tkZ qZ (GZ.mono fun _ f=>f.elim) (L.go I GZ)
theorem iE (h:z_ g d c ρ H e (fun p HZ=>Q (.ret p HZ)) X):wR g d c ρ H (.Return (some e) pos) Q X:=by intro A env zb za θ s Qc Ec C EI I L hQ hX;refine wpAny_Return_some (h A env zb za θ s _ _ C EI I L (fun va a θZ HZ hZ tkZ qZ GZ rZ=>?_) hX.none);exact hQ.ret va a θZ HZ hZ tkZ qZ (GZ.mono fun _ f=>f.elim) rZ
theorem cL (q:Q (.ret .none H)):wR g d c ρ H (.Return none pos) Q X:=by intro A env zb za θ s Qc Ec C EI I L hQ hX;exact wpAny_Return_none (hQ.ret _ .none θ H s.heap s.toks q (Go.refl I) rfl)
theorem Hc (h:kM g d c ρ H t (fun z HZ=>if z then uS g d c ρ HZ b Q X else uS g d c ρ HZ o Q X) X):wR g d c ρ H (.If t b o pos) Q X:=by
 intro A env zb za θ s Qc Ec C EI I L hQ hX;refine wpAny_If (h A env zb za θ s _ _ C EI I L (fun z θZ HZ hZ tkZ qZ GZ=>?_) hX.none);cases z
 .exact qZ A env zb za θZ _ _ _ C EI GZ.inv (L.go I GZ) (hQ.e GZ) (hX.e GZ)
 .exact qZ A env zb za θZ _ _ _ C EI GZ.inv (L.go I GZ) (hQ.e GZ) (hX.e GZ)
theorem Go.loc (I:HI g θ H F h)(L:LI g θ H F env ρ h)(hn:h'.Ns env.locals m)(hs:Heap.SameBut env.locals h h'):Go g F (xX env) θ H h θ H h':=by
 refine zg L.ns fun m0 qu _=>?_;obtain⟨o,es,ep,ho,hd,_⟩:=qu;have k:∀ b o,b≠env.locals->h.get? b=some o->h'.get? b=some o:=fun b o hb e=>(hs.2 b hb).trans e;have tk:qX h h':=fun a o' items n hc xi yg=>k a o' (fun e=>by subst e;rw[ho] at yg;cases yg;rw[hd] at xi;cases xi) yg;refine⟨⟨fun c o e=>k c o (fun q=>by rw[q,L.newL] at e;cases e) (I.stays c o e),fun i mo hi=>?_,I.inj,I.named,fun c hc=>?_⟩,zZ.refl θ,fun b o e _ ns _=>k b o (fun q=>ns (.inl q)) e,fun b o e ns _=>⟨o.slots,k b o (fun q=>ns (.inl q)) e⟩,fun b o e=>?_,fun _ _ _ d=>d⟩
 .refine xI (I.rep i mo hi) fun a e1 e2 e3 r=>?_;exact⟨a,e1,e2,e3,r.mono (zZ.refl θ) tk fun o=>k a o fun q=>L.ndL ⟨i,mo,hi,q▸e1⟩⟩
 .refine a2 (I.frames c hc) fun e1 zz=>?_;refine vW zz fun o' so n e2 e3=>?_;by_cases q:c=env.locals
  .refine wo hn fun o2 FT FO Ys hd2 _=>?_;clear hn;exact⟨e1,o2,FT,FO,q▸Ys,hd2⟩
  .exact⟨e1,o',so,n,k c o' q e2,e3⟩
 .by_cases q:b=env.locals
  .refine wo hn fun o2 FT FO Ys hd2 _=>?_;clear hn;exact⟨o2,q▸Ys⟩
  .exact⟨o,k b o q e⟩
theorem vU (EI:wh c env zb)(hx:c.names.lookup x=some .local)(I:HI g θ H (zE (zb::za)) s.heap)(L:LI g θ H (zE (zb::za)) env ρ s.heap)(r:Rd θ s.heap p v) (h:∀ h' tk,Go g (zE (zb::za)) (xX env) θ H s.heap θ H h'->LI g θ H (zE (zb::za)) env (ρ.put x p) h'->Qc () {s with heap:=h',toks:=tk}):
  wpAny (model g.prog g.w) A (storeName env x v) Qc Ec s:=by
 have hk:env.kindOf x=some .local:=by unfold Env.kindOf;rw[EI.scope];exact hx
 refine zg L.ns fun m hn hm=>?_;refine wpAny_storeName_local hk hn (fun h' jM hs=>?_) (by rw[EI.scope,EI.fn];rfl);have G:=Go.loc I L jM hs;have rd:∀ {p v},Rd θ s.heap p v->Rd θ h' p v:=fun r=>G.rdS I L.own r;refine h h' _ G ⟨L.newL,L.ndL,⟨_,jM,fun y p' e ky=>?_⟩,fun y a e=>?_,L.apart⟩
 .rw[zS.get_put] at e;by_cases hy:y=x
  .rw[if_pos hy] at e|-;cases e;exact⟨v,rfl,rd r⟩
  .rw[if_neg hy] at e|-;refine zg (hm y p' e ky) fun u e1 e2=>?_;exact⟨u,e1,rd e2⟩
 .refine a4 (L.cells y a e) fun e1 e2 e3 zz=>?_;refine zB zz fun o ov e4 e5 e6=>?_;have ne:a≠env.locals:=fun q=>by
   refine wo hn fun o' es ep ho hd _=>?_;clear hn;rw[<-q,e4] at ho;cases ho;rw[e5] at hd;cases hd
  refine⟨e1,e2,e3,o,ov,(hs.2 a ne).trans e4,e5,fun p' q ky=>?_⟩;rw[zS.get_put] at q;by_cases hy:y=x
  .subst hy;rw[hk] at ky;rcases ky with z|z<;>cases z
  .rw[if_neg hy] at q;refine zg (e6 p' q ky) fun u z1 z2=>?_;exact⟨u,z1,rd z2⟩
theorem Z4 (hx:c.names.lookup x=some .local)(h:z_ g d c ρ H e (fun p HZ=>Q (.next (ρ.put x p) HZ)) X) (hs:autoParam (∀ env,swapsWith e (some (.Name x xp)) pos.line env=pure false) ta._auto_1):wR g d c ρ H (.Assign [.Name x xp] e pos) Q X:=by intro A env zb za θ s Qc Ec C EI I L hQ hX;refine wpAny_Assign_Name (h A env zb za θ s _ _ C EI I L (fun va a θZ HZ hZ tkZ qZ GZ rZ=>?_) hX.none) (hs env);refine vU EI hx GZ.inv (L.go I GZ) rZ fun h' tk G' L'=>?_;exact hQ.next _ θZ HZ h' tk qZ ((GZ.mono fun _ f=>f.elim).trans G') L'
theorem tR (hx:c.names.lookup x=some .local)(e0:ρ.get x=some p)(h:z_ g d c ρ H e (fun a HZ=>zh g d HZ [p,a] (t2 (inplaceOp op)) (fun p' H2_=>Q (.next (ρ.put x p') H2_)) X) X):wR g d c ρ H (.AugAssign (.Name x xp) op e pos) Q X:=by
 intro A env zb za θ s Qc Ec C EI I L hQ hX;have hk:env.kindOf x=some .local:=by unfold Env.kindOf;rw[EI.scope];exact hx
 refine zg L.ns fun m hn hm=>?_;refine zg (hm x p e0 hk) fun v e1 e2=>?_;refine wpAny_AugAssign_Name (wpAny_loadName_local (by rw[EI.scope];exact EI.fn) hk hn e1 ?_);refine h A env zb za θ s _ _ C EI I L (fun va a θZ HZ hZ tkZ qZ GZ rZ=>?_) hX.none;refine qZ A _ θZ _ [v,va] _ _ C GZ.inv (⟨v,_,rfl,GZ.rd I e2,va,_,rfl,rZ,rfl⟩) (fun vb b θY H2_ hY tkY qY GY rY=>?_) (hX.none.after GZ);refine vU EI hx GY.inv ((L.go I GZ).go GZ.inv GY) rY fun h' tk G' L'=>?_;exact hQ.next _ θY H2_ h' tk qY (((GZ.trans GY).mono fun _ f=>f.elim).trans G') L'
theorem pD {a b:Int}{Q:PV->AH->Prop}(q:Q (.int (a+b)) H):zh g d H [.int a,.int b] (t2 (inplaceOp .Add)) Q X:=xa (fun _ _ r1 r2 k=>by obtain⟨t,rfl⟩:=zX r1;obtain⟨u,rfl⟩:=zX r2;exact PySem.P.iadd_int (k _ _ (kb _ _ _ _))) q
theorem mC (Inv:Nat->zS->AH->Prop)(n:Nat)(h0:Inv n ρ H) (h:∀ n zO H',Inv n zO H'->kM g d c zO H' t (fun z HZ=>if z then uS g d c zO HZ b (fun o=>match o with|.next wF yr=>∃ m,m<n/\∃ σ,(∀ x p,zS.get σ x=some p->zS.get wF x=some p)/\Inv m σ yr|.cont wF yr=>∃ m,m<n/\∃ σ,(∀ x p,zS.get σ x=some p->zS.get wF x=some p)/\Inv m σ yr|.brk wF yr=>Q (.next wF yr)|.ret p yr=>Q (.ret p yr)) X else Q (.next zO HZ)) X):
  wR g d c ρ H (.While t b [] pos) Q X:=by
 intro A env zb za θ s Qc Ec C EI I L hQ hX;have Vh:∀ b∈zE (zb::za),∃ o,s.heap.get? b=some o:=fun b hb=>let⟨_,o,_,_,e,_⟩:=I.frames b hb;⟨o,e⟩;have kT:∀ b o,g.B.get? b=some o->∃ o',s.heap.get? b=some o':=fun b o e=>⟨o,I.stays b o e⟩;have hk:∀ e∈zb::za,e.scope.kind≠.module/\∃ L,e.frame=some L:=fun e he=>⟨(C.kinds e he).1,(C.kinds e he).2.1⟩;refine zA C.fKind fun L0 et=>?_;have exc:∀ {e p zl H' h' tk},X p H'->Go g (zE (zb::za)) (xX env) θ H s.heap zl H' h'->V4 g s.heap zl H' h' e p->notedBy (model g.prog g.w) A env (fun e s'=>cameBackBy (model g.prog g.w) A env Ec e s') e {s with heap:=h',toks:=tk}:=by intro e p zl H' h' tk q G x;refine yE (VE x I.stays) fun a da zm xw=>?_;subst zm;refine ZK (g:=g) (s:={s with heap:=h',toks:=tk}) C.frames et hk rfl EI.frame Vh kT G xw fun h2 G2 x2 t2=>?_;refine YI (g:=g) (s:={s with heap:=h2,toks:=tk}) kT G2 x2 t2 fun h3 G3 x3=>?_;exact hX _ p zl H' h3 tk q G3 x3.exc
 refine wpAny_While (codeAny_whileLoop (fun n s'=>∃ zO zl H' h' tk,s'={s with heap:=h',toks:=tk}/\Inv n zO H'/\Go g (zE (zb::za)) (xX env) θ H s.heap zl H' h'/\LI g zl H' (zE (zb::za)) env zO h') ?_ n ⟨ρ,θ,H,s.heap,s.toks,rfl,h0,Go.refl I,L⟩);intro n _ zq;refine Hz zq fun zO zl H' h' tk Nd hi G L'=>?_;clear zq;subst Nd;have bA:vJ g (zE (zb::za)) (xX env) zl H' {s with heap:=h',toks:=tk} X (notedBy (model g.prog g.w) A env fun e s'=>cameBackBy (model g.prog g.w) A env Ec e s'):=fun e p θY H2_ hY tkY q GY x=>exc q (G.trans GY) (x.back G.ex);refine h n zO H' hi A env zb za zl _ _ _ C EI G.inv L' (fun z θZ HZ hZ tkZ qZ GZ=>?_) bA.none;have GZ':=GZ.mono (S':=xX env) fun _ f=>f.elim;cases z with
 |false=>exact wpAny_execs_nil (hQ.next zO θZ HZ hZ tkZ qZ (G.trans GZ') (L'.go G.inv GZ))|true=>
  refine qZ A env zb za θZ _ _ _ C EI GZ.inv (L'.go G.inv GZ) ⟨?_,?_,?_,?_⟩ (bA.after GZ')
  .rintro wF θY H2_ hY tkY ⟨m,hm,σ,UK,q⟩ GY LY;exact⟨m,hm,σ,θY,H2_,hY,tkY,rfl,q,(G.trans GZ').trans GY,LY.le UK⟩
  .rintro wF θY H2_ hY tkY ⟨m,hm,σ,UK,q⟩ GY LY;exact⟨m,hm,σ,θY,H2_,hY,tkY,rfl,q,(G.trans GZ').trans GY,LY.le UK⟩
  .exact fun wF θY H2_ hY tkY q GY LY=>hQ.next wF θY H2_ hY tkY q ((G.trans GZ').trans GY) LY
  .exact fun v p θY H2_ hY tkY q GY r=>hQ.ret v p θY H2_ hY tkY q ((G.trans GZ').trans GY) r
end
theorem vZ:Slot "reversed" "__next__" "reversed.__next__":=
 .of (owner:="reversed") (n:="__next__") (by rw[typeLookup_type,builtinLookup_eq_fast];kernel_rfl) (by decide+kernel) (by decide+kernel) (by decide+kernel) (by first|exact .inl (by decide+kernel)|exact .inr (by decide+kernel)) (by rw[isSubtype_type];kernel_rfl)
theorem Zd:entryFor table "reversed.__next__"=some Builtin.«reversed.__next__»:=entryFor_of_tree (by kernel_rfl)
theorem Yl (a:Value):argsOk "reversed.__next__" ⟨[a],[]⟩:=by unfold argsOk;kernel_rfl
theorem Ym:Slot "reversed" "__iter__" "reversed.__iter__":=
 .of (owner:="reversed") (n:="__iter__") (by rw[typeLookup_type,builtinLookup_eq_fast];kernel_rfl) (by decide+kernel) (by decide+kernel) (by decide+kernel) (by first|exact .inl (by decide+kernel)|exact .inr (by decide+kernel)) (by rw[isSubtype_type];kernel_rfl)
theorem UC (a:Value):argsOk "reversed.__iter__" ⟨[a],[]⟩:=by unfold argsOk;kernel_rfl
theorem VB:entryFor table "reversed.__iter__"=some Builtin.«dict_keyiterator.__iter__»:=
 entryFor_alias (id':="dict_keyiterator.__iter__") (by kernel_rfl) (by first|rfl|decide+kernel|(unfold String.splitOn;simp+decide [String.splitOnAux])) (by decide+kernel) (by kernel_rfl)
def Vs (h:Heap)(a t:Addr)(i:Int):Prop:=∃ o,h.get? a=some o/\o.cls=.type "reversed"/\o.data=.fields #[.ref t,rawInt i]
section
variable {prog:Program} {w:World} {A:Around} {E:Value->Shared->Prop} {s:Shared}
theorem XH (hit:Vs s.heap it t i)(h:Q (.ref it) s):wpAny (model prog w) A (pyIter (.ref it)) Q E s:=by refine wU hit fun o ho hc hd=>?_;clear hit;have hT:s.TypeIs (.ref it) "reversed":=⟨o,ho,hc⟩;refine wpAny_pyIter_slot hT Ym (wpAny_call_entry Ym hT VB ?_ (UC _));show wpAny _ _ (ret (.ref it)) _ _ s;exact wpAny_pure ⟨_,rfl,"reversed",_,hT,vZ.lookup,h⟩
theorem X9 {i:Nat}{Q:Option Value->Shared->Prop}(hit:Vs s.heap it t (i:Int))(ht:IsTup s.heap t items)(hx:items[i]?=some x)(hz:i<100000000) (hQ:∀ h' tk,Vs h' it t ((i:Int)-1)->Heap.SameBut it s.heap h'->Q (some x) {s with heap:=h',toks:=tk}):wpAny (model prog w) A (pyNext (.ref it)) Q E s:=by
 refine wU hit fun o ho hc hd=>?_;have hT:s.TypeIs (.ref it) "reversed":=⟨o,ho,hc⟩;unfold pyNext;refine wpAny_bind (wpAny_attempt (wpAny_callSpecial?_slot (name:=("__next__":Str)) hT vZ (wpAny_call_entry vZ hT Zd ?_ (Yl _))));unfold Builtin.«reversed.__next__»;refine wpAny_bind (wpAny_of_eq (a:=(Value.ref it,[])) rfl ?_);try dsimp only
 refine wpAny_bind (wpAny_field ho hd (x:=.ref t) rfl ?_);refine wpAny_bind (wpAny_field ho hd (x:=rawInt (i:Int)) rfl ?_);show wpAny _ _ (if(i:Int)<0 then _ else _) _ _ s;rw[if_neg (Int.not_lt.mpr (Int.natCast_nonneg _))];refine wpAny_bind (wpAny_specialOf ht.typeIs F.slot_tuple_getitem.lookup ?_);show wpAny _ _ (if(Option.isNone (some _))=true then _ else _) _ _ _;rw[if_neg (by decide)];refine wpAny_bind (wpAny_mkInt ?_);have Jp:i<items.size:=by
  by_cases q:i<items.size
  .exact q
  .rw[Array.getElem?_eq_none (by exact A21 0x4A100400 q)] at hx;exact zJ hx
 refine wpAny_bind (wpAny_attempt (PyProof.Rows.getItem_tuple (s:={s with toks:=s.toks+1}) ht (Int.le_trans (by decide) (Int.natCast_nonneg i)) (Int.lt_of_lt_of_le (Int.ofNat_lt.mpr hz) (by decide)) (j:=i) ?_ hx ?_))
 .exact(seqIndex_of (Int.natCast_nonneg i) (Int.ofNat_lt.mpr Jp)).trans rfl
 .try dsimp only
  refine wpAny_bind (wpAny_field (s:={s with toks:=s.toks+1}) ho hd (x:=rawInt (i:Int)) rfl ?_);refine wpAny_bind (wpAny_setField (s:={s with toks:=s.toks+1}) ho hd (by simp) ?_);refine wpAny_pure ⟨x,rfl,wpAny_pure (hQ _ _ ?_ (Heap.SameBut.update ..))⟩;exact⟨_,Heap.get?_update_self _ ho (Obj.isFreed_of_fields (Obj.data_mapFields hd _)),(Obj.cls_mapFields ..).trans hc,by rw[Obj.data_mapFields hd];simp⟩
theorem WQ (hh:A.handled=none)(hit:Vs s.heap it t (-1)) (hQ:∀ h',Heap.ExtBut it s.heap h'->Q none {s with heap:=h'}):wpAny (model prog w) A (pyNext (.ref it)) Q E s:=by
 refine wU hit fun o ho hc hd=>?_;have hT:s.TypeIs (.ref it) "reversed":=⟨o,ho,hc⟩;unfold pyNext;refine wpAny_bind (wpAny_attempt (wpAny_callSpecial?_slot (name:=("__next__":Str)) hT vZ (wpAny_call_entry vZ hT Zd ?_ (Yl _))));unfold Builtin.«reversed.__next__»;refine wpAny_bind (wpAny_of_eq (a:=(Value.ref it,[])) rfl ?_);try dsimp only
 refine wpAny_bind (wpAny_field ho hd (x:=.ref t) rfl ?_);refine wpAny_bind (wpAny_field ho hd (x:=rawInt (-1)) rfl ?_);show wpAny _ _ (if(-1:Int)<0 then _ else _) _ _ s;rw[if_pos (by decide)];refine wpAny_bind (wpAny_rule ?_);refine wpAny_bind (m:=(setField (.ref it) 1 (rawInt (-1))>>=fun _=>setField (.ref it) 0 .none)) ?_;refine wpAny_bind (wpAny_setField ho hd (by simp) ?_);have Yr:=Heap.get?_update_self (h:=s.heap) (Obj.mapFields (·.setIfInBounds 1 (rawInt (-1)))) ho (Obj.isFreed_of_fields (Obj.data_mapFields hd _));refine wpAny_setField (s:={s with heap:=s.heap.update it (Obj.mapFields (·.setIfInBounds 1 (rawInt (-1))))}) Yr (Obj.data_mapFields hd _) (by simp) ?_;have kk:∀ b o,b≠it->s.heap.get? b=some o->((s.heap.update it (Obj.mapFields (·.setIfInBounds 1 (rawInt (-1))))).update it (Obj.mapFields (·.setIfInBounds 0 Value.none))).get? b=some o:=fun b o hb e=>(Heap.get?_update_other _ _ (Ne.symm hb)).trans ((Heap.get?_update_other _ _ (Ne.symm hb)).trans e);generalize (s.heap.update it (Obj.mapFields (·.setIfInBounds 1 (rawInt (-1))))).update it (Obj.mapFields (·.setIfInBounds 0 Value.none))=h2 at kk|-;have EB:Heap.ExtBut it s.heap h2:=kk;refine wpAny_bind ?_;show wpAny _ _ (newExc (.type "StopIteration") []>>=_) _ _ _;refine wpAny_bind ?_;simp only[newExc,newTuple];refine wpAny_bind (wpAny_newObj_type ?_ (by size_fits));refine wpAny_bind (m:=firstArgMember _ _) (wpAny_of_eq (a:=Value.none) (by first|rfl|(simp only[firstArgMember];rfl)) ?_);refine wpAny_newObj_type ?_ (by size_fits);simp only[raiseNew];refine wpAny_bind (wpAny_handled ?_);first|rw[show A.in1.handled=none from hh]|rw[hh]
 refine wpAny_bind (wpAny_pure (wpAny_throw ?_));refine wpAny_bind (wpAny_isInstance (T:="StopIteration") (b:=true) ⟨_,Heap.get?_push_size _ rfl,rfl⟩ isSubtype_stop ?_);exact wpAny_pure (hQ _ ((EB.push _).push _))
theorem Zq:typeLookup (.type "tuple") "__reversed__"=pure none:=by rw[typeLookup_type,builtinLookup_eq_fast];kernel_rfl
theorem YQ (ht:IsTup s.heap t items)(hz:items.size<=100000000) (h:∀ tk,Q₁ (.ref s.heap.objs.size) {s with heap:=s.heap.push {cls:=.type "reversed",data:=.fields #[.ref t,rawInt ((items.size:Int)-1)]},toks:=tk}):
  codeAny (model prog w) A (.call (.builtin "reversed.__new__") ⟨[.type "reversed",.ref t],[]⟩) (wants Q₁ E) s:=by
 refine codeAny_of_tree ?_;show wpAny _ A.in1 (do checkBuiltinCall "reversed.__new__" ⟨[.type "reversed",.ref t],[]⟩;again (.builtin "reversed.__new__" ⟨[.type "reversed",.ref t],[]⟩)) _ _ s;refine wpAny_bind (wpAny_of_eq (F.newCall_reversed_1 _) (wpAny_pure ⟨plainId_quiet F.plain_reversed_new _,codeAny_builtin F.entry_reversed_new ?_⟩));rw[Around.under_plainId F.plain_reversed_new _];unfold Builtin.«reversed.__new__»;refine wpAny_bind (wpAny_of_eq (newClass_reversed _) ?_);try dsimp only
 refine wpAny_bind (wpAny_of_eq (a:=()) (by first|rfl|kernel_rfl) ?_);refine wpAny_bind (wpAny_of_eq (a:=()) (by first|rfl|kernel_rfl) ?_);try dsimp only
 refine wpAny_bind (wpAny_specialOf ht.typeIs Zq ?_);try dsimp only
 refine wpAny_bind ?_;show wpAny _ _ (isInstance (.ref t) (.type "dict")>>=_) _ _ _;refine wpAny_bind (wpAny_isInstance (T:="tuple") (b:=false) ht.typeIs (by rw[isSubtype_type];kernel_rfl) ?_);simp only[Bool.false_eq_true,if_false];refine wpAny_bind (wpAny_specialOf ht.typeIs F.slot_tuple_getitem.lookup ?_);try dsimp only
 rw[if_pos (by decide+kernel)];refine wpAny_pure ?_;simp only[Bool.not_true,Bool.false_eq_true,if_false];refine wpAny_bind (PyProof.Rows.len_tuple ht (Int.lt_of_le_of_lt (Int.ofNat_le.mpr hz) (by decide)) ?_);refine wpAny_bind (m:=asInt? _) (wpAny_of_eq (a:=some (items.size:Int)) rfl ?_);try dsimp only
 refine wpAny_bind (m:=Builtin.SmallTypes.newRecord _ _) ?_;unfold Builtin.SmallTypes.newRecord;refine wpAny_newObj_type ?_ (by size_fits);exact wpAny_pure (h _)
theorem UG:Slot "reversed" "__init__" "object.__init__":=
 .of (owner:="object") (n:="__init__") (by rw[typeLookup_type,builtinLookup_eq_fast];kernel_rfl) (by decide+kernel) (by decide+kernel) (by decide+kernel) (by first|exact .inl (by decide+kernel)|exact .inr (by decide+kernel)) (by rw[isSubtype_type];kernel_rfl)
theorem Z2:TypeCalled "reversed" "reversed.__new__" "object.__init__":=⟨by decide+kernel,F.create_reversed,⟨_,_,F.mro_reversed⟩,F.made_reversed,F.plain_reversed_new,F.sub_reversed_self,UG⟩
theorem VJ (ht:IsTup s.heap t items)(hz:items.size<=100000000) (h:∀ tk,Q (.ref s.heap.objs.size) {s with heap:=s.heap.push {cls:=.type "reversed",data:=.fields #[.ref t,rawInt ((items.size:Int)-1)]},toks:=tk}):wpAny (model prog w) A (call (.type "reversed") [.ref t]) Q E s:=by refine callType_codes (Q₁:=fun obj s1_=>obj=.ref s.heap.objs.size/\∃ tk,s1_={s with heap:=s.heap.push {cls:=.type "reversed",data:=.fields #[.ref t,rawInt ((items.size:Int)-1)]},toks:=tk}) Z2 (F.typeCall_reversed_1 _) F.entry_object_init (YQ ht hz fun tk=>⟨rfl,tk,rfl⟩) ?_;intro obj s1_ zq;refine a2 zq fun xA zz=>?_;refine zA zz fun tk zm=>?_;clear zq;subst xA zm;have hT:∀ s':Shared,s'.heap=s.heap.push {cls:=.type "reversed",data:=.fields #[.ref t,rawInt ((items.size:Int)-1)]}->s'.TypeIs (.ref s.heap.objs.size) "reversed":=fun s' e=>⟨_,by rw[e];exact Heap.get?_push_size _ rfl,rfl⟩;exact⟨hT _ rfl,F.args_object_init_2 _ _,object_init_meets Z2.init.lookup Z2.made (by decide) _ _ _ _ _ ⟨hT _ rfl,rfl,h tk⟩⟩
end
section
variable {g:Gr} {d:Nat} {c:Scope} {ρ:zS} {H:AH} {Q:jy->Prop} {X:PV->AH->Prop}
def xK (σ ρ:zS):Prop:=∀ x p,σ.get x=some p->ρ.get x=some p
theorem xK.refl (ρ:zS):xK ρ ρ:=fun _ _ e=>e
def wi (θ:Nm)(h:Heap)(it:Addr)(l:List PV):Prop:=(∃ t i items l0,h.IsTupleIter it t i/\h.IsTuple t items/\yb θ h l0 items.toList/\l=l0.drop i)\/ (∃ x left step,IsRangeIter h it x left step/\l=(List.range left.toNat).map fun(j:Nat)=>PV.int (x+j*step))\/ (∃ (t:Addr) (n:Nat) (items:Array Value) (l0:List PV),Vs h it t ((n:Int)-1)/\IsTup h t items/\items.size<=1000000/\yb θ h l0 items.toList/\n<=l0.length/\l=(l0.take n).reverse)
theorem wi.there (x:wi θ h it l):∃ o vs T,h.get? it=some o/\o.data=.fields vs/\o.cls=.type T:=by
 rcases x with⟨t,i,items,l0,⟨o,ho,hc,hd⟩,_⟩|⟨x,left,step,h,_⟩|⟨t,n,items,l0,⟨o,ho,hc,hd⟩,_⟩
 .exact⟨o,_,_,ho,hd,hc⟩
 .exact⟨_,_,_,h,rfl,rfl⟩
 .exact⟨o,_,_,ho,hd,hc⟩
theorem wi.go (I:HI g θ H F h)(G:Go g F S θ H h zl H' h')(hS:∀ b o,S b->h.get? b=some o->(∀ items n,o.data≠.seq items n)/\∀ vs,o.data≠.fields vs)(x:wi θ h it l):wi zl h' it l:=by
 refine wo x.there fun o vs T ho hd hc=>?_;refine a2 (I.fields ho hd hc) fun nd nF=>?_;have k:∀ o,h.get? it=some o->h'.get? it=some o:=fun o' e=>G.keep it o' e nd (fun s=>(hS it o s ho).2 vs hd) nF;have tk:=G.tupK I fun b o items n s e=>(hS b o s e).1 items n;rcases x with⟨t,i,items,l0,⟨o,ho,hx⟩,ht,hr,e⟩|⟨x,left,step,h,e⟩|⟨t,n,items,l0,⟨o,ho,hx⟩,ht,hz,hr,hn,e⟩
 .exact .inl ⟨t,i,items,l0,⟨o,k o ho,hx⟩,tk.isTup t items ht,yb.mono G.nm tk.isTup _ _ hr,e⟩
 .exact .inr (.inl ⟨x,left,step,k _ h,e⟩)
 .exact .inr (.inr ⟨t,n,items,l0,⟨o,k o ho,hx⟩,tk.isTup t items ht,hz,yb.mono G.nm tk.isTup _ _ hr,hn,e⟩)
theorem wi.stay (x:wi θ h it l)(hb:it≠b)(k:∀ c o,c≠b->h.get? c=some o->h'.get? c=some o)(tk:∀ a items,IsTup h a items->IsTup h' a items):wi θ h' it l:=by
 rcases x with⟨t,i,items,l0,⟨o,ho,hx⟩,ht,hr,e⟩|⟨x,left,step,h,e⟩|⟨t,n,items,l0,⟨o,ho,hx⟩,ht,hz,hr,hn,e⟩
 .exact .inl ⟨t,i,items,l0,⟨o,k it o hb ho,hx⟩,tk t items ht,yb.mono (zZ.refl _) tk _ _ hr,e⟩
 .exact .inr (.inl ⟨x,left,step,k it _ hb h,e⟩)
 .exact .inr (.inr ⟨t,n,items,l0,⟨o,k it o hb ho,hx⟩,tk t items ht,hz,yb.mono (zZ.refl _) tk _ _ hr,hn,e⟩)
theorem LI.ownF (l:LI g θ H F env ρ h):∀ b o,xX env b->h.get? b=some o->(∀ items n,o.data≠.seq items n)/\∀ vs,o.data≠.fields vs:=by
 intro b o hb ho;refine⟨fun items n=>l.own b o items n hb ho,fun vs e=>?_⟩;rcases hb with rfl|⟨x,hx⟩
 .refine zg l.ns fun m qu _=>?_;obtain⟨o',es,ep,yg,hd,_⟩:=qu;rw[ho] at yg;cases yg;rw[hd] at e;cases e
 .refine a4 (l.cells x b hx) fun _ _ _ zz=>?_;refine zB zz fun o' ov e4 e5 _=>?_;rw[ho] at e4;cases e4;rw[e5] at e;cases e
theorem bU {a:Int}(h:0<a):a.toNat=(a-1).toNat+1:=(congrArg Int.toNat (Int.sub_add_cancel a 1)).symm.trans (Int.toNat_add_nat (Int.sub_nonneg_of_le h) 1)
theorem dq {E:Value->Shared->Prop}{Q:Option Value->Shared->Prop}(x:wi θ s.heap it (p::l)) (h:∀ v h' tk,Rd θ h' p v->wi θ h' it l->Heap.SameBut it s.heap h'->Q (some v) {s with heap:=h',toks:=tk}):wpAny (model g.prog g.w) A (pyNext (.ref it)) Q E s:=by
 rcases x with⟨t,i,items,l0,hi,ht,hr,e⟩|⟨x,left,step,hi,e⟩|⟨t,n,items,l0,hi,ht,hz,hr,hn,e⟩
 .have hx:l0[i]?=some p:=by
   have:(l0.drop i)[0]?=some p:=by rw[<-e];rfl
   simpa using this
  refine zg (hr.get hx) fun v e1 e2=>?_;refine wpAny_pyNext_tuple_item hi ht (x:=v) (by rw[<-Array.getElem?_toList];exact e1) fun h' Xc hs=>?_;refine wU hi fun oi uK Jh kI=>?_;clear hi;have tk:∀ a items,IsTup s.heap a items->IsTup h' a items:=fun a items ⟨o,ho,hc,n,hd⟩=>⟨o,(hs.2 a fun q=>by subst q;rw[uK] at ho;cases ho;rw[kI] at hd;cases hd).trans ho,hc,n,hd⟩;refine h v h' s.toks (Rd.mono (zZ.refl θ) tk _ _ e2) (.inl ⟨t,i+1,items,l0,Xc,tk t items ht,yb.mono (zZ.refl θ) tk _ _ hr,?_⟩) hs;rw[<-List.tail_drop,<-e];rfl
 .have hl:0<left:=by
   by_cases q:0<left
   .exact q
   .rw[Int.toNat_of_nonpos (Int.not_lt.mp q)] at e;exact Kw e
  rw[bU hl,List.range_succ_eq_map,List.map_cons] at e;injection e with e1 e2;refine wpAny_pyNext_range_item hi hl fun h' Xc hs=>?_;refine h _ h' _ (by rw[e1];exact⟨s.toks,by simp⟩) (.inr (.inl ⟨x+step,left-1,step,Xc,?_⟩)) hs;rw[e2,List.map_map];apply List.map_congr_left;intro j _;exact congrArg PV.int (show x+((j:Int)+1)*step=x+step+j*step by rw[Int.add_mul,Int.one_mul,Int.add_comm (j*step),Int.add_assoc])
 .have hl:=hr.length;rw[Array.length_toList] at hl;obtain⟨m,rfl⟩:∃ m,n=m+1:=by
   cases n with|zero=>simp at e|succ m=>exact⟨m,rfl⟩
  have e':p::l=l0[m]::(l0.take m).reverse:=by rw[e,List.take_succ_eq_append_getElem (by exact A21 0x2D0200100401 hn),List.reverse_append];rfl
  injection e' with e1 e2;obtain⟨v,e3,e4⟩:=hr.get (i:=m) (p:=p) (by rw[e1];simp);refine X9 (i:=m) (by simpa using hi) ht (x:=v) (by rw[<-Array.getElem?_toList];exact e3) (A33 0xDF58801088610B40800408FAC01 hn hl hz) fun h' tk Xc hs=>?_;refine wU hi fun oi uK Jh kI=>?_;clear hi;have jO:∀ a items,IsTup s.heap a items->IsTup h' a items:=fun a items ⟨o,ho,hc,n,hd⟩=>⟨o,(hs.2 a fun q=>by subst q;rw[uK] at ho;cases ho;rw[kI] at hd;cases hd).trans ho,hc,n,hd⟩;exact h v h' tk (Rd.mono (zZ.refl θ) jO _ _ e4) (.inr (.inr ⟨t,m,items,l0,Xc,jO t items ht,hz,yb.mono (zZ.refl θ) jO _ _ hr,A21 0x2D0200100400 hn,e2⟩)) hs
theorem iI {E:Value->Shared->Prop}{Q:Option Value->Shared->Prop}(hh:A.handled=none)(x:wi θ s.heap it []) (h:∀ h',Heap.ExtBut it s.heap h'->Q none {s with heap:=h'}):wpAny (model g.prog g.w) A (pyNext (.ref it)) Q E s:=by
 rcases x with⟨t,i,items,l0,hi,ht,hr,e⟩|⟨x,left,step,hi,e⟩|⟨t,n,items,l0,hi,ht,hz,hr,hn,e⟩
 .have:l0.length<=i:=List.drop_eq_nil_iff.mp e.symm;have z:=hr.length;rw[Array.length_toList] at z;exact wpAny_pyNext_tuple_end hh hi ht (Array.getElem?_eq_none (A32 0x88011004100400 z this)) h
 .have hl:left<=0:=by
   by_cases q:left<=0
   .exact q
   .rw[bU (Int.not_le.mp q),List.range_succ_eq_map] at e;exact KI e
  exact wpAny_pyNext_range_end hh hi hl h
 .have:n=0:=by
   have:=congrArg List.length e;rw[List.length_reverse,List.length_take,Nat.min_eq_left hn] at this;exact this.symm
  subst this;exact WQ hh (by simpa using hi) h
def pR (g:Gr)(d:Nat)(c:Scope)(ρ:zS)(H:AH)(e:Expr)(Q:List PV->AH->Prop)(X:PV->AH->Prop):Prop:=∀ (A:Around) (env zb:Env) (za:List Env) (θ:Nm) (s:Shared) (Qc Ec:Value->Shared->Prop),
  CI g A d (zb::za)->wh c env zb->HI g θ H (zE (zb::za)) s.heap->LI g θ H (zE (zb::za)) env ρ s.heap->
  (∀ it l zl H' h' tk,Q l H'->Go g (zE (zb::za)) yB θ H s.heap zl H' h'->wi zl h' it l->s.heap.get? it=none->Qc (.ref it) {s with heap:=h',toks:=tk})->
  vJ g (zE (zb::za)) yB θ H s X Ec->wpAny (model g.prog g.w) A (eval e env) (fun x s1_=>wpAny (model g.prog g.w) A (pyIter x) Qc Ec s1_) Ec s
theorem u7 (G:Go g F S θ H h zl H' h')(e:h'.get? b=none):h.get? b=none:=by
 cases q:h.get? b with
 |none=>rfl|some o=>obtain⟨o',z⟩:=G.ex b o q;rw[e] at z;exact zJ z
noncomputable def wN (a b c:Int):List PV:=(List.range (Builtin.Range.rangeSize a b c).toNat).map fun(j:Nat)=>PV.int (a+j*c)
theorem pA (I:HI g θ H F s.heap)(r:Rd θ s.heap (.tup l) va)(hz:l.length<=1000000) (hQ:∀ it h' tk,Go g F yB θ H s.heap θ H h'->wi θ h' it l.reverse->s.heap.get? it=none->Qc (.ref it) {s with heap:=h',toks:=tk}):
  wpAny (model g.prog g.w) A (call (.type "reversed") [va]) (fun x s1_=>wpAny (model g.prog g.w) A (pyIter x) Qc Ec s1_) Ec s:=by
 refine zB r fun t items zm ht hr=>?_;clear r;subst zm;have hl:=hr.length;rw[Array.length_toList] at hl;refine VJ ht (A22 0x37D610042010408FAC00 hl hz) fun tk=>?_;have pk:=yw s.heap {cls:=.type "reversed",data:=.fields #[.ref t,rawInt ((items.size:Int)-1)]};have jO:∀ a vh,IsTup s.heap a vh->IsTup (s.heap.push {cls:=.type "reversed",data:=.fields #[.ref t,rawInt ((items.size:Int)-1)]}) a vh:=fun a _ ⟨o,ho,x⟩=>⟨o,pk a o ho,x⟩;have hR:Vs (s.heap.push {cls:=.type "reversed",data:=.fields #[.ref t,rawInt ((items.size:Int)-1)]}) s.heap.objs.size t ((items.size:Int)-1):=⟨_,Heap.get?_push_size _ rfl,rfl,rfl⟩;refine XH hR ?_;exact hQ _ _ tk (Go.ext I pk) (.inr (.inr ⟨t,items.size,items,l,hR,jO t items ht,A22 0x37D610042010406FAC00 hl hz,yb.mono (zZ.refl θ) jO _ _ hr,A21 0x804100400 hl,by rw[hl];simp⟩)) (y8 s.heap)
end
section
variable {g:Gr} {d:Nat} {c:Scope} {ρ:zS} {H:AH} {X:PV->AH->Prop}
def vu (g:Gr)(fv:Value):Prop:=∀ {A:Around} {E:Value->Shared->Prop} {s:Shared} {env:Env} {pos:Pos} {first:List Value} {es:List Expr} {Q:Value->Shared->Prop},uu es->
 wpAny (model g.prog g.w) A (spliced (backTo pos (starEach es env))) (fun vs s1_=>g.K.In s1_.heap/\wpAny (model g.prog g.w) A (call fv (first++vs)) Q E s1_) E s->
 wpAny (model g.prog g.w) A (callWith pos fv first (backTo pos (starEach es env)) []) Q E s
theorem ju (hp:uu es)(pos:Pos)(env:Env):(backTo pos (starEach es env)).any (·.1)=false:=by rw[hp env];exact YU es
theorem xB (id:String):vu g (.builtin id):=fun hp h=>callWith_builtin (ju hp _ _) (Vu hp (wpAny_mono h (fun _ _ x=>x.2) fun _ _ x=>x))
theorem jl (T:String):vu g (.type T):=fun hp h=>PyProof.Rows.callWith_type (ju hp _ _) (Vu hp (wpAny_mono h (fun _ _ x=>x.2) fun _ _ x=>x))
theorem Wi (hk:keepIn g.K f=true):vu g f:=fun{A E s env pos first es Q} hp h=>by refine callWith_of (P:=fun h=>g.K.In h) ?_ (keeps_K hk) (Vu hp h);rw[ju hp];rfl
theorem ZT {R:Value->List PV->AH->Prop}(hp:uu args) (hf:z_ g d c ρ H func (fun pf HZ=>∃ fv,pf=.raw fv/\vu g fv/\u5 g d c ρ HZ args (fun as H2_=>R fv as H2_) X) X)
  {A:Around} {env zb:Env} {za:List Env} {θ:Nm} {s:Shared} {Qc Ec:Value->Shared->Prop} (C:CI g A d (zb::za)) (EI:wh c env zb) (I:HI g θ H (zE (zb::za)) s.heap) (L:LI g θ H (zE (zb::za)) env ρ s.heap)
  (k:∀ fv vs as zl H' h' tk,R fv as H'->Go g (zE (zb::za)) yB θ H s.heap zl H' h'->yb zl h' as vs->wpAny (model g.prog g.w) A (call fv vs) Qc Ec {s with heap:=h',toks:=tk})
  (hX:vJ g (zE (zb::za)) yB θ H s X Ec)
  (he:autoParam (eval (.Call func args [] pos) env=(do callWith pos (<-eval func env) [] (backTo pos (starEach args env)) (backToKw pos (keywordEach [] env)))) ta._auto_1):
  wpAny (model g.prog g.w) A (eval (.Call func args [] pos) env) Qc Ec s:=by
 refine PyProof.Rows.Call_ (hf A env zb za θ s _ _ C EI I L (fun vf pf θZ HZ hZ tkZ qZ GZ rZ=>?_) hX) he;refine wU qZ fun fv zW ok q=>?_;clear qZ;subst zW;cases rZ;refine ok hp (q A env zb za θZ _ _ _ pos C EI GZ.inv (L.go I GZ) (fun vs as θY H2_ hY tkY qY GY rY=>⟨GY.inv.kin C.ok,?_⟩) (hX.after GZ));exact k vf vs as θY H2_ hY tkY qY (GZ.trans GY) rY
def Xm (f:Expr):Prop:=∀ args pos env,eval (.Call f args [] pos) env=(do callWith pos (<-eval f env) [] (backTo pos (starEach args env)) (backToKw pos (keywordEach [] env)))
theorem cV (hp:uu args)(na:Xm func) (hf:z_ g d c ρ H func (fun pf HZ=>∃ fv,pf=.raw fv/\vu g fv/\u5 g d c ρ HZ args (fun as H2_=>zh g d H2_ as (fun vs=>call fv vs) Q X) X) X):z_ g d c ρ H (.Call func args [] pos) Q X:=by intro A env zb za θ s Qc Ec C EI I L hQ hX;exact ZT hp hf C EI I L (fun fv vs as zl H' h' tk q G r=>q A _ zl _ vs _ _ C G.inv r (hQ.after G) (hX.after G)) hX (na _ _ _)
def uC (g:Gr)(d:Nat)(H:AH)(p:PV)(name:Str)(fv:Value):Prop:=∀ {A:Around} {za:List Env} {θ:Nm} {s:Shared} {v:Value} {pl:Sem Bool} {Q:Value×List Value->Shared->Prop} {E:Value->Shared->Prop},
 CI g A d za->HI g θ H (zE za) s.heap->Rd θ s.heap p v->Q (fv,[v]) s->wpAny (model g.prog g.w) A (getMethod v name pl) Q E s
theorem rT (hp:uu args) (ho:z_ g d c ρ H o (fun po HZ=>∃ fv,uC g d HZ po name fv/\vu g fv/\u5 g d c ρ HZ args (fun as H2_=>zh g d H2_ (po::as) (fun vs=>call fv vs) Q X) X) X) (he:∀ env,∃ pl:Sem Bool,eval (.Call (.Attribute o name ap) args [] pos) env=(do
   let ov <-eval o env
   standAt ap.atName
   let(f,first) <-holding [ov] (getMethod ov name pl)
   callWith pos f first (backTo pos (starEach args env)) []):=by intro _;exact⟨_,rfl⟩):z_ g d c ρ H (.Call (.Attribute o name ap) args [] pos) Q X:=by
 intro A env zb za θ s Qc Ec C EI I L hQ hX;refine zA (he env) fun pl he=>?_;refine PyProof.Rows.MethodCall_ (ho A env zb za θ s _ _ C EI I L (fun vo po θZ HZ hZ tkZ qZ GZ rZ=>?_) hX) he;refine wU qZ fun fv mb ok q=>?_;clear qZ;refine mb C GZ.inv rZ ?_;refine ok (first:=[vo]) hp (q A env zb za θZ _ _ _ pos C EI GZ.inv (L.go I GZ) (fun vs as θY H2_ hY tkY qY GY rY=>⟨GY.inv.kin C.ok,?_⟩) (hX.after GZ));exact qY A _ θY _ (vo::vs) _ _ C GY.inv (⟨vo,vs,rfl,GY.rd GZ.inv rZ,rY⟩) (hQ.after (GZ.trans GY)) (hX.after (GZ.trans GY))
theorem Kh (h:H i=some (.list l)):uC g d H (.obj i) "append" (.builtin "list.append"):=fun C I r q=>by refine zg (yz r) fun a ha zm=>?_;subst zm;refine zB (I.listAt h ha) fun items n hl _ _=>?_;exact getMethod_builtin ⟨_,hl,rfl⟩ F.plainAttrs_list F.slot_list_append F.type_list_append (fun b e=>by cases e;exact⟨_,hl,rfl⟩) q
theorem BI (h:H i=some (.list l)):uC g d H (.obj i) "pop" (.builtin "list.pop"):=fun C I r q=>by refine zg (yz r) fun a ha zm=>?_;subst zm;refine zB (I.listAt h ha) fun items n hl _ _=>?_;exact getMethod_builtin ⟨_,hl,rfl⟩ F.plainAttrs_list F.slot_list_pop F.type_list_pop (fun b e=>by cases e;exact⟨_,hl,rfl⟩) q
theorem f9 (h:H i=some (.setI S n)):uC g d H (.obj i) "add" (.builtin "set.add"):=fun C I r q=>by refine zg (yz r) fun a ha zm=>?_;subst zm;refine xI (I.rep i _ h) fun a' we _ _ hS=>?_;rw[ha] at we;obtain rfl:=yd we;exact getMethod_builtin hS.typeIs F.plainAttrs_set F.slot_set_add F.type_set_add hS.noDict q
set_option maxRecDepth 10000 in
theorem pQ:uC g d H (.int x) "bit_length" (.builtin "int.bit_length"):=fun C I r q=>by refine zA (zX r) fun t zW=>?_;subst zW;exact getMethod_int_bit_length q
theorem qi (I:HI g θ H F h)(hi:H i=some (.list l))(ha:i.at θ=some a)(hl:IsL h a items n)(f:Array Value->Array Value) (hr:yb θ h l' (f items).toList):Go g F S θ H h θ (H.upd i (.list l')) (h.update a (Obj.mapSeq f)):=by have k:∀ b o,b≠a->h.get? b=some o->(h.update a (Obj.mapSeq f)).get? b=some o:=fun b o hb e=>(Heap.get?_update_other _ _ (Ne.symm hb)).trans e;have tk:∀ b items,IsTup h b items->IsTup (h.update a (Obj.mapSeq f)) b items:=fun b vh ⟨o,ho,hc,m,hd⟩=>⟨o,k b o (fun q=>by subst q;rw[hl] at ho;cases ho;simp at hc) ho,hc,m,hd⟩;exact Go.upd I hi ha k ⟨f items,_,hl.update f,yb.mono (zZ.refl θ) tk _ _ hr⟩
theorem gf (h:H i=some (.list l))(hz:l.length<=10000000)(q:Q .none (H.upd i (.list (l++[p])))):zh g d H [.obj i,p] (fun vs=>call (.builtin "list.append") vs) Q X:=by intro A za θ s vs Qc Ec C I R hQ hX;refine zB R fun v _ zm R1 zz=>?_;refine zB zz fun u _ wj R2 ZI=>?_;clear R;subst zm wj ZI;obtain⟨a,ha,rfl⟩:=yz (R1:Rd θ s.heap (.obj i) v);refine zB (I.listAt h ha) fun items n hl hr hsz=>?_;refine call_meets F.slot_list_append ⟨_,hl,rfl⟩ F.entry_list_append (F.args_list_append_2 _ _) (list_append a items n u (by rw[sizeLine_eq];exact A22 0x3FD610042010418FAC00 hsz hz)) ⟨hl,?_⟩;refine hQ .none .none θ _ _ s.toks q (qi I h ha hl _ ?_) rfl;rw[Array.toList_push];exact hr.append (⟨u,[],rfl,R2,rfl⟩)
theorem BA (h:H i=some (.list (l++[p])))(hz:l.length<=1000000)(q:Q p (H.upd i (.list l))):zh g d H [.obj i] (fun vs=>call (.builtin "list.pop") vs) Q X:=by
 intro A za θ s vs Qc Ec C I R hQ hX;refine zB R fun v _ zm R1 vv=>?_;clear R;subst zm vv;obtain⟨a,ha,rfl⟩:=yz (R1:Rd θ s.heap (.obj i) v);refine zB (I.listAt h ha) fun items n hl hr hsz=>?_;rw[List.length_append,List.length_singleton] at hsz;obtain⟨v,e1,e2⟩:=hr.get (i:=l.length) (p:=p) (by simp);have vL:items[items.size-1]?=some v:=by rw[<-Array.getElem?_toList,hsz];exact e1
 refine call_meets F.slot_list_pop ⟨_,hl,rfl⟩ F.entry_list_pop (F.args_list_pop_1 _) (MeetsSeq.list_pop_last a items n v vL (by rw[sizeLine_eq];exact A22 0xDF584016850010418FAC00 hsz hz)) ⟨hl,?_⟩;have hh:yb θ s.heap l (items.eraseIdxIfInBounds (items.size-1)).toList:=by
  have z:(items.eraseIdxIfInBounds (items.size-1)).toList=items.toList.take l.length:=by have Jp:items.size-1<items.size:=Nat.sub_one_lt (hsz▸Nat.succ_ne_zero _);rw[Array.eraseIdxIfInBounds,dif_pos Jp,Array.toList_eraseIdx,hsz];simp only[Nat.add_sub_cancel];rw[List.eraseIdx_eq_take_drop_succ,List.drop_eq_nil_of_le (by rw[Array.length_toList];exact A21 0x685001040D0A000 hsz),List.append_nil]
  rw[z];have:=hr.take l.length;simpa using this
 have G:=qi (g:=g) (S:=yB) (F:=zE za) I h ha hl (fun xs=>xs.eraseIdxIfInBounds (items.size-1)) hh;exact hQ v p θ _ _ s.toks q G (G.rdS I (fun _ _ _ _ f=>f.elim) e2)
theorem xb (h:H i=some (.list l))(hz:l.length<=10000000)(q:Q (.int l.length) H):zh g d H [.obj i] (fun vs=>call (.builtin "len") vs) Q X:=by intro A za θ s vs Qc Ec C I R hQ hX;refine zB R fun v _ zm R1 vv=>?_;clear R;subst zm vv;obtain⟨a,ha,rfl⟩:=yz (R1:Rd θ s.heap (.obj i) v);refine zB (I.listAt h ha) fun items n hl hr hsz=>?_;refine call_len_list hl.isList (Int.lt_of_le_of_lt (Int.ofNat_le.mpr (Nat.le_trans (Nat.le_of_eq hsz) hz)) (by decide)) ?_;rw[hsz];exact hQ.now I q (kb _ _ _ _)
theorem Zn (x:Str){l:List (Str×PV)}:∀ {es:List DictEntry},Zt θ h l es->(∀ p,zS.get l x=some p->∃ v,getL x es=some (some v)/\Rd θ h p v)/\(zS.get l x=none->getL x es=some none):=by
 induction l with
 |nil=>intro es r;cases(r:es=[]);exact⟨fun p e=>zJ e,fun _=>rfl⟩|cons yq l ih=>
  obtain⟨y,q⟩:=yq;intro es r;refine jI r fun e r' t uY ek er hr=>?_;clear r;subst uY;refine a2 (ih hr) fun i1 i2=>?_;have hk:e.key.isStr x=(y==x):=by rw[ek];rfl
  have uW:e.refKey=false:=by unfold DictEntry.refKey;rw[ek]
  by_cases h:x=y
  .subst h;refine⟨fun p e'=>⟨e.val,?_,by cases(WY x).symm.trans e';exact er⟩,fun e'=>qE ((WY x).symm.trans e')⟩;unfold getL;rw[List.find?_cons,hk,beq_self_eq_true]
  .have hb:(x==y)=false:=beq_eq_false_iff_ne.mpr h;have:getL x (e::r')=getL x r':=by
    unfold getL;rw[List.find?_cons,hk,beq_eq_false_iff_ne.mpr fun q=>h q.symm,List.any_cons,uW,Bool.false_or]
   rw[this];exact⟨fun p e=>i1 p ((U_ hb).symm.trans e),fun e=>i2 ((U_ hb).symm.trans e)⟩
theorem mH (hp:Rd θ h p v){l:List (Str×PV)}:∀ {es:List DictEntry},Zt θ h l es->Zt θ h (zS.put l x p) (putL x hs (.str x tk) v es):=by
 induction l with
 |nil=>intro es r;cases(r:es=[]);exact⟨_,_,tk,rfl,rfl,hp,rfl⟩|cons yq l ih=>
  obtain⟨y,q⟩:=yq;intro es r;refine jI r fun e r' t uY ek er hr=>?_;clear r;subst uY;have hk:e.key.isStr x=(y==x):=by rw[ek];rfl
  by_cases h:x=y
  .subst h;have e1:zS.put ((x,q)::l) x p=(x,p)::l:=if_pos rfl;have e2:putL x hs (.str x tk) v (e::r')={e with val:=v}::r':=if_pos (by rw[hk];exact beq_self_eq_true x);rw[e1,e2];exact⟨_,_,t,rfl,ek,hp,hr⟩
  .have e1:zS.put ((y,q)::l) x p=(y,q)::zS.put l x p:=if_neg h;have e2:putL x hs (.str x tk) v (e::r')=e::putL x hs (.str x tk) v r':=if_neg (by rw[hk];exact fun z=>h (beq_iff_eq.mp z).symm);rw[e1,e2];exact⟨_,_,t,rfl,ek,er,ih hr⟩
theorem m5 {l:List (Str×PV)}:∀ {es:List DictEntry},Zt θ h l es->es.length=l.length:=by induction l with|nil=>intro es r;cases(r:es=[]);rfl|cons yq l ih=>intro es r;exact jI (P0:=fun e r' t=>es=e::r') r fun e r' t z ek er hr=>by subst z;exact congrArg (·+1) (ih hr)
theorem f_ (x:Str)(hs:Int)(k v:Value)(es:List DictEntry):(putL x hs k v es).length<=es.length+1:=by
 induction es with
 |nil=>exact Nat.le_refl 1|cons e r ih=>
  by_cases h:e.key.isStr x=true
  .exact Nat.le_trans (Nat.le_of_eq (congrArg List.length (if_pos h))) (Nat.le_succ _)
  .exact Nat.le_trans (Nat.le_of_eq (congrArg List.length (if_neg h))) (Nat.succ_le_succ ih)
theorem HI.instAt (I:HI g θ H F h)(hi:H i=some (.inst C j))(hj:H j=some (.ns l))(ha:i.at θ=some a):∃ da sl es n,j.at θ=some da/\h.get? a=some ⟨.ref C,some da,.plain,sl⟩/\h.get? da=some (dictOf es n)/\Zt θ h l es/\InstAt h a ⟨.ref C,some da,.plain,sl⟩ C (some (dictOf es n)):=by refine xI (I.rep i _ hi) fun a' we _ _ zz=>?_;refine yE zz fun da sl hd ho=>?_;rw[ha] at we;obtain rfl:=yd we;refine xI (I.rep j _ hj) fun FK xi _ _ zz=>?_;refine yE zz fun es n yg hn=>?_;rw[hd] at xi;obtain rfl:=yd xi;exact⟨da,sl,es,n,hd,ho,yg,hn,⟨ho,rfl,rfl,yg⟩⟩
theorem ru (h:z_ g d c ρ H o (fun p HZ=>zh g d HZ [p] (t1 fun v=>getAttr v name true) Q X) X) (he:autoParam (∀ env,eval (.Attribute o name pos) env=(do
   let ov <-eval o env
   standAt pos.atName
   let r <-holding [ov] (getAttr ov name true)
   letTemporaryGo o ov r
   pure r)) ta._auto_3):z_ g d c ρ H (.Attribute o name pos) Q X:=by
 intro A env zb za θ s Qc Ec C EI I L hQ hX;refine PyProof.Rows.Attribute_any_ (h A env zb za θ s _ _ C EI I L (fun va a θZ HZ hZ tkZ qZ GZ rZ=>?_) hX) (he env);exact qZ A _ θZ _ [va] _ _ C GZ.inv (⟨va,_,rfl,rZ,rfl⟩) (hQ.after GZ) (hX.after GZ)
noncomputable def Zu (K:Frag)(C:Addr)(name:Str):Bool:=plainGet K C name&&hasDictIn K C&&(match findIn K (.ref C) name with|some attr=>noGet K attr|none=>false)
noncomputable def Zi (K:Frag)(C:Addr)(name:Str)(f:Addr):Bool:=plainGet K C name&&(findIn K (.ref C) name==some (some (.ref f)))&&isFn K (.ref f)&&keepIn K (.ref f)
noncomputable def ji (K:Frag)(C:Addr)(name:Str):Bool:=(findIn K (.ref C) "__setattr__"==some (some (.builtin "object.__setattr__")))&&plainOver K C&&(takerIn K C name==some none)&&hasDictIn K C
theorem nU (hi:H i=some (.inst C j))(hj:H j=some (.ns l))(hk:Zu g.K C name=true)(hl:zS.get l name=some p)(hp:∀ v,p≠.raw v)(q:Q p H):zh g d H [.obj i] (t1 fun v=>getAttr v name true) Q X:=lh (fun{_ _ _ s _ _ _} C' I r1 k=>by
 refine zg (yz r1) fun a ha zm=>?_;subst zm;refine gO (I.instAt hi hj ha) fun da sl es n hd _ _ hn IA=>?_;refine zg ((Zn name hn).1 p hl) fun v e1 e2=>?_;unfold Zu at hk;simp only[Bool.and_eq_true] at hk;refine a2 hk fun wd h3=>?_;clear hk;obtain⟨h1,h2⟩:=wd;split at h3
 .rename_i attr hf;refine get_value (I.kin C'.ok) IA (plainGet_of h1).1 (findObj_own h2 hf h3 (by rw[lookIn_dict];exact e1)) ?_ (k v _ e2);cases p with
  |raw x=>exact absurd rfl (hp x)|none=>cases e2;rfl|bool b=>cases e2;rfl|int b=>obtain⟨t,rfl⟩:=e2;rfl
  |str b=>obtain⟨t,rfl⟩:=e2;rfl
  |tup b=>obtain⟨t,_,rfl,_⟩:=e2;rfl
  |obj b=>obtain⟨t,_,rfl⟩:=e2;rfl
 .cases h3) q
theorem rI (hi:H i=some (.inst C j))(hj:H j=some (.ns l))(hk:Zi g.K C name f=true)(hl:zS.get l name=none):uC g d H (.obj i) name (.ref f):=fun C' I r q=>by refine zg (yz r) fun a ha zm=>?_;subst zm;refine gO (I.instAt hi hj ha) fun da sl es n hd _ _ hn IA=>?_;unfold Zi at hk;simp only[Bool.and_eq_true] at hk;refine a2 hk fun wd _=>?_;clear hk;obtain⟨⟨h1,h2⟩,h3⟩:=wd;exact method_fn (I.kin C'.ok) IA (plainGet_of h1).1 (plainGet_of h1).2 (beq_iff_eq.mp h2) (beq_iff_eq.mp h3) (by show(lookIn name (dictOf es n)).map _=_;rw[lookIn_dict,(Zn name hn).2 hl];rfl) q
theorem iF (XK:g.K.In s.heap) (I:InstAt s.heap x ⟨.ref C,some dx,.plain,sl⟩ C (some (dictOf es n))) (hk:ji g.K C name=true) (hl:(getL name es).isSome=true) (hz:es.length<=900) (h:∀ h' hs tk n' jO,h'.get? dx=some (dictOf (putL name hs (.str name tk) v es) n')->Heap.SameBut dx s.heap h'->Q () {s with heap:=h',toks:=jO}):
  wpAny (model g.prog g.w) A (setAttr (.ref x) name v) Q E s:=by
 unfold ji at hk;simp only[Bool.and_eq_true] at hk;refine a2 hk fun wd h4=>?_;clear hk;obtain⟨⟨h1,h2⟩,h3⟩:=wd;refine set_plain XK I (beq_iff_eq.mp h1) (osa_open (s:={s with toks:=s.toks+1}) XK I h2 (beq_iff_eq.mp h3) fun b=>?_);refine zg (any_some h4) fun cd hc xi=>?_;have hx:=I.at_;have D:s.heap.get? dx=some (dictOf es n):=I.dict;refine wpAny_bind (wpAny_pure (wpAny_bind (wpAny_bind (wpAny_loadPart hx (wpAny_bind ((looks_clsIn (show g.K.In ({s with toks:=s.toks+1}:Shared).heap from XK) hc).here ?_))))));rw[xi];refine wpAny_pure (a:=some dx) (wpAny_bind (wpAny_pure (wpAny_bind ?_)));unfold nsSet;refine wpAny_bind (wpAny_bind (wpAny_askSetting (wpAny_pure (wpAny_bind (wpAny_mkText (wpAny_bind (wpAny_loadPart D ?_)))))));have pn:=putName_dict name (PyData.keyHash g.w.params name) (.str name (s.toks+1)) v es n;have D':=Heap.get?_update_self (h:=s.heap) (Obj.putName name (PyData.keyHash g.w.params name) (.str name (s.toks+1)) v) D (by rw[pn];rfl);rw[pn] at D';have c:(!es.toArray.any (·.key.isStr name)&&es.toArray.any (·.refKey))=false:=by
  rw[<-Array.any_toList,<-Array.any_toList];unfold getL at hl;split at hl
  .rename_i en he;rw[List.any_eq_true.mpr ⟨en,List.mem_of_find?_eq_some he,List.find?_some he⟩];rfl
  .split at hl
   .exact zU hl
   .rename_i z;rw[Bool.not_eq_true] at z;rw[z,Bool.and_false]
 show wpAny _ _ (if aRefKeyMayBeTheName name es.toArray then _ else _) _ _ _;rw[aRefKeyMayBeTheName_at,c];refine wpAny_updatePart D ?_;have yf:=f_ name (PyData.keyHash g.w.params name) (.str name (s.toks+1)) v es;refine wpAny_bind (wpAny_lookBehind D' (pastItsLine_dict (by rw[List.size_toArray,sizeLine_eq];exact A22 0x1A1400010709E584010371F5A000 hz yf)) ?_);exact wpAny_pure (h _ _ _ _ _ D' (Heap.SameBut.update ..))
theorem Go.setNs (I:HI g θ H F h)(hi:H i=some (.ns l))(ha:i.at θ=some a)(hn:Zt θ h l es)(hr:Rd θ h p v) (ho:h.get? a=some (dictOf es n)) (h1:h'.get? a=some (dictOf (putL name hs (.str name tk) v es) n')) (h2:Heap.SameBut a h h'):Go g F S θ H h θ (H.upd i (.ns (zS.put l name p))) h':=by have k:∀ b o,b≠a->h.get? b=some o->h'.get? b=some o:=fun b o hb e=>(h2.2 b hb).trans e;have jO:∀ b items,IsTup h b items->IsTup h' b items:=fun b vh ⟨o,yg,hc,m,hd⟩=>⟨o,k b o (fun q=>by subst q;rw[ho] at yg;cases yg;simp at hc) yg,hc,m,hd⟩;exact Go.upd I hi ha k ⟨_,n',h1,Zt.mono (zZ.refl θ) jO _ _ (mH hr hn)⟩
theorem UJ {E:Value->Shared->Prop}{n:Nat}{k:Int}{Q:Unit->Shared->Prop}(hl:IsL s.heap l items n)(h0:0<=k)(Wl:k<2^63)(hn:k<items.size) (h:Q () {s with heap:=s.heap.update l (Obj.mapSeq (·.setIfInBounds k.toNat v))}):wpAny (model g.prog g.w) A (setItem (.ref l) (.int k t) v) Q E s:=by
 have hT:s.TypeIs (.ref l) "list":=⟨_,hl,rfl⟩;unfold setItem;try with_reducible refine wpAny_holding ?_
 first|refine wpAny_bind (wpAny_pure ?_)|skip
 refine wpAny_bind (wpAny_sequenceKey hT (by decide) ?_);refine wpAny_bind (wpAny_callSpecial?_slot (name:=("__setitem__":Str)) hT slot_list_setitem (wpAny_call_entry slot_list_setitem hT entry_list_setitem ?_ (args_list_setitem _ _ _)));show wpAny _ _ (Builtin.List.listSubscript? (.int k t)>>=_) _ _ s;refine wpAny_bind (wpAny_listSubscript_int (fitsIndex_of h0 Wl) ?_);clear Wl;refine zA (Int.eq_ofNat_of_zero_le h0) fun j zW=>?_;subst zW;have hj:j<items.size:=Int.ofNat_lt.mp hn;have mn:items[j]?=some items[j]:=Array.getElem?_eq_getElem hj;show wpAny _ _ ((seqItemAt l j>>=fun r=>pure (r.map (j,·)))>>=_) _ _ s;refine wpAny_bind (wpAny_bind (wpAny_seqItemAt hl rfl (wpAny_pure ?_)));rw[mn];show wpAny _ _ (setSeqItemAt l j v>>=_) _ _ s;refine wpAny_bind (wpAny_setSeqItemAt hl rfl ?_);first
  |exact wpAny_bind (wpAny_pure (wpAny_pure ⟨.none,rfl,wpAny_pure h⟩))|exact wpAny_pure ⟨.none,rfl,wpAny_pure h⟩
theorem UE (x:Str)(xp:Pos)(it v:Value):letOwnedTupleGo (.Name x xp) it v=pure ():=rfl
theorem jR (I:HI g θ H F h)(o:Obj):Go g F yB θ H h θ H (h.push o):=Go.ext I (yw h o)
theorem KJ (hx:c.names.lookup ("range":Str)=some .globalImplicit)(hn:nsIn g.K mainGlobals ("range":Str)=some none)(h:z_ g d c ρ H e (fun p HZ=>∃ n:Int,p=.int n/\0<=n/\n<=1000000/\Q (wN 0 n 1) HZ) X) (hp:autoParam (uu [e]) ta._auto_1) (na:autoParam (Xm (.Name "range" np)) ta._auto_1):pR g d c ρ H (.Call (.Name "range" np) [e] [] pos) Q X:=by
 intro A env zb za θ s Qc Ec C EI I L hQ hX;refine ZT (R:=fun fv as H2_=>fv=.type "range"/\∃ n:Int,as=[.int n]/\0<=n/\n<=1000000/\Q (wN 0 n 1) H2_) hp (qI (v:=.type "range") hx hn (by decide+kernel) ⟨_,rfl,jl _,VO ?_ (fun env=>by rw[hp env];rfl)⟩) C EI I L (fun fv vs as zl H' h' tk q G r=>?_) hX (na _ _ _)
 .intro A env zb za θ s Qc Ec C EI I L hQ hX;refine h A env zb za θ s Qc Ec C EI I L (fun v p zl H' h' tk q G r=>?_) hX;obtain⟨n,rfl,Xd,hn,q⟩:=q;exact hQ v _ zl H' h' tk (WH ⟨rfl,n,rfl,Xd,hn,q⟩) G r
 .obtain⟨rfl,n,rfl,Xd,hn,q⟩:=q;obtain⟨v,_,rfl,r,rfl⟩:=r;obtain⟨t,rfl⟩:=zX (r:Rd zl h' (.int n) v);refine call_range_1 ?_;have G1:=jR (g:=g) (F:=zE (zb::za)) G.inv {cls:=.type "range",data:=.fields #[.int 0 tk,.int n t,.int 1 (tk+1)]};refine wpAny_pyIter_range (a:=0) (b:=n) (c:=1) (Heap.get?_push_size _ rfl) (small_one (by decide) (by decide) (Int.le_trans (by decide) Xd) (Int.lt_of_le_of_lt hn (by decide))) ?_;have G2:=jR (g:=g) (F:=zE (zb::za)) G1.inv {cls:=.type "range_iterator",data:=.fields #[rawInt 0,rawInt (Builtin.Range.rangeSize 0 n 1),rawInt 1]};refine hQ _ _ zl H' _ _ q ((G.trans G1).trans G2) (.inr (.inl ⟨0,_,1,Heap.get?_push_size _ rfl,rfl⟩)) ?_;exact u7 (G.trans G1) (y8 _)
theorem iD (hx:c.names.lookup ("range":Str)=some .globalImplicit)(hn:nsIn g.K mainGlobals ("range":Str)=some none) (h:u5 g d c ρ H [e1,e2,e3] (fun ps HZ=>∃ a b:Int,ps=[.int a,.int b,.int (-1)]/\-1000000<=a/\a<=1000000/\-1000000<=b/\b<=1000000/\Q (wN a b (-1)) HZ) X) (hp:autoParam (uu [e1,e2,e3]) ta._auto_1) (na:autoParam (Xm (.Name "range" np)) ta._auto_1):pR g d c ρ H (.Call (.Name "range" np) [e1,e2,e3] [] pos) Q X:=by
 intro A env zb za θ s Qc Ec C EI I L hQ hX;refine ZT (R:=fun fv as H2_=>fv=.type "range"/\∃ a b:Int,as=[.int a,.int b,.int (-1)]/\-1000000<=a/\a<=1000000/\-1000000<=b/\b<=1000000/\Q (wN a b (-1)) H2_) hp (qI (v:=.type "range") hx hn (by decide+kernel) ⟨_,rfl,jl _,?_⟩) C EI I L (fun fv vs as zl H' h' tk q G r=>?_) hX (na _ _ _)
 .intro A env zb za θ s Qc Ec pos C EI I L hQ hX;exact h A env zb za θ s Qc Ec pos C EI I L (fun v p zl H' h' tk q G r=>hQ v _ zl H' h' tk ⟨rfl,q⟩ G r) hX
 .obtain⟨rfl,a,b,rfl,LG,LH,lU,eu,q⟩:=q;obtain⟨v1,_,rfl,r1,v2,_,rfl,r2,v3,_,rfl,r3,rfl⟩:=r;obtain⟨t1,rfl⟩:=zX (r1:Rd zl h' (.int a) v1);obtain⟨t2,rfl⟩:=zX (r2:Rd zl h' (.int b) v2);obtain⟨t3,rfl⟩:=zX (r3:Rd zl h' (.int (-1)) v3);have G1:=jR (g:=g) (F:=zE (zb::za)) G.inv {cls:=.type "range",data:=.fields #[.int a t1,.int b t2,.int (-1) t3]};refine call_range_3 (by decide) ?_ (.inl (PyProof.noPylong_small (by decide)));refine wpAny_pyIter_range (a:=a) (b:=b) (c:=-1) (Heap.get?_push_size _ rfl) (small_down (Int.le_trans (by decide) LG) (Int.lt_of_le_of_lt LH (by decide)) (Int.le_trans (by decide) lU) (Int.lt_of_le_of_lt eu (by decide))) ?_;have G2:=jR (g:=g) (F:=zE (zb::za)) G1.inv {cls:=.type "range_iterator",data:=.fields #[rawInt a,rawInt (Builtin.Range.rangeSize a b (-1)),rawInt (-1)]};refine hQ _ _ zl H' _ _ q ((G.trans G1).trans G2) (.inr (.inl ⟨a,_,-1,Heap.get?_push_size _ rfl,rfl⟩)) ?_;exact u7 (G.trans G1) (y8 _)
theorem YJ (n:Nat):wN 0 n 1=(List.range n).map fun(j:Nat)=>PV.int j:=by unfold wN;rw[rangeSize_nat,Int.toNat_natCast,Int.sub_zero,Int.toNat_natCast];exact List.map_congr_left fun j _=>congrArg PV.int (by rw[Int.mul_one,Int.zero_add])
theorem jm (n:Nat)(b:Int)(hb:b<=n):wN n b (-1)=(List.range (n-b).toNat).map fun(j:Nat)=>PV.int (n-j):=by unfold wN;rw[rangeSize_downNat,Int.toNat_natCast];exact List.map_congr_left fun j _=>congrArg PV.int (by rw[Int.mul_neg,Int.mul_one];rfl)
end
section
variable {g:Gr} {d:Nat} {c:Scope} {ρ:zS} {H:AH} {X:PV->AH->Prop}
section
variable {prog:Program} {w:World} {A:Around} {E:Value->Shared->Prop} {h:Heap} {gs:Array GenState} {dr:Drawn} {t:Nat} {os:OsState}
variable {nm q:Str} {C N:Addr} {bs bm XQ lO:List Value} {hdct:Bool} {sn:List Str} {sub:List Value} {ab:Bool} {col:Option Bool} {dd:Option Addr} {k0 k1 k2 k3 k5:Option Value} {B Bn newId mu Vq mq:String}
theorem UH (Fn:ExcBaseFacts Bn newId mq lO)(Qt:XQ.contains (.type Bn)=true)(F:ExcBaseFacts B mu Vq XQ)(T:OwnTail h XQ bm) (hC:h.get? C=some (excClassObj nm q C N bs bm hdct sn sub ab col dd k0 k1 k2 k3 k5 newId)) (hn:h.Ns N mN) (hi:mN "__init__"=some (.ref fI)) (eD:h.get? fI=some oI) (eI:oI.cls=.type "function") (hq:∀ h' e,Heap.MadeExcOf h h' e (.ref C) rest->
   wpAny (model prog w) A (call (.ref fI) (.ref e::rest)) (fun r s'=>r=.none/\Q (.done (.ret (.ref e))) s') E ⟨h',gs,dr,t,os⟩) (bI:rest.length<=sizeLine):
  wpAny (model prog w) A (Builtin.«type.__call__» ⟨.ref C::rest,[]⟩) Q E ⟨h,gs,dr,t,os⟩:=by
 repeat (first|with_reducible refine wpAny_loadPart_at hC ?_|with_reducible refine wpAny_madeBy_exc hC ?_|wp_step)
 refine codeAny_call_builtin_code (Code.quiet_builtin _ Fn.quiet) (wpAny_check_new_subU Fn Qt T hC ?_);refine codeAny_exc_new_subU Fn Qt F T hC ?_ bI;show wpAny _ _ _ _ _ _;have kk:∀ b o,h.get? b=some o->((h.push {cls:=.type "tuple",data:=.seq rest.toArray}).push {cls:=.ref C,data:=.fields #[.ref h.objs.size,.none,.none,.none,.bool false,.none]}).get? b=some o:=fun b o e=>Heap.get?_push_of_some _ (Heap.get?_push_of_some _ e);have hCZ:=kk _ _ hC;have hfIZ:=kk _ _ eD;have hnZ:((h.push {cls:=.type "tuple",data:=.seq rest.toArray}).push {cls:=.ref C,data:=.fields #[.ref h.objs.size,.none,.none,.none,.bool false,.none]}).Ns N mN:=
  let⟨o,es,ep,e,r⟩:=hn;⟨o,es,ep,kk _ _ e,r⟩
 have sR:((h.push {cls:=.type "tuple",data:=.seq rest.toArray}).push
   {cls:=.ref C,data:=.fields #[.ref h.objs.size,.none,.none,.none,.bool false,.none]}).get? (h.objs.size+1)=some
   {cls:=.ref C,data:=.fields #[.ref h.objs.size,.none,.none,.none,.bool false,.none]}:=by heap_get
 have LO:(Value.ref C::bm).contains (.ref C)=true:=by simp
 have TZ:=T.keeps (h':=(h.push {cls:=.type "tuple",data:=.seq rest.toArray}).push {cls:=.ref C,data:=.fields #[.ref h.objs.size,.none,.none,.none,.bool false,.none]}) kk;unfold isInstance;repeat (first|with_reducible refine wpAny_loadPart_at sR ?_|(with_reducible refine wpAny_isSubtype_exc hCZ ?_;rw[LO])|wp_step)
 show wpAny _ _ (typeLookup (.ref C) _) _ _ _;refine wpAny_typeLookup_tail hCZ hnZ TZ F.mroIs F.init.lookup ?_;rw[hi];refine wpAny_holding (wpAny_bind ?_);unfold bindSpecial;refine wpAny_bind (wpAny_typeOf (T:="function") ⟨_,hfIZ,eI⟩ ?_);rw[if_pos (by decide)];refine wpAny_pure (wpAny_bind (wpAny_mono (hq _ (h.objs.size+1) ⟨kk,Heap.get?_none_of_le (Nat.le_succ _),h.objs.size,sR,Heap.get?_none_of_le (Nat.le_refl _),?_⟩) (fun r s' hr=>?_) fun _ _ x=>x))
 .exact Heap.get?_push_of_some _ (Heap.get?_push_at rfl rfl)
 .refine a2 hr fun xA hQ=>?_;clear hr;subst xA
  wp_walk
  exact hQ
theorem gL (Fn:ExcBaseFacts Bn newId mq lO)(Qt:XQ.contains (.type Bn)=true)(F:ExcBaseFacts B mu Vq XQ)(T:OwnTail h XQ bm) (hC:h.get? C=some (excClassObj nm q C N bs bm hdct sn sub ab col dd k0 k1 k2 k3 k5 newId)) (hn:h.Ns N mN) (hi:mN "__init__"=some (.ref fI)) (eD:h.get? fI=some oI) (eI:oI.cls=.type "function") (hq:∀ h' e,Heap.MadeExcOf h h' e (.ref C) rest->
   wpAny (model prog w) (A.under (.builtin "type.__call__" ⟨.ref C::rest,[]⟩)) (call (.ref fI) (.ref e::rest)) (fun r s'=>r=.none/\Q (.ref e) s') E ⟨h',gs,dr,t,os⟩) (bI:rest.length<=sizeLine):
  wpAny (model prog w) A (call (.ref C) rest) Q E ⟨h,gs,dr,t,os⟩:=by
 have f1:=tc_lookup;have f2:=tc_bind (.ref C);have hT:(⟨h,gs,dr,t,os⟩:Shared).TypeIs (.ref C) "type":=⟨_,hC,rfl⟩;refine wpAny_call (codeAny_of_tree ?_);show wpAny _ _ (callAny (.ref C) _) _ _ _;repeat (any_goals (first|assumption|with_reducible refine wpAny_loadPart_at hC ?_|wp_step))
 refine⟨rfl,?_⟩;refine codeAny_call_builtin_at (Code.quiet_builtin _ (by decide+kernel)) entry_typeCall (wpAny_check_type_call_sub hC (UH Fn Qt F T hC hn hi eD eI (fun h' e hm=>?_) bI));exact hq h' e hm
end
noncomputable def Vy:List Value->Bool|.ref _::r=>Vy r|l=>l==[.type "Exception",.type "BaseException",.type "object"]
theorem Xx (e:(l==[Value.type "Exception",.type "BaseException",.type "object"])=true):l=[.type "Exception",.type "BaseException",.type "object"]:=beq_iff_eq.mp e
theorem Zz (self:Value):∀ {l:List Value},Vy l=true->refuseLoop self "__setattr__" l=pure ()/\l.contains (.type "object")=true/\l.isEmpty=false|[],e=>by cases Xx e|.ref c::r,e=>by refine a3 (Zz self (l:=r) e) fun h1 h2 _=>?_;exact⟨by rw[refuseLoop_ref];exact h1,by rw[List.contains_cons,h2,Bool.or_true],rfl⟩|.type n::r,e=>by have:=Xx (l:=.type n::r) e;rw[this];exact⟨PySem.F.store_Exception.passes self,by simp,rfl⟩
noncomputable def VV (K:Frag)(C:Addr):Bool:=match clsIn K C with
 |some cd=>Vy cd.mro|none=>false
noncomputable def Zr (K:Frag)(C:Addr)(name:Str):Bool:=(findIn K (.ref C) "__setattr__"==some (some (.builtin "object.__setattr__")))&&VV K C&&(takerIn K C name==some none)&&hasDictIn K C
theorem nh (XK:g.K.In s.heap)(I:InstAt s.heap x ox C od)(hp:VV g.K C=true)(ht:takerIn g.K C name=some none) (h:∀ b,wpAny (model g.prog g.w) A.in1 (Builtin.ObjectAttr.storeInOwnDict (.ref x) (.ref C) (.str name tk) name v b) (fun fin s'=>match fin with|.done f=>R (.ok f) s'|.again c'=>c'.quiet=true/\codeAny (model g.prog g.w) A c' R s') (fun e s'=>R (.error e) s') s):
  codeAny (model g.prog g.w) A (.call (.builtin "object.__setattr__") ⟨[.ref x,.str name tk,v],[]⟩) R s:=by
 unfold VV at hp;split at hp
 .rename_i cd hc;refine a3 (Zz (.ref x) hp) fun Fs Iy wJ=>?_;have Lm:Looks (model g.prog g.w) s.heap (mroOf (.ref C)) cd.mro:=(looks_clsIn XK hc).andThen .now;have Li:Looks (model g.prog g.w) s.heap (isInstance (.ref x) (.type "object")) true:=I.type.andThen (looks_mroIn XK (by unfold mroIn;rw[hc,Option.bind_some,if_neg (by rw[wJ];decide),Iy]));refine zg (Option.bind_eq_some_iff.mp ht) fun attr ha hr=>?_;have Lt:Looks (model g.prog g.w) s.heap (Builtin.ObjectAttr.storeTaker? attr) none:=by
   cases attr with
   |none=>exact .now|some a=>refine zg (Option.map_eq_some_iff.mp hr) fun b hb eu=>?_;refine(looks_takesIn XK hb).andThen ?_;cases b with|false=>exact .now|true=>exact qE eu
  have SF:=PySem.F.store_object;refine codeAny_call_builtin SF.slot.plain SF.entry (@check_slot (model g.prog g.w) _ _ s "object.__setattr__" "object" "__setattr__" (.ref x) [.str name tk,v] [] _ SF.kind SF.split Li (SF.args (.ref x) (.str name tk) v) ?_);rw[osa_eq,refuse_eq];refine wpAny_bind (wpAny_bind (I.type.here (wpAny_bind (Lm.here ?_))));rw[Fs];exact wpAny_pure (wpAny_bind (I.type.here (wpAny_bind ((looks_findIn XK ha).here (wpAny_bind (Lt.here (h _)))))))
 .exact zU hp
theorem nq (XK:g.K.In s.heap) (hx:s.heap.get? x=some ⟨.ref C,none,.fields vs,sl⟩) (hk:Zr g.K C name=true) (h:∀ h' hs tk jO,h'.get? s.heap.objs.size=some (dictOf [⟨hs,.str name tk,v⟩] 1)->h'.get? x=some ⟨.ref C,some s.heap.objs.size,.fields vs,sl⟩->(∀ b o,b≠x->s.heap.get? b=some o->h'.get? b=some o)->Q () {s with heap:=h',toks:=jO}):
  wpAny (model g.prog g.w) A (setAttr (.ref x) name v) Q E s:=by
 unfold Zr at hk;simp only[Bool.and_eq_true] at hk;refine a2 hk fun wd h4=>?_;clear hk;obtain⟨⟨h1,h2⟩,h3⟩:=wd;have I:InstAt s.heap x ⟨.ref C,none,.fields vs,sl⟩ C none:=⟨hx,rfl,rfl,trivial⟩;refine set_plain XK I (beq_iff_eq.mp h1) (nh (s:={s with toks:=s.toks+1}) XK I h2 (beq_iff_eq.mp h3) fun b=>?_);refine zg (any_some h4) fun cd hc xi=>?_;refine wpAny_bind (wpAny_pure (wpAny_bind (wpAny_bind (wpAny_loadPart hx (wpAny_bind ((looks_clsIn (show g.K.In ({s with toks:=s.toks+1}:Shared).heap from XK) hc).here ?_))))));rw[xi];show wpAny _ _ (alloc {cls:=.type "dict",data:=.dict #[]}>>=fun d=>update x (fun o=>{o with dict:=some d})>>=fun _=>dictMade (.ref C) x d) _ _ _;refine wpAny_bind (wpAny_alloc ?_);have wy:=Heap.get?_push_of_some (h:=s.heap) {cls:=.type "dict",data:=.dict #[]} hx;refine wpAny_bind (wpAny_update wy ?_);refine wpAny_pure (a:=some s.heap.objs.size) (wpAny_bind (wpAny_pure (wpAny_bind ?_)));have nx:s.heap.objs.size≠x:=Nat.ne_of_gt (Heap.lt_size hx);have D0:=Heap.get?_push_size s.heap (o:={cls:=.type "dict",data:=.dict #[]}) rfl;have JC:=Heap.get?_update_self (h:=s.heap.push {cls:=.type "dict",data:=.dict #[]}) (fun o=>{o with dict:=some s.heap.objs.size}) wy rfl;have D:=(Heap.get?_update_other (s.heap.push {cls:=.type "dict",data:=.dict #[]}) (fun o=>{o with dict:=some s.heap.objs.size}) (Ne.symm nx)).trans D0;have k2:∀ b o,b≠x->s.heap.get? b=some o->((s.heap.push {cls:=.type "dict",data:=.dict #[]}).update x (fun o=>{o with dict:=some s.heap.objs.size})).get? b=some o:=fun b o hb e=>(Heap.get?_update_other _ _ (Ne.symm hb)).trans (Heap.get?_push_of_some _ e);generalize (s.heap.push {cls:=.type "dict",data:=.dict #[]}).update x (fun o=>{o with dict:=some s.heap.objs.size})=h2 at JC D k2|-;unfold nsSet;refine wpAny_bind (wpAny_bind (wpAny_askSetting (wpAny_pure (wpAny_bind (wpAny_mkText (wpAny_bind (wpAny_loadPart D ?_)))))));have pn:=putName_dict name (PyData.keyHash g.w.params name) (.str name (s.toks+1)) v [] 0;have D':=Heap.get?_update_self (h:=h2) (Obj.putName name (PyData.keyHash g.w.params name) (.str name (s.toks+1)) v) (o:=dictOf [] 0) D (by rw[pn];rfl);rw[pn] at D';have c:(!(#[]:Array DictEntry).any (·.key.isStr name)&&(#[]:Array DictEntry).any (·.refKey))=false:=by simp
 show wpAny _ _ (if aRefKeyMayBeTheName name #[] then _ else _) _ _ _;rw[aRefKeyMayBeTheName_at,c];refine wpAny_updatePart D ?_;refine wpAny_bind (wpAny_lookBehind D' (pastItsLine_dict (by rw[List.size_toArray,sizeLine_eq];simp[putL])) ?_);refine wpAny_pure (h _ (PyData.keyHash g.w.params name) (s.toks+1) _ D' ?_ fun b o hb e=>?_)
 .rw[Heap.get?_update_other _ _ nx];exact JC
 .have LL:s.heap.objs.size≠b:=Nat.ne_of_gt (Heap.lt_size e);rw[Heap.get?_update_other _ _ LL];exact k2 b o hb e
end
section
variable {g:Gr} {d:Nat} {c:Scope} {ρ:zS} {H:AH} {X:PV->AH->Prop}
noncomputable def rU (t:Addr):Array Value:=#[.ref t,.none,.none,.none,.bool false,.none]
structure WJ (g:Gr)(fI:Addr):Prop where
 make:∀ {h:Heap} {A:Around} {E:Value->Shared->Prop} {gs:Array GenState} {dr:Drawn} {t:Nat} {os:OsState} {rest:List Value} {Q:Value->Shared->Prop},g.B.StaysIn h->rest.length<=sizeLine-> (∀ h' e,Heap.MadeExcOf h h' e (.ref g.C) rest->wpAny (model g.prog g.w) (A.under (.builtin "type.__call__" ⟨.ref g.C::rest,[]⟩)) (call (.ref fI) (.ref e::rest)) (fun r s'=>r=.none/\Q (.ref e) s') E ⟨h',gs,dr,t,os⟩)->
  wpAny (model g.prog g.w) A (call (.ref g.C) rest) Q E ⟨h,gs,dr,t,os⟩
 raise:∀ {A:Around} {E:Value->Shared->Prop} {s:Shared} {env:Env} {x:Sem Value} {Q:Flow->Shared->Prop},A.handled=none->
  wpAny (model g.prog g.w) A x (fun v s1_=>∃ e t da,v=.ref e/\g.B.StaysIn s1_.heap/\s1_.heap.get? e=some ⟨.ref g.C,some da,.fields (rU t),#[]⟩/\E (.ref e) s1_) E s->
  wpAny (model g.prog g.w) A (raiseStmt env (some x) none) Q E s
 ji:Zr g.K g.C "ball"=true
section
variable {nm q:Str} {N:Addr} {bs bm XQ lO:List Value} {hdct:Bool} {sn:List Str} {sub:List Value} {ab:Bool} {col:Option Bool} {dd:Option Addr} {k0 k1 k2 k3 k5:Option Value} {B Bn newId mu Vq mq:String}
theorem bV (Fn:ExcBaseFacts Bn newId mq lO)(Qt:XQ.contains (.type Bn)=true)(F:ExcBaseFacts B mu Vq XQ)(T:OwnTail g.B XQ bm) (hC:g.B.get? g.C=some (excClassObj nm q g.C N bs bm hdct sn sub ab col dd k0 k1 k2 k3 k5 newId)) (hn:g.B.Ns N mN) (hi:mN "__init__"=some (.ref fI)) (eD:g.B.get? fI=some oI) (eI:oI.cls=.type "function") (bB:bm.contains (.type "BaseException")=true) (hs:Zr g.K g.C "ball"=true):WJ g fI:=by
 refine⟨fun{h A E gs dr t os rest Q} st hz hq=>?_,fun{A E s env x Q} hh h=>?_,hs⟩
 .exact gL Fn Qt F (T.keeps st) (st _ _ hC) (let⟨o,es,ep,e,r⟩:=hn;⟨o,es,ep,st _ _ e,r⟩) hi (st _ _ eD) eI hq hz
 .have LN:(Value.ref g.C::bm).contains (.type "BaseException")=true:=by rw[List.contains_cons,bB,Bool.or_true]
  unfold raiseStmt;refine wpAny_bind (wpAny_mono h (fun v s1_ hZ=>?_) fun _ _ x=>x);refine jI hZ fun e t da uY st he hE=>?_;clear hZ;subst uY;have hC:=st _ _ hC;obtain⟨hp,g',d,tk,os⟩:=s1_;unfold rU at he;repeat (first|with_reducible refine wpAny_loadPart_at he ?_|with_reducible refine wpAny_loadPart_at hC ?_|(with_reducible refine wpAny_isSubtype_exc hC ?_;rw[LN])|wp_step)
  exact wpAny_raiseNew_none hh hE
end
theorem KG (G:Go g F S θ H h zl H' h')(h0:H (.an a)=none)(h1:(H' (.an a)).isSome)(I:HI g θ H F h):h.get? a=none:=by
 cases q:h.get? a with
 |none=>rfl|some o=>refine zA (Yi h1) fun mo hm=>?_;refine yE (G.dom a o q ⟨.an a,mo,hm,rfl⟩) fun i mi hi ha=>?_;cases i with|an b=>have:b=a:=yd ha;rw[this,h0] at hi;exact zJ hi|nm k=>have t1:zl k=some a:=G.nm k a ha;have t2:=G.inv.named k (by rw[t1];rfl);have:=G.inv.inj (.nm k) (.an a) a t2 h1 t1 rfl;exact xh this
theorem nc (XC:WJ g fI)(h:z_ g d c ρ H e (fun p HZ=>∃ a da l ball,p=.obj (.an a)/\HZ (.an a)=some (.exc g.C (some (.an da)))/\HZ (.an da)=some (.ns l)/\zS.get l "ball"=some ball/\H (.an a)=none/\H (.an da)=none/\X ball ((HZ.del (.an a)).del (.an da))) X):wR g d c ρ H (.Raise (some e) none pos) Q X:=by
 intro A env zb za θ s Qc Ec C EI I L hQ hX;have NC:=hX;rw[arm_exec_Raise];refine wpAny_bind (wpAny_standAt (XC.raise C.handled ?_));show wpAny _ _ (eval e env>>=fun v=>standAt pos>>=fun _=>pure v) _ _ _;refine wpAny_bind (h A env zb za θ s _ _ C EI I L (fun v p θZ HZ hZ tkZ qZ GZ rZ=>wpAny_bind (wpAny_standAt (wpAny_pure ?_))) hX.none);refine oo qZ fun a da l ball vv ha Gb hl n1 n2 q=>?_;clear qZ;subst vv;refine zg (yz rZ) fun a' ea zm=>?_;subst zm;have:a=a':=yd ea;subst this;refine xI (GZ.inv.rep _ _ ha) fun b eb _ _ zz=>?_;refine yE zz fun od t ho zz=>?_;refine zg zz fun FK ed Ju=>?_;have:a=b:=yd eb;subst this;have:da=FK:=yd ed;subst this;subst Ju;refine xI (GZ.inv.rep _ _ Gb) fun b eb NA _ zz=>?_;refine yE zz fun es n Ju jC=>?_;have:da=b:=yd eb;subst this;refine zg ((Zn "ball" jC).1 ball hl) fun bt Lr Ls=>?_;refine⟨a,t,da,rfl,GZ.inv.stays,ho,?_⟩;have D1:=Go.del (g:=g) (S:=xX env) GZ.inv a;have D2:=Go.del (g:=g) (S:=xX env) D1.inv da;have GZ':=GZ.mono (S':=xX env) fun _ f=>f.elim;refine hX (.ref a) ball θZ _ hZ tkZ q ((GZ'.trans D1).trans D2) ⟨a,_,_,da,es,n,bt,rfl,?_,KG GZ n1 (by rw[ha];rfl) I,ho,rfl,KG GZ n2 (by rw[Gb];rfl) I,Ju,Lr,Ls,.inl rfl⟩;intro zq;refine yE zq fun i mo hi Yp=>?_;clear zq;unfold AH.del at hi;split at hi
 .exact zJ hi
 .split at hi
  .exact zJ hi
  .rename_i n2 n3;exact n3 (GZ.inv.inj i (.an a) a (by rw[hi];rfl) (by rw[ha];rfl) Yp rfl)
end
section
variable {g:Gr} {d:Nat} {c:Scope} {ρ:zS} {H:AH} {X:PV->AH->Prop}
theorem dv (C:Addr)(rest:List Value)(kw:List (Str×Value)):(Code.builtin "type.__call__" ⟨.ref C::rest,kw⟩).weight=1/\(Code.builtin "type.__call__" ⟨.ref C::rest,kw⟩).cUnits=1/\(Code.builtin "type.__call__" ⟨.ref C::rest,kw⟩).envs=[]:=by
 refine⟨?_,?_,?_⟩
 .have h1:(Code.builtin "type.__call__" ⟨.ref C::rest,kw⟩).frames=0:=by rfl
  have h2:(Code.builtin "type.__call__" ⟨.ref C::rest,kw⟩).isCreation=true:=by rfl
  have h3:(Code.builtin "type.__call__" ⟨.ref C::rest,kw⟩).isGuard=false:=by show guardIds.contains "type.__call__"=false;decide+kernel
  have h4:(Code.builtin "type.__call__" ⟨.ref C::rest,kw⟩).isCaller=false:=by rfl
  simp[Code.weight,h1,h2,h3,h4]
 .rfl
 .rfl
theorem CI.create (C:CI g A (d+1) za)(x:Addr)(rest:List Value)(kw:List (Str×Value)):CI g (A.under (.builtin "type.__call__" ⟨.ref x::rest,kw⟩)) d za:=by
 refine a3 (dv x rest kw) fun h1 h2 h3=>?_;refine⟨C.ok,C.handled,?_,?_,?_,C.kinds,C.ne⟩
 .show A.depth+Code.weight _+_<=_;rw[h1];have:=C.depth;exact A21 0x6F5E5B4282240800400DEBCB0912D02100 this
 .show A.units+Code.cUnits _+_<=_;rw[h2];have:=C.units;exact A21 0x1324796D0A001E7920400204C91E58401E792D02100 this
 .show pushEnvs (Code.builtin "type.__call__" ⟨.ref x::rest,kw⟩).envs A.frames=some za;rw[h3];exact C.frames
theorem Go.adopt (G:Go g F S θX HX h₀ θ H h)(hb:h₀.get? b=none)(hB:g.B.get? b=none)(nF:b∉F)(nd:¬wI θ H b)(r:w6 g θ h b mo):Go g F S θX HX h₀ θ (H.upd (.an b) mo) h:=by
 have I:=G.inv;refine⟨⟨I.stays,fun j m hj=>?_,fun j1 j2 x h1 h2 e1 e2=>?_,fun n hk=>?_,I.frames⟩,G.nm,G.keep,G.fram,G.ex,fun x o e dd=>?_⟩
 .unfold AH.upd at hj;by_cases q:j=.an b
  .rw[if_pos q] at hj;cases hj;subst q;exact⟨b,rfl,hB,nF,r⟩
  .rw[if_neg q] at hj;exact I.rep j m hj
 .have fresh:∀ i,(H i).isSome->i.at θ≠some b:=fun i hi e=>by
   refine zA (Yi hi) fun mo hm=>?_;exact nd ⟨i,mo,hm,e⟩
  unfold AH.upd at h1 h2;by_cases q1:j1=.an b
  .by_cases q2:j2=.an b
   .rw[q1,q2]
   .rw[if_neg q2] at h2;subst q1;have:x=b:=yd e1.symm;subst this;exact absurd e2 (fresh j2 h2)
  .rw[if_neg q1] at h1;by_cases q2:j2=.an b
   .subst q2;have:x=b:=yd e2.symm;subst this;exact absurd e1 (fresh j1 h1)
   .rw[if_neg q2] at h2;exact I.inj j1 j2 x h1 h2 e1 e2
 .unfold AH.upd;rw[if_neg (by simp)];exact I.named n hk
 .refine yE dd fun j m hj hx=>?_;clear dd;unfold AH.upd at hj;split at hj
  .rename_i q;subst q;have:x=b:=yd hx.symm;subst this;rw[hb] at e;exact zJ e
  .exact G.dom x o e ⟨j,m,hj,hx⟩
theorem HI.dom_some (I:HI g θ H F h)(hd:wI θ H b):∃ o,h.get? b=some o:=by refine yE hd fun i mo hi ha=>?_;clear hd;refine xI (I.rep i mo hi) fun a' we _ _ r=>?_;rw[ha] at we;obtain rfl:=yd we;refine zg r.there fun o ho _=>?_;exact⟨o,ho⟩
theorem xt (I:HI g θ H F h)(e:h.get? b=none):g.B.get? b=none:=by cases z:g.B.get? b with|none=>rfl|some o=>have:=I.stays b o z;rw[e] at this;exact zJ this
theorem xG (I:HI g θ H F h)(e:h.get? b=none):b∉F:=fun hm=>by refine a2 (I.frames b hm) fun _ zz=>?_;refine vW zz fun o _ _ ho _=>?_;rw[e] at ho;exact zJ ho
theorem Wc (I:HI g θ H F h)(e:h.get? b=none):H (.an b)=none:=by
 cases q:H (.an b) with
 |none=>rfl|some mo=>obtain⟨o,ho⟩:=I.dom_some ⟨.an b,mo,q,rfl⟩;rw[e] at ho;exact zJ ho
noncomputable def Ws (mk:List Value->Args):List Value->Args|x::r=>⟨x::(mk r).pos,(mk r).kw⟩|[]=>mk []
theorem Qm (fI:Addr):(some (Value.ref fI) !=some (Value.builtin "object.__init__"))=true:=by simp
theorem gc (C:Addr)(_I:HI g θ H F h):(∀ b o,h.get? b=some o->((h.push emptyDict).push (instObj C h.objs.size)).get? b=some o)/\ ((h.push emptyDict).push (instObj C h.objs.size)).get? h.objs.size=some emptyDict/\((h.push emptyDict).push (instObj C h.objs.size)).get? (h.objs.size+1)=some (instObj C h.objs.size)/\h.get? (h.objs.size+1)=none:=by refine⟨fun b o e=>Heap.get?_push_of_some _ (Heap.get?_push_of_some _ e),Heap.get?_push_of_some _ (Heap.get?_push_size _ rfl),?_,Heap.get?_none_of_le (Nat.le_succ _)⟩;have:=Heap.get?_push_size (h.push emptyDict) (o:=instObj C h.objs.size) rfl;rwa [Heap.size_push] at this
theorem pN (hm:makesIn g.K C=true)(hi:findIn g.K (.ref C) "__init__"=some (some (.ref fI)))(hf:typeIn g.K (.ref fI)=some (.type "function")) (hI:∀ x dx,H (.an x)=none->H (.an dx)=none->x≠dx->kq g d ((H.upd (.an dx) (.ns [])).upd (.an x) (.inst C (.an dx))) (.obj (.an x)::ps) (.ref fI) (Ws mk) (fun r H'=>r=.none/\Q (.obj (.an x)) H') X):kq g (d+1) H ps (.ref C) mk Q X:=by
 intro A za θ s vs R C' I Rv hQ hX;obtain⟨h,gs,dr,t,os⟩:=s;have XK:=I.kin C'.ok;refine a4 (gc C I) fun k k1 k2 k3=>?_;have Xd:=y8 h;refine make_core (makes_of XK hm) (looks_findIn XK hi) (fun self=>bind_fn XK self hf) (.inl (Qm fI)) ?_;show codeAny _ (A.under (.builtin "type.__call__" ⟨.ref C::(mk vs).pos,(mk vs).kw⟩)) (.call (.ref fI) (Ws mk (.ref (h.objs.size+1)::vs))) _ _;generalize (h.push emptyDict).push (instObj C h.objs.size)=h2 at k k1 k2|-;have G0:=Go.ext (g:=g) (F:=zE za) (S:=yB) I k;have Xf:∀ b,h.get? b=none->¬wI θ H b:=fun b e hd=>by obtain⟨o,ho⟩:=I.dom_some hd;rw[e] at ho;exact zJ ho
 have G1:=G0.adopt (b:=h.objs.size) (mo:=.ns []) Xd (xt I Xd) (xG I Xd) (Xf _ Xd) ⟨[],0,k1,rfl⟩;have nx:h.objs.size+1≠h.objs.size:=Nat.succ_ne_self _;have G2:=G1.adopt (b:=h.objs.size+1) (mo:=.inst C (.an h.objs.size)) k3 (xt I k3) (xG I k3) (by
  intro zq;refine yE zq fun i mo hi Yp=>?_;clear zq;unfold AH.upd at hi;split at hi
  .rename_i q;subst q;exact nx (yd Yp).symm
  .exact Xf _ k3 ⟨i,mo,hi,Yp⟩) ⟨h.objs.size,#[],rfl,k2⟩
 refine hI (h.objs.size+1) h.objs.size (Wc I k3) (Wc I Xd) nx _ za θ ⟨h2,gs,dr,t,os⟩ (.ref (h.objs.size+1)::vs) _ (C'.create C (mk vs).pos (mk vs).kw) G2.inv ?_ ?_ (hX.after G2)
 .exact⟨_,_,rfl,⟨_,rfl,rfl⟩,G2.rds I Rv⟩
 .rintro v p zl H' h' tk ⟨rfl,q⟩ G r;exact⟨r,hQ (.ref (h.objs.size+1)) _ zl H' h' tk q (G2.trans G) (⟨_,rfl,rfl⟩)⟩
theorem Kb (n m:Nat)(nm:n≠m)(hm:makesIn g.K C=true)(hi:findIn g.K (.ref C) "__init__"=some (some (.ref fI)))(hf:typeIn g.K (.ref fI)=some (.type "function")) (h1:H (.nm n)=none) (h2:H (.nm m)=none) (hI:kq g d ((H.upd (.nm m) (.ns [])).upd (.nm n) (.inst C (.nm m))) (.obj (.nm n)::ps) (.ref fI) (Ws mk) (fun r H'=>r=.none/\Q (.obj (.nm n)) H') X):kq g (d+1) H ps (.ref C) mk Q X:=by
 intro A za θ s vs R C' I Rv hQ hX;obtain⟨h,gs,dr,t,os⟩:=s;have XK:=I.kin C'.ok;have Xd:=y8 h;refine make_core (makes_of XK hm) (looks_findIn XK hi) (fun self=>bind_fn XK self hf) (.inl (Qm fI)) ?_;show codeAny _ (A.under (.builtin "type.__call__" ⟨.ref C::(mk vs).pos,(mk vs).kw⟩)) (.call (.ref fI) (Ws mk (.ref (h.objs.size+1)::vs))) _ _;have G1:=Go.newN (g:=g) (F:=zE za) (S:=yB) (mo:=.ns []) (a:=h.objs.size) (h':=h.push emptyDict) I h2 Xd (yw h emptyDict) ⟨[],0,Heap.get?_push_size _ rfl,rfl⟩;have e2:(H.upd (.nm m) (.ns [])) (.nm n)=none:=by rw[AH.upd_ne _ _ (by simpa using nm)];exact h1
 have mc:(h.push emptyDict).get? (h.objs.size+1)=none:=by rw[<-Heap.size_push h emptyDict];exact y8 _
 have k2:((h.push emptyDict).push (instObj C h.objs.size)).get? (h.objs.size+1)=some (instObj C h.objs.size):=by have:=Heap.get?_push_size (h.push emptyDict) (o:=instObj C h.objs.size) rfl;rwa [Heap.size_push] at this
 have G2:=Go.newN (g:=g) (F:=zE za) (S:=yB) (mo:=.inst C (.nm m)) (a:=h.objs.size+1) (h':=(h.push emptyDict).push (instObj C h.objs.size)) G1.inv e2 mc (yw _ _) ⟨h.objs.size,#[],by simp[Id.at,Ne.symm nm],k2⟩;have Ga:=G1.trans G2;refine hI _ za _ ⟨_,gs,dr,t,os⟩ (.ref (h.objs.size+1)::vs) _ (C'.create C (mk vs).pos (mk vs).kw) Ga.inv ?_ ?_ (hX.after Ga)
 .exact⟨_,_,rfl,⟨_,by simp[Id.at],rfl⟩,Ga.rds I Rv⟩
 .rintro v p zl H' h' tk ⟨rfl,q⟩ G r;exact⟨r,hQ (.ref (h.objs.size+1)) _ zl H' h' tk q (Ga.trans G) (⟨_,Id.at_le G.nm (by simp[Id.at]),rfl⟩)⟩
noncomputable def Kl (K:Frag)(C:Addr)(name:Str):Bool:=(findIn K (.ref C) "__getattribute__"==some (some (.builtin "BaseException.__getattribute__")))&&(findIn K (.ref C) "__getattr__"==some none)&&(mroIn K C (.type "BaseException")==some true)&&hasDictIn K C&&(match findIn K (.ref C) name with|some attr=>noGet K attr|none=>false)
theorem JJ (XK:g.K.In s.heap) (hx:s.heap.get? x=some ⟨.ref C,some da,.fields vs,sl⟩) (hd:s.heap.get? da=some (dictOf es n)) (hk:Kl g.K C name=true) (hv:getL name es=some (some v)) (hh:handedIn v=true) (hq:Q v {s with toks:=s.toks+1}):
  wpAny (model g.prog g.w) A (getAttr (.ref x) name true) Q E s:=by
 unfold Kl at hk;simp only[Bool.and_eq_true] at hk;refine a2 hk fun wd h5=>?_;clear hk;obtain⟨⟨⟨h1,h2⟩,h3⟩,h4⟩:=wd;have I:InstAt s.heap x ⟨.ref C,some da,.fields vs,sl⟩ C (some (dictOf es n)):=⟨hx,rfl,rfl,hd⟩;split at h5
 .rename_i attr hf;have fo:findObj g.K C (some (dictOf es n)) name=some (.value v):=findObj_own h4 hf h5 (by rw[lookIn_dict];exact hv);obtain⟨hp,gs,dr,t,os⟩:=s;have L0:=I.type (M:=model g.prog g.w);have L1:=looks_findIn (M:=model g.prog g.w) XK (beq_iff_eq.mp h1);have L2:=looks_findIn (M:=model g.prog g.w) XK (beq_iff_eq.mp h2);have L3:=looks_find (M:=model g.prog g.w) XK I fo;have L4:=looks_mroIn (M:=model g.prog g.w) XK (beq_iff_eq.mp h3);unfold getAttr getAttrBy;refine wpAny_bind (wpAny_mkText (wpAny_holding (wpAny_bind (L0.at (wpAny_bind (L1.at ?_))))));have e0:(onTheHeap (Value.ref C)&&Value.builtin "BaseException.__getattribute__"==Value.builtin "object.__getattribute__")=false:=by
   have:(Value.builtin "BaseException.__getattribute__"==Value.builtin "object.__getattribute__")=false:=by decide+kernel
   rw[this];rfl
  show wpAny _ _ (if(onTheHeap (Value.ref C)&&Value.builtin "BaseException.__getattribute__"==Value.builtin "object.__getattribute__")=true then _ else _) _ _ _;rw[e0,if_neg Bool.false_ne_true];unfold getAttrByItsOwn hookBefore;refine wpAny_bind (L2.at (wpAny_bind (wpAny_attempt (wpAny_holding ?_))));show wpAny _ _ (boundAndCalled _ _ _) _ _ _;unfold boundAndCalled;rw[F.excAttr_ValueError.ga.bind];refine wpAny_bind (wpAny_pure (wpAny_call (codeAny_call_builtin F.excAttr_ValueError.ga.plain F.entry_bexc_ga ?_)));have L6:builtinKind "BaseException.__getattribute__"=some .slot:=by decide+kernel
  have tg:splitId "BaseException.__getattribute__"=some ("BaseException","__getattribute__"):=by decide+kernel
  have ha:=F.args_bexc_ga (.ref x) (.str name t);refine wpAny_mono (Q:=fun _ s2=>s2=⟨hp,gs,dr,t+1,os⟩) (E:=fun _ _=>False) ?_ ?_ fun _ _ x=>x.elim
  .simp only[List.singleton_append,checkBuiltinCall,L6,tg];refine wpAny_bind ?_;unfold isInstance;repeat (first|with_reducible refine wpAny_bind (L0.at ?_)|with_reducible refine wpAny_bind (L4.at ?_)|with_reducible refine L4.at ?_|wp_step)
   rfl
  .rintro _ _ rfl;show wpAny _ _ (Builtin.«object.__getattribute__» ⟨[.ref x,.str name t],[]⟩) _ _ _;refine wpAny_bind (wpAny_pure (wpAny_bind (wpAny_pure (wpAny_bind (L0.at (wpAny_bind (L3.at ?_)))))));refine wpAny_pure ?_;show wpAny _ _ (handedOut v) _ _ _;rw[handedOut_of hh];exact wpAny_pure hq
 .exact zU h5
theorem de (hp:∀ v,p≠.raw v)(r:Rd θ h p v):handedIn v=true:=by
 cases p with
 |raw x=>exact absurd rfl (hp x)|none=>cases r;rfl|bool b=>cases r;rfl|int b=>obtain⟨t,rfl⟩:=r;rfl
 |str b=>obtain⟨t,rfl⟩:=r;rfl
 |tup b=>obtain⟨t,_,rfl,_⟩:=r;rfl
 |obj b=>obtain⟨t,_,rfl⟩:=r;rfl
theorem XJ (EI:wh c env zb)(hx:c.names.lookup x=some .local)(I:HI g θ H (zE (zb::za)) s.heap)(L:LI g θ H (zE (zb::za)) env ρ s.heap)(r:Rd θ s.heap p v) (h:∀ h' tk,Go g (zE (zb::za)) (xX env) θ H s.heap θ H h'->LI g θ H (zE (zb::za)) env (ρ.put x p) h'->Heap.SameBut env.locals s.heap h'->Qc () {s with heap:=h',toks:=tk}):
  wpAny (model g.prog g.w) A (storeName env x v) Qc Ec s:=by
 have hk:env.kindOf x=some .local:=by unfold Env.kindOf;rw[EI.scope];exact hx
 refine zg L.ns fun m hn hm=>?_;refine wpAny_storeName_local hk hn (fun h' jM hs=>?_) (by rw[EI.scope,EI.fn];rfl);have G:=Go.loc I L jM hs;have rd:∀ {p v},Rd θ s.heap p v->Rd θ h' p v:=fun r=>G.rdS I L.own r;refine h h' _ G ⟨L.newL,L.ndL,⟨_,jM,fun y p' e ky=>?_⟩,fun y a e=>?_,L.apart⟩ hs
 .rw[zS.get_put] at e;by_cases hy:y=x
  .rw[if_pos hy] at e|-;cases e;exact⟨v,rfl,rd r⟩
  .rw[if_neg hy] at e|-;refine zg (hm y p' e ky) fun u e1 e2=>?_;exact⟨u,e1,rd e2⟩
 .refine a4 (L.cells y a e) fun e1 e2 e3 zz=>?_;refine zB zz fun o ov e4 e5 e6=>?_;have ne:a≠env.locals:=fun q=>by
   refine wo hn fun o' es ep ho hd _=>?_;clear hn;rw[<-q,e4] at ho;cases ho;rw[e5] at hd;cases hd
  refine⟨e1,e2,e3,o,ov,(hs.2 a ne).trans e4,e5,fun p' q ky=>?_⟩;rw[zS.get_put] at q;by_cases hy:y=x
  .subst hy;rw[hk] at ky;rcases ky with z|z<;>cases z
  .rw[if_neg hy] at q;refine zg (e6 p' q ky) fun u z1 z2=>?_;exact⟨u,z1,rd z2⟩
theorem Uo (EI:wh c env zb)(hx:c.names.lookup x=some .local)(I:HI g θ H (zE (zb::za)) s.heap)(L:LI g θ H (zE (zb::za)) env ρ s.heap)(hr:ρ.get x=none) (h:∀ h' tk,Go g (zE (zb::za)) (xX env) θ H s.heap θ H h'->LI g θ H (zE (zb::za)) env ρ h'->Qc () {s with heap:=h',toks:=tk}):
  wpAny (model g.prog g.w) A (do bindName env x .none;unbindBehindTheSuite env x pos) Qc Ec s:=by
 have hk:env.kindOf x=some .local:=by unfold Env.kindOf;rw[EI.scope];exact hx
 refine zg L.ns fun m hn hm=>?_;refine wpAny_nameGoes_keeps hk hn (by rw[EI.scope,EI.fn];rfl) fun h' u jM hs=>?_;have G:=Go.loc I L jM hs;have rd:∀ {p v},Rd θ s.heap p v->Rd θ h' p v:=fun r=>G.rdS I L.own r;refine h h' _ G ⟨L.newL,L.ndL,⟨_,jM,fun y p' e ky=>?_⟩,fun y a e=>?_,L.apart⟩
 .by_cases hy:y=x
  .subst hy;rw[hr] at e;exact zJ e
  .rw[if_neg hy];refine zg (hm y p' e ky) fun u e1 e2=>?_;exact⟨u,e1,rd e2⟩
 .refine a4 (L.cells y a e) fun e1 e2 e3 zz=>?_;refine zB zz fun o ov e4 e5 e6=>?_;have ne:a≠env.locals:=fun q=>by
   refine wo hn fun o' es ep ho hd _=>?_;clear hn;rw[<-q,e4] at ho;cases ho;rw[e5] at hd;cases hd
  refine⟨e1,e2,e3,o,ov,(hs.2 a ne).trans e4,e5,fun p' q ky=>?_⟩;refine zg (e6 p' q ky) fun u z1 z2=>?_;exact⟨u,z1,rd z2⟩
structure Zx (g:Gr):Prop where
 glob:nsIn g.K mainGlobals "PrologError"=some (some (.ref g.C))
 matches_:exmOne g.K (.ref g.C) (.ref g.C)=some true
 ball:Kl g.K g.C "ball"=true
theorem J0 (HC:Zx g){A:Around}{env zb:Env}{za:List Env}{θ:Nm}{s:Shared}{Qc:Flow->Shared->Prop}{Ec:Value->Shared->Prop}{n:Str}{st:Stmt}{tp pos:Pos}{a da:Addr}{ball:PV}{zl:Nm}{H':AH}{h1:Heap}{tk:Nat} (C:CI g A d (zb::za)) (EI:wh c env zb) (L:LI g θ H (zE (zb::za)) env ρ s.heap) (I:HI g θ H (zE (zb::za)) s.heap) (hg:c.names.lookup ("PrologError":Str)=some .globalImplicit) (hx:c.names.lookup n=some .local) (G:Go g (zE (zb::za)) yB θ H s.heap zl H' h1) (x:vp (g:=g) s.heap zl H' h1 a da ball) (k:∀ h' jO Er,Go g (zE (zb::za)) (xX env) θ H s.heap zl H' h'->LI g zl H' (zE (zb::za)) env (ρ.put n (.raw (.ref a))) h'->vp (g:=g) s.heap zl H' h' a da ball->
   wpAny (model g.prog g.w) (A.mark (some (.ref a))) (execs [st] env) (fun f s'=>wpAny (model g.prog g.w) A (do bindName env n .none;unbindBehindTheSuite env n pos) (fun _ sW=>Qc f sW) Ec s') Er {s with heap:=h',toks:=jO}):
  wpAny (model g.prog g.w) A (noteFrame (.ref a) env) (fun _ sY=>wpAny (model g.prog g.w) A (setFlight (.ref a) none) (fun _ sW=>wpAny (model g.prog g.w) A (handleBy (.ref a) env [.ExceptHandler (some (.Name "PrologError" tp)) (some n) [st] pos]) Qc Ec sW) Ec sY) Ec {s with heap:=h1,toks:=tk}:=by
 have Vh:∀ b∈zE (zb::za),∃ o,s.heap.get? b=some o:=fun b hb=>let⟨_,o,_,_,e,_⟩:=I.frames b hb;⟨o,e⟩;have kT:∀ b o,g.B.get? b=some o->∃ o',s.heap.get? b=some o':=fun b o e=>⟨o,I.stays b o e⟩;have hk:∀ e∈zb::za,e.scope.kind≠.module/\∃ L,e.frame=some L:=fun e he=>⟨(C.kinds e he).1,(C.kinds e he).2.1⟩;refine zA C.fKind fun L0 et=>?_;refine ZK (g:=g) (s:={s with heap:=h1,toks:=tk}) C.frames et hk rfl EI.frame Vh kT G x fun h2 G2 x2 t2=>?_;refine jZ (g:=g) (s:={s with heap:=h2,toks:=tk}) kT G2 x2 t2 fun h3 G3 x3 t3=>?_;refine wpAny_handleBy_cons ?_ (by intro q;cases q);refine YW C.ok.T fun p loose Ye mg mb T=>?_;have L7:env.kindOf "PrologError"=some .globalImplicit:=by unfold Env.kindOf;rw[EI.scope];exact hg
 refine codeAny_handlers_test (Name_function_global (by rw[EI.scope];exact EI.fn) L7 (loadGlobal_global (mg:=mg) (by rw[EI.globals];exact T.g.keeps G3.inv.stays) (mg_of C.ok.X T.g HC.glob) ?_) (by decide));refine zB x3.obj fun vs sl e3 e4 e9=>?_;have LT:Looks (model g.prog g.w) h3 (typeOf (.ref a)) (.ref g.C):=(Looks.ld e3).andThen .now;obtain⟨hp,gs,dr,tt,os⟩:=s;refine(exm_one (G3.inv.kin C.ok) LT HC.matches_).at ?_;refine codeAny_handlers_suite_as ?_;refine jZ (g:=g) (s:=⟨h3,gs,dr,tk,os⟩) kT G3 x3 t3 fun h4 G4 x4 t4=>?_;have L4:=L.go I G4;refine XJ (s:=⟨h4,gs,dr,tk,os⟩) EI hx G4.inv L4 (p:=.raw (.ref a)) rfl fun h5 mv G5 L5 XS=>?_;have Lh:=(G4.mono (S':=xX env) fun _ f=>f.elim).trans G5;refine zg L.ns fun m qu _=>?_;obtain⟨oL,Ny,Nx,Mc,NF,_⟩:=qu;have ne:∀ b,hp.get? b=none->b≠env.locals:=fun b e q=>by rw[q] at e;have:=Mc.symm.trans e;exact qE this
 have x5:vp (g:=g) hp zl H' h5 a da ball:=by
  refine zB x4.obj fun vs sl e3 e4 e9=>?_;refine wo x4.ball fun es nn bt e6 e7 e8=>?_;refine⟨x4.nd,x4.new,x4.newB,⟨vs,sl,(XS.2 a (ne a x4.new)).trans e3,e4,?_⟩,x4.newD,es,nn,bt,(XS.2 da (ne da x4.newD)).trans e6,e7,G5.rdS G4.inv L4.own e8⟩;rcases e9 with q|⟨T,oT,ts,q1,q2,q3,q4,q4',q5,q6⟩
  .exact .inl q
  .exact .inr ⟨T,oT,ts,q1,q2,q3,(XS.2 T (ne T q3)).trans q4,q4',q5,q6⟩
 exact k h5 mv _ Lh L5 x5
theorem ZQ {A:Around}{E:Value->Shared->Prop}{s:Shared}{env:Env}{st:Stmt}{Q:Flow->Shared->Prop}(h:wpAny (model g.prog g.w) A (exec st env) (fun f s1_=>Q f s1_) E s):wpAny (model g.prog g.w) A (execs [st] env) Q E s:=by refine wpAny_execs_cons (wpAny_mono h (fun f s1_ hZ=>?_) fun _ _ x=>x);cases f<;>first|exact wpAny_execs_nil hZ|exact hZ
theorem cg (HC:Zx g) (C:CI g A d (zb::za)) (EI:wh c env zb) (I:HI g θ H (zE (zb::za)) s.heap) (L:LI g θ H (zE (zb::za)) env (ρ.put n (.raw (.ref a))) s.heap) (x:vp (g:=g) h₀ θ H s.heap a da ball) (hx:c.names.lookup n=some .local) (hd:(n==("__debug__":Str))=false) (hb:∀ v,ball≠.raw v) (q:∀ t h' tk,Go g (zE (zb::za)) yB θ H s.heap θ H h'->Rd θ h' (.tup [.str "error",ball]) (.ref t)->Q (.ref t) {s with heap:=h',toks:=tk}):
  wpAny (model g.prog g.w) A' (eval (.Tuple [.Constant (.str "error") k1 p1,.Attribute (.Name n p2) "ball" p3] k2 pos) env) Q Er s:=by
 have hk:env.kindOf n=some .local:=by unfold Env.kindOf;rw[EI.scope];exact hx
 refine zg L.ns fun m hn hm=>?_;obtain⟨v,e1,e2⟩:=hm n _ (by rw[zS.get_put,if_pos rfl]) hk;cases e2;refine zB x.obj fun vs sl x1 x2 x3=>?_;refine wo x.ball fun es nn bt y1 y2 y3=>?_;refine wpAny_Tuple (wpAny_items_cons (wpAny_Constant_str ?_) (by rfl));refine wpAny_items_cons (PyProof.Rows.Attribute_any_ (wpAny_Name (wpAny_loadName_local (by rw[EI.scope];exact EI.fn) hk hn e1 ?_) hd) (by with_unfolding_all rfl)) (by rfl);refine JJ (g:=g) (s:={s with toks:=s.toks+1}) (I.kin C.ok) x1 y1 HC.ball y2 (de hb y3) ?_;refine wpAny_items_nil ⟨by rw[sizeLine_eq];simp,?_⟩;have G:=Go.ext (g:=g) (F:=zE (zb::za)) (S:=yB) I (yw s.heap {cls:=.type "tuple",data:=.seq [Value.str "error" s.toks,bt].toArray});refine q _ _ _ G ?_;exact⟨_,[Value.str "error" s.toks,bt].toArray,rfl,⟨_,Heap.get?_push_size _ rfl,rfl,0,rfl⟩,⟨_,_,rfl,⟨_,rfl⟩,_,_,rfl,G.rd I y3,rfl⟩⟩
theorem zS.get_keep (hr:ρ.get n=none)(e:ρ.get y=some p):(ρ.put n v).get y=some p:=by
 rw[zS.get_put];by_cases q:y=n
 .rw[q,hr] at e;exact zJ e
 .rw[if_neg q];exact e
theorem c5 (HC:Zx g) (hg:c.names.lookup ("PrologError":Str)=some .globalImplicit) (hx:c.names.lookup n=some .local) (hd:(n==("__debug__":Str))=false) (hr:ρ.get n=none) (h:z_ g d c ρ H e (fun p HZ=>Q (.ret p HZ)) (fun ball HZ=>(∀ v,ball≠.raw v)/\Q (.ret (.tup [.str ("error":Str),ball]) HZ))):
  wR g d c ρ H (.Try [.Return (some e) p0] [.ExceptHandler (some (.Name ("PrologError":Str) tp)) (some n) [.Return (some (.Tuple [.Constant (.str ("error":Str)) k1 p1,.Attribute (.Name n p2) ("ball":Str) p3] k2 p4)) p5] Jw] [] [] pos) Q X:=by
 intro A env zb za θ s Qc Ec C EI I L hQ hX;refine wpAny_Try_except (ZQ (wpAny_Return_some (h A env zb za θ s _ _ C EI I L (fun va a θZ HZ hZ tkZ qZ GZ rZ=>?_) (fun e ball θZ HZ hZ tkZ qZ GZ xZ=>?_))))
 .exact hQ.ret va a θZ HZ hZ tkZ qZ (GZ.mono fun _ f=>f.elim) rZ
 .refine a2 qZ fun hb qZ=>?_;refine yE (VE xZ I.stays) fun a da zm x=>?_;subst zm;refine J0 HC C EI L I hg hx GZ x fun h2 qr Er G2 L2 x2=>?_;refine ZQ (wpAny_Return_some (cg HC (A:=A) (s:={s with heap:=h2,toks:=qr}) C EI G2.inv L2 x2 hx hd hb fun t h3 XW G3 r3=>?_));have L3:=(L2.go G2.inv G3).le (σ:=ρ) fun y p e=>zS.get_keep hr e;refine Uo (s:={s with heap:=h3,toks:=XW}) EI hx G3.inv L3 hr fun h4 ZE G4 L4=>?_;exact hQ.ret _ _ θZ HZ h4 ZE qZ ((G2.trans (G3.mono fun _ f=>f.elim)).trans G4) (G4.rdS G3.inv L3.own r3)
theorem bY (HC:Zx g) (hg:c.names.lookup ("PrologError":Str)=some .globalImplicit) (hx:c.names.lookup n=some .local) (hy:c.names.lookup x=some .local) (hd:(n==("__debug__":Str))=false) (wJ:n≠x) (hr:ρ.get n=none) (h:z_ g d c ρ H e (fun p HZ=>Q (.next (ρ.put x p) HZ)) (fun ball HZ=>(∀ v,ball≠.raw v)/\Q (.next (ρ.put x (.tup [.str ("error":Str),ball])) HZ))) (hs:autoParam (∀ env,swapsWith e (some (.Name x p6)) p0.line env=pure false) ta._auto_1):
  wR g d c ρ H (.Try [.Assign [.Name x p6] e p0] [.ExceptHandler (some (.Name ("PrologError":Str) tp)) (some n) [.Assign [.Name x p7] (.Tuple [.Constant (.str ("error":Str)) k1 p1,.Attribute (.Name n p2) ("ball":Str) p3] k2 p4) p5] Jw] [] [] pos) Q X:=by
 intro A env zb za θ s Qc Ec C EI I L hQ hX;refine wpAny_Try_except (ZQ (wpAny_Assign_Name (h A env zb za θ s _ _ C EI I L (fun va a θZ HZ hZ tkZ qZ GZ rZ=>?_) (fun e ball θZ HZ hZ tkZ qZ GZ xZ=>?_)) (hs env)))
 .refine vU EI hy GZ.inv (L.go I GZ) rZ fun h' tk G' L'=>?_;exact wpAny_execs_nil (hQ.next _ θZ HZ h' tk qZ ((GZ.mono fun _ f=>f.elim).trans G') L')
 .refine a2 qZ fun hb qZ=>?_;refine yE (VE xZ I.stays) fun a da zm x'=>?_;subst zm;refine J0 HC C EI L I hg hx GZ x' fun h2 qr Er G2 L2 x2=>?_;refine ZQ (wpAny_Assign_Name (cg HC (A:=A) (s:={s with heap:=h2,toks:=qr}) C EI G2.inv L2 x2 hx hd hb fun t h3 XW G3 r3=>?_) (by rfl));have L3:=(L2.go G2.inv G3).le (σ:=ρ) fun y p e=>zS.get_keep hr e;refine vU (s:={s with heap:=h3,toks:=XW}) EI hy G3.inv L3 r3 fun h4 ZE G4 L4=>?_;refine Uo (s:={s with heap:=h4,toks:=ZE}) EI hx G4.inv L4 (by rw[zS.get_put,if_neg wJ];exact hr) fun h5 mv G5 L5=>?_;exact hQ.next _ θZ HZ h5 mv qZ (((G2.trans (G3.mono fun _ f=>f.elim)).trans G4).trans G5) L5
noncomputable abbrev qJ:=Option (Id×List PV)
def vD (src:qJ)(H:AH):Prop:=match src with|none=>True|some (i,l0)=>H i=some (.list l0)
def It (θ:Nm)(H:AH)(h:Heap)(it:Addr):qJ->List PV->Prop|none,l=>wi θ h it l|some (i,l0),l=>l0.length<=1000000/\H i=some (.list l0)/\∃ ax k,i.at θ=some ax/\h.IsListIter it ax k/\l=l0.drop k
theorem It.there (x:It θ H h it src l):∃ o vs T,h.get? it=some o/\o.data=.fields vs/\o.cls=.type T:=by
 cases src with
 |none=>exact wi.there x|some z=>obtain⟨_,_,ax,k,_,⟨o,ho,hc,hd⟩,_⟩:=x;exact⟨o,_,_,ho,hd,hc⟩
theorem It.go (I:HI g θ H F h)(G:Go g F S θ H h zl H' h')(hS:∀ b o,S b->h.get? b=some o->(∀ items n,o.data≠.seq items n)/\∀ vs,o.data≠.fields vs)(hs:vD src H')(x:It θ H h it src l):It zl H' h' it src l:=by
 cases src with
 |none=>exact wi.go I G hS x|some z=>refine wo (It.there (H:=H) x) fun o vs T ho hd hc=>?_;refine a2 (I.fields ho hd hc) fun nd nF=>?_;refine a3 x fun h1 h2 zz=>?_;refine zB zz fun ax k h3 Nc h5=>?_;clear x;obtain⟨o',yg,r⟩:=Nc;exact⟨h1,hs,ax,k,Id.at_le G.nm h3,⟨o',G.keep it o' yg nd (fun s=>(hS it o s ho).2 vs hd) nF,r⟩,h5⟩
theorem LI.iter (L:LI g θ H F env ρ h)(ho:h.get? it=some oi)(hd:oi.data=.fields vs)(e2:∀ b o,b≠it->h.get? b=some o->h'.get? b=some o):LI g θ H F env ρ h':=by
 have nO:¬xX env it:=fun z=>(L.ownF it oi z ho).2 vs hd;have qr:∀ a items,IsTup h a items->IsTup h' a items:=fun a items ⟨o,yg,hc,m,xi⟩=>⟨o,e2 a o (fun z=>by subst z;rw[ho] at yg;cases yg;rw[hd] at xi;cases xi) yg,hc,m,xi⟩;refine zg L.ns fun m qu hm=>?_;obtain⟨o,es,ep,yg,r⟩:=qu;refine⟨L.newL,L.ndL,⟨m,⟨o,es,ep,e2 _ o (fun z=>nO (.inl z.symm)) yg,r⟩,fun x p z k=>?_⟩,fun x a z=>?_,L.apart⟩
 .refine zg (hm x p z k) fun v z1 z2=>?_;exact⟨v,z1,Rd.mono (zZ.refl _) qr _ _ z2⟩
 .refine a4 (L.cells x a z) fun z1 z2 z3 zz=>?_;refine zB zz fun o ov z4 z5 z6=>?_;refine⟨z1,z2,z3,o,ov,e2 a o (fun q=>nO (.inr ⟨x,q▸z⟩)) z4,z5,fun p q k=>?_⟩;refine zg (z6 p q k) fun v y1 y2=>?_;exact⟨v,y1,Rd.mono (zZ.refl _) qr _ _ y2⟩
theorem J5 (I:HI g θ H F s.heap)(x:It θ H s.heap it src (p::l)) (h:∀ v h' tk,Rd θ h' p v->It θ H h' it src l->Heap.SameBut it s.heap h'->Q (some v) {s with heap:=h',toks:=tk}):wpAny (model g.prog g.w) A (pyNext (.ref it)) Q E s:=by
 cases src with
 |none=>exact dq x h|some z=>
  obtain⟨i,l0⟩:=z;refine a3 x fun h1 h2 zz=>?_;refine zB zz fun ax k h3 hi h5=>?_;clear x;refine zB (I.listAt h2 h3) fun items n hl hr hsz=>?_;have hx:l0[k]?=some p:=by
   have:(l0.drop k)[0]?=some p:=by rw[<-h5];rfl
   simpa using this
  refine zg (hr.get hx) fun v e1 e2=>?_;refine wpAny_pyNext_list_item hi hl.isList (x:=v) (by rw[<-Array.getElem?_toList];exact e1) fun h' Xc hs=>?_;refine wU hi fun oi uK Jh kI=>?_;clear hi;have tk:∀ a items,IsTup s.heap a items->IsTup h' a items:=fun a items ⟨o,ho,hc,n,hd⟩=>⟨o,(hs.2 a fun q=>by subst q;rw[uK] at ho;cases ho;rw[kI] at hd;cases hd).trans ho,hc,n,hd⟩;exact h v h' s.toks (Rd.mono (zZ.refl θ) tk _ _ e2) ⟨h1,h2,ax,k+1,h3,Xc,by rw[<-List.tail_drop,<-h5];rfl⟩ hs
theorem bQ (hh:A.handled=none)(I:HI g θ H F s.heap)(x:It θ H s.heap it src []) (h:∀ h',Heap.ExtBut it s.heap h'->Q none {s with heap:=h'}):wpAny (model g.prog g.w) A (pyNext (.ref it)) Q E s:=by
 cases src with
 |none=>exact iI hh x h|some z=>obtain⟨i,l0⟩:=z;refine a3 x fun h1 h2 zz=>?_;refine zB zz fun ax k h3 hi h5=>?_;clear x;refine zB (I.listAt h2 h3) fun items n hl hr hsz=>?_;have:l0.length<=k:=List.drop_eq_nil_iff.mp h5.symm;exact wpAny_pyNext_list_end hh hi hl.isList (Array.getElem?_eq_none (A32 0x88011004100400 hsz this)) h
theorem nA (hh:A.handled=none)(x:It θ H s.heap it src l)(q:Q (.ref it) s):wpAny (model g.prog g.w) A (pyIter (.ref it)) Q E s:=by
 cases src with
 |none=>
  rcases x with⟨t,i,items,l0,hi,ht,hr,e⟩|⟨x,left,step,hi,e⟩|⟨t,n,items,l0,hi,ht,hz,hr,hn,e⟩
  .exact(Walks.tuple hh it t (fun q=>by subst q;obtain⟨o,ho,hc,_⟩:=hi;obtain⟨o',yg,lV,_⟩:=ht;rw[ho] at yg;cases yg;rw[hc] at lV;simp at lV) items).self i s Q E ⟨hi,ht⟩ q
  .exact wpAny_pyIter_rangeiter hi q
  .exact XH hi q
 |some z=>obtain⟨i,l0⟩:=z;refine a3 x fun h1 h2 zz=>?_;refine zB zz fun ax k h3 hi h5=>?_;clear x;exact wpAny_pyIter_listiter hi q
def Ve (g:Gr)(d:Nat)(c:Scope)(ρ:zS)(H:AH)(e:Expr)(Q:qJ->List PV->AH->Prop)(X:PV->AH->Prop):Prop:=∀ (A:Around) (env zb:Env) (za:List Env) (θ:Nm) (s:Shared) (Qc Ec:Value->Shared->Prop),
  CI g A d (zb::za)->wh c env zb->HI g θ H (zE (zb::za)) s.heap->LI g θ H (zE (zb::za)) env ρ s.heap->
  (∀ it src l zl H' h' tk,Q src l H'->Go g (zE (zb::za)) yB θ H s.heap zl H' h'->It zl H' h' it src l->s.heap.get? it=none->Qc (.ref it) {s with heap:=h',toks:=tk})->
  vJ g (zE (zb::za)) yB θ H s X Ec->wpAny (model g.prog g.w) A (eval e env) (fun x s1_=>wpAny (model g.prog g.w) A (pyIter x) Qc Ec s1_) Ec s
theorem iq (h:pR g d c ρ H e (fun l HZ=>Q none l HZ) X):Ve g d c ρ H e Q X:=by intro A env zb za θ s Qc Ec C EI I L hQ hX;exact h A env zb za θ s Qc Ec C EI I L (fun it l zl H' h' tk q G x n=>hQ it none l zl H' h' tk q G x n) hX
theorem dg (hx:c.names.lookup x=some .local) (h:Ve g d c ρ H iter (fun src l HZ=>∃ Inv:List PV->zS->AH->Prop,Inv l ρ HZ/\(∀ p r zO H',Inv (p::r) zO H'->uS g d c (zO.put x p) H' b (fun o=>match o with
    |.next wF yr=>vD src yr/\∃ σ,xK σ wF/\Inv r σ yr|.cont wF yr=>vD src yr/\∃ σ,xK σ wF/\Inv r σ yr|.brk wF yr=>Q (.next wF yr)|.ret p yr=>Q (.ret p yr)) X)/\(∀ zO H',Inv [] zO H'->Q (.next zO H'))) X)
  (hs:autoParam (∀ env x,foldedSetIterable iter env x=pure x) ta._auto_1):
  wR g d c ρ H (.For (.Name x xp) iter b [] pos) Q X:=by
 intro A env zb za θ s Qc Ec C EI I L hQ hX;have Vh:∀ b∈zE (zb::za),∃ o,s.heap.get? b=some o:=fun b hb=>let⟨_,o,_,_,e,_⟩:=I.frames b hb;⟨o,e⟩;have kT:∀ b o,g.B.get? b=some o->∃ o',s.heap.get? b=some o':=fun b o e=>⟨o,I.stays b o e⟩;have hk:∀ e∈zb::za,e.scope.kind≠.module/\∃ L,e.frame=some L:=fun e he=>⟨(C.kinds e he).1,(C.kinds e he).2.1⟩;refine zA C.fKind fun L0 et=>?_;have exc:∀ {e p zl H' h' tk},X p H'->Go g (zE (zb::za)) (xX env) θ H s.heap zl H' h'->V4 g s.heap zl H' h' e p->notedBy (model g.prog g.w) A env (fun e s'=>cameBackBy (model g.prog g.w) A env Ec e s') e {s with heap:=h',toks:=tk}:=by intro e p zl H' h' tk q G x;refine yE (VE x I.stays) fun a da zm xw=>?_;subst zm;refine ZK (g:=g) (s:={s with heap:=h',toks:=tk}) C.frames et hk rfl EI.frame Vh kT G xw fun h2 G2 x2 t2=>?_;refine YI (g:=g) (s:={s with heap:=h2,toks:=tk}) kT G2 x2 t2 fun h3 G3 x3=>?_;exact hX _ p zl H' h3 tk q G3 x3.exc
 refine wpAny_For (h A env zb za θ s _ _ C EI I L (fun it src l θZ HZ hZ tkZ qZ GZ hit uB=>?_) hX.none) (hs env);refine wU qZ fun Inv i0 turn done=>?_;clear qZ;have GZ':=GZ.mono (S':=xX env) fun _ f=>f.elim;have sx:g.B.get? it=none:=by cases z:g.B.get? it with|none=>rfl|some o=>have:=I.stays it o z;rw[uB] at this;exact zJ this
 refine codeAny_forLoop_any (fun n s'=>∃ l zO zl H' h' tk,s'={s with heap:=h',toks:=tk}/\n=l.length/\Inv l zO H'/\Go g (zE (zb::za)) (xX env) θ H s.heap zl H' h'/\LI g zl H' (zE (zb::za)) env zO h'/\It zl H' h' it src l) ?_ l.length ⟨l,ρ,θZ,HZ,hZ,tkZ,rfl,rfl,i0,GZ',L.go I GZ,hit⟩;intro n _ zq;refine GP zq fun l zO zl H' h' tk wj Nf hi G L' Wm=>?_;clear zq;subst wj Nf;refine wo Wm.there fun oi M8 Ti uK kI Jh=>?_;cases l with
 |nil=>refine bQ (s:={s with heap:=h',toks:=tk}) C.handled G.inv Wm fun h2 e2=>?_;have G2:=G.other uB sx uK kI (G.inv.fields uK kI Jh).1 (fun b o hb e=>e2 b o hb e);have L2:LI g zl H' (zE (zb::za)) env zO h2:=L'.iter uK kI fun b o hb e=>e2 b o hb e;exact wpAny_execs_nil (hQ.next zO zl H' h2 tk (done zO H' hi) G2 L2)|cons p r=>
  refine J5 (g:=g) (s:={s with heap:=h',toks:=tk}) G.inv Wm fun v h2 qr rv Za e2=>?_;show wpAny _ _ (letOwnedTupleGo (.Name x xp) (.ref it) v) _ _ _;rw[UE];refine wpAny_pure ?_;have G2:=G.other uB sx uK kI (G.inv.fields uK kI Jh).1 (fun b o hb e=>(e2.2 b hb).trans e);have L2:LI g zl H' (zE (zb::za)) env zO h2:=L'.iter uK kI fun b o hb e=>(e2.2 b hb).trans e;refine wpAny_assign_Name (vU (s:={s with heap:=h2,toks:=qr}) EI hx G2.inv L2 rv fun h3 XW G3 L3=>?_);have Ga:=G2.trans G3;have Jl:∀ {θY H2_ hY},Go g (zE (zb::za)) (xX env) zl H' h3 θY H2_ hY->vD src H2_->It θY H2_ hY it src r:=fun GY hs=>It.go G3.inv GY L3.ownF hs (It.go G2.inv G3 L2.ownF (by cases src with|none=>trivial|some z=>exact Za.2.1) Za);have bA:vJ g (zE (zb::za)) (xX env) zl H' {s with heap:=h3,toks:=XW} X (notedBy (model g.prog g.w) A env fun e s'=>cameBackBy (model g.prog g.w) A env Ec e s'):=fun e p θY H2_ hY tkY q GY x=>exc q (Ga.trans GY) (x.back Ga.ex);refine turn p r zO H' hi A env zb za zl {s with heap:=h3,toks:=XW} _ _ C EI G3.inv L3 ⟨?_,?_,?_,?_⟩ bA
  .rintro wF θY H2_ hY tkY ⟨eU,σ,UK,q⟩ GY LY;exact⟨r.length,by simp,r,σ,θY,H2_,hY,tkY,rfl,rfl,q,Ga.trans GY,LY.le UK,Jl GY eU⟩
  .rintro wF θY H2_ hY tkY ⟨eU,σ,UK,q⟩ GY LY;exact⟨r.length,by simp,r,σ,θY,H2_,hY,tkY,rfl,rfl,q,Ga.trans GY,LY.le UK,Jl GY eU⟩
  .exact fun wF θY H2_ hY tkY q GY LY=>hQ.next wF θY H2_ hY tkY q (Ga.trans GY) LY
  .exact fun v p θY H2_ hY tkY q GY r=>hQ.ret v p θY H2_ hY tkY q (Ga.trans GY) r
theorem jj (ho:h.get? b=some o)(hc:o.cls=.type "tuple"->∀ items n,o.data≠.seq items n)(k:∀ c o,c≠b->h.get? c=some o->h'.get? c=some o):qX h h':=fun a o' items n lV xi yg=>k a o' (fun e=>by subst e;rw[ho] at yg;cases yg;exact hc lV _ _ xi) yg
theorem Go.other2 (G:Go g F S θX HX h₀ θ H h)(hb:h₀.get? b=none)(hB:g.B.get? b=none)(ho:h.get? b=some o)(hc:o.cls=.type "tuple"->∀ items n,o.data≠.seq items n)(nF:b∉F)(nd:¬wI θ H b) (k:∀ c o,c≠b->h.get? c=some o->h'.get? c=some o):Go g F S θX HX h₀ θ H h':=by
 have ne:∀ c o,h₀.get? c=some o->c≠b:=fun c o e q=>by rw[q,hb] at e;exact zJ e
 have tk:=jj ho hc k;refine⟨⟨fun c o e=>k c o (fun q=>by rw[q,hB] at e;cases e) (G.inv.stays c o e),fun i mo hi=>?_,G.inv.inj,G.inv.named,fun c hc=>?_⟩,G.nm,fun c o e fc ns QH=>k c o (ne c o e) (G.keep c o e fc ns QH),fun c o e ns hF=>?_,fun c o e=>?_,G.dom⟩
 .refine xI (G.inv.rep i mo hi) fun a e1 e2 e3 r=>?_;exact⟨a,e1,e2,e3,r.mono (zZ.refl θ) tk fun o=>k a o fun q=>nd ⟨i,mo,hi,q▸e1⟩⟩
 .refine a2 (G.inv.frames c hc) fun e1 zz=>?_;refine vW zz fun o' es n e2 e3=>?_;exact⟨e1,o',es,n,k c o' (fun q=>nF (q▸hc)) e2,e3⟩
 .refine zA (G.fram c o e ns hF) fun sl e1=>?_;exact⟨sl,k c _ (ne c o e) e1⟩
 .refine zA (G.ex c o e) fun o' e1=>?_;exact⟨o',k c o' (ne c o e) e1⟩
theorem LI.but (L:LI g θ H F env ρ h)(nO:¬xX env b)(tk:qX h h')(e2:∀ c o,c≠b->h.get? c=some o->h'.get? c=some o):LI g θ H F env ρ h':=by
 refine zg L.ns fun m qu hm=>?_;obtain⟨o,es,ep,yg,r⟩:=qu;refine⟨L.newL,L.ndL,⟨m,⟨o,es,ep,e2 _ o (fun z=>nO (.inl z.symm)) yg,r⟩,fun x p z k=>?_⟩,fun x a z=>?_,L.apart⟩
 .refine zg (hm x p z k) fun v z1 z2=>?_;exact⟨v,z1,Rd.mono (zZ.refl _) tk.isTup _ _ z2⟩
 .refine a4 (L.cells x a z) fun z1 z2 z3 zz=>?_;refine zB zz fun o ov z4 z5 z6=>?_;refine⟨z1,z2,z3,o,ov,e2 a o (fun q=>nO (.inr ⟨x,q▸z⟩)) z4,z5,fun p q k=>?_⟩;refine zg (z6 p q k) fun v y1 y2=>?_;exact⟨v,y1,Rd.mono (zZ.refl _) tk.isTup _ _ y2⟩
theorem LI.ownOld (L:LI g θ H F env ρ h)(hb:h.get? b=none):¬xX env b:=by
 rintro(rfl|⟨x,hx⟩)
 .obtain⟨m,⟨o,es,ep,yg,r⟩,hm⟩:=L.ns;rw[hb] at yg;exact zJ yg
 .obtain⟨_,_,_,o,ov,e4,_⟩:=L.cells x b hx;rw[hb] at e4;exact zJ e4
noncomputable def Kc (cells:List (Str×Addr))(n:Str)(k:NameKind)(cs:List (Str×Addr)):List (Str×Addr):=if k==.free then(match cells.lookup n with|some a=>(n,a)::cs|none=>cs) else cs
noncomputable def j7 (cells:List (Str×Addr)):List (Str×NameKind)->List (Str×Addr)->List (Str×Addr)|[],cs=>cs|x::r,cs=>j7 cells r (Kc cells x.1 x.2 cs)
theorem dA (hk:k=.free)(ha:cells.lookup n=some a):Kc cells n k cs=(n,a)::cs:=by subst hk;show(match cells.lookup n with|some a=>(n,a)::cs|none=>cs)=_;rw[ha]
theorem J6 (cells:List (Str×Addr))(n:Str)(k:NameKind)(cs:List (Str×Addr)):(∃ a,cells.lookup n=some a/\Kc cells n k cs=(n,a)::cs)\/Kc cells n k cs=cs:=by
 unfold Kc;by_cases hk:(k==.free)=true
 .rw[if_pos hk];cases h:cells.lookup n with|none=>exact .inr rfl|some a=>exact .inl ⟨a,rfl,rfl⟩
 .exact .inr (if_neg hk)
theorem bO (names:List (Str×NameKind)):∀ (cs:List (Str×Addr)),(∀ x∈names,x.2=.free->(env.cells.lookup x.1).isSome=true)-> (forIn names cs (fun(x:Str×NameKind) (cs:List (Str×Addr))=>(if x.2==.free then(do let a <-cellOf env x.1;pure (ForInStep.yield ((x.1,a)::cs))) else pure (ForInStep.yield cs):Sem (ForInStep (List (Str×Addr))))))=pure (j7 env.cells names cs):=by
 induction names with
 |nil=>exact fun _ _=>rfl|cons x r ih=>
  obtain⟨n,k⟩:=x;intro cs h;rw[List.forIn_cons];have ih:=fun cs=>ih cs fun x hx=>h x (.tail _ hx);by_cases hk:(k==.free)=true
  .obtain⟨a,ha⟩:=Yi (h (n,k) (.head _) (beq_iff_eq.mp hk));have e1:cellOf env n=pure a:=by unfold cellOf;rw[ha]
   simp only[hk,if_true,e1,pure_bind];exact(ih _).trans (congrArg (fun z=>pure (j7 env.cells r z)) (dA (beq_iff_eq.mp hk) ha).symm)
  .simp only[hk,pure_bind,Bool.false_eq_true,if_false];exact(ih _).trans (congrArg (fun z=>pure (j7 env.cells r z)) (if_neg hk).symm)
theorem Zh (h:∀ x∈scope.names,x.2=.free->(env.cells.lookup x.1).isSome=true):closureFor scope env=pure (j7 env.cells scope.names []):=by have:=bO (env:=env) scope.names [] h;unfold closureFor;simp only[bind_pure];exact this
theorem fV (names:List (Str×NameKind)):∀ (cs:List (Str×Addr)),(∀ y b,cs.lookup y=some b->cells.lookup y=some b)->∀ y b,(j7 cells names cs).lookup y=some b->cells.lookup y=some b:=by
 induction names with
 |nil=>exact fun _ h=>h|cons x r ih=>
  refine fun cs h=>ih _ fun y b e=>?_;rcases J6 cells x.1 x.2 cs with⟨a,ha,q⟩|q
  .rw[q] at e;exact du e (fun p q=>by rw[p,ha,q]) fun _ e=>h y b e
  .rw[q] at e;exact h y b e
theorem mZ (names:List (Str×NameKind)):∀ (cs:List (Str×Addr)) (y:Str),(cs.lookup y).isSome=true\/((y,NameKind.free)∈names/\(cells.lookup y).isSome=true)->((j7 cells names cs).lookup y).isSome=true:=by
 induction names with
 |nil=>exact fun cs y h=>h.elim id fun h=>wg h.1|cons x r ih=>
  refine fun cs y h=>ih _ y ?_;rcases h with h|⟨h1,h2⟩
  .rcases J6 cells x.1 x.2 cs with⟨a,_,q⟩|q
   .rw[q];exact .inl (FF h)
   .rw[q];exact .inl h
  .rcases kS h1 with e|e
   .subst e;refine zA (Yi h2) fun a ha=>.inl ?_;rw[dA rfl ha,WY];rfl
   .exact .inr ⟨e,h2⟩
theorem uU {α:Type}{names:List (Str×α)}{x:Str}{k:α}(h:names.lookup x=some k):(x,k)∈names:=by induction names with|nil=>exact zJ h|cons y r ih=>exact du h (fun a b=>by rw[a,<-b];exact .head _) fun _ h=>.tail _ (ih h)
theorem Ky:relabel scope env=uh scope env.scope:=rfl
theorem qd (x:Str):(uh scope c).names.lookup x=(scope.names.lookup x).map fun k=>if(k==.free&&c.kind==.function&&c.names.lookup x==some .cell) then .cell else k:=by
 unfold uh;simp only;induction scope.names with
 |nil=>rfl|cons y r ih=>
  obtain⟨n,k⟩:=y;rw[List.map_cons];cases hx:x==n with
  |true=>
   have:=beq_iff_eq.mp hx;subst this;by_cases hc:(k==NameKind.free&&c.kind==.function&&c.names.lookup x==some .cell)=true
   .simp only[hc,if_true,List.lookup,beq_self_eq_true,Option.map_some]
   .simp only[hc,List.lookup,beq_self_eq_true,Option.map_some,Bool.false_eq_true,if_false]
  |false=>
   by_cases hc:(k==NameKind.free&&c.kind==.function&&c.names.lookup n==some .cell)=true
   .simp only[hc,if_true,List.lookup,hx];exact ih
   .simp only[hc,List.lookup,hx,Bool.false_eq_true,if_false];exact ih
noncomputable def uP (scope c:Scope)(x:Str):Bool:=
 scope.kind==.function&&scope.names.all (fun y=>y.2 !=.cell)&&scope.names.all (fun y=>y.2 !=.local||scope.names.lookup y.1==some .local)&&scope.names.lookup x==some .local&&
  scope.names.all (fun y=>y.2 !=.free||c.names.lookup y.1==some .cell||c.names.lookup y.1==some .free)
structure Ww (scope c:Scope)(x:Str):Prop where
 kind:scope.kind=.function
 cell:∀ y∈scope.names,y.2≠.cell
 names:∀ y∈scope.names,y.2=.local->scope.names.lookup y.1=some .local
 x:scope.names.lookup x=some .local
 free:∀ y∈scope.names,y.2=.free->c.names.lookup y.1=some .cell\/c.names.lookup y.1=some .free
theorem bK (h:uP scope c x=true):Ww scope c x:=by
 unfold uP at h;simp only[Bool.and_eq_true,List.all_eq_true,Bool.or_eq_true,bne_iff_ne,ne_eq,beq_iff_eq] at h;refine a2 h fun wd h5=>?_;clear h;obtain⟨⟨⟨h1,h2⟩,h3⟩,h4⟩:=wd;refine⟨h1,h2,fun y hy e=>?_,h4,fun y hy e=>?_⟩
 .rcases h3 y hy with z|z
  .exact absurd e z
  .exact z
 .rcases h5 y hy with(z|z)|z
  .exact absurd e z
  .exact .inl z
  .exact .inr z
noncomputable def u_ (scope:Scope)(ρ:zS):zS:=ρ.filter fun yp=>scope.names.lookup yp.1==some .free
theorem XG {ρ:zS}{y:Str}{p:PV}:(u_ scope ρ).get y=some p->ρ.get y=some p/\scope.names.lookup y=some .free:=by
 induction ρ with
 |nil=>exact fun e=>zJ e|cons zq r ih=>
  obtain⟨z,q⟩:=zq;intro e;by_cases hc:(scope.names.lookup z==some .free)=true
  .have e:List.lookup y ((z,q)::u_ scope r)=some p:=(congrArg (List.lookup y) (List.filter_cons_of_pos hc)).symm.trans e;exact du e (fun a b=>by subst a;subst b;exact⟨WY y,beq_iff_eq.mp hc⟩) fun n e=>a2 (ih e) fun a b=>⟨(U_ n).trans a,b⟩
  .refine a2 (ih ((congrArg (List.lookup y) (List.filter_cons_of_neg hc)).symm.trans e)) fun a b=>⟨(U_ (beq_eq_false_iff_ne.mpr fun h=>?_)).trans a,b⟩;subst h;exact hc (beq_iff_eq.mpr b)
theorem aM {scope:Scope}{x:Str}{env zb:Env}(EI:wh c env zb)(hs:Ww scope c x){cl:List (Str×Addr)}(kG:∀ y,scope.names.lookup y=some .free->(cl.lookup y).isSome=true)(C:Addr):wh (uh scope c) (compEnvC scope cl C env) zb:=by
 refine⟨?_,hs.kind,EI.globals,EI.builtins,EI.frame,fun y hy=>?_⟩
 .show relabel scope env=_;rw[Ky,EI.scope]
 .have:scope.names.lookup y=some .free:=by
   rw[qd] at hy;cases h:scope.names.lookup y with
   |none=>rw[h] at hy;rcases hy with z|z<;>exact zJ z
   |some k=>
    rw[h] at hy;simp only[Option.map_some,Option.some.injEq] at hy;by_cases hc:(k==NameKind.free&&c.kind==.function&&c.names.lookup y==some .cell)=true
    .simp only[Bool.and_eq_true,beq_iff_eq] at hc;rw[hc.1.1]
    .simp only[hc,Bool.false_eq_true,if_false] at hy;rcases hy with z|z
     .exact absurd z (hs.cell _ (uU h))
     .rw[z]
  exact Yi (kG y this)
theorem ng {scope:Scope}{x:Str}{env zb:Env}{θ:Nm}{F:List Addr}{h:Heap}{C:Addr}{cl:List (Str×Addr)}{m:Str->Option Value}{v:Value}{p:PV}(EI:wh c env zb)(hs:Ww scope c x)(kG:∀ y b,cl.lookup y=some b->env.cells.lookup y=some b) (L:LI g θ H F env ρ h) (hB:g.B.get? C=none) (nd:¬wI θ H C) (hn:h.Ns C m) (hm:m x=some v) (r:Rd θ h p v):LI g θ H F (compEnvC scope cl C env) ((u_ scope ρ).put x p) h:=by
 have Gv:∀ y,(compEnvC scope cl C env).kindOf y=(uh scope c).names.lookup y:=fun y=>by show(relabel scope env).names.lookup y=_;rw[Ky,EI.scope]
 refine⟨hB,nd,⟨m,hn,fun y q e k=>?_⟩,fun y a e=>?_,fun y z a e1 e2=>L.apart y z a (kG y a e1) (kG z a e2)⟩
 .rw[zS.get_put] at e;by_cases hy:y=x
  .rw[if_pos hy] at e;cases e;rw[hy];exact⟨v,hm,r⟩
  .rw[if_neg hy] at e;have:=(XG e).2;rw[Gv,qd,this] at k;simp only[Option.map_some,Option.some.injEq] at k;split at k<;>cases k
 .refine a4 (L.cells y a (kG y a e)) fun e1 e2 e3 zz=>?_;refine zB zz fun o ov e4 e5 e6=>?_;refine⟨e1,e2,e3,o,ov,e4,e5,fun q eq k=>?_⟩;rw[zS.get_put] at eq;by_cases hy:y=x
  .subst hy;rw[Gv,qd,hs.x] at k;rcases k with k|k<;>cases k
  .rw[if_neg hy] at eq;refine a2 (XG eq) fun z1 z2=>?_;refine e6 q z1 ?_;unfold Env.kindOf;rw[EI.scope];exact hs.free _ (uU z2) rfl
def X2 (g:Gr)(d:Nat)(c:Scope)(σ:zS)(ifs:List Expr)(elt:Expr)(H:AH)(yes:PV->AH->Prop)(no:AH->Prop):Prop:=match ifs with
 |[]=>z_ g d c σ H elt yes (fun _ _=>False)|[t]=>kM g d c σ H t (fun b HZ=>if b then z_ g d c σ HZ elt yes (fun _ _=>False) else no HZ) (fun _ _=>False)|_=>False
noncomputable abbrev Zg (items:Array Value)(n:Nat):Obj:={cls:=.type "list",data:=.seq items n}
inductive K5 (g:Gr)(F:List Addr)(θ:Nm)(H:AH)(s:Shared)(it D C':Addr)(src:qJ)(Inv:List PV->List PV->AH->Prop)(k:Nat):Shared->Prop
 |mk (r ys:List PV) (zl:Nm) (H':AH) (h':Heap) (tk:Nat) (m':Str->Option Value) (items:Array Value) (n:Nat) (e:k=r.length) (hi:Inv r ys H') (G:Go g F yB θ H s.heap zl H' h') (hit:It zl H' h' it src r)
  (dD:¬wI zl H' D) (dC:¬wI zl H' C') (hD:h'.get? D=some (Zg items n)) (hr:yb zl h' ys items.toList) (hn:h'.Ns C' m') (hz:ys.length+r.length<=1000000):K5 g F θ H s it D C' src Inv k {s with heap:=h',toks:=tk}
theorem Wn {elt iter:Expr}{x:Str}{px:Pos}{ifs:List Expr}{scope:Scope}{pos:Pos}{A:Around}{env zb:Env}{za:List Env}{θ θZ:Nm}{HZ:AH}{s:Shared}{hZ:Heap}{tkZ:Nat}{RR:Value->Addr->Result->Shared->Prop}{E:Value->Shared->Prop}{it:Addr}{src:qJ}{l:List PV} (C:CI g A d (zb::za)) (EI:wh c env zb) (I:HI g θ H (zE (zb::za)) s.heap) (L:LI g θ H (zE (zb::za)) env ρ s.heap) (hs:Ww scope c x) (GZ:Go g (zE (zb::za)) yB θ H s.heap θZ HZ hZ) (hit:It θZ HZ hZ it src l) (uB:s.heap.get? it=none) (Inv:List PV->List PV->AH->Prop) (i0:Inv l [] HZ) (yf:l.length<=1000000) (turn:∀ p r ys H',Inv (p::r) ys H'->X2 g d (uh scope c) ((u_ scope ρ).put x p) ifs elt H' (fun y yr=>vD src yr/\Inv r (ys++[y]) yr) (fun yr=>vD src yr/\Inv r ys yr)) (LD:∀ D C' h' tk ys m' zl H' items n,Inv [] ys H'->Go g (zE (zb::za)) yB θ H s.heap zl H' h'->s.heap.get? D=none->s.heap.get? C'=none->¬wI zl H' D->¬wI zl H' C'->D≠C'->
   h'.get? D=some (Zg items n)->yb zl h' ys items.toList->h'.Ns C' m'->RR (.ref D) C' (.ok .next) {s with heap:=h',toks:=tk}):
  wpAny (model g.prog g.w) A (newList []) (fun acc sW=>wpAny (model g.prog g.w) A (newFunctionEnv scope env.globals (j7 env.cells scope.names []) [] env.qual none .none (some env)) (fun si s4_=>codeAny (model g.prog g.w) A (.compStart (.ListComp elt [⟨.Name x px,iter,ifs,0⟩] scope pos) 0 (.ref it) acc {si with scope:=relabel scope env}) (RR acc si.locals) s4_) E sW) E {s with heap:=hZ,toks:=tkZ}:=by
 refine wpAny_newObj_type (wpAny_newFunctionEnv hs.cell (by intro y hy;simp at hy) (fun hY jC mh=>?_) hs.kind);dsimp only at jC mh|-;generalize hH2:hZ.push {cls:=.type "list",dict:=none,data:=.seq ([]:List Value).toArray}=H2 at jC mh|-;have hC:H2.objs.size=hZ.objs.size+1:=by rw[<-hH2,Heap.size_push]
 have Uu:hZ.objs.size≠H2.objs.size:=by rw[hC];exact Nat.ne_of_lt (Nat.lt_succ_self _)
 have below:∀ b o,hZ.get? b=some o->b≠H2.objs.size/\b≠hZ.objs.size:=fun b o e=>by have hb:=Heap.lt_size e;exact⟨by rw[hC];exact Nat.ne_of_lt (Nat.lt_succ_of_lt hb),Nat.ne_of_lt hb⟩
 have old:∀ b o,hZ.get? b=some o->hY.get? b=some o:=fun b o e=>mh.extBut b o (below b o e).1 (Heap.get?_push_of_some _ (hH2▸Heap.get?_push_of_some _ e));have Wk:hY.get? hZ.objs.size=some (Zg #[] 0):=mh.extBut _ _ Uu (Heap.get?_push_of_some _ (hH2▸Heap.get?_push_size _ rfl));have Gx:hZ.get? hZ.objs.size=none:=y8 hZ;have Gw:hZ.get? H2.objs.size=none:=Heap.get?_none_of_le (by rw[hC];exact Nat.le_succ _);have nD:=u7 GZ Gx;have nC:=u7 GZ Gw;have GY:=GZ.grow old;have bD:=xt I nD;have bC:=xt I nC;have fD:=xG I nD;have fC:=xG I nC;have bit:=xt I uB;have dD:¬wI θZ HZ hZ.objs.size:=fun z=>by obtain⟨o,ho⟩:=GZ.inv.dom_some z;rw[Gx] at ho;exact zJ ho
 have dC:¬wI θZ HZ H2.objs.size:=fun z=>by obtain⟨o,ho⟩:=GZ.inv.dom_some z;rw[Gw] at ho;exact zJ ho
 have GE:=Go.ext (g:=g) (F:=zE (zb::za)) (S:=yB) GZ.inv old;have hitY:It θZ HZ hY it src l:=hit.go GZ.inv GE (fun b o z=>z.elim) (by cases src with|none=>trivial|some z=>exact hit.2.1);have kJ:∀ y∈scope.names,y.2=.free->(env.cells.lookup y.1).isSome=true:=fun y hy e=>by refine zA (EI.cells y.1 (hs.free y hy e)) fun a ha=>?_;rw[ha];rfl
 have Il:∀ y b,(j7 env.cells scope.names []).lookup y=some b->env.cells.lookup y=some b:=fun y b e=>fV scope.names [] (fun _ _ z=>zJ z) y b e;have kH:∀ y,scope.names.lookup y=some .free->((j7 env.cells scope.names []).lookup y).isSome=true:=fun y e=>mZ scope.names [] y (.inr ⟨uU e,kJ _ (uU e) rfl⟩);have loop:∀ sW:Shared,sW={s with heap:=hY,toks:=tkZ+([]:List (Str×Value)).length}->
   codeAny (model g.prog g.w) A (.compLoop (.ListComp elt [⟨.Name x px,iter,ifs,0⟩] scope pos) 0 (.ref it) (.ref hZ.objs.size) (compEnvC scope (j7 env.cells scope.names []) H2.objs.size env)) (RR (.ref hZ.objs.size) H2.objs.size) sW:=by
  rintro sW rfl;refine codeAny_compLoop_tests (K5 g (zE (zb::za)) θ H s it hZ.objs.size H2.objs.size src Inv) ?_ l.length ⟨l,[],θZ,HZ,hY,_,_,#[],0,rfl,i0,GY,hitY,dD,dC,Wk,rfl,jC,by simpa using yf⟩;rintro k _ ⟨r,ys,zl,H',h',tk,m',items,n,rfl,hi,G,Wm,d9,K_,lQ,hr,jM,hz⟩;refine wo Wm.there fun oi M8 Ti uK kI Jh=>?_;have di:=(G.inv.fields uK kI Jh).1;refine wo jM fun oC FU FP Vn Vj l_=>?_;have iN:hZ.objs.size≠it:=fun q=>by rw[q,uK] at lQ;cases lQ;cases kI
  have Js:H2.objs.size≠it:=fun q=>by rw[q,uK] at Vn;cases Vn;rw[kI] at Vj;cases Vj
  have mr:oi.cls=.type "tuple"->∀ items n,oi.data≠.seq items n:=fun _ _ _ z=>by rw[kI] at z;cases z
  cases r with
  |nil=>refine bQ (s:={s with heap:=h',toks:=tk}) C.handled G.inv Wm fun h2 e2=>?_;have G2:=G.other2 uB bit uK mr (G.inv.notF uK kI) di fun b o hb e=>e2 b o hb e;have qr:=jj uK mr (h':=h2) fun b o hb e=>e2 b o hb e;exact LD _ _ h2 tk ys m' zl H' items n hi G2 nD nC d9 K_ Uu (e2 _ _ iN lQ) (yb.mono (zZ.refl _) qr.isTup _ _ hr) ⟨oC,FU,FP,e2 _ _ Js Vn,Vj,l_⟩|cons p r=>
   refine J5 (g:=g) (s:={s with heap:=h',toks:=tk}) G.inv Wm fun v h2 qr rv Za e2=>?_;have G2:=G.other2 uB bit uK mr (G.inv.notF uK kI) di fun b o hb e=>(e2.2 b hb).trans e;have t2:=jj uK mr (h':=h2) fun b o hb e=>(e2.2 b hb).trans e;have Qz:h2.Ns H2.objs.size m':=⟨oC,FU,FP,(e2.2 _ Js).trans Vn,Vj,l_⟩;have Lx:=(e2.2 _ iN).trans lQ;have L9:(compEnvC scope (j7 env.cells scope.names []) H2.objs.size env).kindOf x=some .local:=lookup_relabel_local hs.x;refine wpAny_assign_Name (wpAny_storeName_local L9 Qz (fun h3 eO Gk=>?_) (by simp[compEnvC,relabel,hs.kind]));refine wo Qz fun GF Nn Nl VX Im Np=>?_;have cc:GF.cls=.type "tuple"->∀ items n,GF.data≠.seq items n:=fun _ _ _ z=>by rw[Im] at z;cases z
   have k3:∀ b o,b≠H2.objs.size->h2.get? b=some o->h3.get? b=some o:=fun b o hb e=>(Gk.2 b hb).trans e;have G3:=G2.other2 nC bC VX cc fC K_ k3;have t3:=jj VX cc k3;have lR:=k3 _ _ Uu Lx;have Jl:It zl H' h3 it src r:=by
    refine wo Za.there fun MS NN T3 eQ Qw ND=>?_;have ke:=k3 it MS Js.symm eQ;cases src with
    |none=>exact wi.stay Za Js.symm k3 t3.isTup|some z=>obtain⟨z1,z2,ax,kk,z3,⟨o,ho,zr⟩,z5⟩:=Za;exact⟨z1,z2,ax,kk,z3,⟨o,k3 it o Js.symm ho,zr⟩,z5⟩
   have MW:=Rd.mono (zZ.refl _) t3.isTup _ _ rv;have Gh:=yb.mono (zZ.refl zl) t3.isTup _ _ (yb.mono (zZ.refl zl) t2.isTup _ _ hr);have LC:=ng (v:=v) (p:=p) EI hs Il (L.go I G3) bC K_ eO (by simp) MW;have EC:=aM EI hs kH H2.objs.size;have finish:∀ {VY H4 h4 ZE y yv},vD src H4->Inv r (ys++[y]) H4->Go g (zE (zb::za)) yB zl H' h3 VY H4 h4->Rd VY h4 y yv->∀ Er,
     wpAny (model g.prog g.w) A (call (.builtin "list.append") [.ref hZ.objs.size,yv]) (fun _ sU=>∃ m,m<(p::r).length/\K5 g (zE (zb::za)) θ H s it hZ.objs.size H2.objs.size src Inv m sU) Er {s with heap:=h4,toks:=ZE}:=by
    intro VY H4 h4 ZE y yv eU LX G4 r4 Er;have sy:=G4.keep _ _ lR d9 (fun z=>z.elim) fD;refine wo eO fun tC iK iJ Jt iL iM=>?_;have Lw:=G4.keep _ _ Jt K_ (fun z=>z.elim) fC;have FJ:¬wI VY H4 hZ.objs.size:=fun z=>d9 (G4.dom _ _ lR z);have Lp:¬wI VY H4 H2.objs.size:=fun z=>K_ (G4.dom _ _ Jt z);have Mi:=G4.rds G3.inv Gh;have MD:items.size=ys.length:=by rw[<-Array.length_toList];exact hr.length
    have JD:ys.length+(r.length+1)<=1000000:=hz;refine append_at (s:={s with heap:=h4,toks:=ZE}) (hsz:=by rw[sizeLine_eq];exact A32 0x804137D6D1202800418FAC00 hz MD) sy fun h5 XS Ly=>?_;have k5:∀ b o,b≠hZ.objs.size->h4.get? b=some o->h5.get? b=some o:=fun b o hb e=>(XS.2 b hb).trans e;have lc:(Zg items n).cls=.type "tuple"->∀ its k,(Zg items n).data≠.seq its k:=fun z=>by simp at z
    have t5:=jj sy lc k5;have Ga:=(G3.trans G4).other2 nD bD sy lc fD FJ k5;have sS:It VY H4 h4 it src r:=Jl.go G3.inv G4 (fun b o z=>z.elim) eU;have tc:it≠hZ.objs.size:=iN.symm;refine⟨r.length,by simp,r,ys++[y],VY,H4,h5,ZE,_,_,_,rfl,LX,Ga,?_,FJ,Lp,Ly,?_,⟨tC,iK,iJ,k5 _ _ Uu.symm Lw,iL,iM⟩,A32 0x1AC40900104DF5B4281200101BEB08100 JD (List.length_append ..)⟩
    .cases src with
     |none=>exact wi.stay sS tc k5 t5.isTup|some z=>obtain⟨z1,z2,ax,kk,z3,⟨o,ho,zr⟩,z5⟩:=sS;exact⟨z1,z2,ax,kk,z3,⟨o,k5 it o tc ho,zr⟩,z5⟩
    .rw[Array.toList_push];exact(yb.mono (zZ.refl VY) t5.isTup _ _ Mi).append (⟨yv,[],rfl,Rd.mono (zZ.refl VY) t5.isTup _ _ r4,rfl⟩)
   have tn:=turn p r ys H' hi;have tA:∀ {θ:Nm} {H:AH} {s:Shared} {Ec:Value->Shared->Prop},vJ g (zE (zb::za)) yB θ H s (fun _ _=>False) Ec:=fun e p zl H' h' tk q=>q.elim;unfold X2 at tn;split at tn
   .refine wpAny_tests_nil ?_;simp only[if_true];refine tn A (compEnvC scope (j7 env.cells scope.names []) H2.objs.size env) zb za zl {s with heap:=h3,toks:=_} _ _ C EC G3.inv LC (fun yv y VY H4 h4 ZE q4 G4 r4=>?_) tA;exact finish q4.1 q4.2 G4 r4 _
   .refine wpAny_tests_one (tn A (compEnvC scope (j7 env.cells scope.names []) H2.objs.size env) zb za zl {s with heap:=h3,toks:=_} _ _ C EC G3.inv LC (fun b VY H4 h4 ZE q4 G4=>?_) tA);cases b with|true=>simp only[if_true] at q4|-;refine q4 A (compEnvC scope (j7 env.cells scope.names []) H2.objs.size env) zb za VY {s with heap:=h4,toks:=_} _ _ C EC G4.inv (LC.go G3.inv G4) (fun yv y NQ H5 h5 mv q5 G5 r5=>?_) tA;exact finish q5.1 q5.2 (G4.trans G5) r5 _|false=>simp only[Bool.false_eq_true,if_false] at q4|-;refine wo eO fun tC iK iJ Jt iL iM=>?_;refine⟨r.length,by simp,r,ys,VY,H4,h4,ZE,_,items,n,rfl,q4.2,G3.trans G4,Jl.go G3.inv G4 (fun b o z=>z.elim) q4.1,fun z=>d9 (G4.dom _ _ lR z),fun z=>K_ (G4.dom _ _ Jt z),G4.keep _ _ lR d9 (fun z=>z.elim) fD,G4.rds G3.inv Gh,⟨tC,iK,iJ,G4.keep _ _ Jt K_ (fun z=>z.elim) fC,iL,iM⟩,?_⟩;have JD:ys.length+(r.length+1)<=1000000:=hz;exact A21 0xDF5B4280200101BEB08100 JD
   .exact tn.elim
 exact codeAny_compStart_list (loop _ rfl) (nA (s:={s with heap:=hY,toks:=_}) C.handled hitY (loop _ rfl))
theorem W4 (I:HI g θ H F h₀)(G:Go g F yB θ H h₀ zl H' h')(nD:h₀.get? D=none)(dD:¬wI zl H' D)(hD:h'.get? D=some (Zg items n))(hr:yb zl h' ys items.toList):
  H' (.an D)=none/\Go g F yB θ H h₀ zl (H'.upd (.an D) (.list ys)) h':=by
 refine⟨?_,G.adopt nD (xt I nD) (xG I nD) dD ⟨items,n,hD,hr⟩⟩;cases q:H' (.an D) with|none=>rfl|some mo=>exact absurd ⟨.an D,mo,q,rfl⟩ dD
def j9 (g:Gr)(d:Nat)(c:Scope)(ρ:zS)(scope:Scope)(x:Str)(ifs:List Expr)(elt:Expr)(Fin:List PV->AH->Prop)(src:qJ)(l:List PV)(HZ:AH):Prop:=
 l.length<=1000000/\∃ Inv:List PV->List PV->AH->Prop,Inv l [] HZ/\ (∀ p r ys H',Inv (p::r) ys H'->X2 g d (uh scope c) ((u_ scope ρ).put x p) ifs elt H' (fun y yr=>vD src yr/\Inv r (ys++[y]) yr) (fun yr=>vD src yr/\Inv r ys yr))/\ ∀ ys H',Inv [] ys H'->Fin ys H'
theorem oM (hs:uP scope c x=true) (h:Ve g d c ρ H iter (j9 g d c ρ scope x ifs elt (fun ys H'=>∀ a,H' (.an a)=none->Q (.obj (.an a)) (H'.upd (.an a) (.list ys)))) X) (eT:autoParam (∀ env x,foldedSetIterable iter env x=pure x) ta._auto_1):z_ g d c ρ H (.ListComp elt [⟨.Name x px,iter,ifs,0⟩] scope pos) Q X:=by
 intro A env zb za θ s Qc Ec C EI I L hQ hX;have hs:=bK hs;rw[eval_ListComp];refine wpAny_comprehension_free (use:=none) rfl (eT env) (Zh fun y hy e=>by refine zA (EI.cells y.1 (hs.free y hy e)) fun a ha=>?_;rw[ha];rfl) hs.kind hs.names (h A env zb za θ s _ _ C EI I L (fun it src l θZ HZ hZ tkZ qZ GZ hit uB=>?_) hX);refine a2 qZ fun hz zz=>?_;refine wU zz fun Inv i0 turn fin=>?_;clear qZ;refine Wn (RR:=fun acc C'=>compPost (model g.prog g.w) A Ec none Qc acc C') C EI I L hs GZ hit uB Inv i0 hz turn ?_;intro D C' h' tk ys m' zl H' items n hi G nD nC dD dC Uu hD hr hn;refine⟨m',hn,fun qn iQ=>?_⟩;refine wo hn fun oC es ep Vn Vj _=>?_;clear hn;have cc:oC.cls=.type "tuple"->∀ items n,oC.data≠.seq items n:=fun _ _ _ z=>by rw[Vj] at z;cases z
 have kk:∀ b o,b≠C'->h'.get? b=some o->qn.get? b=some o:=fun b o hb e=>(iQ.2 b hb).trans e;have G2:=G.other2 nC (xt I nC) Vn cc (xG I nC) dC kk;refine a2 (W4 I G2 nD dD (kk _ _ Uu hD) (yb.mono (zZ.refl _) (jj Vn cc kk).isTup _ _ hr)) fun z1 z2=>?_;exact hQ _ _ zl _ qn tk (fin ys H' hi D z1) z2 (⟨D,rfl,rfl⟩)
theorem aD (EI:wh c env zb)(hy:c.names.lookup y=some .local)(hp:(py.line==pos.line)=true)(hn:(scope.names.any fun(n,k)=>n==y&&(k==.local||k==.cell))=false):
  swapsWith (.ListComp elt gens scope pos) (some (.Name y py)) line env=pure true:=by
 have hb:env.blockKind=.function:=by unfold Env.blockKind;rw[EI.scope,EI.fn];rfl
 have e:env.kindOf y=some .local:=by unfold Env.kindOf;rw[EI.scope];exact hy
 show pure (env.blockKind==.function&&env.kindOf y==some .local&&py.line==pos.line&& !(scope.names.any fun(n,k)=>n==y&&(k==.local||k==.cell)))=_;rw[hb,e,hp,hn];rfl
theorem rf (hs:uP scope c x=true)(hy:c.names.lookup y=some .local)(hp:(py.line==pos.line)=true)(hn:(scope.names.any fun(n,k)=>n==y&&(k==.local||k==.cell))=false) (h:Ve g d c ρ H iter (j9 g d c ρ scope x ifs elt (fun ys H'=>∀ a,H' (.an a)=none->Q (.next (ρ.put y (.obj (.an a))) (H'.upd (.an a) (.list ys))))) X) (eT:autoParam (∀ env x,foldedSetIterable iter env x=pure x) ta._auto_1):wR g d c ρ H (.Assign [.Name y py] (.ListComp elt [⟨.Name x px,iter,ifs,0⟩] scope pos) tE) Q X:=by
 intro A env zb za θ s Qc Ec C EI I L hQ hX;have hs:=bK hs;rw[exec_Assign_Name_used _ _ _ _ (aD EI hy hp hn)];refine wpAny_bind (wpAny_standAt (wpAny_bind ?_));show wpAny _ A (do let _ <-comprehension (.ListComp elt [⟨.Name x px,iter,ifs,0⟩] scope pos) scope env _ (newList []) false (eval iter env) (some (assign (.Name y py) env))) _ _ s;refine wpAny_bind (wpAny_mono (wpAny_comprehension_free (use:=some (assign (.Name y py) env)) (Q:=fun _ s'=>Qc .next s') rfl (eT env) (Zh fun y hy e=>by refine zA (EI.cells y.1 (hs.free y hy e)) fun a ha=>?_;rw[ha];rfl) hs.kind hs.names (h A env zb za θ s _ _ C EI I L (fun it src l θZ HZ hZ tkZ qZ GZ hit uB=>?_) hX.none)) (fun _ s' hq=>wpAny_pure (wpAny_pure hq)) fun _ _ e=>e);refine a2 qZ fun hz zz=>?_;refine wU zz fun Inv i0 turn fin=>?_;clear qZ;refine Wn (RR:=fun acc C'=>compPost (model g.prog g.w) A Ec (some (assign (.Name y py) env)) (fun _ s'=>Qc .next s') acc C') C EI I L hs GZ hit uB Inv i0 hz turn ?_;intro D C' h' tk ys m' zl H' items n hi G nD nC dD dC Uu hD hr hn;refine a2 (W4 I G nD dD hD hr) fun z1 z2=>?_;have Lo:¬wI zl (H'.upd (.an D) (.list ys)) C':=by
  intro zq;refine yE zq fun i mo Xc Yp=>?_;clear zq;unfold AH.upd at Xc;split at Xc
  .rename_i q;subst q;exact Uu (yd Yp)
  .exact dC ⟨i,mo,Xc,Yp⟩
 have L1:=L.go I z2;show wpAny _ A (assign (.Name y py) env (.ref D)) _ _ _;refine wpAny_assign_Name (XJ (s:={s with heap:=h',toks:=tk}) EI hy z2.inv L1 (p:=.obj (.an D)) (⟨D,rfl,rfl⟩) fun h2 qr G2 L2 qO=>?_);refine wo hn fun oC es ep Vn Vj l_=>?_;clear hn;have Gy:¬xX env C':=L.ownOld nC;have VX:h2.get? C'=some oC:=(qO.2 C' fun q=>Gy (.inl q)).trans Vn;refine⟨m',⟨oC,es,ep,VX,Vj,l_⟩,fun qn iQ=>?_⟩;have cc:oC.cls=.type "tuple"->∀ items n,oC.data≠.seq items n:=fun _ _ _ z=>by rw[Vj] at z;cases z
 have kk:∀ b o,b≠C'->h2.get? b=some o->qn.get? b=some o:=fun b o hb e=>(iQ.2 b hb).trans e;have Ga:=((z2.mono (S':=xX env) fun _ f=>f.elim).trans G2).other2 nC (xt I nC) VX cc (xG I nC) Lo kk;exact hQ.next _ zl _ qn qr (fin ys H' hi D z1) Ga (L2.but Gy (jj VX cc kk) kk)
theorem dk {kindOf:Str->Option NameKind}{b:List (Str×Value)}:∀ {m:Str->Option Value} {x:Str},x∉b.map (·.1)->bindL kindOf b m x=m x:=by
 induction b with
 |nil=>exact fun _=>rfl|cons nv r ih=>
  intro m x h;refine(ih fun z=>h (.tail _ z)).trans ?_;by_cases k:kindOf nv.1=some .local
  .exact(congrFun (if_pos k) x).trans (if_neg fun e:x=nv.1=>h (e▸.head _))
  .exact congrFun (if_neg k) x
theorem d6 {kindOf:Str->Option NameKind}{b:List (Str×Value)}:∀ {m:Str->Option Value} {x:Str},x∉b.map (·.1)->bindC kindOf b m x=m x:=by
 induction b with
 |nil=>exact fun _=>rfl|cons nv r ih=>
  intro m x h;refine(ih fun z=>h (.tail _ z)).trans ?_;by_cases k:kindOf nv.1=some .local
  .exact congrFun (if_pos k) x
  .exact(congrFun (if_neg k) x).trans (if_neg fun e:x=nv.1=>h (e▸.head _))
theorem Km {kindOf:Str->Option NameKind}{ns:List Str}:∀ {ps:List PV} {vs:List Value} {m cm:Str->Option Value},ns.length=ps.length->ns.Nodup->yb θ h ps vs->∀ x p,zS.get (ns.zip ps) x=some p-> (kindOf x=some .local->∃ v,bindL kindOf (ns.zip vs) m x=some v/\Rd θ h p v)/\(kindOf x≠some .local->∃ v,bindC kindOf (ns.zip vs) cm x=some v/\Rd θ h p v):=by
 induction ns with
 |nil=>exact fun _ _ _ _ _ e=>zJ e|cons y ns ih=>intro ps vs m cm hl hn r x p e;cases ps with|nil=>exact nomatch hl|cons q ps=>refine zB r fun v r' zm r1 r2=>?_;subst zm;have jM:=List.nodup_cons.mp hn;refine du e (fun h1 h2=>?_) fun _ e=>ih (Nat.succ.inj hl) jM.2 r2 x p e;subst h1;subst h2;have out:x∉(ns.zip r').map (·.1):=fun hm=>zg (List.mem_map.mp hm) fun z hz e=>jM.1 (e▸(List.of_mem_zip (a:=z.1) (b:=z.2) hz).1);exact⟨fun k=>⟨v,(dk out).trans ((congrFun (if_pos k) x).trans (if_pos rfl)),r1⟩,fun k=>⟨v,(d6 out).trans ((congrFun (if_neg k) x).trans (if_pos rfl)),r1⟩⟩
theorem u3 (names:List (Str×NameKind)):∀ (n:Nat) (acc:List (Str×Addr)) (x:Str),(acc.lookup x).isSome=true\/(x,NameKind.cell)∈names->((cellsFrom n names acc).lookup x).isSome=true:=by
 induction names with
 |nil=>exact fun _ _ _ h=>h.elim id fun h=>wg h|cons yk r ih=>
  obtain⟨y,k⟩:=yk;intro n acc x h;by_cases hk:(k==NameKind.cell)=true
  .rw[show cellsFrom n ((y,k)::r) acc=_ from if_pos hk];exact ih _ _ x (h.elim (fun h=>.inl (FF h)) fun h=>(kS h).elim (fun e=>by cases e;exact .inl (by rw[WY];rfl)) .inr)
  .rw[show cellsFrom n ((y,k)::r) acc=_ from if_neg hk];exact ih _ _ x (h.elim .inl fun h=>(kS h).elim (fun e=>by cases e;exact absurd rfl hk) .inr)
theorem d5 {f:Addr}{name qual:Str}{params:Arguments}{body:List Stmt}{scope:Scope}{dV kV doc pm jz ct oc:Value}{an od:Option Addr}{fg:Array (Option Value)}{ps:List PV}{ns:List Str}{Q:PV->AH->Prop} (ho:g.K.lookup f=some ⟨oc,od,.func (fnOf name qual params body scope dV kV doc pm an jz ct),fg⟩) (Jg:codeIn g.K jz qual=true) (Yd:jX ps fun vs=>bindArgs (fnOf name qual params body scope dV kV doc pm an jz ct) ⟨vs,[]⟩=pure (ns.zip vs)) (yf:ns.length=ps.length) (Jr:ns.Nodup) (Jo:∀ x∈ns,scope.names.lookup x=some .local\/scope.names.lookup x=some .cell) (kJ:∀ x∈scope.names,x.2≠.free) (hk:scope.kind=.function) (Uw:scope.isCoroutine=false) (Xb:scope.isGenerator=false) (h:uS g d scope (ns.zip ps) H body (jy.val Q) X):kq g (d+1) H ps (.ref f) Kz Q X:=by
 intro A za θ s vs Rc C I R hQ hX;refine YW C.ok.T fun p' loose Ye mg mb T=>?_;have XK:=I.kin C.ok;refine codeAny_call_cells (fd:=fnOf name qual params body scope dV kV doc pm an jz ct) (body:=body) (binds:=ns.zip vs) C.room (XK _ _ ho) rfl (T.nolimit.keeps I.stays) (codeRec_of XK Jg) rfl (Yd.use vs R.length) rfl (fun x hx=>?_) (fun s1_ x=>?_) Uw Xb hk
 .rcases Jo _ (List.of_mem_zip (a:=x.1) (b:=x.2) hx).1 with z|z
  .exact .inl z
  .exact .inr ⟨z,u3 _ _ _ _ (.inr (wV z))⟩
 refine yE x.done fun hZ tkZ zm hkZ=>?_;subst zm;have hL:=y8 s.heap;generalize hE:callEnvC (fnOf name qual params body scope dV kV doc pm an jz ct) s.heap.objs.size f=env at x|-;have eL:env.locals=s.heap.objs.size:=by rw[<-hE];rfl
 have eF:env.frame=some s.heap.objs.size:=by rw[<-hE];rfl
 have eS:env.scope=scope:=by rw[<-hE];rfl
 have eC:env.cells=cellsFrom (s.heap.objs.size+1) scope.names []:=by rw[<-hE];rfl
 have eG:env.globals=mainGlobals:=by rw[<-hE];rfl
 have eB:env.builtins=builtinsNs:=by rw[<-hE];rfl
 have jC:=x.toInCall.ns;rw[eL] at jC;have Jb:zE (env::za)=s.heap.objs.size::zE za:=by unfold zE;rw[List.filterMap_cons,eF]
 have IZ:HI g θ H (zE (env::za)) hZ:=by rw[Jb];exact I.enter hL hkZ jC
 have fresh:∀ a,s.heap.objs.size<=a->s.heap.get? a=none:=fun a ha=>Heap.get?_none_of_le ha;have Xf:∀ a,s.heap.objs.size<=a->¬wI θ H a:=fun a ha z=>by obtain⟨o,ho⟩:=I.dom_some z;rw[fresh a ha] at ho;exact zJ ho
 have RZ:yb θ hZ ps vs:=(Go.ext (S:=yB) I hkZ).rds I R;have bg:=fun x p (e:zS.get (ns.zip ps) x=some p)=>Km (kindOf:=env.kindOf) (m:=fun _=>none) (cm:=fun _=>none) yf Jr RZ x p e;have LZ:LI g θ H (zE (env::za)) env (ns.zip ps) hZ:=by
  refine⟨?_,?_,⟨_,x.toInCall.ns,fun y p e k=>(bg y p e).1 k⟩,fun y a e=>?_,fun y z a e1 e2=>name_of_addr x.apart (mem_of_lookup e1) (mem_of_lookup e2)⟩
  .rw[eL];exact xt I hL
  .rw[eL];exact Xf _ (Nat.le_refl _)
  .have ha:=x.above y a (mem_of_lookup e);rw[eL] at ha;refine zg (x.cell y a e) fun o yg xi=>?_;refine⟨xt I (fresh a (Nat.le_of_lt ha)),Xf a (Nat.le_of_lt ha),?_,o,_,yg,xi,fun p ep k=>?_⟩
   .rw[Jb];intro hm;rcases kS hm with q|q
    .exact absurd q (Nat.ne_of_gt ha)
    .exact xG I (fresh a (Nat.le_of_lt ha)) q
   .exact(bg y p ep).2 (by rcases k with k|k<;>rw[k]<;>decide)
 have CZ:CI g (A.deeper env) d (env::za):=by
  refine⟨C.ok,C.handled,by have:=C.depth;show A.depth+1+_<=_;exact A21 0x6F5E5B4282240800400DEBCB0912D02100 this,by have:=C.units;show A.units+3+_<=_;exact A21 0x1324796D0A001E7920400204C91E58401E792F02100 this,Around.frames_deeper C.frames,fun e he=>?_,by simp⟩;rcases kS he with q|q
  .subst q;exact⟨by rw[eS,hk];decide,⟨_,eF⟩,by rw[eS];exact Xb,by rw[eS];exact Uw,eB,eG⟩
  .exact C.kinds e q
 have EI:wh scope env env:=⟨eS,hk,eG,eB,rfl,fun y hy=>by
  rcases hy with hy|hy
  .rw[eC];exact Yi (u3 _ _ _ _ (.inr (wV hy)))
  .exact absurd rfl (kJ (y,.free) (wV hy))⟩
 have lv:∀ {zl:Nm} {H':AH} {h':Heap},Go g (zE (env::za)) (xX env) θ H hZ zl H' h'->Go g (zE za) yB θ H s.heap zl H' h':=fun G=>
  Go.leave (L:=s.heap.objs.size) hL (fun b hb=>by
   rcases hb with q|⟨y,q⟩
   .rw[q,eL];exact hL
   .have ha:=x.above y b (mem_of_lookup q);rw[eL] at ha;exact fresh b (Nat.le_of_lt ha)) hkZ (Jb▸G)
 refine h (A.deeper env) env env za θ {s with heap:=hZ,toks:=tkZ} _ _ CZ EI IZ LZ ⟨?_,?_,?_,?_⟩ ?_
 .intro zO zl H' h' tk q G _;exact hQ _ _ zl H' h' tk q (lv G) rfl
 .intro zO zl H' h' tk q;exact q.elim
 .intro zO zl H' h' tk q;exact q.elim
 .intro v p zl H' h' tk q G r;exact hQ v p zl H' h' tk q (lv G) r
 .intro e p zl H' h' tk q G x;refine yE (VE x IZ.stays) fun a da zm xw=>?_;subst zm;refine XN (g:=g) (A:=A.deeper env) (F:=zE (env::za)) (h₀:=hZ) (s:={s with heap:=h',toks:=tk}) (L:=s.heap.objs.size) CZ.frames eF (fun e he=>⟨(CZ.kinds e he).1,(CZ.kinds e he).2.1⟩) rfl rfl (fun b hb=>let⟨_,o,_,_,e,_⟩:=IZ.frames b hb;⟨o,e⟩) (fun b o e=>⟨o,IZ.stays b o e⟩) G xw fun h2 G2 x2=>?_;exact hX (.ref a) p zl H' h2 tk q (lv G2) (x2.exc.back fun b o e=>⟨o,hkZ b o e⟩)
theorem cN (hx:c.names.lookup x=some .cell)(h:z_ g d c ρ H e (fun p HZ=>Q (.next (ρ.put x p) HZ)) X) (hs:autoParam (∀ env,swapsWith e (some (.Name x xp)) pos.line env=pure false) ta._auto_1):wR g d c ρ H (.Assign [.Name x xp] e pos) Q X:=by
 intro A env zb za θ s Qc Ec C EI I L hQ hX;have hk:env.kindOf x=some .cell:=by unfold Env.kindOf;rw[EI.scope];exact hx
 refine wpAny_Assign_Name (h A env zb za θ s _ _ C EI I L (fun va p θZ HZ hZ tkZ qZ GZ rZ=>?_) hX.none) (hs env);have LZ:=L.go I GZ;refine zA (EI.cells x (.inl hx)) fun a ha=>?_;refine a4 (LZ.cells x a ha) fun e1 e2 e3 zz=>?_;refine zB zz fun o ov e4 e5 e6=>?_;refine wpAny_storeName_cell (by rw[EI.scope];exact EI.fn) hk ha ⟨o,e4,e5⟩ fun h' hc ZD=>?_;have kk:∀ b o,b≠a->hZ.get? b=some o->h'.get? b=some o:=fun b o hb e=>(ZD.2 b hb).trans e;have cc:o.cls=.type "tuple"->∀ items n,o.data≠.seq items n:=fun _ _ _ z=>by rw[e5] at z;cases z
 have tk:=jj e4 cc kk;have sC:xX env a:=.inr ⟨x,ha⟩;have GY:Go g (zE (zb::za)) (xX env) θZ HZ hZ θZ HZ h':=by
  refine⟨⟨fun c o e=>kk c o (fun q=>by rw[q,e1] at e;cases e) (GZ.inv.stays c o e),fun i mo hi=>?_,GZ.inv.inj,GZ.inv.named,fun c hc=>?_⟩,zZ.refl _,fun b o e _ ns _=>kk b o (fun q=>ns (q▸sC)) e,fun b o e ns _=>⟨o.slots,kk b o (fun q=>ns (q▸sC)) e⟩,fun b o e=>?_,fun _ _ _ z=>z⟩
  .refine xI (GZ.inv.rep i mo hi) fun b z1 z2 z3 r=>?_;exact⟨b,z1,z2,z3,r.mono (zZ.refl _) tk fun o=>kk b o fun q=>e2 ⟨i,mo,hi,q▸z1⟩⟩
  .refine a2 (GZ.inv.frames c hc) fun z1 zz=>?_;refine vW zz fun o' es n z2 z3=>?_;exact⟨z1,o',es,n,kk c o' (fun q=>e3 (q▸hc)) z2,z3⟩
  .by_cases q:b=a
   .obtain⟨o',z,_⟩:=hc;exact⟨o',q▸z⟩
   .exact⟨o,kk b o q e⟩
 have LY:LI g θZ HZ (zE (zb::za)) env (ρ.put x p) h':=by
  refine zg LZ.ns fun m qu hm=>?_;obtain⟨ol,es,ep,yg,xi,r⟩:=qu;have nl:env.locals≠a:=fun q=>by rw[q,e4] at yg;cases yg;rw[e5] at xi;cases xi
  refine⟨LZ.newL,LZ.ndL,⟨m,⟨ol,es,ep,kk _ ol nl yg,xi,r⟩,fun y q eq k=>?_⟩,fun y b eb=>?_,LZ.apart⟩
  .rw[zS.get_put] at eq;by_cases hy:y=x
   .subst hy;rw[hk] at k;cases k
   .rw[if_neg hy] at eq;refine zg (hm y q eq k) fun v z1 z2=>?_;exact⟨v,z1,Rd.mono (zZ.refl _) tk.isTup _ _ z2⟩
  .refine a4 (LZ.cells y b eb) fun z1 z2 z3 zz=>?_;refine zB zz fun ob MR z4 z5 z6=>?_;by_cases hy:y=x
   .subst hy;rw[ha] at eb;obtain rfl:=yd eb;refine zg hc fun o' w1 w2=>?_;clear hc;refine⟨z1,z2,z3,o',_,w1,w2,fun q eq _=>?_⟩;rw[zS.get_put,if_pos rfl] at eq;obtain rfl:=yd eq;exact⟨va,rfl,Rd.mono (zZ.refl _) tk.isTup _ _ rZ⟩
   .have hb:b≠a:=fun q=>hy (LZ.apart y x a (q▸eb) ha);refine⟨z1,z2,z3,ob,MR,kk b ob hb z4,z5,fun q eq k=>?_⟩;rw[zS.get_put,if_neg hy] at eq;refine zg (z6 q eq k) fun v w1 w2=>?_;exact⟨v,w1,Rd.mono (zZ.refl _) tk.isTup _ _ w2⟩
 exact hQ.next _ θZ HZ h' tkZ qZ ((GZ.mono fun _ f=>f.elim).trans GY) LY
noncomputable def u6 {K:Type}[DecidableEq K](l:List (K×PV))(k:K):Option PV:=(l.find? fun x=>decide (x.1=k)).map (·.2)
noncomputable def Vz {K:Type}[DecidableEq K](l:List (K×PV))(k:K)(v:PV):List (K×PV):=if l.any (fun x=>decide (x.1=k)) then l.map (fun x=>if x.1=k then(x.1,v) else x) else l++[(k,v)]
theorem HI.dictSAt (I:HI g θ H F h)(e:H i=some (.dictS l))(ha:i.at θ=some a):g.B.get? a=none/\∃ kvs,h.DictOf (strKind g.prog g.w) a kvs/\jq θ h l kvs:=by refine xI (I.rep i _ e) fun a' we hB _ zz=>?_;refine zg zz fun kvs hl hr=>?_;rw[ha] at we;obtain rfl:=yd we;exact⟨hB,kvs,hl,hr⟩
theorem HI.dictTAt (I:HI g θ H F h)(e:H i=some (.dictT l))(ha:i.at θ=some a):g.B.get? a=none/\∃ xs:List (List Int×Addr×Value),h.DictOfH (tupleKind (intKind g.prog g.w)) a xs/\jq θ h l (xs.map fun x=>(x.1,x.2.2)):=by refine xI (I.rep i _ e) fun a' we hB _ zz=>?_;refine zg zz fun xs hl hr=>?_;rw[ha] at we;obtain rfl:=yd we;exact⟨hB,xs,hl,hr⟩
theorem r9 (h:H i=some (.dictI l)):uC g d H (.obj i) "get" (.builtin "dict.get"):=fun C I r q=>by refine zg (yz r) fun a ha zm=>?_;subst zm;refine a2 (I.dictAt h ha) fun hB zz=>?_;refine zg zz fun kvs hd _=>?_;exact getMethod_builtin hd.typeIs F.plainAttrs_dict F.slot_dict_get F.type_dict_get hd.mapOf.noDict q
theorem rR (h:H i=some (.dictS l)):uC g d H (.obj i) "get" (.builtin "dict.get"):=fun C I r q=>by refine zg (yz r) fun a ha zm=>?_;subst zm;refine a2 (I.dictSAt h ha) fun hB zz=>?_;refine zg zz fun kvs hd _=>?_;exact getMethod_builtin hd.typeIs F.plainAttrs_dict F.slot_dict_get F.type_dict_get hd.mapOf.noDict q
theorem rQ (h:H i=some (.dictT l)):uC g d H (.obj i) "get" (.builtin "dict.get"):=fun C I r q=>by refine zg (yz r) fun a ha zm=>?_;subst zm;refine a2 (I.dictTAt h ha) fun hB zz=>?_;refine zg zz fun kvs hd _=>?_;exact getMethod_builtin hd.typeIs F.plainAttrs_dict F.slot_dict_get F.type_dict_get (dictOfH_noDict hd) q
theorem oF (h:H i=some (.dictI l))(q:Q ((vF l k).getD p) H):zh g d H [.obj i,.int k,p] (fun vs=>call (.builtin "dict.get") vs) Q X:=by
 intro A za θ s vs Qc Ec C I R hQ hX;refine zB R fun v _ zm R1 zz=>?_;refine zB zz fun u _ wj R2 zz=>?_;refine zB zz fun x _ qw R3 Yg=>?_;clear R;subst zm wj qw Yg;obtain⟨a,ha,rfl⟩:=yz (R1:Rd θ s.heap (.obj i) v);refine zA (zX R2) fun t zW=>?_;subst zW;refine a2 (I.dictAt h ha) fun hB zz=>?_;refine zg zz fun kvs hd hp=>?_;refine call_meetsIn F.slot_dict_get hd.typeIs F.entry_dict_get (F.args_dict_get_3 _ _ _) (meets_dict_get_default (intKind g.prog g.w) a (xY _ _ k t) (C.mods I hB) x) ⟨_,hd.mapOf,?_⟩;refine a2 (hp.get k) fun e1 e2=>?_;unfold vF at q;cases hg:(l.find? fun x=>decide (x.1=k)).map (·.2) with
 |none=>
  rw[hg] at e1 q;have:valueAt kvs k=none:=by cases z:valueAt kvs k with|none=>rfl|some _=>rw[z] at e1;exact zU e1
  rw[this];exact hQ.now I q R3
 |some p'=>rw[hg] at q;refine zg (e2 p' hg) fun v e3 e4=>?_;rw[e3];exact hQ.now I q e4
theorem rB (h:H i=some (.dictS l))(q:Q ((u6 l k).getD p) H):zh g d H [.obj i,.str k,p] (fun vs=>call (.builtin "dict.get") vs) Q X:=by
 intro A za θ s vs Qc Ec C I R hQ hX;refine zB R fun v _ zm R1 zz=>?_;refine zB zz fun u _ wj R2 zz=>?_;refine zB zz fun x _ qw R3 Yg=>?_;clear R;subst zm wj qw Yg;obtain⟨a,ha,rfl⟩:=yz (R1:Rd θ s.heap (.obj i) v);refine zA (vC R2) fun t zW=>?_;subst zW;refine a2 (I.dictSAt h ha) fun hB zz=>?_;refine zg zz fun kvs hd hp=>?_;refine call_meetsIn F.slot_dict_get hd.typeIs F.entry_dict_get (F.args_dict_get_3 _ _ _) (meets_dict_get_default (strKind g.prog g.w) a (strKind_is _ _ k t) (C.mods I hB) x) ⟨_,hd.mapOf,?_⟩;refine a2 (hp.get k) fun e1 e2=>?_;unfold u6 at q;cases hg:(l.find? fun x=>decide (x.1=k)).map (·.2) with
 |none=>
  rw[hg] at e1 q;have:valueAt kvs k=none:=by cases z:valueAt kvs k with|none=>rfl|some _=>rw[z] at e1;exact zU e1
  rw[this];exact hQ.now I q R3
 |some p'=>rw[hg] at q;refine zg (e2 p' hg) fun v e3 e4=>?_;rw[e3];exact hQ.now I q e4
theorem cj:∀ {ks:List Int} {vs:List Value},yb θ h (ks.map .int) vs->ItemsAre (intKind prog w) ks vs|[],vs,r=>by cases r;exact .nil|k::ks,vs,r=>by refine zB r fun v r' zm r1 r2=>?_;clear r;subst zm;refine zA (zX r1) fun t zW=>?_;subst zW;exact .cons (xY _ _ _ _) (cj r2)
theorem U6 (r:Rd θ h (.tup (ks.map .int)) v):∃ t,v=.ref t/\IsTupleKey (intKind prog w) h ks t:=by refine zB r fun t items zm tI hr=>?_;clear r;subst zm;obtain⟨o,ho,hc,n,hd⟩:=tI;exact⟨t,rfl,o,items,n,ho,hc,hd,cj hr⟩
theorem rp (h:H i=some (.dictT l))(q:Q ((u6 l k).getD p) H):zh g d H [.obj i,.tup (k.map .int),p] (fun vs=>call (.builtin "dict.get") vs) Q X:=by
 intro A za θ s vs Qc Ec C I R hQ hX;refine zB R fun v _ zm R1 zz=>?_;refine zB zz fun u _ wj R2 zz=>?_;refine zB zz fun x _ qw R3 Yg=>?_;clear R;subst zm wj qw Yg;obtain⟨a,ha,rfl⟩:=yz (R1:Rd θ s.heap (.obj i) v);refine zg (U6 (prog:=g.prog) (w:=g.w) R2) fun t zW hk=>?_;subst zW;refine a2 (I.dictTAt h ha) fun hB zz=>?_;refine zg zz fun xs hd hp=>?_;refine call_meetsIn F.slot_dict_get hd.typeIs F.entry_dict_get (F.args_dict_get_3 _ _ _) (meetsH_dict_get_default (tupleKind (intKind g.prog g.w)) a t (C.mods I hB) x) ⟨tupleKind_room_in1 (by have:=C.unit;exact A21 0x805AF2C080840168101 this),k,xs,hk,hd,?_⟩;refine a2 (hp.get k) fun e1 e2=>?_;have ev:(atKey xs k).map (·.2)=valueAt (xs.map fun x=>(x.1,x.2.2)) k:=(valueAt_kvsOf xs k).symm;rw[ev];unfold u6 at q;cases hg:(l.find? fun x=>decide (x.1=k)).map (·.2) with
 |none=>
  rw[hg] at e1 q;have:valueAt (xs.map fun x=>(x.1,x.2.2)) k=none:=by cases z:valueAt (xs.map fun x=>(x.1,x.2.2)) k with|none=>rfl|some _=>rw[z] at e1;exact zU e1
  rw[this];exact hQ.now I q R3
 |some p'=>rw[hg] at q;refine zg (e2 p' hg) fun v e3 e4=>?_;rw[e3];exact hQ.now I q e4
end
section
set_option genSizeOf false
set_option genCtorIdx false
variable {g:Gr} {d:Nat} {c:Scope} {ρ:zS} {H:AH} {X:PV->AH->Prop} {Q:PV->AH->Prop}
inductive yW (H:AH)(mo:MO)(Q:PV->AH->Prop):Prop
 |an (h:∀ a,H (.an a)=none->Q (.obj (.an a)) (H.upd (.an a) mo))|nm (n:Nat) (h0:H (.nm n)=none) (h:Q (.obj (.nm n)) (H.upd (.nm n) mo))
theorem yW.go (N:yW H mo Q)(I:HI g θ H F s.heap)(hQ:XE g F θ H s Q Qc)(hn:s.heap.get? a=none)(k:∀ b o,s.heap.get? b=some o->h'.get? b=some o) (r:∀ zl,zZ θ zl->w6 g zl h' a mo):Qc (.ref a) {s with heap:=h',toks:=tk}:=by
 cases N with
 |an h=>have G:=Go.newA (g:=g) (F:=F) (S:=yB) I hn k (r θ (zZ.refl _));exact hQ _ _ θ _ h' tk (h a G.2) G.1 (⟨a,rfl,rfl⟩)|nm n h0 h=>
  have le:zZ θ (fun m=>if m=n then some a else θ m):=by
   intro m b e;by_cases q:m=n
   .subst q;have:=I.named m (by rw[e];rfl);rw[h0] at this;exact zU this
   .simp[q,e]
  have G:=Go.newN (g:=g) (F:=F) (S:=yB) (mo:=mo) I h0 hn k (r _ le);exact hQ _ _ _ _ h' tk h G (⟨a,by simp[Id.at],rfl⟩)
theorem VC (N:yW H mo Q)(hm:∀ (θ:Nm) (h:Heap),w6 g θ (h.push {cls:=.type "dict",data:=.dict #[]}) h.objs.size mo):z_ g d c ρ H (.Dict [] [] pos) Q X:=by intro A env zb za θ s Qc Ec C EI I L hQ hX;exact wpAny_Dict_empty (N.go (tk:=s.toks) I hQ (y8 s.heap) (yw _ _) fun zl _=>hm zl _)
theorem aL (θ:Nm)(h:Heap):w6 g θ (h.push {cls:=.type "dict",data:=.dict #[]}) h.objs.size (.dictI []):=⟨[],Heap.DictOf.new h,rfl,rfl⟩
theorem aP (θ:Nm)(h:Heap):w6 g θ (h.push {cls:=.type "dict",data:=.dict #[]}) h.objs.size (.dictS []):=⟨[],Heap.DictOf.new h,rfl,rfl⟩
theorem QK (θ:Nm)(h:Heap):w6 g θ (h.push {cls:=.type "dict",data:=.dict #[]}) h.objs.size (.dictT []):=⟨[],Heap.DictOfH.new h,rfl,rfl⟩
theorem cH (N:yW H (.setI (fun _=>false) 0) Q):zh g d H [] (fun vs=>call (.type "set") vs) Q X:=by intro A za θ s vs Qc Ec C I R hQ hX;cases R;refine call_set_0 fun led=>?_;exact N.go (tk:=s.toks) I hQ (y8 s.heap) (yw _ _) fun zl _=>(setObjOf_fresh led).setOf (Heap.get?_push_size _ rfl) (by decide+kernel)
theorem gu (hi:H i=some (.setI S n))(hz:n<=4000)(q:Q .none (H.upd i (.setI (fun k'=>S k'||decide (k'=k)) (if S k then n else n+1)))):zh g d H [.obj i,.int k] (fun vs=>call (.builtin "set.add") vs) Q X:=by intro A za θ s vs Qc Ec C I R hQ hX;refine zB R fun v _ zm R1 zz=>?_;refine zB zz fun u _ wj R2 ZI=>?_;clear R;subst zm wj ZI;obtain⟨a,ha,rfl⟩:=yz (R1:Rd θ s.heap (.obj i) v);refine zA (zX R2) fun t zW=>?_;subst zW;refine xI (I.rep i _ hi) fun a' we hB _ hS=>?_;rw[ha] at we;obtain rfl:=yd we;refine call_set_add (xY _ _ _ _) rfl hS (by unfold scanBound;exact A11 0x7D0796000404003CB68101 hz) fun h' ZD xk=>?_;exact hQ .none .none θ _ h' _ q (Go.upd I hi ha (fun b o hb e=>(ZD.2 b hb).trans e) xk) rfl
theorem jb (hi:H i=some (.list l))(hz:l.length<=1000000)(q:Q (.tup l) H):zh g d H [.obj i] (fun vs=>call (.type "tuple") vs) Q X:=by intro A za θ s vs Qc Ec C I R hQ hX;refine zB R fun v _ zm R1 vv=>?_;clear R;subst zm vv;obtain⟨a,ha,rfl⟩:=yz (R1:Rd θ s.heap (.obj i) v);refine zB (I.listAt hi ha) fun items n hl hr hsz=>?_;refine call_tuple_list hl.isList (fun h' hk=>?_) (by rw[sizeLine_eq];exact A22 0x37D610042010418FAC00 hsz hz);have G:=(Go.ext (g:=g) (F:=zE za) (S:=yB) I hk).grow (yw h' {cls:=.type "tuple",data:=.seq items});refine hQ _ _ θ H _ s.toks q G ?_;exact⟨_,items,rfl,⟨_,Heap.get?_push_size _ rfl,rfl,0,rfl⟩,G.rds I hr⟩
theorem fY (q:Q (.tup l) H):zh g d H [.tup l] (fun vs=>call (.type "tuple") vs) Q X:=by intro A za θ s vs Qc Ec C I R hQ hX;refine zB R fun v _ zm R1 vv=>?_;clear R;subst zm vv;have Lj:=R1;refine zB R1 fun t items zm ht hr=>?_;clear R1;subst zm;exact call_tuple_same ht (hQ.now (tk:=s.toks) I q Lj)
theorem JN (q:Q (.bool true) H):zh g d H [.str x,.raw (.type "str")] (fun vs=>call (.builtin "isinstance") vs) Q X:=by intro A za θ s vs Qc Ec C I R hQ hX;refine zB R fun v _ zm R1 zz=>?_;refine zB zz fun u _ wj R2 ZI=>?_;clear R;subst zm wj ZI;refine zA (vC R1) fun t zW=>?_;subst zW;cases R2;exact call_isinstance_yes (Tx:="str") (typeIs_str s x t) F.isi_meta_str (by rw[isSubtype_type];kernel_rfl) (hQ.now (tk:=s.toks) I q rfl)
theorem fM (q:Q (.bool false) H):zh g d H [.tup l,.raw (.type "str")] (fun vs=>call (.builtin "isinstance") vs) Q X:=by intro A za θ s vs Qc Ec C I R hQ hX;refine zB R fun v _ zm R1 zz=>?_;refine zB zz fun u _ wj R2 ZI=>?_;clear R;subst zm wj ZI;cases R2;refine zB R1 fun t items zm tI hr=>?_;clear R1;subst zm;obtain⟨o,ho,hc,_⟩:=tI;exact call_isinstance (isinstance_false_tuple (by decide+kernel) F.isi_meta_str F.sub_tuple_str) ⟨⟨o,ho,hc⟩,hQ.now I q rfl⟩
theorem aj (q:Q (.int (if a<0 then -a else a)) H):zh g d H [.int a] (fun vs=>call (.builtin "abs") vs) Q X:=by intro A za θ s vs Qc Ec C I R hQ hX;refine zB R fun v _ zm R1 vv=>?_;clear R;subst zm vv;refine zA (zX R1) fun t zW=>?_;subst zW;exact call_abs_int fun u tk=>hQ.now I q (kb _ _ _ _)
theorem rl (q:Q (.int (Builtin.Int.intBits a)) H):zh g d H [.int a] (fun vs=>call (.builtin "int.bit_length") vs) Q X:=by intro A za θ s vs Qc Ec C I R hQ hX;refine zB R fun v _ zm R1 vv=>?_;clear R;subst zm vv;refine zA (zX R1) fun t zW=>?_;subst zW;exact call_int_bit_length (hQ.now I q (kb _ _ _ _))
theorem jV (hb:0<b)(h0:a≠0)(h1:a≠1)(h2:a≠-1)(hz:(Builtin.Int.intBits a:Int)*b<=100000000)(q:Q (.int (a^b.toNat)) H):zh g d H [.int a,.int b] (t2 (binaryOp .Pow)) Q X:=xa (fun _ _ r1 r2 k=>by refine zA (zX r1) fun t zW=>?_;subst zW;refine zA (zX r2) fun u zW=>?_;subst zW;refine PySem.AutoIntOps.pow_4 (Int.le_trans (by decide) (Int.le_of_lt hb)) (fun h=>absurd (of_decide_eq_true h) (Int.ne_of_gt hb)) (by simp[h0,h1]) (by simp[h2]) ?_ (k _ _ (kb _ _ _ _));exact fun h=>absurd (of_decide_eq_true h) (Int.not_lt.mpr (Int.le_trans hz (by decide)))) q
theorem Zk:∀ {ks:List Int} {vs:List Value},yb θ h (ks.map .int) vs->IntsAre vs ks|[],vs,r=>by cases r;exact .nil|k::ks,vs,r=>by refine zB r fun v r' zm r1 r2=>?_;clear r;subst zm;refine zA (zX r1) fun t zW=>?_;subst zW;exact .cons _ _ (Zk r2)
theorem dS {E:Value->Shared->Prop}{Q:Value->Shared->Prop}(hh:A.handled=none)(hl:s.heap.IsList l items)(Jf:AllInts items) (h:∀ h' tk t',(∀ b o,s.heap.get? b=some o->h'.get? b=some o)->Q (.int (numsOf items.toList).sum t') {s with heap:=h',toks:=tk}):wpAny (model g.prog g.w) A (call (.builtin "sum") [.ref l]) Q E s:=by refine zA Jf.items fun xs zW=>?_;subst zW;rw[nums_intItems] at h;refine sum_intListG hh hl fun h' tk t' hk=>?_;have:=h h' tk t' hk;rw[preSum_eq,List.take_of_length_le (by simp)];exact this
theorem Dn {i:Id}{ks:List Int}(hi:H i=some (.list (ks.map .int)))(q:Q (.int ks.sum) H):zh g d H [.obj i] (fun vs=>call (.builtin "sum") vs) Q X:=by
 intro A za θ s vs Qc Ec C I R hQ hX;refine zB R fun v _ zm R1 vv=>?_;clear R;subst zm vv;obtain⟨a,ha,rfl⟩:=yz (R1:Rd θ s.heap (.obj i) v);refine zB (I.listAt hi ha) fun items n hl hr hsz=>?_;have hv:IntsAre items.toList ks:=Zk hr;have Jf:AllInts items:=by simpa using hv.allInts
 refine dS C.handled hl.isList Jf fun h' tk t' hk=>?_;rw[hv.numsOf];exact hQ _ _ θ H h' tk q (Go.ext I hk) (kb _ _ _ _)
end
section
variable {g:Gr} {d:Nat} {c:Scope} {ρ:zS} {H:AH} {X:PV->AH->Prop} {Q:PV->AH->Prop}
theorem pd {Q:qJ->List PV->AH->Prop}(hx:c.names.lookup ("reversed":Str)=some .globalImplicit)(hn:nsIn g.K mainGlobals ("reversed":Str)=some none)(h:z_ g d c ρ H e (fun p HZ=>∃ l,p=.tup l/\l.length<=1000000/\Q none l.reverse HZ) X) (hp:autoParam (uu [e]) ta._auto_1) (na:autoParam (Xm (.Name "reversed" np)) ta._auto_1):Ve g d c ρ H (.Call (.Name "reversed" np) [e] [] pos) Q X:=by
 intro A env zb za θ s Qc Ec C EI I L hQ hX;refine ZT (R:=fun fv as H2_=>fv=.type "reversed"/\∃ l,as=[.tup l]/\l.length<=1000000/\Q none l.reverse H2_) hp (qI (v:=.type "reversed") hx hn (by decide+kernel) ⟨_,rfl,jl _,VO ?_ (fun env=>by rw[hp env];rfl)⟩) C EI I L (fun fv vs as zl H' h' tk q G r=>?_) hX (na _ _ _)
 .intro A env zb za θ s Qc Ec C EI I L hQ hX;refine h A env zb za θ s Qc Ec C EI I L (fun v p zl H' h' tk q G r=>?_) hX;obtain⟨l,rfl,hl,q⟩:=q;exact hQ v _ zl H' h' tk (WH ⟨rfl,l,rfl,hl,q⟩) G r
 .obtain⟨rfl,l,rfl,hl,q⟩:=q;obtain⟨v,_,rfl,r,rfl⟩:=r;refine pA (s:={s with heap:=h',toks:=tk}) G.inv r hl fun it h2 qr G2 x n=>?_;exact hQ it none _ zl H' h2 qr q (G.trans G2) x (u7 G n)
theorem dN {k:Nat}{Q:jy->Prop}(hx:c.names.lookup x=some .local)(hy:c.names.lookup y=some .local) (h:z_ g d c ρ H e (fun p HZ=>∃ a b,p=.tup [a,b]/\Q (.next ((ρ.put x a).put y b) HZ)) X) (hs:autoParam (∀ env,swapsWithSole [.Tuple [.Name x xp,.Name y yp] k tp] e pos.line env=pure false) ta._auto_1) (hw:autoParam (∀ env,swappedStores [.Tuple [.Name x xp,.Name y yp] k tp] e env=pure none) ta._auto_1):
  wR g d c ρ H (.Assign [.Tuple [.Name x xp,.Name y yp] k tp] e pos) Q X:=by
 intro A env zb za θ s Qc Ec C EI I L hQ hX;refine PyProof.Rows.Assign_Tuple (h A env zb za θ s _ _ C EI I L (fun va p θZ HZ hZ tkZ qZ GZ rZ=>?_) hX.none) (hs env) (hw env);refine yE qZ fun a b zm q=>?_;clear qZ;subst zm;refine zB rZ fun t items zm ht zz=>?_;refine zB zz fun v1 _ ei r1 zz=>?_;refine zB zz fun v2 _ qw r2 Yg=>?_;clear rZ;subst zm qw Yg;have hsz:items.size=2:=by rw[<-Array.length_toList,ei];rfl
 refine PyProof.Rows.assign_Tuple_tuple C.handled ht (by rw[hsz];rfl) (by rfl) fun h2 e2=>?_;have kk:∀ b o,hZ.get? b=some o->h2.get? b=some o:=fun b o e=>e2 b o (Nat.ne_of_lt (Heap.lt_size e)) e;have G2:=GZ.grow kk;have Qp:=Go.ext (g:=g) (F:=zE (zb::za)) (S:=yB) GZ.inv kk;rw[ei];show wpAny _ _ (assignInOrder [assign (.Name x xp) env,assign (.Name y yp) env] [v1,v2]) _ _ _;refine PyProof.Rows.assignInOrder_cons (wpAny_assign_Name (vU (s:={s with heap:=h2,toks:=tkZ}) EI hx G2.inv (L.go I G2) (Qp.rd GZ.inv r1) fun h3 XW G3 L3=>?_));refine PyProof.Rows.assignInOrder_cons (wpAny_assign_Name (vU (s:={s with heap:=h3,toks:=XW}) EI hy G3.inv L3 (G3.rdS G2.inv (L.go I G2).own (Qp.rd GZ.inv r2)) fun h4 ZE G4 L4=>?_));exact PyProof.Rows.assignInOrder_nil (hQ.next _ θZ HZ h4 ZE q (((G2.mono fun _ f=>f.elim).trans G3).trans G4) L4)
theorem Kr {zl:Nm}{h':Heap}{l:List (Int×PV)}:∀ {kvs:List (Int×Value)} {us:List Value},kvs.map (·.1)=l.map (·.1)->us.length=kvs.length->(∀ (j:Nat) (u:Value),us[j]?=some u->∃ k x,kvs[j]?=some (k,x)/\(intKind g.prog g.w).is k u=true)->yb zl h' (l.map fun x=>.int x.1) us:=by
 induction l with
 |nil=>
  intro kvs us e hl _;cases kvs with
  |nil=>exact List.eq_nil_of_length_eq_zero hl|cons _ _=>exact nomatch e
 |cons x l ih=>
  intro kvs us e hl hu;cases kvs with
  |nil=>exact nomatch e|cons y kvs=>cases us with|nil=>exact nomatch hl|cons u us=>refine yE (hu 0 u rfl) fun k x' e1 e2=>?_;have e1:y=(k,x'):=yd e1;refine zA (Value.isInt_shape e2) fun t zW=>?_;subst zW e1;have e3:k=x.1:=(List.cons.inj e).1;exact⟨_,_,rfl,⟨t,by rw[e3]⟩,ih (List.cons.inj e).2 (Nat.succ.inj hl) fun j u hj=>hu (j+1) u hj⟩
theorem mw (hi:H i=some (.dictI l))(hz:l.length<=100000)(N:yW H (.list (l.map fun x=>.int x.1)) Q):zh g d H [.obj i] (fun vs=>call (.type "list") vs) Q X:=by
 intro A za θ s vs Qc Ec C I R hQ hX;refine zB R fun v _ zm R1 vv=>?_;clear R;subst zm vv;obtain⟨a,ha,rfl⟩:=yz (R1:Rd θ s.heap (.obj i) v);refine a2 (I.dictAt hi ha) fun hB zz=>?_;refine zg zz fun kvs hd hp=>?_;refine zA hd.dictAt fun ep sE=>?_;have yf:kvs.length=l.length:=by have:=congrArg List.length hp.1;simpa using this
 refine kdl_call (kdl_dict (knd:=intKind g.prog g.w) (kvs:=kvs) (ep:=ep) (C.mods I hB)) C.handled sE (by rw[sizeLine_eq];exact A22 0x2FD610042010418FAC00 yf hz) fun h' tk Ij c' hk hS Wk=>?_;refine N.go I hQ (y8 s.heap) hk fun zl _=>⟨Ij,c',hS,Kr (g:=g) hp.1 (by rw[Array.length_toList];exact Wk.1) fun j u hu=>?_⟩;exact Wk.2 j u (by rw[<-Array.getElem?_toList];exact hu)
theorem p8 {i j:Id}{ks ms:List Int}(hi:H i=some (.list (ks.map .int)))(hj:H j=some (.list (ms.map .int)))(q:Q (.bool (!decide (ks=ms))) H):zh g d H [.obj i,.obj j] (t2 (compareOp .NotEq)) Q X:=xa (fun{_ _ _ s _ _ _ _} C I r1 r2 k=>by refine zg (yz r1) fun a ha zm=>?_;subst zm;refine zg (yz r2) fun b hb zm=>?_;subst zm;refine zB (I.listAt hi ha) fun x n hl hr zx=>?_;refine zB (I.listAt hj hb) fun y n' hm uW zy=>?_;have hu:=C.unit;exact ke_ne_ints (by simpa using hl.isList) (by simpa using hm.isList) (Zk hr) (Zk uW) (A21 0x805AF2C08084010081E58101 hu) (k _ s.toks (uQ _ _ _))) q
theorem bx {E:Value->Shared->Prop}{n n':Nat}{Q:Value->Shared->Prop}(wJ:a≠b)(ha:IsL s.heap a items n)(hb:IsL s.heap b vh n')(hz:items.size+vh.size<=1000000) (h:Q (.ref a) {s with heap:=s.heap.update a (Obj.mapSeq fun xs=>xs++vh)}):wpAny (model g.prog g.w) A (inplaceOp .Add (.ref a) (.ref b)) Q E s:=by
 have Qu:s.TypeIs (.ref a) "list":=⟨_,ha,rfl⟩;have F8:s.TypeIs (.ref b) "list":=⟨_,hb,rfl⟩;unfold inplaceOp;refine wpAny_holding ?_;have LS:fillsInplaceSlot (.type "list") "add" (Operator.Add==.Add)=pure false:=by unfold fillsInplaceSlot;show(typeLookup (.type "list") (dunderI "add")>>=fun fi=>pure (fi.isSome&& !isSeqSlot fi))=pure false;rw[F.slot_list_iadd.lookup];kernel_rfl
 have Mk:seqSlot? (.type "list") (dunderI "add")=pure (some (.builtin "list.__iadd__")):=by unfold seqSlot?;rw[F.slot_list_iadd.lookup];kernel_rfl
 refine wpAny_bind (wpAny_typeOf Qu (wpAny_bind (wpAny_of_eq LS ?_)));show wpAny _ _ (if false=true then _ else _) Q E s;rw[if_neg Bool.false_ne_true];refine wpAny_bind (wpAny_binaryOp1_none (nm:="add") Qu F8 (by kernel_rfl) ?_);refine wpAny_bind (wpAny_of_eq Mk ?_);refine wpAny_bind (wpAny_rule ?_);refine wpAny_call_entry F.slot_list_iadd Qu F.entry_list_iadd ?_ (F.args_list_iadd_2 _ _);unfold Builtin.«list.__iadd__»;refine wpAny_bind (wpAny_of_eq (a:=(Value.ref a,[Value.ref b])) rfl ?_);try dsimp only
 unfold Builtin.List.listExtendWith;refine wpAny_bind (wpAny_typeOf F8 ?_);rw[if_pos (by simp)];refine wpAny_bind (wpAny_listItems hb rfl ?_);refine wpAny_bind (wpAny_listItems ha rfl ?_);have hl:Builtin.List.listTooLong (items.size+vh.size)=false:=by unfold Builtin.List.listTooLong;rw[decide_eq_false_iff_not,sizeLine_eq];exact A21 0x37D610200100408C7D65 hz
 simp only[hl,Bool.and_false,Bool.false_eq_true,if_false];refine wpAny_bind (listUpdate_at ha rfl ?_ (by rw[sizeLine_eq];exact A21 0xDF5840800418FAC00 hz) (by rw[sizeLine_eq,Array.size_append];exact A21 0xDF584080040DC7D6808100 hz));exact wpAny_pure ⟨_,rfl,h⟩
theorem mI (hi:H i=some (.list l))(hj:H j=some (.list m))(wJ:i≠j)(hz:l.length+m.length<=1000000)(q:Q (.obj i) (H.upd i (.list (l++m)))):zh g d H [.obj i,.obj j] (t2 (inplaceOp .Add)) Q X:=by intro A za θ s vs Qc Ec C I R hQ hX;refine zB R fun v1 _ zm r1 zz=>?_;refine zB zz fun v2 _ wj r2 ZI=>?_;clear R;subst zm wj ZI;refine zg (yz r1) fun a ha zm=>?_;subst zm;refine zg (yz r2) fun b hb zm=>?_;subst zm;refine zB (I.listAt hi ha) fun x n hl hr zx=>?_;refine zB (I.listAt hj hb) fun y n' hm uW zy=>?_;have xN:a≠b:=fun e=>wJ (I.inj i j a (by rw[hi];rfl) (by rw[hj];rfl) ha (e▸hb));refine bx xN hl hm (A43 0x184411004137D631200101BEB08100 hz zx zy) ?_;refine hQ (.ref a) (.obj i) θ _ _ s.toks q (qi I hi ha hl _ ?_) (⟨a,ha,rfl⟩);rw[Array.toList_append];exact hr.append uW
theorem dI (hi:H i=some (.dictI l))(hz:l.length<60)(ho:(l.map (·.1)).Pairwise (·<=·))(N:yW H (.list (l.map fun x=>.int x.1)) Q):zh g d H [.obj i] (fun vs=>call (.builtin "sorted") vs) Q X:=by
 intro A za θ s vs Qc Ec C I R hQ hX;refine zB R fun v _ zm R1 vv=>?_;clear R;subst zm vv;obtain⟨a,ha,rfl⟩:=yz (R1:Rd θ s.heap (.obj i) v);refine a2 (I.dictAt hi ha) fun hB zz=>?_;refine zg zz fun kvs hd hp=>?_;refine zA hd.dictAt fun ep sE=>?_;have yf:kvs.length=l.length:=by have:=congrArg List.length hp.1;simpa using this
 refine call_function_entry kind_sorted plain_sorted entry_sorted (args_sorted1 _) ?_;unfold Builtin.«sorted»;refine wpAny_bind (m:=checkCount "sorted" 1 1 _) (wpAny_pure ?_);refine wpAny_bind (kdu_collect (A:=A.in1) (kdl_dict (knd:=intKind g.prog g.w) (kvs:=kvs) (ep:=ep) (C.mods I hB)) C.handled sE (by rw[sizeLine_eq];exact A22 0x2010401E796108418FAC00 hz yf) fun h' tk acc hk Wk=>?_);have hl:acc.toList.length=kvs.length:=by rw[Array.length_toList];exact Wk.1
 refine wpAny_bind (wpAny_newList ?_ (by rw[hl,sizeLine_eq];exact A22 0x2010401E796108418FAC00 hz yf));have rk:∀ (zl:Nm) (qn:Heap),yb zl qn (l.map fun x=>.int x.1) acc.toList:=fun zl qn=>Kr (g:=g) hp.1 hl fun j u hu=>Wk.2 j u (by rw[<-Array.getElem?_toList];exact hu);have em:(l.map fun x=>PV.int x.1)=(l.map (·.1)).map .int:=by rw[List.map_map];rfl
 have hI:IntsAre acc.toList (l.map (·.1)):=Zk (θ:=θ) (h:=h') (by rw[<-em];exact rk θ h');have hS:(h'.push {cls:=.type "list",data:=.seq acc.toList.toArray}).get? h'.objs.size=some (seqObj "list" acc.toList.toArray 0):=Heap.get?_push_size _ rfl;refine wpAny_bind (wpAny_holding (wpAny_call_entry PyProof.Rows.slot_list_sort ⟨_,hS,rfl⟩ PyProof.Rows.entry_list_sort (list_sort_tree (n:=0) (vs:=acc.toList) hS hI (by rw[hl];exact A22 0x80410079E5842100040F2C01 hz yf) fun out MP Lz hp' hP=>⟨.none,rfl,wpAny_pure ⟨_,rfl,?_⟩⟩) (PyProof.Rows.args_list_sort _)));have jC:MP=l.map (·.1):=lks_uniq hp' hP ho;subst jC;have nn:s.heap.get? h'.objs.size=none:=by cases q:s.heap.get? h'.objs.size with|none=>rfl|some o=>have:=hk _ _ q;rw[y8] at this;exact zJ this
 have ro:∀ (zl:Nm) (qn:Heap),yb zl qn (l.map fun x=>.int x.1) out.toList:=fun zl qn=>by rw[em];exact readInts Lz
 unfold sortedHeap;have kk:∀ b o,s.heap.get? b=some o->(((((h'.push {cls:=.type "list",data:=.seq acc.toList.toArray}).update h'.objs.size (Obj.mapSeq fun _=>#[])).push (seqObj "tuple" acc.toList.toArray 0)).push (seqObj "list" #[] 0)).update h'.objs.size (Obj.mapSeq fun _=>out)).get? b=some o:=by
  intro b o e;have hb:h'.objs.size≠b:=fun q=>by rw[<-q,nn] at e;exact zJ e
  rw[Heap.get?_update_other _ _ hb];refine Heap.get?_push_of_some _ (Heap.get?_push_of_some _ ?_);rw[Heap.get?_update_other _ _ hb];exact Heap.get?_push_of_some _ (hk b o e)
 refine yW.go (s:=s) N I hQ nn kk fun zl _=>?_;have h1:=Heap.get?_update_self (h:=h'.push {cls:=.type "list",data:=.seq acc.toList.toArray}) (Obj.mapSeq fun _=>(#[]:Array Value)) hS rfl;have h2:=Heap.get?_push_of_some (seqObj "list" #[] 0) (Heap.get?_push_of_some (seqObj "tuple" acc.toList.toArray 0) h1);have h3:=Heap.get?_update_self (Obj.mapSeq fun _=>out) h2 (by rfl);exact⟨out,_,h3,ro zl _⟩
where
 readInts {zl:Nm} {qn:Heap}:∀ {ks:List Int} {us:List Value},IntsAre us ks->yb zl qn (ks.map .int) us
 |[],_,.nil=>rfl|k::ks,_,.cons _ t r=>by show yb _ _ (_::_) _;exact⟨_,_,rfl,kb _ _ _ _,readInts r⟩
theorem m7 {E:Value->Shared->Prop}{n:Nat}{Q:Unit->Shared->Prop}(hl:IsL s.heap l items n)(hs:s.heap.IsSliceOf sl (.int 0 t) .none .none)(hz:items.size<=1000000) (h:∀ f:Array Value->Array Value,f items=#[]->Q () {s with heap:=s.heap.update l (Obj.mapSeq f)}):wpAny (model g.prog g.w) A (delItem (.ref l) (.ref sl)) Q E s:=by
 refine wU hs fun os me Ux sM=>?_;have F_:s.TypeIs (.ref sl) "slice":=⟨os,me,Ux⟩;have F9:s.TypeIs (.ref l) "list":=⟨_,hl,rfl⟩;refine wpAny_delItem_slot F9 (by decide) F.slot_list_delitem (wpAny_call_entry F.slot_list_delitem F9 F.entry_list_delitem ?_ (F.args_list_delitem_2 _ _));unfold Builtin.«list.__delitem__»;refine wpAny_bind (wpAny_of_eq (a:=(Value.ref l,[Value.ref sl])) rfl ?_);try dsimp only
 refine wpAny_bind ?_;unfold Builtin.List.listSubscript?;refine wpAny_bind (wpAny_specialOf F_ slice_no_index ?_);simp only[Option.isNone_none,if_true];refine wpAny_pure ?_;try dsimp only
 refine wpAny_bind (wpAny_typeOf F_ ?_);rw[if_neg (by decide)];rw[listSliceParts_eq];refine wpAny_bind (wpAny_bind (wpAny_field me sM (x:=.none) rfl (wpAny_bind (wpAny_listPart .none ?_))));rw[if_neg (by decide)];refine wpAny_bind (wpAny_field me sM (x:=.int 0 t) rfl (wpAny_bind (wpAny_listPart (.int 0 t) ?_)));refine wpAny_bind (wpAny_field me sM (x:=.none) rfl (wpAny_bind (wpAny_listPart .none (wpAny_pure ?_))));try dsimp only
 refine wpAny_bind (wpAny_listItems hl rfl ?_);refine wpAny_bind (wpAny_of_eq (sliceIndices_raw (some 0) none none items.size (by simp)) ?_);refine wpAny_bind (wpAny_rule ?_);have hb:sliceBounds (some 0) none none items.size=(0,(items.size:Int),1):=by unfold sliceBounds;simp only[Option.getD_none,Int.one_pos,if_true,gt_iff_lt];refine Prod.ext ?_ rfl;show max (0:Int) (min (if(0:Int)<0 then 0+(items.size:Int) else 0) (items.size:Int))=0;rw[if_neg (by decide),Int.min_eq_left (Int.natCast_nonneg _)];rfl
 rw[hb];try dsimp only
 have key:∀ (f:Array Value->Array Value),f items=#[]->wpAny (model g.prog g.w) A.in1 (Builtin.List.listUpdate (.ref l) f) (fun _ s'=>Q () s') E s:=fun f hf=>listUpdate_at hl rfl (h f hf) (by rw[sizeLine_eq];exact A11 0x37D6000418FAC00 hz) (by rw[hf];simp);refine wpAny_bind (wpAny_mono (key _ ?_) (fun _ s' q=>?_) fun _ _ e=>e)
 .refine(congrArg List.toArray (a₂:=[]) ?_).trans rfl;rw[List.filterMap_eq_nil_iff];rintro⟨x,k⟩ hx;have hk:k<items.size:=by
   have:=(List.mem_zipIdx hx).2.1;simpa using this
  show(if(if(1:Int)>0 then decide ((0:Int)<=(k:Int))&&decide ((k:Int)<(items.size:Int))&&(((k:Int)-0)%1==0) else _)=true then none else some x)=none;refine if_pos ?_;refine(congrArg (·=true) (if_pos (by decide:(1:Int)>0))).mpr ?_;simp only[Bool.and_eq_true,decide_eq_true_eq,beq_iff_eq];exact⟨⟨Int.natCast_nonneg _,Int.ofNat_lt.mpr hk⟩,Int.emod_one _⟩
 .exact wpAny_bind (wpAny_letGo (wpAny_pure ⟨_,rfl,q⟩))
theorem gj {Q:jy->Prop}(h:z_ g d c ρ H o (fun po HZ=>z_ g d c ρ HZ n (fun pn H2_=>pn=.int 0/\∃ i l,po=.obj i/\H2_ i=some (.list l)/\l.length<=1000000/\Q (.next ρ (H2_.upd i (.list [])))) X) X):
  wR g d c ρ H (.Delete [.Subscript o (.Slice (some n) none none sp) xp] pos) Q X:=by
 intro A env zb za θ s Qc Ec C EI I L hQ hX;refine wpAny_Delete (wpAny_deleteEach_cons (wpAny_delete_Subscript (h A env zb za θ s _ _ C EI I L (fun vo po θZ HZ hZ tkZ qZ GZ rZ=>?_) hX.none)));refine wpAny_Slice ?_;rw[evalPart_some];refine qZ A env zb za θZ _ _ _ C EI GZ.inv (L.go I GZ) (fun vn pn θY H2_ hY tkY qY GY rY=>?_) (hX.none.after GZ);refine a2 qY fun xA zz=>?_;refine bw zz fun i l uY hi hz q=>?_;clear qY;subst xA uY;refine zA (zX rY) fun t zW=>?_;subst zW;refine zg (yz (GY.rd GZ.inv rZ)) fun a ha zm=>?_;subst zm;rw[evalPart_none];refine wpAny_pure ?_;refine wpAny_pure ?_;have GW:=(GZ.trans GY).grow (yw hY {cls:=.type "slice",data:=.fields #[.int 0 t,.none,.none]});refine zB (GW.inv.listAt hi ha) fun items n' hl hr hsz=>?_;refine m7 (g:=g) (t:=t) hl ⟨_,Heap.get?_push_size _ rfl,rfl,rfl⟩ (A22 0x37D610042010406FAC00 hsz hz) fun f hf=>?_;have GV:=qi (g:=g) (S:=yB) GW.inv hi ha hl f (l':=[]) (by rw[hf]);have Ga:=GW.trans GV;exact wpAny_deleteEach_nil (hQ.next ρ θY _ _ tkY q (Ga.mono fun _ f=>f.elim) (L.go I Ga))
theorem mR (h:z_ g d c ρ H value (fun o HZ=>z_ g d c ρ HZ n (fun pn H2_=>pn=.int 0/\∃ i l,o=.obj i/\H2_ i=some (.list l)/\l.length<=1000000/\∀ a,H2_ (.an a)=none->Q (.obj (.an a)) (H2_.upd (.an a) (.list l))) X) X) (ht:autoParam (∀ o r,letTemporaryGo value o r=pure ()) ta._auto_1):z_ g d c ρ H (.Subscript value (.Slice (some n) none none p) pos) Q X:=by
 intro A env zb za θ s Qc Ec C EI I L hQ hX;refine wpAny_Subscript_list_slice (h A env zb za θ s _ _ C EI I L (fun va a θZ HZ hZ tkZ qZ GZ rZ=>?_) hX) ht;rw[evalPart_some];refine qZ A env zb za θZ _ _ _ C EI GZ.inv (L.go I GZ) (fun vn pn θY H2_ hY tkY qY GY rY=>?_) (hX.after GZ);refine a2 qY fun xA zz=>?_;refine bw zz fun i l uY hi hz q=>?_;clear qY;subst xA uY;refine zA (zX rY) fun t zW=>?_;subst zW;refine zg (yz (GY.rd GZ.inv rZ)) fun a ha zm=>?_;subst zm;refine zB (GY.inv.listAt hi ha) fun items n' hl hr hsz=>?_;rw[evalPart_none];refine wpAny_pure ?_;refine⟨a,items,some 0,none,rfl,hl.isList,by rw[sizeLine_eq];exact A22 0x37D610042010418FAC00 hsz hz,.int _ _,.none,?_⟩;have pk:=yw hY {cls:=.type "slice",data:=.fields #[.int 0 t,.none,.none]};have fh:=yw (hY.push {cls:=.type "slice",data:=.fields #[.int 0 t,.none,.none]}) {cls:=.type "list",data:=.seq (slicePick items (some 0) none none)};have K:∀ x o,hY.get? x=some o->((hY.push {cls:=.type "slice",data:=.fields #[.int 0 t,.none,.none]}).push {cls:=.type "list",data:=.seq (slicePick items (some 0) none none)}).get? x=some o:=fun x o e=>fh x o (pk x o e);have rr:=yb.mono (zZ.refl θY) (fun a _ ⟨o,ho,x⟩=>⟨o,K a o ho,x⟩) _ _ hr;have hp:slicePick items (some 0) none none=items:=by rw[kms_pick_eq];unfold kms_pick kms_lo kms_hi;simp only[Int.lt_irrefl,if_false,Int.toNat_zero,Nat.zero_min,List.drop_zero,Nat.sub_zero,Array.length_toList];rw[List.take_of_length_le (by simp)]
 have GW:=Go.newA (g:=g) (F:=zE (zb::za)) (S:=yB) (a:=hY.objs.size+1) (mo:=.list l) GY.inv (Heap.get?_none_of_le (A10 0xD02000)) K
  ⟨items,0,by have:=Heap.get?_push_size (hY.push {cls:=.type "slice",data:=.fields #[.int 0 t,.none,.none]}) (o:={cls:=.type "list",data:=.seq (slicePick items (some 0) none none)}) rfl;rw[Heap.size_push,hp] at this;rw[hp];exact this,by rw[hp] at rr;rw[hp];exact rr⟩
 exact hQ _ _ θY _ _ _ (q _ GW.2) ((GZ.trans GY).trans GW.1) (⟨_,rfl,rfl⟩)
theorem cE (hb:0<=b)(hB:g.B.IsList a its)(hI:IntsAre its.toList ks)(hz:its.size<=10000000) (h:z_ g d c ρ H value (fun o HZ=>o=.raw (.ref a)/\yW HZ (.list ((ks.take b.toNat).map .int)) Q) X) (ht:autoParam (∀ o r,letTemporaryGo value o r=pure ()) ta._auto_1):z_ g d c ρ H (.Subscript value (.Slice none (some (.Constant (.int b) k cp)) none p) pos) Q X:=by
 intro A env zb za θ s Qc Ec C EI I L hQ hX;refine wpAny_Subscript_list_slice (h A env zb za θ s _ _ C EI I L (fun va pa θZ HZ hZ tkZ qZ GZ rZ=>?_) hX) ht;refine a2 qZ fun xA q=>?_;clear qZ;subst xA;cases rZ;have hl:hZ.IsList a its:=let⟨o,ho,r⟩:=hB;⟨o,GZ.inv.stays _ _ ho,r⟩;rw[evalPart_none];refine wpAny_pure ?_;rw[evalPart_some];refine wpAny_Constant_int ?_;refine⟨a,its,none,some b,rfl,hl,by rw[sizeLine_eq];exact A11 0x3FD6000418FAC00 hz,.none,.int _ _,?_⟩;have pk:=yw hZ {cls:=.type "slice",data:=.fields #[.none,.int b tkZ,.none]};have fh:=yw (hZ.push {cls:=.type "slice",data:=.fields #[.none,.int b tkZ,.none]}) {cls:=.type "list",data:=.seq (slicePick its none (some b) none)};have hp:slicePick its none (some b) none=(its.toList.take b.toNat).toArray:=by rw[kms_pick_eq];unfold kms_pick kms_lo kms_hi;have a:¬b<0:=Int.not_lt.mpr hb;simp only[if_neg a,List.drop_zero,Nat.sub_zero];congr 1;rw[kmk_take_min]
 have hn:hZ.get? (hZ.objs.size+1)=none:=Heap.get?_none_of_le (A10 0xD02000);refine yW.go (s:={s with heap:=hZ,toks:=tkZ}) q GZ.inv (fun v p zl H' h' tk z G r=>hQ v p zl H' h' tk z (GZ.trans G) r) hn (fun x o e=>fh x o (pk x o e)) fun zl _=>?_;refine⟨(its.toList.take b.toNat).toArray,0,?_,?_⟩
 .have:=Heap.get?_push_size (hZ.push {cls:=.type "slice",data:=.fields #[.none,.int b tkZ,.none]}) (o:={cls:=.type "list",data:=.seq (slicePick its none (some b) none)}) rfl;rw[Heap.size_push] at this;rw[<-hp];exact this
 .exact takeInts hI b.toNat
where
 takeInts {zl:Nm} {qn:Heap}:∀ {ks:List Int} {us:List Value},IntsAre us ks->∀ n,yb zl qn ((ks.take n).map .int) (us.take n)
 |[],_,.nil,n=>by cases n<;>rfl|k::ks,_,.cons _ t r,0=>rfl|k::ks,_,.cons _ t r,n+1=>by show yb _ _ (_::_) _;exact⟨_,_,rfl,kb _ _ _ _,takeInts r n⟩
theorem Go.adoptN (G:Go g F S θX HX h₀ θ H h)(hH:H (.nm n)=none)(hb:h₀.get? a=none)(hB:g.B.get? a=none)(nF:a∉F)(nd:¬wI θ H a) (r:w6 g (fun m=>if m=n then some a else θ m) h a mo):Go g F S θX HX h₀ (fun m=>if m=n then some a else θ m) (H.upd (.nm n) mo) h:=by
 have I:=G.inv;have ID:θ n=none:=by cases q:θ n with|none=>rfl|some b=>have:=I.named n (by rw[q];rfl);rw[hH] at this;exact zU this
 have le:zZ θ (fun m=>if m=n then some a else θ m):=by
  intro m b e;by_cases q:m=n
  .subst q;rw[ID] at e;exact zJ e
  .simp[q,e]
 have back:∀ i b,(H i).isSome->i.at (fun m=>if m=n then some a else θ m)=some b->i.at θ=some b:=by
  intro i b hi e;cases i with
  |an x=>exact e|nm m=>
   simp only[Id.at] at e;by_cases q:m=n
   .subst q;rw[hH] at hi;exact zU hi
   .rw[if_neg q] at e;exact e
 have fresh:∀ i,(H i).isSome->i.at θ≠some a:=by intro i hi e;refine zA (Yi hi) fun mo hm=>?_;exact nd ⟨i,mo,hm,e⟩
 have Yc:Id.at (fun m=>if m=n then some a else θ m) (.nm n)=some a:=by simp[Id.at]
 refine⟨⟨I.stays,fun j m hj=>?_,fun j1 j2 b h1 h2 e1 e2=>?_,fun m hk=>?_,I.frames⟩,G.nm.trans le,G.keep,G.fram,G.ex,fun b o e d=>?_⟩
 .unfold AH.upd at hj;by_cases q:j=.nm n
  .rw[if_pos q] at hj;cases hj;subst q;exact⟨a,Yc,hB,nF,r⟩
  .rw[if_neg q] at hj;refine xI (I.rep j m hj) fun b e1 e2 e3 rb=>?_;exact⟨b,Id.at_le le e1,e2,e3,rb.mono le (fun _ _ _ _ _ _ e=>e) fun _ e=>e⟩
 .unfold AH.upd at h1 h2;by_cases q1:j1=.nm n
  .by_cases q2:j2=.nm n
   .rw[q1,q2]
   .rw[if_neg q2] at h2;subst q1;rw[Yc] at e1;obtain rfl:=yd e1;exact absurd (back j2 _ h2 e2) (fresh j2 h2)
  .rw[if_neg q1] at h1;by_cases q2:j2=.nm n
   .subst q2;rw[Yc] at e2;obtain rfl:=yd e2;exact absurd (back j1 _ h1 e1) (fresh j1 h1)
   .rw[if_neg q2] at h2;exact I.inj j1 j2 b h1 h2 (back j1 b h1 e1) (back j2 b h2 e2)
 .unfold AH.upd;by_cases q:m=n
  .simp[q]
  .rw[if_neg (by simpa using q)];refine I.named m ?_;simp only[if_neg q] at hk;exact hk
 .refine yE d fun j m hj hx=>?_;clear d;unfold AH.upd at hj;split at hj
  .rename_i q;subst q;rw[Yc] at hx;obtain rfl:=yd hx;rw[hb] at e;exact zJ e
  .exact G.dom b o e ⟨j,m,hj,back j b (by rw[hj];rfl) hx⟩
theorem yW.take (N:yW HZ mo Q)(G:Go g F yB θ H s.heap θZ HZ h')(hQ:XE g F θ H s Q Qc)(hn:s.heap.get? a=none)(hB:g.B.get? a=none)(nF:a∉F)(nd:¬wI θZ HZ a) (r:∀ zl,zZ θZ zl->w6 g zl h' a mo):Qc (.ref a) {s with heap:=h',toks:=tk}:=by
 cases N with
 |an h=>
  have hz:HZ (.an a)=none:=by cases q:HZ (.an a) with|none=>rfl|some m=>exact absurd ⟨.an a,m,q,rfl⟩ nd
  exact hQ _ _ θZ _ h' tk (h a hz) (G.adopt hn hB nF nd (r θZ (zZ.refl _))) (⟨a,rfl,rfl⟩)
 |nm n h0 h=>
  have le:zZ θZ (fun m=>if m=n then some a else θZ m):=by
   intro m b e;by_cases q:m=n
   .subst q;have:=G.inv.named m (by rw[e];rfl);rw[h0] at this;exact zU this
   .simp[q,e]
  exact hQ _ _ _ _ h' tk h (G.adoptN h0 hn hB nF nd (r _ le)) (⟨a,by simp[Id.at],rfl⟩)
theorem m_ (h:z_ g d c ρ H v (fun p HZ=>yW HZ (.dictI [(k,p)]) Q) X):z_ g d c ρ H (.Dict [some (.Constant (.int k) kn kp)] [v] pos) Q X:=by
 intro A env zb za θ s Qc Ec C EI I L hQ hX;refine wpAny_Dict_walk (knd:=intKind g.prog g.w) (by rfl) rfl (by simp) (by simp) (pairTrees_cons_walk (wpAny_Constant_int ?_));have pk:=yw s.heap {cls:=.type "dict",data:=.dict #[]};have G0_:=Go.ext (g:=g) (F:=zE (zb::za)) (S:=yB) I pk;have nD:=y8 s.heap;have dD:¬wI θ H s.heap.objs.size:=fun z=>by obtain⟨o,ho⟩:=I.dom_some z;rw[nD] at ho;exact zJ ho
 have Jd:=Heap.get?_push_size s.heap (o:={cls:=.type "dict",data:=.dict #[]}) rfl;refine h A env zb za θ {s with heap:=s.heap.push {cls:=.type "dict",data:=.dict #[]},toks:=s.toks+1} _ _ C EI G0_.inv (L.go I G0_) (fun va p θZ HZ hZ tkZ qZ GZ rZ=>?_) (hX.after G0_);refine pairTrees_nil_walk ?_;have Je:=GZ.keep _ _ Jd dD (fun z=>z.elim) (xG I nD);have d_:¬wI θZ HZ s.heap.objs.size:=fun z=>dD (GZ.dom _ _ Jd z);have D0:hZ.DictOf (intKind g.prog g.w) s.heap.objs.size []:=by refine vW (Heap.DictOf.new (knd:=intKind g.prog g.w) s.heap) fun o es ep ho r=>?_;rw[Jd] at ho;obtain rfl:=yd ho;exact⟨_,es,ep,Je,r⟩
 refine⟨[(k,va)],⟨xY _ _ _ _,rfl,trivial⟩,D0,fun h' hd hs=>?_⟩;have kk:∀ b o,b≠s.heap.objs.size->hZ.get? b=some o->h'.get? b=some o:=fun b o hb e=>(hs.2 b hb).trans e;have cc:({cls:=.type "dict",data:=.dict #[]}:Obj).cls=.type "tuple"->∀ items n,({cls:=.type "dict",data:=.dict #[]}:Obj).data≠.seq items n:=fun z=>by simp at z
 have tk:=jj Je cc kk;have Ga:=(G0_.trans GZ).other2 nD (xt I nD) Je cc (xG I nD) d_ kk;have rep:∀ zl,zZ θZ zl->w6 g zl h' s.heap.objs.size (.dictI [(k,p)]):=fun zl le=>⟨merged [] [(k,va)],hd,by
  have e:merged ([]:List (Int×Value)) [(k,va)]=[(k,va)]:=by simp[merged,stored]
  rw[e];refine⟨rfl,?_⟩;show yb _ _ (_::_) _;exact⟨va,_,rfl,Rd.mono le tk.isTup _ _ rZ,rfl⟩⟩
 exact yW.take (s:=s) qZ Ga hQ nD (xt I nD) (xG I nD) d_ rep
theorem kq.tk (h:kq g d H ps f mk Q X):zh g d H ps (fun vs=>call f (mk vs).pos (mk vs).kw) Q X:=by intro A za θ s vs Qc Ec C I R hQ hX;exact wpAny_call (h A za θ s vs _ C I R hQ hX)
noncomputable abbrev gH (k:Str):List Value->Args:=fun vs=>match vs with|[a,b,c]=>⟨[a,b],[(k,c)]⟩|_=>⟨vs,[]⟩
theorem fN {f:Str}{a1 a2 v:Expr}{k:Str}{np kp pos:Pos}(hp:uu [a1,a2])(hp2:autoParam (∀ env,starEach [a1,a2] env=(false,eval a1 env)::starEach [a2] env) ta._auto_1) (hf:z_ g d c ρ H (.Name f np) (fun pf HZ=>∃ fv,pf=.raw fv/\keepIn g.K fv=true/\u5 g d c ρ HZ [a1,a2] (fun as H2_=>z_ g d c ρ H2_ v (fun pv HW=>∃ p1 p2,as=[p1,p2]/\kq g d HW [p1,p2,pv] fv (gH k) Q X) X) X) X):z_ g d c ρ H (.Call (.Name f np) [a1,a2] [⟨some k,v,kp⟩] pos) Q X:=by
 intro A env zb za θ s Qc Ec C EI I L hQ hX;refine wpAny_Call_Name_kw (hf A env zb za θ s _ _ C EI I L (fun vf pf θZ HZ hZ tkZ qZ GZ rZ=>?_) hX);refine wU qZ fun fv zW hk q=>?_;clear qZ;subst zW;cases rZ;have Jf:∀ v':Sem Value,(backToKw pos [(some k,v')]).all (·.1.isSome)=true:=fun _=>rfl;refine callWith_of (P:=fun h=>g.K.In h) ?_ (keeps_K hk) (evalArgs_kw2 (Jf _) (q A env zb za θZ _ _ _ pos C EI GZ.inv (L.go I GZ) (fun vs as θY H2_ hY tkY qY GY rY=>?_) (hX.after GZ)) (hp2 env))
 .rw[ju hp];rfl
 .refine kwAll_cons (qY A env zb za θY _ _ _ C EI GY.inv ((L.go I GZ).go GZ.inv GY) (fun vk pk θW HW h3_ tkW qW GW rW=>?_) (hX.after (GZ.trans GY)));refine kwAll_nil ⟨GW.inv.kin C.ok,?_⟩;refine yE qW fun p1 p2 zm W=>?_;clear qW;subst zm;refine zB rY fun v1 _ zm r1 zz=>?_;refine zB zz fun v2 _ wj r2 ZI=>?_;clear rY;subst zm wj ZI;have Ga:=(GZ.trans GY).trans GW;exact W.tk A (zb::za) θW {s with heap:=h3_,toks:=tkW} [v1,v2,vk] _ _ C GW.inv (⟨_,_,rfl,GW.rd GY.inv r1,_,_,rfl,GW.rd GY.inv r2,_,_,rfl,rW,rfl⟩) (hQ.after Ga) (hX.after Ga)
theorem mS (hk:k≠k')(h:z_ g d c ρ H v (fun p HZ=>z_ g d c ρ HZ v' (fun p' H2_=>yW H2_ (.dictI [(k,p),(k',p')]) Q) X) X):z_ g d c ρ H (.Dict [some (.Constant (.int k) kn kp),some (.Constant (.int k') kn' kp')] [v,v'] pos) Q X:=by
 intro A env zb za θ s Qc Ec C EI I L hQ hX;refine wpAny_Dict_walk (knd:=intKind g.prog g.w) (by rfl) rfl (by simp) (by simp) (pairTrees_cons_walk (wpAny_Constant_int ?_));have pk:=yw s.heap {cls:=.type "dict",data:=.dict #[]};have G0_:=Go.ext (g:=g) (F:=zE (zb::za)) (S:=yB) I pk;have nD:=y8 s.heap;have dD:¬wI θ H s.heap.objs.size:=fun z=>by obtain⟨o,ho⟩:=I.dom_some z;rw[nD] at ho;exact zJ ho
 have Jd:=Heap.get?_push_size s.heap (o:={cls:=.type "dict",data:=.dict #[]}) rfl;refine h A env zb za θ {s with heap:=s.heap.push {cls:=.type "dict",data:=.dict #[]},toks:=s.toks+1} _ _ C EI G0_.inv (L.go I G0_) (fun va p θZ HZ hZ tkZ qZ GZ rZ=>?_) (hX.after G0_);refine pairTrees_cons_walk (wpAny_Constant_int ?_);refine qZ A env zb za θZ {s with heap:=hZ,toks:=tkZ+1} _ _ C EI GZ.inv ((L.go I G0_).go G0_.inv GZ) (fun vb p' θY H2_ hY tkY qY GY rY=>?_) (hX.after (G0_.trans GZ));refine pairTrees_nil_walk ?_;have Qp:=GZ.trans GY;have Je:=Qp.keep _ _ Jd dD (fun z=>z.elim) (xG I nD);have d_:¬wI θY H2_ s.heap.objs.size:=fun z=>dD (Qp.dom _ _ Jd z);have D0:hY.DictOf (intKind g.prog g.w) s.heap.objs.size []:=by refine vW (Heap.DictOf.new (knd:=intKind g.prog g.w) s.heap) fun o es ep ho r=>?_;rw[Jd] at ho;obtain rfl:=yd ho;exact⟨_,es,ep,Je,r⟩
 refine⟨[(k,va),(k',vb)],⟨xY _ _ _ _,rfl,xY _ _ _ _,rfl,trivial⟩,D0,fun h' hd hs=>?_⟩;have kk:∀ b o,b≠s.heap.objs.size->hY.get? b=some o->h'.get? b=some o:=fun b o hb e=>(hs.2 b hb).trans e;have cc:({cls:=.type "dict",data:=.dict #[]}:Obj).cls=.type "tuple"->∀ items n,({cls:=.type "dict",data:=.dict #[]}:Obj).data≠.seq items n:=fun z=>by simp at z
 have tk:=jj Je cc kk;have Ga:=(G0_.trans Qp).other2 nD (xt I nD) Je cc (xG I nD) d_ kk;have rZ':=GY.rd GZ.inv rZ;have rep:∀ zl,zZ θY zl->w6 g zl h' s.heap.objs.size (.dictI [(k,p),(k',p')]):=fun zl le=>⟨merged [] [(k,va),(k',vb)],hd,by
  have s6:¬k'=k:=fun q=>hk q.symm;have e:merged ([]:List (Int×Value)) [(k,va),(k',vb)]=[(k,va),(k',vb)]:=by simp[merged,stored,hk,s6]
  rw[e];refine⟨rfl,?_⟩;show yb _ _ (_::_) _;exact⟨va,_,rfl,Rd.mono le tk.isTup _ _ rZ',vb,_,rfl,Rd.mono le tk.isTup _ _ rY,rfl⟩⟩
 exact yW.take (s:=s) qY Ga hQ nD (xt I nD) (xG I nD) d_ rep
end
section
variable {g:Gr} {d:Nat} {c:Scope} {ρ:zS} {H:AH} {X:PV->AH->Prop}
theorem mx {f:Addr}{name qual:Str}{params:Arguments}{body:List Stmt}{scope:Scope}{dV kV doc pm jz ct oc:Value}{an od:Option Addr}{fg:Array (Option Value)}{ps:List PV}{ns:List Str}{Q:PV->AH->Prop} (ho:g.K.lookup f=some ⟨oc,od,.func (fnOf name qual params body scope dV kV doc pm an jz ct),fg⟩) (Jg:codeIn g.K jz qual=true) (Yd:jX ps fun vs=>bindArgs (fnOf name qual params body scope dV kV doc pm an jz ct) ⟨vs,[]⟩=pure (ns.zip vs)) (yf:ns.length=ps.length) (Jr:ns.Nodup) (Jo:∀ x∈ns,scope.names.lookup x=some .local\/scope.names.lookup x=some .cell) (kJ:∀ x∈scope.names,x.2≠.free) (hk:scope.kind=.function) (Uw:scope.isCoroutine=false) (Xb:scope.isGenerator=false)
  {A:Around} {θ:Nm} {s:Shared} {vs:List Value} {Rc:Result->Shared->Prop} (d8:g.Ok) (Ch:A.handled=none) (Cd:A.depth+4*(d+1)<=890) (Cu:A.units+60*(d+1)<=9800) (Cf:A.frames=some [])
  (I:HI g θ H (zE []) s.heap) (R:yb θ s.heap ps vs) (hQ:∀ v p zl H' h' tk,Q p H'->Go g (zE []) yB θ H s.heap zl H' h'->Rd zl h' p v->Rc (.ok (.ret v)) {s with heap:=h',toks:=tk})
  (h:uS g d scope (ns.zip ps) H body (jy.val Q) fun _ _=>False):codeAny (model g.prog g.w) A (.call (.ref f) ⟨vs,[]⟩) Rc s:=by
 refine YW d8.T fun p' loose Ye mg mb T=>?_;have XK:=I.kin d8;refine codeAny_call_cells (fd:=fnOf name qual params body scope dV kV doc pm an jz ct) (body:=body) (binds:=ns.zip vs) (by unfold recursionLimit;exact A21 0x1BD796D0A08902001003E8F2C01 Cd) (XK _ _ ho) rfl (T.nolimit.keeps I.stays) (codeRec_of XK Jg) rfl (Yd.use vs R.length) rfl (fun x hx=>?_) (fun s1_ x=>?_) Uw Xb hk
 .rcases Jo _ (List.of_mem_zip (a:=x.1) (b:=x.2) hx).1 with z|z
  .exact .inl z
  .exact .inr ⟨z,u3 _ _ _ _ (.inr (wV z))⟩
 refine yE x.done fun hZ tkZ zm hkZ=>?_;subst zm;have hL:=y8 s.heap;generalize hE:callEnvC (fnOf name qual params body scope dV kV doc pm an jz ct) s.heap.objs.size f=env at x|-;have eL:env.locals=s.heap.objs.size:=by rw[<-hE];rfl
 have eF:env.frame=some s.heap.objs.size:=by rw[<-hE];rfl
 have eS:env.scope=scope:=by rw[<-hE];rfl
 have eC:env.cells=cellsFrom (s.heap.objs.size+1) scope.names []:=by rw[<-hE];rfl
 have eG:env.globals=mainGlobals:=by rw[<-hE];rfl
 have eB:env.builtins=builtinsNs:=by rw[<-hE];rfl
 have jC:=x.toInCall.ns;rw[eL] at jC;have Jb:zE (env::[])=s.heap.objs.size::zE []:=by unfold zE;rw[List.filterMap_cons,eF]
 have IZ:HI g θ H (zE (env::[])) hZ:=by rw[Jb];exact I.enter hL hkZ jC
 have fresh:∀ a,s.heap.objs.size<=a->s.heap.get? a=none:=fun a ha=>Heap.get?_none_of_le ha;have Xf:∀ a,s.heap.objs.size<=a->¬wI θ H a:=fun a ha z=>by obtain⟨o,ho⟩:=I.dom_some z;rw[fresh a ha] at ho;exact zJ ho
 have RZ:yb θ hZ ps vs:=(Go.ext (S:=yB) I hkZ).rds I R;have bg:=fun x p (e:zS.get (ns.zip ps) x=some p)=>Km (kindOf:=env.kindOf) (m:=fun _=>none) (cm:=fun _=>none) yf Jr RZ x p e;have LZ:LI g θ H (zE (env::[])) env (ns.zip ps) hZ:=by
  refine⟨?_,?_,⟨_,x.toInCall.ns,fun y p e k=>(bg y p e).1 k⟩,fun y a e=>?_,fun y z a e1 e2=>name_of_addr x.apart (mem_of_lookup e1) (mem_of_lookup e2)⟩
  .rw[eL];exact xt I hL
  .rw[eL];exact Xf _ (Nat.le_refl _)
  .have ha:=x.above y a (mem_of_lookup e);rw[eL] at ha;refine zg (x.cell y a e) fun o yg xi=>?_;refine⟨xt I (fresh a (Nat.le_of_lt ha)),Xf a (Nat.le_of_lt ha),?_,o,_,yg,xi,fun p ep k=>?_⟩
   .rw[Jb];intro hm;rcases kS hm with q|q
    .exact absurd q (Nat.ne_of_gt ha)
    .exact xG I (fresh a (Nat.le_of_lt ha)) q
   .exact(bg y p ep).2 (by rcases k with k|k<;>rw[k]<;>decide)
 have CZ:CI g (A.deeper env) d (env::[]):=by
  refine⟨d8,Ch,by show A.depth+1+_<=_;exact A21 0x6F5E5B4282240800400DEBCB0912D02100 Cd,by show A.units+3+_<=_;exact A21 0x1324796D0A001E7920400204C91E58401E792F02100 Cu,Around.frames_deeper Cf,fun e he=>?_,by simp⟩;rcases kS he with q|q
  .subst q;exact⟨by rw[eS,hk];decide,⟨_,eF⟩,by rw[eS];exact Xb,by rw[eS];exact Uw,eB,eG⟩
  .exact wg q
 have EI:wh scope env env:=⟨eS,hk,eG,eB,rfl,fun y hy=>by
  rcases hy with hy|hy
  .rw[eC];exact Yi (u3 _ _ _ _ (.inr (wV hy)))
  .exact absurd rfl (kJ (y,.free) (wV hy))⟩
 have lv:∀ {zl:Nm} {H':AH} {h':Heap},Go g (zE (env::[])) (xX env) θ H hZ zl H' h'->Go g (zE []) yB θ H s.heap zl H' h':=fun G=>
  Go.leave (L:=s.heap.objs.size) hL (fun b hb=>by
   rcases hb with q|⟨y,q⟩
   .rw[q,eL];exact hL
   .have ha:=x.above y b (mem_of_lookup q);rw[eL] at ha;exact fresh b (Nat.le_of_lt ha)) hkZ (Jb▸G)
 refine h (A.deeper env) env env [] θ {s with heap:=hZ,toks:=tkZ} _ _ CZ EI IZ LZ ⟨?_,?_,?_,?_⟩ ?_
 .intro zO zl H' h' tk q G _;exact hQ _ _ zl H' h' tk q (lv G) rfl
 .intro zO zl H' h' tk q;exact q.elim
 .intro zO zl H' h' tk q;exact q.elim
 .intro v p zl H' h' tk q G r;exact hQ v p zl H' h' tk q (lv G) r
 .intro e p zl H' h' tk q;exact q.elim
end
section
set_option genSizeOf false
set_option genCtorIdx false
set_option genSizeOf false
set_option genInjectivity false
inductive xM where|next (ρ:Lc) (H:AH)|cont (ρ:Lc) (H:AH)|brk (ρ:Lc) (H:AH)|ret (p:PV) (H:AH)
structure Cx where
 g:Gr
 T:Tx
 d:Nat
 s:Sc
 Q:xM->Prop
 X:PV->AH->Prop
noncomputable def lo (s:Sc)(ρ:Lc):zS:=(s.c.names.zip ρ).filterMap fun x=>x.2.map fun p=>(x.1.1,p)
def WE (x:Cx)(ρ:Lc)(H:AH)(e:RE)(Q:PV->AH->Prop):Prop:=e.wf x.T x.s=true->z_ x.g x.d x.s.c (lo x.s ρ) H (e.ast x.T x.s) Q x.X
def kL (x:Cx)(ρ:Lc)(H:AH)(es:RE)(Q:List PV->AH->Prop):Prop:=es.wfs x.T x.s=true->u5 x.g x.d x.s.c (lo x.s ρ) H (es.asts x.T x.s) Q x.X
def WB (x:Cx)(ρ:Lc)(H:AH)(e:RE)(Q:Bool->AH->Prop):Prop:=e.wf x.T x.s=true->kM x.g x.d x.s.c (lo x.s ρ) H (e.ast x.T x.s) Q x.X
def K8 (x:Cx)(ρ:Lc)(H:AH)(op:BoolOp)(es:RE)(Q:Bool->AH->Prop):Prop:=es.wfs x.T x.s=true->YS x.g x.d x.s.c (lo x.s ρ) H op (es.asts x.T x.s) Q x.X
def qT (s:Sc)(Q:xM->Prop):jy->Prop|.next zO H'=>∃ σ,xK (lo s σ) zO/\Q (.next σ H')|.cont zO H'=>∃ σ,xK (lo s σ) zO/\Q (.cont σ H')|.brk zO H'=>∃ σ,xK (lo s σ) zO/\Q (.brk σ H')|.ret p H'=>Q (.ret p H')
def WS (x:Cx)(ρ:Lc)(H:AH)(b:RS)(Q:xM->Prop):Prop:=b.wfs x.T x.s=true->uS x.g x.d x.s.c (lo x.s ρ) H (b.asts x.T x.s) (qT x.s Q) x.X
def W1 (x:Cx)(ρ:Lc)(H:AH)(b:RS)(Q:xM->Prop):Prop:=b.wf x.T x.s=true->wR x.g x.d x.s.c (lo x.s ρ) H (b.ast x.T x.s) (qT x.s Q) x.X
section
variable {g:Gr} {d:Nat} {c:Scope} {ρ:zS} {H:AH} {X:PV->AH->Prop}
theorem z_.mono (h:z_ g d c ρ H e Q X)(k:∀ p H',Q p H'->Q' p H'):z_ g d c ρ H e Q' X:=fun A env zb za θ s Qc Ec C EI I L hQ hX=>h A env zb za θ s Qc Ec C EI I L (fun v p zl H' h' tk q=>hQ v p zl H' h' tk (k p H' q)) hX
theorem kM.mono (h:kM g d c ρ H e Q X)(k:∀ p H',Q p H'->Q' p H'):kM g d c ρ H e Q' X:=fun A env zb za θ s Qc Ec C EI I L hQ hX=>h A env zb za θ s Qc Ec C EI I L (fun p zl H' h' tk q=>hQ p zl H' h' tk (k p H' q)) hX
theorem Y7.mono (hQ:Y7 g F env θ H s Q' Qc)(k:∀ o,Q o->Q' o):Y7 g F env θ H s Q Qc:=⟨fun ρ zl H' h' tk q=>hQ.next ρ zl H' h' tk (k _ q),fun ρ zl H' h' tk q=>hQ.cont ρ zl H' h' tk (k _ q),fun ρ zl H' h' tk q=>hQ.brk ρ zl H' h' tk (k _ q),fun v p zl H' h' tk q=>hQ.ret v p zl H' h' tk (k _ q)⟩
theorem uS.mono (h:uS g d c ρ H b Q X)(k:∀ o,Q o->Q' o):uS g d c ρ H b Q' X:=fun A env zb za θ s Qc Ec C EI I L hQ hX=>h A env zb za θ s Qc Ec C EI I L (hQ.mono k) hX
theorem wR.mono (h:wR g d c ρ H b Q X)(k:∀ o,Q o->Q' o):wR g d c ρ H b Q' X:=fun A env zb za θ s Qc Ec C EI I L hQ hX=>h A env zb za θ s Qc Ec C EI I L (hQ.mono k) hX
theorem ag (k:xK σ ρ)(h:uS g d c σ H b Q X):uS g d c ρ H b Q X:=fun A env zb za θ s Qc Ec C EI I L hQ hX=>h A env zb za θ s Qc Ec C EI I (L.le k) hQ hX
end
theorem Sc.look (s:Sc)(h:s.kd i=some k):s.c.names.lookup (s.nm i)=some k:=by
 have key:∀ (l:List (Str×NameKind)) (i:Nat) (x:Str) (k:NameKind),(l.map (·.1)).Nodup->l[i]?=some (x,k)->l.lookup x=some k:=by
  intro l;induction l with
  |nil=>intro i x k _ e;exact zJ e|cons y l ih=>
   intro i x k nd e;obtain⟨y,ky⟩:=y;rw[List.map_cons,List.nodup_cons] at nd;cases i with
   |zero=>cases e;rw[List.lookup_cons_self]|succ i=>
    have hx:x≠y:=by rintro rfl;exact nd.1 (List.mem_map.mpr ⟨_,List.mem_of_getElem? e,rfl⟩)
    rw[List.lookup_cons,beq_false_of_ne hx];exact ih i x k nd.2 e
 unfold Sc.kd at h;unfold Sc.nm;split at h
 .rename_i x hx;obtain rfl:=yd h;exact key _ _ _ _ s.nd hx
 .exact zJ h
theorem Zf (s:Sc)(ρ:Lc)(y:Str)(q:PV):(lo s ρ).get y=some q↔∃ (i:Nat) (k:NameKind),s.c.names[i]?=some (y,k)/\ρ[i]?=some (some q):=by
 have key:∀ (l:List (Str×NameKind)) (ρ:Lc),(l.map (·.1)).Nodup->(zS.get ((l.zip ρ).filterMap fun x=>x.2.map fun p=>(x.1.1,p)) y=some q↔∃ (i:Nat) (k:NameKind),l[i]?=some (y,k)/\ρ[i]?=some (some q)):=by
  intro l;induction l with
  |nil=>intro ρ _;exact⟨fun h=>(zJ h),fun⟨i,k,h,_⟩=>(zJ h)⟩|cons x l ih=>
   intro ρ nd;obtain⟨x,kx⟩:=x;rw[List.map_cons,List.nodup_cons] at nd;cases ρ with
   |nil=>exact⟨fun h=>(zJ h),fun⟨i,k,_,h⟩=>(zJ h)⟩|cons o ρ=>
    have hz:(∃ (i:Nat) (k:NameKind),((x,kx)::l)[i]?=some (y,k)/\(o::ρ)[i]?=some (some q))↔(x=y/\o=some q)\/∃ (i:Nat) (k:NameKind),l[i]?=some (y,k)/\ρ[i]?=some (some q):=by
     constructor
     .intro zq;refine yE zq fun i k h1 h2=>?_;clear zq;cases i with|zero=>cases h1;cases h2;exact .inl ⟨rfl,rfl⟩|succ i=>exact .inr ⟨i,k,h1,h2⟩
     .rintro(⟨rfl,rfl⟩|⟨i,k,h1,h2⟩)
      .exact⟨0,kx,rfl,rfl⟩
      .exact⟨i+1,k,h1,h2⟩
    rw[hz,<-ih ρ nd.2];have out:∀ z,zS.get ((l.zip ρ).filterMap fun x=>x.2.map fun p=>(x.1.1,p)) x=some z->False:=by
     intro z e;have:x∈l.map (·.1):=by have:=uU e;simp only[List.mem_filterMap,Option.map_eq_some_iff] at this;refine zg this fun wd h1 zz=>?_;refine zg zz fun p h2 h3=>?_;clear this;obtain⟨a,b⟩:=wd;cases h3;exact List.mem_map.mpr ⟨a,(List.of_mem_zip h1).1,rfl⟩
     exact nd.1 this
    cases o with
    |none=>show zS.get ((l.zip ρ).filterMap _) y=some q↔_;exact⟨.inr,fun h=>h.elim (fun h=>(by cases h.2)) id⟩|some p=>
     show List.lookup y ((x,p)::(l.zip ρ).filterMap _)=some q↔_;rw[List.lookup_cons];by_cases hy:y=x
     .subst hy;rw[beq_self_eq_true];exact⟨fun h=>.inl ⟨rfl,h⟩,fun h=>h.elim (fun h=>h.2) fun h=>(out q h).elim⟩
     .rw[beq_false_of_ne hy];exact⟨.inr,fun h=>h.elim (fun h=>absurd h.1.symm hy) id⟩
 exact key _ _ s.nd
theorem Yz (h:s.kd i=some k)(e:ρ[i]?=some (some p)):(lo s ρ).get (s.nm i)=some p:=by
 unfold Sc.kd at h;unfold Sc.nm;split at h
 .rename_i x hx;exact(Zf s ρ x.1 p).mpr ⟨i,x.2,hx,e⟩
 .exact zJ h
theorem v5 (h:s.kd i=some k):xK (lo s (ρ.set i (some p))) ((lo s ρ).put (s.nm i) p):=by
 intro y q e;refine yE ((Zf _ _ _ _).mp e) fun j kj h1 h2=>?_;rw[zS.get_put];unfold Sc.kd at h;unfold Sc.nm;split at h
 .rename_i x hx;rw[List.getElem?_set] at h2;by_cases hij:i=j
  .subst hij;rw[if_pos rfl] at h2;split at h2
   .cases h2;rw[hx] at h1;obtain rfl:=yd h1;rw[if_pos rfl]
   .exact zJ h2
  .rw[if_neg hij] at h2;have wJ:y≠x.1:=by
    rintro rfl;refine hij ?_;have a1:(s.c.names.map (·.1))[i]?=some x.1:=by rw[List.getElem?_map,hx];rfl
    have a2:(s.c.names.map (·.1))[j]?=some x.1:=by rw[List.getElem?_map,h1];rfl
    exact(List.getElem?_inj (xU a1).1 s.nd).mp (a1.trans a2.symm)
   rw[if_neg wJ];exact(Zf _ _ _ _).mpr ⟨j,kj,h1,h2⟩
 .exact zJ h
theorem cG (h:xK (lo s ρ) σ)(hk:s.kd i=some k)(hy:s.nm i=y):xK (lo s (ρ.set i (some p))) (σ.put y p):=by
 subst hy;intro z q e;have:=v5 hk z q e;rw[zS.get_put] at this|-;split
 .rename_i h1;rwa [if_pos h1] at this
 .rename_i h1;rw[if_neg h1] at this;exact h z q this
end
section
variable {T:Tx} {s:Sc} {e:RE}
theorem Ks (h:e.wf T s=true)(r:List Expr)(env:Env):starEach (e.ast T s::r) env=(false,eval (e.ast T s) env)::starEach r env:=by
 cases e with
 |raw e=>cases e<;>first|exact zU h|rfl
 |_=>first|exact zU h|rfl
theorem wW (h:e.wfs T s=true):uu (e.asts T s):=by induction e with|n=>intro env;rfl|k e r _ ih=>intro env;refine a2 (yP (show(e.wf T s&&r.wfs T s)=true from h)) fun h1 h2=>?_;show starEach (e.ast T s::r.asts T s) env=_;rw[Ks h1,ih h2 env];rfl|_=>exact zU h
theorem ie (h:e.obj=true)(name:Str)(env:Env)(w:Sem Value):attributeBase (e.ast T s) name env w=w:=by cases e<;>first|exact zU h|rfl
theorem mM (h:e.wfs T s=true):(e.asts T s).length=e.len:=by induction e with|n=>rfl|k e r _ ih=>refine a2 (yP (show(e.wf T s&&r.wfs T s)=true from h)) fun _ h2=>?_;show(r.asts T s).length+1=r.len+1;rw[ih h2]|_=>exact zU h
theorem hO (h:e.obj=true){name:Str}{ap pos:Pos}{a:RE}(ha:a.wfs T s=true)(hn:a.len<30)(hp:Nat.beq ap.endLine pos.line=true)(env:Env):∃ pl:Sem Bool,eval (.Call (.Attribute (e.ast T s) name ap) (a.asts T s) [] pos) env=(do
   let ov <-eval (e.ast T s) env
   standAt ap.atName
   let(f,first) <-holding [ov] (getMethod ov name pl)
   callWith pos f first (backTo pos (starEach (a.asts T s) env)) []):=by
 refine⟨do return(<-importBound (e.ast T s) env).getD true,?_⟩;have h0:eval (.Call (.Attribute (e.ast T s) name ap) (a.asts T s) [] pos) env=(do
   let ov <-attributeBase (e.ast T s) name env (eval (e.ast T s) env)
   standAt ap.atName
   methodCall (e.ast T s) name ap pos env ov ((a.asts T s).length+0) (backTo pos (starEach (a.asts T s) env)) []):=rfl
 have h1:methodCallForm ((a.asts T s).length+0) (backTo pos (starEach (a.asts T s) env)) []=true:=by unfold methodCallForm;have:=ju (wW ha) pos env;rw[List.all_eq_not_any_not];simp only[Bool.not_not,this,mM ha];simpa using hn
 have h2:(ap.endLine==pos.line)=true:=beq_iff_eq.mpr (Nat.eq_of_beq_eq_true hp);rw[h0,ie h];unfold methodCall methodCallPos calleeOf;rw[h1,h2];rfl
theorem gX (h:e.obj=true)(env:Env):eval (.Attribute (e.ast T s) name pos) env=(do
   let ov <-eval (e.ast T s) env
   standAt pos.atName
   let r <-holding [ov] (getAttr ov name true)
   letTemporaryGo (e.ast T s) ov r
   pure r):=by
 cases e<;>first|exact zU h|with_unfolding_all rfl
theorem u9 (h:e.plain=true)(t:Option Expr)(n:Nat)(env:Env):swapsWith (e.ast T s) t n env=pure false:=by cases e<;>first|exact zU h|rfl
theorem fU (h:e.tst=true)(env:Env)(whole:Sem Value):isTrue (e.ast T s) env whole=(do let v <-whole;standAt (e.ast T s).pos;holding [v] (truthy v)):=by cases e<;>first|exact zU h|rfl
theorem Ua (h:e.plain=true)(op:CmpOp):behindInMarks op (e.ast T s)=false:=by cases e<;>first|exact zU h|rfl
theorem nj (h:e.plain=true)(o i:Value):subscripted (e.ast T s) false o i=operate [o,i] (getItem o i):=by cases e<;>first|exact zU h|rfl
theorem X_ (h:e.plain=true)(env:Env)(x:Value):foldedSetIterable (e.ast T s) env x=pure x:=by cases e<;>first|exact zU h|rfl
theorem fE (h:e.plain=true)(h2:e.noTup=true)(ts:List Expr)(n:Nat)(env:Env):swapsWithSole ts (e.ast T s) n env=pure false:=by
 match ts with
 |[]=>rfl|[t]=>exact u9 h _ _ _|_::_::_=>rfl
end
section
set_option genSizeOf false
set_option genInjectivity false
set_option genCtorIdx false
structure Fo where
 m:Nat
 j:Nat
 C:Addr
 vs:List (Nat×PV)
noncomputable def ux {α:Type}:List (Nat×α)->Nat->Option α|[],_=>none|(a,v)::r,m=>bif Nat.beq m a then some v else ux r m
theorem hV {α:Type}{a m:Nat}{v q:α}{r:List (Nat×α)}{G:Prop}(h:ux ((a,v)::r) m=some q)(k:m=a->v=q->G)(n:Nat.beq m a=false->ux r m=some q->G):G:=by
 have h:(bif Nat.beq m a then some v else ux r m)=some q:=h;by_cases e:Nat.beq m a=true
 .rw[e] at h;exact k (Nat.eq_of_beq_eq_true e) (yd h)
 .rw[Bool.eq_false_iff.mpr e] at h;exact n (Bool.eq_false_iff.mpr e) h
noncomputable def XY:List Fo->Nat->Option Fo|[],_=>none|f::r,m=>bif Nat.beq m f.m then some f else XY r m
noncomputable def U0 (F:List Fo)(m k:Nat):Option PV:=match XY F m with
 |some f=>ux f.vs k|none=>none
noncomputable def aC (mT:List (Addr×List (Nat×Addr)))(F:List Fo)(m k:Nat):Option Addr:=match XY F m with
 |some f=>(match ux f.vs k with
  |some _=>none|none=>(match ux mT f.C with
   |some t=>ux t k|none=>none))
 |none=>none
structure h_ (g:Gr)(T:Tx)(H:AH)(f:Fo):Prop where
 inst:H (.nm f.m)=some (.inst f.C (.nm f.j))
 ns:H (.nm f.j)=some (.ns (f.vs.map fun x=>(xr T.aN x.1,x.2)))
 at_:∀ k q,ux f.vs k=some q->Zu g.K f.C (xr T.aN k)=true/\∀ v,q≠.raw v
 key:∀ x∈f.vs,x.1<T.aN.length
def Fa (g:Gr)(T:Tx)(H:AH):List Fo->Prop|[]=>True|f::r=>h_ g T H f/\Fa g T H r
structure GT (g:Gr)(T:Tx):Prop where
 exc:g.Ok->WJ g 48
 nd:T.aN.Nodup
 glo:∀ (j:Nat) (y:Str) (q:PV),T.gT[j]?=some (y,q)->∀ (c:Scope) (d:Nat) (ρ:zS) (H:AH) (Q X:PV->AH->Prop) (pos:Pos),c.names.lookup y=some .globalImplicit->Q q H->z_ g d c ρ H (.Name y pos) Q X
 cal:∀ (j:Nat) (y:Str) (f:Value),T.gT[j]?=some (y,.raw f)->vu g f
 met:∀ (C:Addr) (t:List (Nat×Addr)) (k f:Nat),ux T.mT C=some t->ux t k=some f->k<T.aN.length/\Zi g.K C (xr T.aN k) f=true
def q9 (g:Gr)(d:Nat)(H:AH)(a b:PV)(Q X:PV->AH->Prop):Prop:=∀ value slice,(∀ o i,subscripted slice false o i=operate [o,i] (getItem o i))->zh g d H [a,b] (t2 (subscriptTail value slice)) Q X
structure q8 (g:Gr)(d:Nat)(H:AH)(po pk p:PV)(K:AH->Prop):Prop where
 h:∀ {A:Around} {za:List Env} {θ:Nm} {s:Shared} {vo vk v:Value} {Qc:Unit->Shared->Prop} {Ec:Value->Shared->Prop},
 CI g A d za->HI g θ H (zE za) s.heap->Rd θ s.heap po vo->Rd θ s.heap pk vk->Rd θ s.heap p v->
 (∀ H' h' tk,K H'->Go g (zE za) yB θ H s.heap θ H' h'->Qc () {s with heap:=h',toks:=tk})->wpAny (model g.prog g.w) A (setItem vo vk v) Qc Ec s
inductive Y6 (g:Gr)(d:Nat)(H:AH)(p:PV)(name:Str)(ps:List PV)(Q X:PV->AH->Prop):Prop
 |mk (fv:Value) (h:uC g d H p name fv) (ok:vu g fv) (k:zh g d H (p::ps) (fun vs=>call fv vs) Q X)
structure YV (g:Gr)(d:Nat)(H:AH)(po p:PV)(name:Str)(K:AH->Prop):Prop where
 h:∀ {A:Around} {za:List Env} {θ:Nm} {s:Shared} {vo v:Value} {Qc:Unit->Shared->Prop} {Ec:Value->Shared->Prop},
 CI g A d za->HI g θ H (zE za) s.heap->Rd θ s.heap po vo->Rd θ s.heap p v->
 (∀ H' h' tk,K H'->Go g (zE za) yB θ H s.heap θ H' h'->Qc () {s with heap:=h',toks:=tk})->wpAny (model g.prog g.w) A (setAttr vo name v) Qc Ec s
inductive nW (H:AH)(Q:PV->AH->Prop):Prop
 |I (h:yW H (.dictI []) Q)|S (h:yW H (.dictS []) Q)|T (h:yW H (.dictT []) Q)
inductive dw (g:Gr)(d:Nat)(H:AH)(p:PV)(K:Bool->Prop):Prop
 |mk (b:Bool) (h:Yb g d H p b) (k:K b)
inductive KP (g:Gr)(H0 H:AH)(p:PV)(X:PV->AH->Prop):Prop
 |mk (a da:Addr) (l:List (Str×PV)) (ball:PV) (e:p=.obj (.an a)) (h1:H (.an a)=some (.exc g.C (some (.an da)))) (h2:H (.an da)=some (.ns l)) (h3:zS.get l "ball"=some ball) (h4:H0 (.an a)=none) (h5:H0 (.an da)=none) (k:X ball ((H.del (.an a)).del (.an da)))
def Z_ (Inv:Lc->AH->Prop)(src:qJ)(Q:xM->Prop):xM->Prop|.next σ H=>vD src H/\Inv σ H|.cont σ H=>vD src H/\Inv σ H|.brk σ H=>Q (.next σ H)|.ret p H=>Q (.ret p H)
inductive ql (x:Cx)(i:Nat)(b:RS)(src:qJ)(Q:xM->Prop)(l:List PV)(ρ:Lc)(H:AH):Prop
 |mk (Inv:List PV->Lc->AH->Prop) (h0:Inv l ρ H) (h:∀ p r zO H',Inv (p::r) zO H'->WS {x with Q:=Z_ (Inv r) src Q} (zO.set i (some p)) H' b (Z_ (Inv r) src Q)) (h1:∀ zO H',Inv [] zO H'->Q (.next zO H'))
inductive ZU (x:Cx)(i:Nat)(b:RS)(Q:xM->Prop)(ρ:Lc)(H:AH):PV->Prop
 |tup (l:List PV) (h:ql x i b none Q l ρ H):ZU x i b Q ρ H (.tup l)|obj (j:Id) (l:List PV) (h0:H j=some (.list l)) (hz:l.length<=1000000) (h:ql x i b (some (j,l)) Q l ρ H):ZU x i b Q ρ H (.obj j)
inductive EF where|att (k:Nat)|binR (op:Operator) (r:RE)|binV (op:Operator) (a:PV)|una (op:UnaryOp)|cmpR (op:CmpOp) (r:RE)|cmpV (op:CmpOp) (a:PV)|subR (v i:RE)|subV (v i:RE) (a:PV)|tupG (done:List PV) (es:RE)|lstG (done:List PV) (es:RE)|ifeZ (b o:RE)|tst|tsb|notZ|bopV (op:BoolOp) (y:RE)|bopZ (op:BoolOp) (es:RE)|calG (f:Value) (done:List PV) (es:RE)|clvF (as:RE)|metO (k:Nat) (as:RE)|asn (i:Nat)|drp|ret|augV (i:Nat) (op:Operator) (a:PV)|un2 (i j:Nat)|asA (o:RE) (k:Nat)|asB (p:PV) (k:Nat)|siA (o i:RE)|siB (p:PV) (i:RE)|siC (p po:PV)|iffZ (b o:RS)|whlZ (b:RS)|rai (H0:AH)|foI (i:Nat) (b:RS)
inductive YF where|E (e:RE)|V (p:PV)|T (e:RE)|Z (z:Bool)|S (b:RS)|N
def pH (Q:xM->Prop)(N:Lc->AH->Prop):xM->Prop|.next ρ H=>N ρ H|o=>Q o
def sN (x:Cx):List RS->Lc->AH->Prop|[],ρ,H=>x.Q (.next ρ H)|r::rs,ρ,H=>WS x ρ H r (pH x.Q (sN x rs))
def uw (x:Cx)(rs:List RS):xM->Prop:=pH x.Q (sN x rs)
mutual
def sV (x:Cx)(rs:List RS)(ρ:Lc):List EF->PV->AH->Prop|[],_,_=>False|.att m::k,p,H=>zh x.g x.d H [p] (t1 fun v=>getAttr v (xr x.T.aN m) true) (sV x rs ρ k) x.X|.binR op r::k,a,H=>WE x ρ H r fun b H2_=>zh x.g x.d H2_ [a,b] (t2 (binaryOp op)) (sV x rs ρ k) x.X|.binV op a::k,b,H=>zh x.g x.d H [a,b] (t2 (binaryOp op)) (sV x rs ρ k) x.X|.una op::k,a,H=>zh x.g x.d H [a] (t1 (unaryOp op)) (sV x rs ρ k) x.X|.cmpR op r::k,a,H=>WE x ρ H r fun b H2_=>zh x.g x.d H2_ [a,b] (t2 (compareOp op)) (sV x rs ρ k) x.X|.cmpV op a::k,b,H=>zh x.g x.d H [a,b] (t2 (compareOp op)) (sV x rs ρ k) x.X|.subR _ i::k,a,H=>WE x ρ H i fun b H2_=>q9 x.g x.d H2_ a b (sV x rs ρ k) x.X|.subV _ _ a::k,b,H=>q9 x.g x.d H a b (sV x rs ρ k) x.X|.tupG done es::k,a,H=>kL x ρ H es fun as H2_=>(done++a::as).length<=1000000/\sV x rs ρ k (.tup (done++a::as)) H2_|.lstG done es::k,a,H=>kL x ρ H es fun as H2_=>(done++a::as).length<=1000000/\yW H2_ (.list (done++a::as)) (sV x rs ρ k)|.tst::k,p,H=>dw x.g x.d H p fun b=>sZ x rs ρ k b H|.tsb::k,p,H=>∃ z,p=.bool z/\sZ x rs ρ k z H|.bopV op y::k,p,H=>dw x.g x.d H p fun b=>if(b==(match op with|.Or=>true|.And=>false)) then sV x rs ρ k p H else WE x ρ H y (sV x rs ρ k)|.calG f done es::k,a,H=>kL x ρ H es fun as H2_=>zh x.g x.d H2_ (done++a::as) (fun vs=>call f vs) (sV x rs ρ k) x.X|.clvF as::k,p,H=>∃ fv,p=.raw fv/\vu x.g fv/\kL x ρ H as fun as H2_=>zh x.g x.d H2_ as (fun vs=>call fv vs) (sV x rs ρ k) x.X|.metO m as::k,p,H=>∃ fv,uC x.g x.d H p (xr x.T.aN m) fv/\vu x.g fv/\kL x ρ H as fun as H2_=>zh x.g x.d H2_ (p::as) (fun vs=>call fv vs) (sV x rs ρ k) x.X|.asn i::_,p,H=>sN x rs (ρ.set i (some p)) H|.drp::_,_,H=>sN x rs ρ H|.ret::_,p,H=>x.Q (.ret p H)|.augV i op a::_,b,H=>zh x.g x.d H [a,b] (t2 (inplaceOp op)) (fun p H2_=>sN x rs (ρ.set i (some p)) H2_) x.X|.un2 i j::_,p,H=>∃ a b,p=.tup [a,b]/\sN x rs ((ρ.set i (some a)).set j (some b)) H|.asA o m::_,p,H=>WE x ρ H o fun po H2_=>YV x.g x.d H2_ po p (xr x.T.aN m) (sN x rs ρ)|.asB p m::_,po,H=>YV x.g x.d H po p (xr x.T.aN m) (sN x rs ρ)|.siA o i::_,p,H=>WE x ρ H o fun po H2_=>WE x ρ H2_ i fun pk HW=>q8 x.g x.d HW po pk p (sN x rs ρ)|.siB p i::_,po,H=>WE x ρ H i fun pk HW=>q8 x.g x.d HW po pk p (sN x rs ρ)|.siC p po::_,pk,H=>q8 x.g x.d H po pk p (sN x rs ρ)|.rai H0::_,p,H=>KP x.g H0 H p x.X|.foI i b::_,p,H=>ZU x i b (uw x rs) ρ H p|_::_,_,_=>False
def sZ (x:Cx)(rs:List RS)(ρ:Lc):List EF->Bool->AH->Prop|.ifeZ b o::k,z,H=>if z then WE x ρ H b (sV x rs ρ k) else WE x ρ H o (sV x rs ρ k)|.notZ::k,z,H=>sZ x rs ρ k (!z) H|.bopZ .And es::k,z,H=>if z then K8 x ρ H .And es (sZ x rs ρ k) else sZ x rs ρ k false H|.bopZ .Or es::k,z,H=>if z then sZ x rs ρ k true H else K8 x ρ H .Or es (sZ x rs ρ k)|.iffZ b o::_,z,H=>if z then WS x ρ H b (uw x rs) else WS x ρ H o (uw x rs)|.whlZ b::_,z,H=>if z then WS x ρ H b x.Q else x.Q (.brk ρ H)|_,_,_=>False
end
end
section
def oK:Option PV->(PV->Prop)->Prop|some p,K=>K p|none,_=>False
def i7:Lc->Nat->(PV->Prop)->Prop|o::_,0,K=>oK o K|_::r,n+1,K=>i7 r n K|[],_,_=>False
def jQ:Lc->Nat->PV->(Lc->Prop)->Prop|_::r,0,p,K=>K (some p::r)|o::r,n+1,p,K=>jQ r n p fun r'=>K (o::r')|[],_,_,_=>False
def Kk:List PV->PV->(List PV->Prop)->Prop|[],p,K=>K [p]|a::r,p,K=>Kk r p fun r'=>K (a::r')
def QJ:List PV->Nat->(PV->Prop)->Prop->Prop|p::_,0,K,_=>K p|_::r,n+1,K,R=>QJ r n K R|[],_,_,R=>R
noncomputable def ay (F:List Fo)(m:Nat):PV->Option PV|.obj (.nm n)=>U0 F n m|_=>none
noncomputable def ig (n:Nat):PV->Option PV|.tup l=>if n<=1000 then l[n]? else none|_=>none
mutual
noncomputable def ZS (ρ:Lc)(F:List Fo):RE->Option PV|.loc i _=>(ρ[i]?).getD none|.cel i _=>(ρ[i]?).getD none|.fre i _=>(ρ[i]?).getD none|.int v _=>some (.int v)|.str v _=>some (.str v)|.non _=>some .none|.boo b _=>some (.bool b)|.una .USub (.int (.ofNat n) _) _=>some (.int (-(Int.ofNat n)))|.att o m _=>(ZS ρ F o).bind (ay F m)|.tup es _=>(Zc ρ F es).map .tup|.sub v (.int (.ofNat n) _) _=>(ZS ρ F v).bind (ig n)|_=>none
noncomputable def Zc (ρ:Lc)(F:List Fo):RE->Option (List PV)|.n=>some []|.k e r=>(ZS ρ F e).bind fun p=>(Zc ρ F r).map (p::·)|_=>none
end
def hJ (T:Tx)(j:Nat)(K:PV->Prop):Prop:=match T.gT[j]? with
 |some y=>K y.2|none=>False
def ix (T:Tx)(j:Nat)(K:Value->Prop):Prop:=match T.gT[j]? with
 |some (_,.raw f)=>K f|_=>False
def QY {α:Type}:Option α->(α->Prop)->Prop->Prop|some q,K,_=>K q|none,_,R=>R
def ii:PV->PV->(Int->Int->Prop)->Prop->Prop|.int a,.int b,K,_=>K a b|_,_,_,R=>R
def sB (a:Str):PV->(PV->Prop)->Prop->Prop|.str b,K,_=>K (.bool (a==b))|_,_,R=>R
def IP:PV->PV->(PV->Prop)->Prop->Prop|.str a,p,K,R=>sB a p K R|a,p,K,R=>ii a p (fun x y=>K (.bool (x==y))) R
def oO (z:Bool):PV->PV->(PV->Prop)->Prop->Prop|.none,.none,K,_=>K (.bool z)|.int _,.none,K,_=>K (.bool (!z))|.tup _,.none,K,_=>K (.bool (!z))|_,_,_,R=>R
def pM:Operator->PV->PV->(PV->Prop)->Prop->Prop|.Add=>fun a b K R=>ii a b (fun x y=>K (.int (x+y))) R|.Sub=>fun a b K R=>ii a b (fun x y=>K (.int (x-y))) R|_=>fun _ _ _ R=>R
def o_:CmpOp->PV->PV->(PV->Prop)->Prop->Prop|.Eq=>IP|.NotEq=>fun a b K R=>ii a b (fun x y=>K (.bool (x !=y))) R|.Lt=>fun a b K R=>ii a b (fun x y=>K (.bool (decide (x<y)))) R|.LtE=>fun a b K R=>ii a b (fun x y=>K (.bool (decide (x<=y)))) R|.Gt=>fun a b K R=>ii a b (fun x y=>K (.bool (decide (y<x)))) R|.GtE=>fun a b K R=>ii a b (fun x y=>K (.bool (decide (y<=x)))) R|.Is=>oO true|.IsNot=>oO false|_=>fun _ _ _ R=>R
def jK:RE->(RE->RE->Prop)->Prop->Prop|.k e r,K,_=>K e r|_,_,N=>N
section
variable (x:Cx) (H:AH) (F:List Fo) (rec:Lc->List RS->List EF->YF->Prop) (ρ:Lc) (rs:List RS)
def HN (ks:List EF)(op:BoolOp)(es:RE):Prop:=jK es (fun a r=>jK r (fun b r2=>jK r2 (fun _ _=>False) (rec ρ rs (.bopV op b::ks) (.E a))) False) False
def iV (ks:List EF):RE->Prop|.loc i _|.cel i _|.fre i _=>i7 ρ i fun p=>rec ρ rs ks (.V p)|.glo j _=>hJ x.T j fun p=>rec ρ rs ks (.V p)|.int v _=>rec ρ rs ks (.V (.int v))|.str v _=>rec ρ rs ks (.V (.str v))|.non _=>rec ρ rs ks (.V .none)|.boo b _=>rec ρ rs ks (.V (.bool b))|.att o m _=>rec ρ rs (.att m::ks) (.E o)|.bin op l r _=>rec ρ rs (.binR op r::ks) (.E l)|.una op a _=>rec ρ rs (.una op::ks) (.E a)|.cmp op l r _=>rec ρ rs (.cmpR op r::ks) (.E l)|.ife t b o _=>rec ρ rs (.ifeZ b o::ks) (.T t)|.tup es _=>jK es (fun e r=>rec ρ rs (.tupG [] r::ks) (.E e)) (rec ρ rs ks (.V (.tup [])))|.lst es _=>jK es (fun e r=>rec ρ rs (.lstG [] r::ks) (.E e)) (yW H (.list []) (sV x rs ρ ks))|.sub v i _=>rec ρ rs (.subR v i::ks) (.E v)|.cal j es _ _=>ix x.T j fun f=>jK es (fun e r=>rec ρ rs (.calG f [] r::ks) (.E e)) (zh x.g x.d H [] (fun vs=>call f vs) (sV x rs ρ ks) x.X)|.clv f as _=>rec ρ rs (.clvF as::ks) (.E f)|.met o m as _ _=>rec ρ rs (.metO m as::ks) (.E o)|.bop op es _=>HN rec ρ rs ks op es|.dc0 _=>nW H (sV x rs ρ ks)|e=>WE x ρ H e (sV x rs ρ ks)
def fX (m:Nat)(as:RE)(k:List EF)(p:PV):Prop:=QY (Zc ρ F as) (fun vs=>Y6 x.g x.d H p (xr x.T.aN m) vs (sV x rs ρ k) x.X) (sV x rs ρ (.metO m as::k) p H)
def oR (m:Nat)(k:List EF):PV->Prop|.obj (.nm n)=>QY (U0 F n m) (fun q=>rec ρ rs k (.V q)) (zh x.g x.d H [.obj (.nm n)] (t1 fun v=>getAttr v (xr x.T.aN m) true) (sV x rs ρ k) x.X)|p=>zh x.g x.d H [p] (t1 fun v=>getAttr v (xr x.T.aN m) true) (sV x rs ρ k) x.X
def Hg (f:Addr)(p:PV)(k:List EF)(es:RE):Prop:=jK es (fun e r=>rec ρ rs (.calG (.ref f) [p] r::k) (.E e)) (zh x.g x.d H [p] (cZ f) (sV x rs ρ k) x.X)
def rM (m:Nat)(as:RE)(k:List EF):PV->Prop|.obj (.nm n)=>QY (aC x.T.mT F n m) (fun f=>Hg x H rec ρ rs f (.obj (.nm n)) k as) (fX x H F ρ rs m as k (.obj (.nm n)))|p=>fX x H F ρ rs m as k p
def Ib (op:UnaryOp)(k:List EF)(p:PV):Prop:=match op,p with
 |.USub,.int a=>rec ρ rs k (.V (.int (-a)))|op,p=>zh x.g x.d H [p] (t1 (unaryOp op)) (sV x rs ρ k) x.X
def lM (v i:RE)(k:List EF)(p:PV):Prop:=match p,i with
 |.tup l,.int (.ofNat n) q=>bif Nat.ble n 1000 then QJ l n (fun a=>rec ρ rs k (.V a)) (rec ρ rs (.subV v (.int (.ofNat n) q) (.tup l)::k) (.E (.int (.ofNat n) q))) else rec ρ rs (.subV v (.int (.ofNat n) q) (.tup l)::k) (.E (.int (.ofNat n) q))|p,i=>rec ρ rs (.subV v i p::k) (.E i)
def Hy (k:List EF)(p:PV):Prop:=match p with
 |.bool z=>rec ρ rs k (.Z z)|.int i=>rec ρ rs k (.Z (i !=0))|p=>dw x.g x.d H p fun b=>sZ x rs ρ k b H
def Ic (k:List EF)(p:PV):Prop:=match p with
 |.bool z=>rec ρ rs k (.Z z)|_=>False
def r7 (op:BoolOp)(y:RE)(k:List EF)(p:PV):Prop:=match op,p with
 |.Or,.bool z=>cond z (rec ρ rs k (.V (.bool true))) (rec ρ rs k (.E y))|.And,.bool z=>cond z (rec ρ rs k (.E y)) (rec ρ rs k (.V (.bool false)))|_,_=>False
def oY (i j:Nat)(p:PV):Prop:=match p with
 |.tup [a,b]=>jQ ρ i a fun zO=>jQ zO j b fun wF=>rec wF rs [] .N|_=>False
def oQ (i:Nat)(op:Operator)(a p:PV)(R:Prop):Prop:=match op,a,p with
 |.Add,.int a,.int b=>jQ ρ i (.int (a+b)) fun zO=>rec zO rs [] .N|_,_,_=>R
def bq (d:List PV)(K:Prop):Prop:=bif Nat.ble d.length 1000 then K else False
def lD (p:PV):List EF->Prop|[]=>False|.att m::k=>oR x H F rec ρ rs m k p|.binR op r::k=>rec ρ rs (.binV op p::k) (.E r)|.binV op a::k=>pM op a p (fun q=>rec ρ rs k (.V q)) (zh x.g x.d H [a,p] (t2 (binaryOp op)) (sV x rs ρ k) x.X)|.una op::k=>Ib x H rec ρ rs op k p|.cmpR op r::k=>rec ρ rs (.cmpV op p::k) (.E r)|.cmpV op a::k=>o_ op a p (fun q=>rec ρ rs k (.V q)) (zh x.g x.d H [a,p] (t2 (compareOp op)) (sV x rs ρ k) x.X)|.subR v i::k=>lM rec ρ rs v i k p|.subV _ _ a::k=>q9 x.g x.d H a p (sV x rs ρ k) x.X|.tupG done es::k=>Kk done p fun d=>jK es (fun e r=>rec ρ rs (.tupG d r::k) (.E e)) (bq d (rec ρ rs k (.V (.tup d))))|.lstG done es::k=>Kk done p fun d=>jK es (fun e r=>rec ρ rs (.lstG d r::k) (.E e)) (bq d (yW H (.list d) (sV x rs ρ k)))|.tst::k=>Hy x H rec ρ rs k p|.tsb::k=>Ic rec ρ rs k p|.bopV op y::k=>r7 rec ρ rs op y k p|.calG f done es::k=>Kk done p fun d=>jK es (fun e r=>rec ρ rs (.calG f d r::k) (.E e)) (zh x.g x.d H d (fun vs=>call f vs) (sV x rs ρ k) x.X)|.metO m as::k=>rM x H F rec ρ rs m as k p|.asn i::_=>jQ ρ i p fun zO=>rec zO rs [] .N|.drp::_=>rec ρ rs [] .N|.ret::_=>x.Q (.ret p H)|.augV i op a::k=>oQ rec ρ rs i op a p (sV x rs ρ (.augV i op a::k) p H)|.un2 i j::_=>oY rec ρ rs i j p|.asA o m::_=>rec ρ rs [.asB p m] (.E o)|.asB p0 m::_=>YV x.g x.d H p p0 (xr x.T.aN m) (sN x rs ρ)|.siA o i::_=>rec ρ rs [.siB p i] (.E o)|.siB p0 i::_=>rec ρ rs [.siC p0 p] (.E i)|.siC p0 po::_=>q8 x.g x.d H po p p0 (sN x rs ρ)|.rai H0::_=>KP x.g H0 H p x.X|.foI i b::_=>ZU x i b (uw x rs) ρ H p|k=>sV x rs ρ k p H
def lq (z:Bool):List EF->Prop|.ifeZ b o::k=>cond z (rec ρ rs k (.E b)) (rec ρ rs k (.E o))|.notZ::k=>rec ρ rs k (.Z (!z))|.bopZ .And es::k=>jK es (fun e r=>cond z (rec ρ rs (.bopZ .And r::k) (.T e)) (rec ρ rs k (.Z false))) (rec ρ rs k (.Z z))|.bopZ .Or es::k=>jK es (fun e r=>cond z (rec ρ rs k (.Z true)) (rec ρ rs (.bopZ .Or r::k) (.T e))) (rec ρ rs k (.Z z))|.iffZ b o::_=>cond z (rec ρ rs [] (.S b)) (rec ρ rs [] (.S o))|.whlZ b::_=>cond z (rec ρ [] [] (.S b)) (x.Q (.brk ρ H))|k=>sZ x rs ρ k z H
def lg (ks:List EF):RE->Prop|.cmp op l r _=>rec ρ rs (.cmpR op r::.tsb::ks) (.E l)|.una .Not a _=>rec ρ rs (.notZ::ks) (.T a)|.bop op es _=>jK es (fun e r=>rec ρ rs (.bopZ op r::ks) (.T e)) False|e=>bif e.tst then rec ρ rs (.tst::ks) (.E e) else WB x ρ H e (sZ x rs ρ ks)
def dK (rest:RS):RS->Prop|.asn i _ e _=>rec ρ (rest::rs) [.asn i] (.E e)|.asA o m _ e _=>rec ρ (rest::rs) [.asA o m] (.E e)|.asI o i _ e _=>rec ρ (rest::rs) [.siA o i] (.E e)|.un2 i _ j _ _ e _=>rec ρ (rest::rs) [.un2 i j] (.E e)|.aug i _ op e _=>i7 ρ i fun a=>rec ρ (rest::rs) [.augV i op a] (.E e)|.exr e _=>rec ρ (rest::rs) [.drp] (.E e)|.ret e _=>rec ρ (rest::rs) [.ret] (.E e)|.iff t b o _=>rec ρ (rest::rs) [.iffZ b o] (.T t)|.rai e _=>rec ρ (rest::rs) [.rai H] (.E e)|.fo i _ it b _=>rec ρ (rest::rs) [.foI i b] (.E it)|.con _=>x.Q (.cont ρ H)|.re0 _=>x.Q (.ret .none H)|.pas _=>rec ρ rs [] (.S rest)|st=>W1 x ρ H st (uw x (rest::rs))
def gh:List RS->Prop|[]=>x.Q (.next ρ H)|r::rs'=>rec ρ rs' [] (.S r)
def Bi:RS->Prop|.n=>gh x H rec ρ rs|.k st rest=>dK x H rec ρ rs rest st|_=>False
def step (ks:List EF):YF->Prop|.E e=>iV x H rec ρ rs ks e|.V p=>lD x H F rec ρ rs p ks|.T e=>lg x H rec ρ rs ks e|.Z z=>lq x H rec ρ rs z ks|.S b=>Bi x H rec ρ rs b|.N=>gh x H rec ρ rs
def den (ks:List EF):YF->Prop|.E e=>WE x ρ H e (sV x rs ρ ks)|.V p=>sV x rs ρ ks p H|.T e=>WB x ρ H e (sZ x rs ρ ks)|.Z z=>sZ x rs ρ ks z H|.S b=>WS x ρ H b (uw x rs)|.N=>sN x rs ρ H
end
def G7 (x:Cx)(H:AH):Lc->List RS->List EF->YF->Prop:=fun ρ rs ks c=>den x H ρ rs ks c
def B0 (x:Cx)(H:AH)(F:List Fo):Nat->(Lc->List RS->List EF->YF->Prop)->Lc->List RS->List EF->YF->Prop:=fun _ ih ρ rs ks c=>step x H F ih ρ rs ks c
def run (x:Cx)(H:AH)(F:List Fo)(n:Nat):Lc->List RS->List EF->YF->Prop:=
 Nat.rec (motive:=fun _=>Lc->List RS->List EF->YF->Prop) (G7 x H) (B0 x H F) n
end
section
theorem YL:∀ {ρ:Lc} {i:Nat} {K:PV->Prop},i7 ρ i K->∃ p,ρ[i]?=some (some p)/\K p|some p::_,0,_,h=>⟨p,rfl,h⟩|_::r,n+1,K,h=>YL (ρ:=r) (i:=n) h
theorem qm:∀ {ρ:Lc} {i:Nat} {p:PV} {K:Lc->Prop},jQ ρ i p K->K (ρ.set i (some p))|_::_,0,_,_,h=>h|o::r,n+1,p,K,h=>qm (ρ:=r) (K:=fun r'=>K (o::r')) h
theorem Xk:∀ {l:List PV} {p:PV} {K:List PV->Prop},Kk l p K->K (l++[p])|[],_,_,h=>h|a::r,p,K,h=>Xk (l:=r) (K:=fun r'=>K (a::r')) h
theorem JX:∀ {l:List PV} {n:Nat} {K:PV->Prop} {R:Prop},QJ l n K R->(∃ p,l[n]?=some p/\n<l.length/\K p)\/R|p::_,0,_,_,h=>.inl ⟨p,rfl,Nat.zero_lt_succ _,h⟩|_::r,n+1,K,R,h=>(JX (l:=r) (n:=n) h).imp (fun⟨p,a,b,c⟩=>⟨p,a,Nat.succ_lt_succ b,c⟩) id|[],_,_,_,h=>.inr h
theorem Zw (h:Z3 x=true):(x==("__debug__":Str))=false/\(x==("__classdict__":Str))=false:=by unfold Z3 at h;simpa using h
variable {x:Cx} {H:AH} {F:List Fo} {rec:Lc->List RS->List EF->YF->Prop} {ρ:Lc} {rs:List RS}
theorem kC (e:ρ[i]?=some (some v))(q:Q v H):WE x ρ H (.loc i p) Q:=fun hw=>by refine a2 (yP (show(x.s.kd i==some .local&&Z3 (x.s.nm i))=true from hw)) fun h1 h2=>?_;exact nH (x.s.look (beq_iff_eq.mp h1)) (Yz (beq_iff_eq.mp h1) e) q (Zw h2).1
theorem Ko (e:ρ[i]?=some (some v))(q:Q v H):WE x ρ H (.cel i p) Q:=fun hw=>by refine a2 (yP (show(x.s.kd i==some .cell&&Z3 (x.s.nm i))=true from hw)) fun h1 h2=>?_;exact pK (x.s.look (beq_iff_eq.mp h1)) (Yz (beq_iff_eq.mp h1) e) q (Zw h2).1
theorem cR (e:ρ[i]?=some (some v))(q:Q v H):WE x ρ H (.fre i p) Q:=fun hw=>by refine a2 (yP (show(x.s.kd i==some .free&&Z3 (x.s.nm i))=true from hw)) fun h1 h2=>?_;exact r8 (x.s.look (beq_iff_eq.mp h1)) (Yz (beq_iff_eq.mp h1) e) q (Zw h2).1 (Zw h2).2
theorem ja (h:ZO T s j=true):∃ y,T.gT[j]?=some y/\XB T.gT j=y.1/\s.c.names.lookup y.1=some .globalImplicit:=by
 refine a2 (yP h) fun h1 h2=>?_;have h1:=of_decide_eq_true h1;have e:T.gT[j]?=some T.gT[j]:=List.getElem?_eq_getElem h1;have e2:XB T.gT j=T.gT[j].1:=by unfold XB;rw[e]
 rw[e2] at h2;exact⟨_,e,e2,beq_iff_eq.mp h2⟩
theorem dU (h:WE x ρ H o fun v HZ=>zh x.g x.d HZ [v] (t1 fun v=>getAttr v (xr x.T.aN m) true) Q x.X):WE x ρ H (.att o m p) Q:=fun hw=>by refine a2 (yP (show(o.wf x.T x.s&&o.obj)=true from hw)) fun h1 h2=>?_;exact ru (h h1) (gX h2)
theorem Qk (hF:Fa x.g x.T H F)(h:XY F m=some f):h_ x.g x.T H f/\f.m=m:=by
 induction F with
 |nil=>exact zJ h|cons y r ih=>unfold XY at h;cases e:Nat.beq m y.m with|true=>rw[e] at h;cases h;exact⟨hF.1,(Nat.eq_of_beq_eq_true e).symm⟩|false=>rw[e] at h;exact ih hF.2 h
theorem J2 (nd:l.Nodup)(ha:a<l.length)(hb:b<l.length)(h:xr l a=xr l b):a=b:=by unfold xr at h;rw[List.getD_eq_getElem?_getD,List.getD_eq_getElem?_getD,List.getElem?_eq_getElem ha,List.getElem?_eq_getElem hb] at h;exact(List.getElem?_inj ha nd).mp (by rw[List.getElem?_eq_getElem ha,List.getElem?_eq_getElem hb];exact congrArg some h)
theorem J1 (nd:l.Nodup)(hk:k<l.length){vs:List (Nat×PV)}:(∀ y∈vs,y.1<l.length)->zS.get (vs.map fun y=>(xr l y.1,y.2)) (xr l k)=ux vs k:=by
 induction vs with
 |nil=>exact fun _=>rfl|cons y r ih=>
  intro h;have ih:=ih fun y hy=>h y (.tail _ hy);show _=bif Nat.beq k y.1 then some y.2 else ux r k;by_cases e:Nat.beq k y.1=true
  .rw[e,Nat.eq_of_beq_eq_true e];exact WY _
  .rw[Bool.eq_false_iff.mpr e];exact(U_ (beq_false_of_ne fun q=>e (Nat.beq_eq.mpr (J2 nd hk (h y (.head _)) q)))).trans ih
theorem rJ {l:List Str}{k:Nat}{q:PV}{vs:List (Nat×PV)}:(∀ y∈vs,y.1<l.length)->ux vs k=some q->k<l.length:=by induction vs with|nil=>exact fun _ h=>zJ h|cons x r ih=>exact fun h e=>hV e (fun a _=>a▸h x (.head _)) fun _ e=>ih (fun y hy=>h y (.tail _ hy)) e
theorem c_ (hG:GT x.g x.T)(hF:Fa x.g x.T H F)(h:U0 F n m=some q)(k:Q q H):zh x.g d H [.obj (.nm n)] (t1 fun v=>getAttr v (xr x.T.aN m) true) Q X:=by unfold U0 at h;cases hf:XY F n with|none=>rw[hf] at h;exact zJ h|some f=>rw[hf] at h;refine a2 (Qk hF hf) fun ok zW=>?_;subst zW;refine a2 (ok.at_ m q h) fun a1 a2=>?_;exact nU ok.inst ok.ns a1 (by rw[J1 hG.nd (rJ ok.key h) ok.key];exact h) a2 k
theorem bL {K:Frag}{C f:Addr}{name:Str}(h:Zi K C name f=true):plainGet K C name=true/\findIn K (.ref C) name=some (some (.ref f))/\isFn K (.ref f)=true/\keepIn K (.ref f)=true:=by unfold Zi at h;simp only[Bool.and_eq_true,beq_iff_eq] at h;exact⟨h.1.1.1,h.1.1.2,h.1.2,h.2⟩
theorem pE (hG:GT x.g x.T)(hF:Fa x.g x.T H F)(h:aC x.T.mT F n m=some f):uC x.g d H (.obj (.nm n)) (xr x.T.aN m) (.ref f)/\vu x.g (.ref f):=by
 unfold aC at h;cases hy:XY F n with
 |none=>rw[hy] at h;exact zJ h|some y=>
  rw[hy] at h;refine a2 (Qk hF hy) fun ok zW=>?_;subst zW;dsimp only at h;cases hn:ux y.vs m with
  |some _=>rw[hn] at h;exact zJ h|none=>rw[hn] at h;dsimp only at h;cases ht:ux x.T.mT y.C with|none=>rw[ht] at h;exact zJ h|some t=>rw[ht] at h;refine a2 (hG.met _ _ _ _ ht h) fun k1 k2=>?_;refine a4 (bL k2) fun a1 a2 a3 a4=>?_;exact⟨rI ok.inst ok.ns k2 (by rw[J1 hG.nd k1 ok.key];exact hn),Wi a4⟩
theorem oj (h:WE x ρ H l fun a HZ=>WE x ρ HZ r fun b H2_=>zh x.g x.d H2_ [a,b] (t2 (binaryOp op)) Q x.X):WE x ρ H (.bin op l r p) Q:=fun hw=>by have hw:(l.wf x.T x.s&&r.wf x.T x.s&&l.plain&&r.plain)=true:=hw;simp only[Bool.and_eq_true] at hw;exact EO ((h hw.1.1.1).mono fun a HZ k=>k hw.1.1.2)
theorem bM (h:WE x ρ H a fun a H2_=>zh x.g x.d H2_ [a] (t1 (unaryOp op)) Q x.X):WE x ρ H (.una op a p) Q:=fun hw=>by refine a2 (yP (show(a.wf x.T x.s&&a.plain)=true from hw)) fun h1 h2=>?_;exact Hp (h h1)
theorem c4 (hw:(RE.cmp op l r p).wf x.T x.s=true):l.wf x.T x.s=true/\r.wf x.T x.s=true/\r.plain=true:=by have hw:(l.wf x.T x.s&&r.wf x.T x.s&&l.plain&&r.plain)=true:=hw;simp only[Bool.and_eq_true] at hw;exact⟨hw.1.1.1,hw.1.1.2,hw.2⟩
theorem nY (h:WE x ρ H l fun a HZ=>WE x ρ HZ r fun b H2_=>zh x.g x.d H2_ [a,b] (t2 (compareOp op)) Q x.X):WE x ρ H (.cmp op l r p) Q:=fun hw=>by refine a3 (c4 hw) fun h1 h2 h3=>?_;exact EV ((h h1).mono fun a HZ k=>k h2) (Ua h3 _)
theorem rh (h:WB x ρ H t fun z HZ=>if z then WE x ρ HZ b Q else WE x ρ HZ o Q):WE x ρ H (.ife t b o p) Q:=fun hw=>by have hw:(t.wf x.T x.s&&b.wf x.T x.s&&o.wf x.T x.s&&t.plain&&b.plain&&o.plain)=true:=hw;simp only[Bool.and_eq_true] at hw;exact GN ((h hw.1.1.1.1.1).mono fun z HZ k=>by cases z;exact k hw.1.1.1.2;exact k hw.1.1.1.1.2)
theorem UL (h:Q [] H):kL x ρ H .n Q:=fun _=>WH h
theorem Z9 (h:WE x ρ H e fun a HZ=>kL x ρ HZ r fun as H2_=>Q (a::as) H2_):kL x ρ H (.k e r) Q:=fun hw=>by refine a2 (yP (show(e.wf x.T x.s&&r.wfs x.T x.s)=true from hw)) fun h1 h2=>?_;exact VO ((h h1).mono fun a HZ k=>k h2) (fun env=>Ks h1 _ env)
theorem cv (h:kL x ρ H es fun as HZ=>as.length<=1000000/\Q (.tup as) HZ):WE x ρ H (.tup es p) Q:=fun hw=>by refine a2 (yP (show(es.wfs x.T x.s&&decide (es.len<=1000))=true from hw)) fun h1 h2=>?_;exact mJ (h h1)
theorem mB {g:Gr}{d:Nat}{c:Scope}{ρ:zS}{H:AH}{Q X:PV->AH->Prop}{es:List Expr}{pos:Pos}(h:u5 g d c ρ H es (fun as HZ=>as.length<=1000000/\yW HZ (.list as) Q) X):z_ g d c ρ H (.List es pos) Q X:=by intro A env zb za θ s Qc Ec C EI I L hQ hX;refine wpAny_List (h A env zb za θ s _ _ pos C EI I L (fun vs as θZ HZ hZ tkZ qZ GZ rZ=>?_) hX);refine⟨by rw[sizeLine_eq];exact Nat.le_trans (Nat.le_trans (Nat.le_of_eq rZ.length) qZ.1) (by decide),?_⟩;have ok:∀ zl,zZ θZ zl->w6 g zl (hZ.push {cls:=.type "list",data:=.seq vs.toArray}) hZ.objs.size (.list as):=fun zl le=>⟨vs.toArray,0,Heap.get?_push_size _ rfl,by simpa using yb.mono le (fun a items ⟨o,ho,x⟩=>⟨o,yw _ _ _ _ ho,x⟩) _ _ rZ⟩;have:=qZ.2.go (g:=g) (tk:=tkZ) (s:={s with heap:=hZ,toks:=tkZ}) GZ.inv (hQ.after GZ) (y8 hZ) (yw hZ _) ok;exact this
theorem dm (h:kL x ρ H es fun as HZ=>as.length<=1000000/\yW HZ (.list as) Q):WE x ρ H (.lst es p) Q:=fun hw=>by refine a2 (yP (show(es.wfs x.T x.s&&decide (es.len<=1000))=true from hw)) fun h1 h2=>?_;exact mB (h h1)
theorem ck (h:WE x ρ H v fun a HZ=>WE x ρ HZ i fun b H2_=>q9 x.g x.d H2_ a b Q x.X):WE x ρ H (.sub v i p) Q:=fun hw=>by have hw:(v.wf x.T x.s&&i.wf x.T x.s&&v.plain&&i.plain)=true:=hw;simp only[Bool.and_eq_true] at hw;exact Cm ((h hw.1.1.1).mono fun a HZ k=>(k hw.1.1.2).mono fun b H2_ k=>k _ _ (nj hw.2))
theorem rg (hG:GT x.g x.T)(e:x.T.gT[j]?=some (y,.raw f))(h:kL x ρ H as fun as H2_=>zh x.g x.d H2_ as (fun vs=>call f vs) Q x.X):WE x ρ H (.cal j as q p) Q:=fun hw=>by refine a2 (yP (show(ZO x.T x.s j&&as.wfs x.T x.s)=true from hw)) fun h1 h2=>?_;refine wU (ja h1) fun z e1 e2 e3=>?_;rw[e] at e1;obtain rfl:=yd e1;show z_ _ _ _ _ _ (.Call (.Name (XB x.T.gT j) (zu q)) (as.asts x.T x.s) [] (zu p)) _ _;rw[e2];exact cV (wW h2) (fun _ _ _=>rfl) (hG.glo _ _ _ e _ _ _ _ _ _ _ e3 ⟨f,rfl,hG.cal _ _ _ e,h h2⟩)
theorem rX (hG:GT x.g x.T)(e:x.T.gT[j]?=some y)(q:Q y.2 H):WE x ρ H (.glo j p) Q:=fun hw=>by refine wU (ja hw) fun z e1 e2 e3=>?_;rw[e] at e1;obtain rfl:=yd e1;show z_ _ _ _ _ _ (.Name (XB x.T.gT j) (zu p)) _ _;rw[e2];exact hG.glo _ _ _ e _ _ _ _ _ _ _ e3 q
theorem ri (h:WE x ρ H f fun v HZ=>∃ fv,v=.raw fv/\vu x.g fv/\kL x ρ HZ as fun as H2_=>zh x.g x.d H2_ as (fun vs=>call fv vs) Q x.X):WE x ρ H (.clv f as p) Q:=fun hw=>by
 refine a2 (yP hw) fun h1 h3=>?_;refine a2 (yP h1) fun h1 h2=>?_;cases f<;>first|exact zU h2|skip
 exact cV (wW h3) (fun _ _ _=>rfl) ((h h1).mono fun v HZ ⟨fv,a,b,k⟩=>⟨fv,a,b,k h3⟩)
theorem pe (h:WE x ρ H o fun v HZ=>∃ fv,uC x.g x.d HZ v (xr x.T.aN m) fv/\vu x.g fv/\kL x ρ HZ as fun as H2_=>zh x.g x.d H2_ (v::as) (fun vs=>call fv vs) Q x.X):WE x ρ H (.met o m as q p) Q:=fun hw=>by have hw:(o.wf x.T x.s&&o.obj&&as.wfs x.T x.s&&decide (as.len<30)&&Nat.beq (zu q).endLine (zu p).line)=true:=hw;simp only[Bool.and_eq_true,decide_eq_true_eq] at hw;exact rT (wW hw.1.1.2) ((h hw.1.1.1.1).mono fun v HZ ⟨fv,a,b,k⟩=>⟨fv,a,b,k hw.1.1.2⟩) (hO hw.1.1.1.2 hw.1.1.2 hw.1.2 hw.2)
theorem oq (h:WE x ρ H a fun v HZ=>dw x.g x.d HZ v fun z=>if(z==(match op with|.Or=>true|.And=>false)) then Q v HZ else WE x ρ HZ b Q):WE x ρ H (.bop op (.k a (.k b .n)) p) Q:=fun hw=>by refine a2 (yP (show(a.wf x.T x.s&&(b.wf x.T x.s&&true))=true from hw)) fun h1 h2=>?_;refine a2 (yP h2) fun h2 _=>?_;cases op with|Or=>exact E0 ((h h1).mono fun v HZ ⟨z,t,k⟩=>⟨z,t,by cases z;exact k h2;exact k⟩)|And=>exact rF ((h h1).mono fun v HZ ⟨z,t,k⟩=>⟨z,t,by cases z;exact k;exact k h2⟩)
theorem dO (h:WE x ρ H l fun a HZ=>WE x ρ HZ r fun b H2_=>zh x.g x.d H2_ [a,b] (t2 (compareOp op)) (fun v HW=>∃ z,v=.bool z/\Q z HW) x.X):WB x ρ H (.cmp op l r p) Q:=fun hw=>by refine a3 (c4 hw) fun h1 h2 h3=>?_;exact B8 ((h h1).mono fun a HZ k=>k h2) (Ua h3 _)
theorem ph (h:WB x ρ H a fun z HZ=>Q (!z) HZ):WB x ρ H (.una .Not a p) Q:=fun hw=>by refine a2 (yP (show(a.wf x.T x.s&&a.plain)=true from hw)) fun h1 h2=>?_;exact Bg (h h1)
theorem cy (h:K8 x ρ H op es Q):WB x ρ H (.bop op es p) Q:=fun hw=>HD (h hw)
theorem Qn (h:WB x ρ H e fun z HZ=>if z then K8 x ρ HZ .And r Q else Q false HZ):K8 x ρ H .And (.k e r) Q:=fun hw=>by refine a2 (yP (show(e.wf x.T x.s&&r.wfs x.T x.s)=true from hw)) fun h1 h2=>?_;exact oA ((h h1).mono fun z HZ k=>by cases z;exact k;exact k h2)
theorem d7 (h:WB x ρ H e fun z HZ=>if z then Q true HZ else K8 x ρ HZ .Or r Q):K8 x ρ H .Or (.k e r) Q:=fun hw=>by refine a2 (yP (show(e.wf x.T x.s&&r.wfs x.T x.s)=true from hw)) fun h1 h2=>?_;exact DW ((h h1).mono fun z HZ k=>by cases z;exact k h2;exact k)
theorem oG (ht:e.tst=true)(h:WE x ρ H e fun p HZ=>dw x.g x.d HZ p fun b=>Q b HZ):WB x ρ H e Q:=fun hw=>tP ((h hw).mono fun v HZ ⟨z,t,k⟩=>⟨z,t,k⟩) (fU ht)
theorem cO (k:∀ o,Q o->Q' o):∀ o,qT s Q o->qT s Q' o|.next _ _,⟨σ,a,b⟩=>⟨σ,a,k _ b⟩|.cont _ _,⟨σ,a,b⟩=>⟨σ,a,k _ b⟩|.brk _ _,⟨σ,a,b⟩=>⟨σ,a,k _ b⟩|.ret _ _,h=>k _ h
theorem WS.mono (h:WS x ρ H b Q)(k:∀ o,Q o->Q' o):WS x ρ H b Q':=fun hw=>uS.mono (h hw) (cO k)
theorem uo (h:Q (.next ρ H)):qT s Q (.next (lo s ρ) H):=⟨ρ,xK.refl _,h⟩
theorem HS (h:Q (.next ρ H)):WS x ρ H .n Q:=fun _=>BR (uo h)
theorem xC {st rest:RS}(h:W1 x ρ H st (uw x (rest::rs))):WS x ρ H (.k st rest) (uw x rs):=fun hw=>by refine a2 (yP (show(st.wf x.T x.s&&rest.wfs x.T x.s)=true from hw)) fun h1 h2=>?_;refine nR ((h h1).mono fun o ho=>?_);cases o with|next zO H'=>refine zg ho fun σ a b=>?_;clear ho;exact ag a ((show WS x σ H' rest (uw x rs) from b) h2)|cont zO H'=>exact ho|brk zO H'=>exact ho|ret p H'=>exact ho
theorem oP (hw:(RS.asn i q e p).wf x.T x.s=true):(x.s.kd i=some .local\/x.s.kd i=some .cell)/\e.wf x.T x.s=true/\e.plain=true:=by have hw:((x.s.kd i==some .local||x.s.kd i==some .cell)&&e.wf x.T x.s&&e.plain)=true:=hw;simp only[Bool.and_eq_true,Bool.or_eq_true,beq_iff_eq] at hw;exact⟨hw.1.1,hw.1.2,hw.2⟩
theorem cT (h:WE x ρ H e fun v HZ=>Q (.next (ρ.set i (some v)) HZ)):W1 x ρ H (.asn i q e p) Q:=fun hw=>by
 refine a3 (oP hw) fun h1 h2 h3=>?_;rcases h1 with h1|h1
 .exact Z4 (x.s.look h1) ((h h2).mono fun v HZ k=>⟨_,v5 h1,k⟩) fun env=>u9 h3 _ _ _
 .exact cN (x.s.look h1) ((h h2).mono fun v HZ k=>⟨_,v5 h1,k⟩) fun env=>u9 h3 _ _ _
theorem pS (h:WE x ρ H e fun _ HZ=>Q (.next ρ HZ)):W1 x ρ H (.exr e p) Q:=fun hw=>by refine a2 (yP (show(e.wf x.T x.s&&e.plain)=true from hw)) fun h1 h2=>?_;exact pj ((h h1).mono fun _ HZ k=>uo k) fun env=>u9 h2 _ _ _
theorem sb (h:WE x ρ H e fun v HZ=>Q (.ret v HZ)):W1 x ρ H (.ret e p) Q:=fun hw=>iE (h hw)
theorem dy (h:WB x ρ H t fun z HZ=>if z then WS x ρ HZ b Q else WS x ρ HZ o Q):W1 x ρ H (.iff t b o p) Q:=fun hw=>by have hw:(t.wf x.T x.s&&t.plain&&b.wfs x.T x.s&&o.wfs x.T x.s)=true:=hw;simp only[Bool.and_eq_true] at hw;exact Hc ((h hw.1.1.1).mono fun z HZ k=>by cases z;exact k hw.2;exact k hw.1.2)
theorem rO (ha:ρ[i]?=some (some a))(h:WE x ρ H e fun b HZ=>zh x.g x.d HZ [a,b] (t2 (inplaceOp op)) (fun v H2_=>Q (.next (ρ.set i (some v)) H2_)) x.X):W1 x ρ H (.aug i q op e p) Q:=fun hw=>by have hw:(x.s.kd i==some .local&&e.wf x.T x.s&&e.plain)=true:=hw;simp only[Bool.and_eq_true,beq_iff_eq] at hw;exact tR (x.s.look hw.1.1) (Yz hw.1.1 ha) ((h hw.1.2).mono fun b HZ k=>fun A za θ s vs Qc Ec C I R hQ hX=>k A za θ s vs Qc Ec C I R (fun v p zl H' h' tk q=>hQ v p zl H' h' tk ⟨_,v5 hw.1.1,q⟩) hX)
theorem sd (h:WE x ρ H e fun v HZ=>∃ a b,v=.tup [a,b]/\Q (.next ((ρ.set i (some a)).set j (some b)) HZ)):W1 x ρ H (.un2 i q j r t e p) Q:=fun hw=>by have hw:(x.s.kd i==some .local&&x.s.kd j==some .local&&e.wf x.T x.s&&e.plain&&e.noTup)=true:=hw;simp only[Bool.and_eq_true,beq_iff_eq] at hw;refine dN (x.s.look hw.1.1.1.1) (x.s.look hw.1.1.1.2) ((h hw.1.1.2).mono fun v HZ ⟨a,b,e,k⟩=>⟨a,b,e,_,cG (v5 hw.1.1.1.1) hw.1.1.1.2 rfl,k⟩) (fun env=>fE hw.1.2 hw.2 _ _ _) fun env=>?_;cases e<;>first|exact zU hw.1.2|exact zU hw.2|rfl
theorem mV {g:Gr}{d:Nat}{c:Scope}{ρ:zS}{H:AH}{X:PV->AH->Prop}{o:Expr}{name:Str}{xp pos:Pos}{e:Expr}{Q:jy->Prop}(h:z_ g d c ρ H e (fun p HZ=>z_ g d c ρ HZ o (fun po H2_=>YV g d H2_ po p name fun H'=>Q (.next ρ H')) X) X) (hs:∀ env,swapsWith e (some (.Attribute o name xp)) pos.line env=pure false):wR g d c ρ H (.Assign [.Attribute o name xp] e pos) Q X:=by intro A env zb za θ s Qc Ec C EI I L hQ hX;refine plainObj_wpAny_Assign_Attribute (h A env zb za θ s _ _ C EI I L (fun va a θZ HZ hZ tkZ qZ GZ rZ=>?_) hX.none) (hs env);refine qZ A env zb za θZ _ _ _ C EI GZ.inv (L.go I GZ) (fun vb b θY H2_ hY tkY qY GY rY=>?_) (hX.none.after GZ);have Ga:=GZ.trans GY;exact qY.h (s:={s with heap:=hY,toks:=tkY}) C GY.inv rY (GY.rd GZ.inv rZ) fun H' h' tk q GW=>hQ.next ρ θY _ _ tk q ((Ga.trans GW).mono fun _ f=>f.elim) ((L.go I Ga).go GY.inv GW)
theorem oy {o e:RE}{m q p:Nat}{Q:xM->Prop}(h:WE x ρ H e fun v HZ=>WE x ρ HZ o fun po H2_=>YV x.g x.d H2_ po v (xr x.T.aN m) fun HW=>Q (.next ρ HW)):W1 x ρ H (.asA o m q e p) Q:=fun hw=>by have hw:(o.wf x.T x.s&&o.obj&&e.wf x.T x.s&&e.plain)=true:=hw;simp only[Bool.and_eq_true] at hw;exact mV ((h hw.1.2).mono fun v HZ k=>(k hw.1.1.1).mono fun po H2_ k=>⟨fun C I r1 r2 n=>k.h C I r1 r2 fun H' h' tk q G=>n H' h' tk (uo q) G⟩) fun env=>u9 hw.2 _ _ _
theorem cY {g:Gr}{d:Nat}{c:Scope}{ρ:zS}{H:AH}{X:PV->AH->Prop}{o kx:Expr}{xp pos:Pos}{e:Expr}{Q:jy->Prop}(h:z_ g d c ρ H e (fun p HZ=>z_ g d c ρ HZ o (fun po H2_=>z_ g d c ρ H2_ kx (fun pk HW=>q8 g d HW po pk p fun H'=>Q (.next ρ H')) X) X) X) (hs:∀ env,swapsWith e (some (.Subscript o kx xp)) pos.line env=pure false):wR g d c ρ H (.Assign [.Subscript o kx xp] e pos) Q X:=by intro A env zb za θ s Qc Ec C EI I L hQ hX;refine wpAny_Assign_Subscript (h A env zb za θ s _ _ C EI I L (fun va a θZ HZ hZ tkZ qZ GZ rZ=>?_) hX.none) (hs env);refine qZ A env zb za θZ _ _ _ C EI GZ.inv (L.go I GZ) (fun vb b θY H2_ hY tkY qY GY rY=>?_) (hX.none.after GZ);refine qY A env zb za θY _ _ _ C EI GY.inv ((L.go I GZ).go GZ.inv GY) (fun vk k θW HW h3_ tkW qW GW rW=>?_) (hX.none.after (GZ.trans GY));have Ga:=(GZ.trans GY).trans GW;exact qW.h (s:={s with heap:=h3_,toks:=tkW}) C GW.inv (GW.rd GY.inv rY) rW ((GY.trans GW).rd GZ.inv rZ) fun H' h' tk q GV=>hQ.next ρ θW _ _ tk q ((Ga.trans GV).mono fun _ f=>f.elim) ((L.go I Ga).go GW.inv GV)
theorem pI (h:WE x ρ H e fun v HZ=>WE x ρ HZ o fun po H2_=>WE x ρ H2_ i fun pk HW=>q8 x.g x.d HW po pk v fun HV=>Q (.next ρ HV)):W1 x ρ H (.asI o i q e p) Q:=fun hw=>by have hw:(o.wf x.T x.s&&o.obj&&i.wf x.T x.s&&i.plain&&e.wf x.T x.s&&e.plain)=true:=hw;simp only[Bool.and_eq_true] at hw;exact cY ((h hw.1.2).mono fun v HZ k=>(k hw.1.1.1.1.1).mono fun po H2_ k=>(k hw.1.1.1.2).mono fun pk HW k=>⟨fun C I r1 r2 r3 n=>k.h C I r1 r2 r3 fun H' h' tk q G=>n H' h' tk (uo q) G⟩) fun env=>u9 hw.2 _ _ _
theorem pB (hG:GT x.g x.T)(h:WE x ρ H e fun v HZ=>KP x.g H HZ v x.X):W1 x ρ H (.rai e p) Q:=fun hw=>by intro A env zb za θ s Qc Ec C EI I L hQ hX;exact nc (hG.exc C.ok) ((h hw).mono fun v HZ ⟨a,da,l,ball,b1,b2,b3,b4,b5,b6,k⟩=>⟨a,da,l,ball,b1,b2,b3,b4,b5,b6,k⟩) A env zb za θ s Qc Ec C EI I L hQ hX
theorem Q7 {g:Gr}{d:Nat}{c:Scope}{ρ:zS}{H:AH}{X:PV->AH->Prop}{e:Expr}{Q:qJ->List PV->AH->Prop}(h:z_ g d c ρ H e (fun p HZ=>(∃ l,p=.tup l/\Q none l HZ)\/∃ i l,p=.obj i/\HZ i=some (.list l)/\l.length<=1000000/\Q (some (i,l)) l HZ) X):Ve g d c ρ H e Q X:=by
 intro A env zb za θ s Qc Ec C EI I L hQ hX;refine h A env zb za θ s _ _ C EI I L (fun va a θZ HZ hZ tkZ qZ GZ rZ=>?_) hX;rcases qZ with⟨l,rfl,q⟩|⟨i,l,rfl,hi,hz,q⟩
 .refine zB rZ fun t items zm ht hr=>?_;clear rZ;subst zm;refine wpAny_pyIter_tuple ht ?_;have pk:=yw hZ {cls:=.type "tuple_iterator",data:=.fields #[.ref t,.int 0 0]};have tk:∀ a items,IsTup hZ a items->IsTup (hZ.push {cls:=.type "tuple_iterator",data:=.fields #[.ref t,.int 0 0]}) a items:=fun a _ ⟨o,ho,x⟩=>⟨o,pk a o ho,x⟩;exact hQ _ none l θZ HZ _ _ q (GZ.grow pk) (.inl ⟨t,0,items,l,⟨_,Heap.get?_push_size _ rfl,rfl,rfl⟩,tk t items ht,yb.mono (zZ.refl _) tk _ _ hr,by simp⟩) (u7 GZ (y8 hZ))
 .refine zg (yz rZ) fun ax ha zm=>?_;subst zm;refine zB (GZ.inv.listAt hi ha) fun items n hl hr hsz=>?_;refine wpAny_pyIter_list hl.isList ?_;have pk:=yw hZ {cls:=.type "list_iterator",data:=.fields #[.ref ax,.int 0 0]};exact hQ _ _ l θZ HZ _ _ q (GZ.grow pk) ⟨hz,hi,ax,0,ha,⟨_,Heap.get?_push_size _ rfl,rfl,rfl⟩,by simp⟩ (u7 GZ (y8 hZ))
theorem VG (hk:x.s.kd i=some .local)(hb:b.wfs x.T x.s=true)(h:ql x i b src Q l ρ H): ∃ Inv:List PV->zS->AH->Prop,Inv l (lo x.s ρ) H/\(∀ p r zO H',Inv (p::r) zO H'->uS x.g x.d x.s.c (zO.put (x.s.nm i) p) H' (b.asts x.T x.s) (fun o=>match o with
    |.next wF yr=>vD src yr/\∃ σ,xK σ wF/\Inv r σ yr|.cont wF yr=>vD src yr/\∃ σ,xK σ wF/\Inv r σ yr|.brk wF yr=>qT x.s Q (.next wF yr)|.ret p yr=>qT x.s Q (.ret p yr)) x.X)/\(∀ zO H',Inv [] zO H'->qT x.s Q (.next zO H')):=by
 obtain⟨Inv,h0,h,h1⟩:=h;refine⟨fun l zO H'=>∃ σ,zO=lo x.s σ/\Inv l σ H',⟨ρ,rfl,h0⟩,?_,?_⟩
 .intro p r _ H' zq;refine zg zq fun σ zW k=>?_;clear zq;subst zW;refine uS.mono (ag (v5 hk) (h p r σ H' k hb)) fun o q=>?_;cases o with
  |next wF yr=>obtain⟨τ,a,b,c⟩:=q;exact⟨b,_,a,τ,rfl,c⟩
  |cont wF yr=>obtain⟨τ,a,b,c⟩:=q;exact⟨b,_,a,τ,rfl,c⟩
  |brk wF yr=>exact q|ret p yr=>exact q
 .intro _ H' zq;refine zg zq fun σ zW k=>?_;clear zq;subst zW;exact uo (h1 σ H' k)
theorem tY (h:WE x ρ H it fun v HZ=>ZU x i b Q ρ HZ v):W1 x ρ H (.fo i q it b p) Q:=fun hw=>by have hw:(x.s.kd i==some .local&&it.wf x.T x.s&&it.plain&&b.wfs x.T x.s)=true:=hw;simp only[Bool.and_eq_true,beq_iff_eq] at hw;refine dg (x.s.look hw.1.1.1) (Q7 ((h hw.1.1.2).mono fun v HZ k=>?_)) (fun env y=>X_ hw.1.2 env y);cases k with|tup l h=>exact .inl ⟨l,rfl,VG hw.1.1.1 hw.2 h⟩|obj j l h0 hz h=>exact .inr ⟨j,l,rfl,h0,hz,VG hw.1.1.1 hw.2 h⟩
end
section
theorem ni {j:Nat}{K:PV->Prop}(h:hJ T j K):∃ y,T.gT[j]?=some y/\K y.2:=by
 unfold hJ at h;split at h
 .exact⟨_,by assumption,h⟩
 .exact h.elim
theorem nz {j:Nat}{K:Value->Prop}(h:ix T j K):∃ y f,T.gT[j]?=some (y,.raw f)/\K f:=by
 unfold ix at h;split at h
 .exact⟨_,_,by assumption,h⟩
 .exact h.elim
theorem Vv {α:Type}{o:Option α}{K:α->Prop}{R:Prop}(h:QY o K R):(∃ q,o=some q/\K q)\/R:=by cases o with|none=>exact .inr h|some q=>exact .inl ⟨q,rfl,h⟩
theorem Qj {d:List PV}{K:Prop}(h:bq d K):d.length<=1000000/\K:=by unfold bq at h;cases e:Nat.ble d.length 1000 with|true=>rw[e] at h;exact⟨Nat.le_trans (Nat.le_of_ble_eq_true e) (by decide),h⟩|false=>rw[e] at h;exact h.elim
theorem W_ {z:Bool}{A B A' B':Prop}(a:A->A')(b:B->B')(h:cond z A B):if z then A' else B':=by
 cases z
 .exact b h
 .exact a h
theorem qc {K:RE->RE->Prop}(h:jK es K N):(∃ e r,es=.k e r/\K e r)\/(N/\(es.wfs T s=true->es=.n)):=by cases es with|k e r=>exact .inl ⟨e,r,rfl,h⟩|n=>exact .inr ⟨h,fun _=>rfl⟩|_=>exact .inr ⟨h,fun q=>(zU q)⟩
theorem YY {Q:List PV->AH->Prop}{K:RE->RE->Prop}(h:jK es K N)(hk:∀ e r,K e r->WE x ρ H e fun a HZ=>kL x ρ HZ r fun as H2_=>Q (a::as) H2_)(hn:N->Q [] H):kL x ρ H es Q:=by
 rcases qc (T:=x.T) (s:=x.s) h with⟨e,r,rfl,h⟩|⟨h,q⟩
 .exact Z9 (hk e r h)
 .exact fun hw=>by cases q hw;exact WH (hn h)
theorem WE.mono (h:WE x ρ H e Q)(k:∀ p H',Q p H'->Q' p H'):WE x ρ H e Q':=fun hw=>z_.mono (h hw) k
theorem Vt {Q:List PV->AH->Prop}{K:RE->RE->Prop}(h:jK es K N)(hk:∀ e r,K e r->WE x ρ H e fun a HZ=>kL x ρ HZ r fun as H2_=>Q ((done++[p])++a::as) H2_)(hn:N->Q (done++[p]) H):kL x ρ H es fun as H2_=>Q (done++p::as) H2_:=by refine YY h (fun e r q=>?_) hn;have:=hk e r q;simp only[List.append_assoc,List.singleton_append] at this;exact this
variable {x:Cx} {H:AH} {F:List Fo} {rec:Lc->List RS->List EF->YF->Prop} {ρ:Lc} {rs:List RS}
theorem gD (hG:GT x.g x.T)(ih:∀ ρ rs ks c,rec ρ rs ks c->den x H ρ rs ks c)(h:iV x H rec ρ rs ks e):WE x ρ H e (sV x rs ρ ks):=by
 cases e with
 |loc i p=>obtain⟨v,a,b⟩:=YL h;exact kC a (ih _ _ _ _ b)
 |cel i p=>obtain⟨v,a,b⟩:=YL h;exact Ko a (ih _ _ _ _ b)
 |fre i p=>obtain⟨v,a,b⟩:=YL h;exact cR a (ih _ _ _ _ b)
 |glo j p=>obtain⟨y,e,k⟩:=ni (K:=fun p=>rec ρ rs ks (.V p)) h;exact rX hG e (ih ρ rs ks (.V y.2) k)
 |int v p=>exact fun _=>Wv (ih _ _ _ _ h)|str v p=>exact fun _=>lI (ih _ _ _ _ h)|non p=>exact fun _=>cP (ih _ _ _ _ h)|boo b p=>exact fun _=>cX (ih _ _ _ _ h)|att o m p=>exact dU (ih _ _ _ _ h)|bin op l r p=>exact oj (ih _ _ _ _ h)|una op a p=>exact bM (ih _ _ _ _ h)|cmp op l r p=>exact nY (ih _ _ _ _ h)|ife t b o p=>exact rh (ih _ _ _ _ h)|tup es p=>exact cv (YY h (fun e r h=>ih ρ rs (.tupG [] r::ks) (.E e) h) fun h=>⟨Nat.zero_le _,ih ρ rs ks (.V (.tup [])) h⟩)|lst es p=>exact dm (YY h (fun e r h=>ih ρ rs (.lstG [] r::ks) (.E e) h) fun h=>⟨Nat.zero_le _,h⟩)|sub v i p=>exact ck (ih _ _ _ _ h)|cal j as q p=>obtain⟨y,f,e,k⟩:=nz h;exact rg hG e (YY k (fun e r h=>ih ρ rs (.calG f [] r::ks) (.E e) h) id)
 |clv f as p=>exact ri (ih _ _ _ _ h)|dc0 p=>cases(show nW H (sV x rs ρ ks) from h) with
  |I h=>exact fun _=>VC h aL|S h=>exact fun _=>VC h aP|T h=>exact fun _=>VC h QK
 |met o m as q p=>exact pe (ih _ _ _ _ h)|bop op es p=>
  rcases qc (T:=x.T) (s:=x.s) h with⟨a,r,rfl,h⟩|⟨h,_⟩
  .rcases qc (T:=x.T) (s:=x.s) h with⟨b,r,rfl,h⟩|⟨h,_⟩
   .rcases qc (T:=x.T) (s:=x.s) h with⟨_,_,_,h⟩|⟨h,q⟩
    .exact h.elim
    .intro hw;refine a2 (yP (show(a.wf x.T x.s&&(b.wf x.T x.s&&r.wfs x.T x.s))=true from hw)) fun _ h2=>?_;cases q (yP h2).2;exact oq (ih _ _ _ _ h) hw
   .exact h.elim
  .exact h.elim
 |_=>exact h
theorem aH {α β:Type}{o:Option α}{f:α->Option β}{b:β}(h:o.bind f=some b):∃ a,o=some a/\f a=some b:=Option.bind_eq_some_iff.mp h
theorem mU (hG:GT x.g x.T)(hF:Fa x.g x.T H F)(e:RE):(∀ (p:PV) (Q:PV->AH->Prop),ZS ρ F e=some p->Q p H->WE x ρ H e Q)/\(∀ (l:List PV) (Q:List PV->AH->Prop),Zc ρ F e=some l->Q l H->l.length=e.len/\kL x ρ H e Q):=by
 have get:∀ {i:Nat} {p:PV},(ρ[i]?).getD none=some p->ρ[i]?=some (some p):=fun{i p} h=>by cases e:ρ[i]? with|none=>rw[e] at h;exact zJ h|some o=>rw[e] at h;exact congrArg some h
 induction e with
 |n=>exact⟨fun p Q h _=>(zJ h),fun l Q h q=>(by cases h;exact⟨rfl,UL q⟩)⟩|k e r ih1 ih2=>refine⟨fun p Q h _=>(zJ h),fun l Q h q=>?_⟩;refine zg (aH (show(ZS ρ F e).bind (fun p=>(Zc ρ F r).map (p::·))=some l from h)) fun p e1 h=>?_;refine zg (Option.map_eq_some_iff.mp h) fun l' e2 h=>?_;subst h;have z:=ih2.2 l' (fun as H2_=>Q (p::as) H2_) e2 q;exact⟨congrArg (·+1) z.1,Z9 (ih1.1 p _ e1 z.2)⟩|loc i _=>exact⟨fun p Q h q=>kC (get h) q,fun l Q h _=>(zJ h)⟩|cel i _=>exact⟨fun p Q h q=>Ko (get h) q,fun l Q h _=>(zJ h)⟩|fre i _=>exact⟨fun p Q h q=>cR (get h) q,fun l Q h _=>(zJ h)⟩|int v _=>exact⟨fun p Q h q=>(by cases h;exact fun _=>Wv q),fun l Q h _=>(zJ h)⟩|str v _=>exact⟨fun p Q h q=>(by cases h;exact fun _=>lI q),fun l Q h _=>(zJ h)⟩|non _=>exact⟨fun p Q h q=>(by cases h;exact fun _=>cP q),fun l Q h _=>(zJ h)⟩|boo b _=>exact⟨fun p Q h q=>(by cases h;exact fun _=>cX q),fun l Q h _=>(zJ h)⟩|att o m _ ih=>
  refine⟨fun p Q h q=>?_,fun l Q h _=>(zJ h)⟩;refine zg (aH (show(ZS ρ F o).bind (ay F m)=some p from h)) fun v e1 h=>?_;refine dU (ih.1 v _ e1 ?_);unfold ay at h;split at h
  .exact c_ hG hF h q
  .exact zJ h
 |una op a _ _=>
  refine⟨fun p Q h q=>?_,fun l Q h _=>(zJ h)⟩;cases op with
  |USub=>
   cases a with
   |int k z=>
    cases k with
    |ofNat n=>cases h;exact bM fun _=>Wv (lG q)|negSucc n=>exact zJ h
   |_=>exact zJ h
  |_=>exact zJ h
 |tup es _ ih=>refine⟨fun p Q h q=>?_,fun l Q h _=>(zJ h)⟩;refine zg (Option.map_eq_some_iff.mp (show(Zc ρ F es).map .tup=some p from h)) fun l e1 h=>?_;subst h;intro hw;refine a2 (yP (show(es.wfs x.T x.s&&decide (es.len<=1000))=true from hw)) fun h1 h2=>?_;have h2:=of_decide_eq_true h2;refine cv (ih.2 l _ e1 ⟨?_,q⟩).2 hw;rw[(ih.2 l (fun _ _=>True) e1 trivial).1];exact Nat.le_trans h2 (by decide)|sub v i _ ih1 _=>
  refine⟨fun p Q h q=>?_,fun l Q h _=>(zJ h)⟩;cases i with
  |int k z=>
   cases k with
   |ofNat n=>
    refine zg (aH (show(ZS ρ F v).bind (ig n)=some p from h)) fun a e1 h=>?_;refine ck (ih1.1 a _ e1 fun _=>Wv ?_);unfold ig at h;split at h
    .split at h
     .rename_i hn;exact fun value slice hs=>lJ (Int.natCast_nonneg n) (Int.le_trans (Int.ofNat_le.mpr hn) (by decide)) h q hs
     .exact zJ h
    .exact zJ h
   |negSucc n=>exact zJ h
  |_=>exact zJ h
 |_=>exact⟨fun p Q h _=>(zJ h),fun l Q h _=>(zJ h)⟩
theorem qB {a b:PV}{K:Int->Int->Prop}{R G:Prop}(h:ii a b K R)(k:∀ c d,a=.int c->b=.int d->K c d->G)(r:R->G):G:=by
 cases a with
 |int a=>
  cases b with
  |int b=>exact k a b rfl rfl h|_=>exact r h
 |_=>exact r h
theorem AN {a:Str}{b:PV}{K:PV->Prop}{R G:Prop}(h:sB a b K R)(k:∀ c,b=.str c->K (.bool (a==c))->G)(r:R->G):G:=by cases b with|str b=>exact k b rfl h|_=>exact r h
theorem nK {d:Nat}{Q X:PV->AH->Prop}{K:PV->Prop}(hK:∀ p,K p->Q p H)(h:pM op a b K (zh g d H [a,b] (t2 (binaryOp op)) Q X)):zh g d H [a,b] (t2 (binaryOp op)) Q X:=by cases op with|Add=>exact qB h (fun c d e f q=>by subst e f;exact Dc (hK _ q)) id|Sub=>exact qB h (fun c d e f q=>by subst e f;exact AU (hK _ q)) id|_=>exact h
theorem d0 {z:Bool}{a b:PV}{K:PV->Prop}{R G:Prop}(h:oO z a b K R)(k:b=.none->(∀ v,a≠.raw v)->K (.bool (a.isNone==z))->G)(r:R->G):G:=by
 cases b with
 |none=>
  cases a with
  |none=>exact k rfl (fun _ q=>(by cases q)) (by cases z<;>exact h)|int a=>exact k rfl (fun _ q=>(by cases q)) (by cases z<;>exact h)|tup a=>exact k rfl (fun _ q=>(by cases q)) (by cases z<;>exact h)|_=>exact r h
 |_=>cases a<;>exact r h
theorem nu {g:Gr}{d:Nat}{Q X:PV->AH->Prop}{op:CmpOp}{a b:PV}{K:PV->Prop}(hK:∀ p,K p->Q p H)(h:o_ op a b K (zh g d H [a,b] (t2 (compareOp op)) Q X)):zh g d H [a,b] (t2 (compareOp op)) Q X:=by
 cases op with
 |Eq=>
  have gen:∀ {a},ii a b (fun x y=>K (.bool (x==y))) (zh g d H [a,b] (t2 (compareOp .Eq)) Q X)->zh g d H [a,b] (t2 (compareOp .Eq)) Q X:=fun h=>qB h (fun c d e f q=>by subst e f;exact Cv (hK _ q)) id;cases a with
  |str a=>exact AN h (fun c e q=>by subst e;exact Fj (hK _ q)) id|_=>exact gen h
 |NotEq=>exact qB h (fun c d e f q=>by subst e f;exact Ex (hK _ q)) id|Lt=>exact qB h (fun c d e f q=>by subst e f;exact Ho (hK _ q)) id|LtE=>exact qB h (fun c d e f q=>by subst e f;exact Hn (hK _ q)) id|Gt=>exact qB h (fun c d e f q=>by subst e f;exact GQ (hK _ q)) id|GtE=>exact qB h (fun c d e f q=>by subst e f;exact Hk (hK _ q)) id|Is=>exact d0 h (fun e f q=>by subst e;exact U5 f (hK _ (by revert q;cases a.isNone<;>exact id))) id|IsNot=>exact d0 h (fun e f q=>by subst e;exact m9 f (hK _ (by revert q;cases a.isNone<;>exact id))) id|_=>exact h
theorem Vx (hG:GT x.g x.T)(hF:Fa x.g x.T H F)(h:fX x H F ρ rs m as k p):sV x rs ρ (.metO m as::k) p H:=by
 rcases Vv h with⟨vs,e,h⟩|h
 .obtain⟨fv,a,b,c⟩:=h;exact⟨fv,a,b,((mU hG hF as).2 vs _ e c).2⟩
 .exact h
theorem nN (hG:GT x.g x.T)(hF:Fa x.g x.T H F)(ih:∀ ρ rs ks c,rec ρ rs ks c->den x H ρ rs ks c)(h:oR x H F rec ρ rs m k p):zh x.g x.d H [p] (t1 fun v=>getAttr v (xr x.T.aN m) true) (sV x rs ρ k) x.X:=by
 cases p with
 |obj i=>
  cases i with
  |nm n=>
   rcases Vv h with⟨q,e,h⟩|h
   .exact c_ hG hF e (ih _ _ _ _ h)
   .exact h
  |an a=>exact h
 |_=>exact h
theorem ny (hG:GT x.g x.T)(hF:Fa x.g x.T H F)(ih:∀ ρ rs ks c,rec ρ rs ks c->den x H ρ rs ks c)(h:rM x H F rec ρ rs m as k p):sV x rs ρ (.metO m as::k) p H:=by
 cases p with
 |obj i=>
  cases i with
  |nm n=>
   rcases Vv h with⟨f,e,h⟩|h
   .refine a2 (pE hG hF e (d:=x.d)) fun a b=>?_;refine⟨_,a,b,?_⟩;exact YY h (fun e r h=>ih ρ rs (.calG (.ref f) [.obj _] r::k) (.E e) h) id
   .exact Vx hG hF h
  |an a=>exact Vx hG hF h
 |_=>exact Vx hG hF h
theorem gi (ih:∀ ρ rs ks c,rec ρ rs ks c->den x H ρ rs ks c)(h:lM rec ρ rs v i k p):WE x ρ H i fun b H2_=>q9 x.g x.d H2_ p b (sV x rs ρ k) x.X:=by
 cases p with
 |tup l=>
  cases i with
  |int j q=>
   cases j with
   |ofNat n=>
    have h:bif Nat.ble n 1000 then QJ l n (fun a=>rec ρ rs k (.V a)) (rec ρ rs (.subV v (.int (.ofNat n) q) (.tup l)::k) (.E (.int (.ofNat n) q))) else rec ρ rs (.subV v (.int (.ofNat n) q) (.tup l)::k) (.E (.int (.ofNat n) q)):=h;cases e:Nat.ble n 1000 with
    |true=>
     rw[e] at h;rcases JX h with⟨a,e1,e2,h⟩|h
     .have:=Nat.le_of_ble_eq_true e;exact fun _=>Wv fun value slice hs=>lJ (Int.natCast_nonneg n) (Int.le_trans (Int.ofNat_le.mpr this) (by decide)) e1 (ih _ _ _ _ h) hs
     .exact ih _ _ _ _ h
    |false=>rw[e] at h;exact ih _ _ _ _ h
   |negSucc n=>exact ih _ _ _ _ h
  |_=>exact ih _ _ _ _ h
 |_=>exact ih _ _ _ _ h
theorem mz {i:Nat}{op:Operator}{a p:PV}{R G:Prop}(h:oQ rec ρ rs i op a p R)(k:∀ x y,jQ ρ i (.int (x+y)) (fun zO=>rec zO rs [] .N)->op=.Add->a=.int x->p=.int y->G)(r:R->G):G:=by
 cases op with
 |Add=>
  cases a with
  |int x=>
   cases p with
   |int y=>exact k x y h rfl rfl rfl|_=>exact r h
  |_=>exact r h
 |_=>exact r h
theorem mO {op:BoolOp}{y:RE}{k:List EF}{p:PV}{G:Prop}(h:r7 rec ρ rs op y k p)(o:∀ z,p=.bool z->op=.Or->cond z (rec ρ rs k (.V (.bool true))) (rec ρ rs k (.E y))->G)(a:∀ z,p=.bool z->op=.And->cond z (rec ρ rs k (.E y)) (rec ρ rs k (.V (.bool false)))->G):G:=by
 cases op with
 |Or=>
  cases p with
  |bool z=>exact o z rfl rfl h|_=>exact False.elim h
 |And=>cases p with|bool z=>exact a z rfl rfl h|_=>exact False.elim h
theorem mY {i j:Nat}{p:PV}{G:Prop}(h:oY rec ρ rs i j p)(k:∀ a b,p=.tup [a,b]->jQ ρ i a (fun zO=>jQ zO j b fun wF=>rec wF rs [] .N)->G):G:=by
 cases p with
 |tup l=>
  cases l with
  |nil=>exact False.elim h|cons a l=>
   cases l with
   |nil=>exact False.elim h|cons b l=>
    cases l with
    |nil=>exact k a b rfl h|cons _ _=>exact False.elim h
 |_=>exact False.elim h
theorem gG (hG:GT x.g x.T)(hF:Fa x.g x.T H F)(ih:∀ ρ rs ks c,rec ρ rs ks c->den x H ρ rs ks c)(h:lD x H F rec ρ rs p ks):sV x rs ρ ks p H:=by
 cases ks with
 |nil=>exact h|cons f k=>
  cases f with
  |att m=>exact nN hG hF ih h|binR op r=>exact ih _ _ _ _ h|binV op a=>exact nK (fun q=>ih _ _ _ (.V q)) h|una op=>
   cases op with
   |USub=>cases p<;>first|exact lG (ih _ _ _ _ h)|exact h
   |_=>exact h
  |cmpR op r=>exact ih _ _ _ _ h|cmpV op a=>exact nu (fun q=>ih _ _ _ (.V q)) h|subR v i=>exact gi ih h|subV v i a=>exact h|tupG done es=>exact Vt (Q:=fun l H2_=>l.length<=1000000/\sV x rs ρ k (.tup l) H2_) (Xk h) (fun e r h=>ih ρ rs (.tupG (done++[p]) r::k) (.E e) h) fun h=>let⟨a,b⟩:=Qj h;⟨a,ih ρ rs k (.V (.tup (done++[p]))) b⟩|lstG done es=>exact Vt (Q:=fun l H2_=>l.length<=1000000/\yW H2_ (.list l) (sV x rs ρ k)) (Xk h) (fun e r h=>ih ρ rs (.lstG (done++[p]) r::k) (.E e) h) fun h=>Qj h|ifeZ b o=>exact h|tst=>cases p<;>first|exact⟨_,Xq,ih _ _ _ _ h⟩|exact⟨_,rE,ih _ _ _ _ h⟩|exact h
  |tsb=>cases p<;>first|exact⟨_,rfl,ih _ _ _ _ h⟩|exact h.elim
  |notZ=>exact h|bopV op y=>exact mO h (fun z e1 e2 h=>by subst e1 e2;refine⟨z,Xq,?_⟩;cases z;exact ih _ _ _ _ h;exact ih _ _ _ _ h) fun z e1 e2 h=>by subst e1 e2;refine⟨z,Xq,?_⟩;cases z;exact ih _ _ _ _ h;exact ih _ _ _ _ h|bopZ op es=>exact h|calG f done es=>exact Vt (Q:=fun l H2_=>zh x.g x.d H2_ l (fun vs=>call f vs) (sV x rs ρ k) x.X) (Xk h) (fun e r h=>ih ρ rs (.calG f (done++[p]) r::k) (.E e) h) id|clvF as=>exact h|metO m as=>exact ny hG hF ih h|asn i=>exact ih _ _ _ .N (qm h)|drp=>exact ih _ _ _ .N h|augV i op a=>exact mz h (fun x y h e1 e2 e3=>by subst e1 e2 e3;exact pD (ih _ _ _ .N (qm h))) id|un2 i j=>exact mY h fun a b e h=>⟨a,b,e,ih _ _ _ .N (qm (qm h))⟩|asA o m=>exact ih _ _ _ _ h|siA o i=>exact ih _ _ _ _ h|siB p0 i=>exact ih _ _ _ _ h|_=>exact h
theorem fK (ih:∀ ρ rs ks c,rec ρ rs ks c->den x H ρ rs ks c)(h:lq x H rec ρ rs z ks):sZ x rs ρ ks z H:=by
 cases ks with
 |nil=>exact h|cons f k=>
  cases f with
  |ifeZ b o=>exact W_ (ih _ _ _ _) (ih _ _ _ _) h|notZ=>exact ih _ _ _ _ h|bopZ op es=>
   cases op with
   |And=>
    rcases qc (T:=x.T) (s:=x.s) h with⟨e,r,rfl,h⟩|⟨h,q⟩
    .exact W_ (fun h=>Qn (ih ρ rs (.bopZ .And r::k) (.T e) h)) (ih _ _ _ _) h
    .cases z
     .exact ih _ _ _ _ h
     .exact fun hw=>by cases q hw;exact bo (ih _ _ _ _ h)
   |Or=>
    rcases qc (T:=x.T) (s:=x.s) h with⟨e,r,rfl,h⟩|⟨h,q⟩
    .exact W_ (ih _ _ _ _) (fun h=>d7 (ih ρ rs (.bopZ .Or r::k) (.T e) h)) h
    .cases z
     .exact fun hw=>by cases q hw;exact bR (ih _ _ _ _ h)
     .exact ih _ _ _ _ h
  |iffZ b o=>exact W_ (ih _ _ _ _) (ih _ _ _ _) h|whlZ b=>exact W_ (fun h=>WS.mono (show WS x ρ H b (uw x []) from ih ρ [] [] (.S b) h) fun o q=>by cases o<;>exact q) id h|_=>exact h
theorem iz (ih:∀ ρ rs ks c,rec ρ rs ks c->den x H ρ rs ks c)(h:lg x H rec ρ rs ks e):WB x ρ H e (sZ x rs ρ ks):=by
 have gen:∀ e:RE,(bif e.tst then rec ρ rs (.tst::ks) (.E e) else WB x ρ H e (sZ x rs ρ ks))->WB x ρ H e (sZ x rs ρ ks):=fun e h=>by cases t:e.tst with|true=>rw[t] at h;exact oG t (ih _ _ _ _ h)|false=>rw[t] at h;exact h
 cases e with
 |cmp op l r p=>exact dO (ih _ _ _ _ h)|una op a p=>
  cases op with
  |Not=>exact ph (ih _ _ _ _ h)|_=>exact h
 |bop op es p=>
  rcases qc (T:=x.T) (s:=x.s) h with⟨e,r,rfl,h⟩|⟨h,_⟩
  .cases op with|And=>exact cy (Qn (ih _ _ _ _ h))|Or=>exact cy (d7 (ih _ _ _ _ h))
  .exact h.elim
 |_=>exact gen _ h
theorem cD (hG:GT x.g x.T)(ih:∀ ρ rs ks c,rec ρ rs ks c->den x H ρ rs ks c){rest st:RS}(h:dK x H rec ρ rs rest st):WS x ρ H (.k st rest) (uw x rs):=by
 cases st with
 |asn i q e p=>exact xC (cT (ih _ _ _ _ h))|asA o m q e p=>exact xC (oy (ih _ _ _ _ h))|asI o i q e p=>exact xC (pI (ih _ _ _ _ h))|un2 i q j r t e p=>exact xC (sd (ih _ _ _ _ h))|aug i q op e p=>obtain⟨a,b,c⟩:=YL h;exact xC (rO b (ih _ _ _ _ c))
 |exr e p=>exact xC (pS (ih _ _ _ _ h))|ret e p=>exact xC (sb (ih _ _ _ _ h))|iff t b o p=>exact xC (dy (ih _ _ _ _ h))|rai e p=>exact xC (pB hG (ih _ _ _ _ h))|fo i q it b p=>exact xC (tY (ih _ _ _ _ h))|con p=>exact xC fun _=>QO ⟨_,xK.refl _,h⟩|re0 p=>exact xC fun _=>cL h|pas p=>exact xC fun _=>oD (uo (ih _ _ _ _ h))|_=>exact xC h
theorem JM (ih:∀ ρ rs ks c,rec ρ rs ks c->den x H ρ rs ks c)(h:gh x H rec ρ rs):sN x rs ρ H:=by cases rs with|nil=>exact h|cons r rs=>exact ih _ _ _ _ h
theorem nJ (hG:GT x.g x.T)(hF:Fa x.g x.T H F)(ih:∀ ρ rs ks c,rec ρ rs ks c->den x H ρ rs ks c)(h:step x H F rec ρ rs ks c):den x H ρ rs ks c:=by
 cases c with
 |E e=>exact gD hG ih h|V p=>exact gG hG hF ih h|T e=>exact iz ih h|Z z=>exact fK ih h|S b=>
  cases b with
  |n=>exact HS (JM ih h)|k st rest=>exact cD hG ih h|_=>exact h.elim
 |N=>exact JM ih h
theorem vr (hG:GT x.g x.T)(hF:Fa x.g x.T H F):∀ (n:Nat) (ρ:Lc) (rs:List RS) (ks:List EF) (c:YF),run x H F n ρ rs ks c->den x H ρ rs ks c|0,_,_,_,_,h=>h|n+1,_,_,_,_,h=>nJ hG hF (vr hG hF n) h
end
def uf (Q:PV->AH->Prop):xM->Prop|.ret p H=>Q p H|.next _ H=>Q .none H|_=>False
theorem Ki (hc:s.c=c)(hb:b.asts T s=body)(hw:b.wfs T s=true)(hl:xK (lo s ρ) L) (h:WS ⟨g,T,d,s,uf Q,X⟩ ρ H b (uw ⟨g,T,d,s,uf Q,X⟩ [])):uS g d c L H body (jy.val Q) X:=by
 subst hc hb;refine ag hl ((h hw).mono fun o q=>?_);cases o with
 |next zO H'=>obtain⟨σ,a,b⟩:=q;exact b
 |cont zO H'=>obtain⟨σ,a,b⟩:=q;exact b
 |brk zO H'=>obtain⟨σ,a,b⟩:=q;exact b
 |ret p H'=>exact q
def i6 (Inv:Nat->Lc->AH->Prop)(n:Nat)(Q:xM->Prop):xM->Prop|.next σ H=>∃ m,m<n/\Inv m σ H|.cont σ H=>∃ m,m<n/\Inv m σ H|.brk σ H=>Q (.next σ H)|.ret p H=>Q (.ret p H)
theorem ud (Inv:Nat->Lc->AH->Prop)(n:Nat)(h0:Inv n ρ H) (h:∀ n zO H',Inv n zO H'->∀ K:xM->Prop,(∀ {o},i6 Inv n Q o->K o)->WB ⟨g,T,d,s,K,X⟩ zO H' t (sZ ⟨g,T,d,s,K,X⟩ [] zO [.whlZ b])):W1 ⟨g,T,d,s,Q0,X⟩ ρ H (.whl t b p) Q:=fun hw=>by
 have hw:(t.wf T s&&t.plain&&b.wfs T s)=true:=hw;simp only[Bool.and_eq_true] at hw;refine mC (fun n zO H'=>∃ σ,zO=lo s σ/\Inv n σ H') n ⟨ρ,rfl,h0⟩ ?_;intro n _ H' zq;refine zg zq fun σ zW k=>?_;clear zq;subst zW;refine(h n σ H' k (i6 Inv n Q) (fun h=>h) hw.1.1).mono fun z HZ q=>?_;cases z with
 |false=>exact uo q|true=>
  rw[if_pos rfl];refine uS.mono ((show WS ⟨g,T,d,s,i6 Inv n Q,X⟩ σ HZ b (i6 Inv n Q) from q) hw.2) fun o q=>?_;cases o with
  |next wF yr=>obtain⟨τ,a,m,b,c⟩:=q;exact⟨m,b,_,a,τ,rfl,c⟩
  |cont wF yr=>obtain⟨τ,a,m,b,c⟩:=q;exact⟨m,b,_,a,τ,rfl,c⟩
  |brk wF yr=>exact q|ret p yr=>exact q
noncomputable abbrev gr (p:Program)(w:World)(B:Heap):Gr:=⟨p,w,KK w.params,B,51⟩
noncomputable def ZJ:List PV->List Value->Bool|[],[]=>true|.int i::r,.int j _::t=>i==j&&ZJ r t|.str x::r,.str y _::t=>x==y&&ZJ r t|_,_=>false
theorem gz:∀ {vs:List Value},ZJ l vs=true->yb θ h l vs:=by
 induction l with
 |nil=>
  intro vs e;cases vs with
  |nil=>simp only[yb]|cons v vs=>exact zU e
 |cons p r ih=>
  intro vs e;cases vs with
  |nil=>cases p<;>exact zU e|cons v vs=>
   cases p with
   |int i=>
    cases v with
    |int j t=>refine a2 (yP (show(i==j&&ZJ r vs)=true from e)) fun a b=>?_;rw[beq_iff_eq.mp a];exact⟨_,_,rfl,kb _ _ _ _,ih b⟩|_=>exact zU e
   |str i=>
    cases v with
    |str j t=>refine a2 (yP (show(i==j&&ZJ r vs)=true from e)) fun a b=>?_;rw[beq_iff_eq.mp a];exact⟨_,_,rfl,rdS _ _ _ _,ih b⟩|_=>exact zU e
   |_=>exact zU e
noncomputable def UQ (K:Frag)(r:Addr)(l:List PV):Bool:=match K.lookup r with
 |some o=>(match o.data with|.seq its _=>o.cls==.type "tuple"&&ZJ l its.toList|_=>false)|none=>false
noncomputable def aK:Value->Bool|.builtin _|.type _=>true|_=>false
noncomputable def rC (K:Frag)(y:Str)(q:PV):Option Value->Bool|some (.ref r)=>(match q with|.raw (.ref a)=>r==a&&keepIn K (.ref a)|.tup l=>UQ K r l|_=>false)|some (.int j _)=>(match q with|.int i=>i==j|_=>false)|some (.str z _)=>(match q with|.str x=>x==z|_=>false)|none=>(match q with|.raw v=>bootBuiltins y==some v&&aK v&&y !="__name__"|_=>false)|_=>false
noncomputable def iG (K:Frag)(x:Str×PV):Bool:=Z3 x.1&&(match nsIn K mainGlobals x.1 with
 |some v=>rC K x.1 x.2 v|none=>false)
inductive VN (K:Frag)(y:Str):Option Value->PV->Prop
 |b (v:Value) (h:bootBuiltins y=some v) (c:aK v=true) (n:y≠"__name__"):VN K y none (.raw v)|f (a:Addr) (k:keepIn K (.ref a)=true):VN K y (some (.ref a)) (.raw (.ref a))|t (r:Addr) (l:List PV) (k:UQ K r l=true):VN K y (some (.ref r)) (.tup l)|i (j:Int) (t:Nat):VN K y (some (.int j t)) (.int j)|s (z:Str) (t:Nat):VN K y (some (.str z t)) (.str z)
theorem mG {K:Frag}{y:Str}{q:PV}{v:Option Value}(h:rC K y q v=true):VN K y v q:=by
 cases v with
 |none=>
  cases q with
  |raw v=>have h2:(bootBuiltins y==some v&&aK v&&y !="__name__")=true:=h;simp only[Bool.and_eq_true,beq_iff_eq,bne_iff_ne] at h2;exact .b v h2.1.1 h2.1.2 h2.2|_=>exact zU h
 |some v=>
  cases v with
  |ref r=>
   cases q with
   |raw v=>
    cases v with
    |ref a=>refine a2 (yP (show(r==a&&keepIn K (.ref a))=true from h)) fun h3 h4=>?_;rw[beq_iff_eq.mp h3];exact .f a h4|_=>exact zU h
   |tup l=>exact .t r l h|_=>exact zU h
  |int j t=>
   cases q with
   |int i=>rw[beq_iff_eq.mp (show(i==j)=true from h)];exact .i j t|_=>exact zU h
  |str z t=>
   cases q with
   |str i=>rw[beq_iff_eq.mp (show(i==z)=true from h)];exact .s z t|_=>exact zU h
  |_=>exact zU h
theorem iA {K:Frag}{r:Addr}{l:List PV}(h:UQ K r l=true):∃ dd its n sl,K.lookup r=some ⟨.type "tuple",dd,.seq its n,sl⟩/\ZJ l its.toList=true:=by
 unfold UQ at h;cases e:K.lookup r with
 |none=>rw[e] at h;exact zU h|some o=>rw[e] at h;obtain⟨c,dd,data,sl⟩:=o;cases data with|seq its n=>refine a2 (yP h) fun h1 h2=>?_;exact⟨dd,its,n,sl,by rw[show c=.type "tuple" from beq_iff_eq.mp h1],h2⟩|_=>exact zU h
theorem JV (h:iG g.K (y,q)=true):(∀ (c:Scope) (d:Nat) (ρ:zS) (H:AH) (Q X:PV->AH->Prop) (pos:Pos),c.names.lookup y=some .globalImplicit->Q q H->z_ g d c ρ H (.Name y pos) Q X)/\∀ f,q=.raw f->vu g f:=by
 unfold iG at h;refine a2 (yP h) fun h1 h2=>?_;dsimp only at h1 h2;have hd:=(Zw h1).1;cases e:nsIn g.K mainGlobals y with
 |none=>rw[e] at h2;exact zU h2|some v=>
  rw[e] at h2;cases mG h2 with
  |b v hb c n=>
   refine⟨fun c d ρ H Q X pos hx k=>qI hx e hb k n hd,fun f z=>?_⟩;rw[<-PV.raw.inj z];cases v with
   |builtin b=>exact xB b|type b=>exact jl b|_=>exact zU c
  |f a h4=>exact⟨fun c d ρ H Q X pos hx k=>h9 hx e k hd,fun f z=>by rw[<-PV.raw.inj z];exact Wi h4⟩|t r l h2=>refine⟨fun c d ρ H Q X pos hx k=>Y5 hx e (fun θ h X=>?_) k hd,fun f z=>(by cases z)⟩;obtain⟨dd,its,n,sl,ho,h2⟩:=iA h2;exact⟨r,its,rfl,⟨_,X _ _ ho,rfl,n,rfl⟩,gz h2⟩
  |i j t=>exact⟨fun c d ρ H Q X pos hx k=>Y5 hx e (fun θ h _=>kb _ _ _ _) k hd,fun f z=>(by cases z)⟩|s z t=>exact⟨fun c d ρ H Q X pos hx k=>Y5 hx e (fun θ h _=>rdS _ _ _ _) k hd,fun f z=>(by cases z)⟩
theorem k_ {α:Type}{m:Nat}{v:α}{l:List (Nat×α)}:ux l m=some v->(m,v)∈l:=by induction l with|nil=>exact fun h=>zJ h|cons x r ih=>exact fun h=>hV h (fun a b=>by rw[a,<-b];exact .head _) fun _ h=>.tail _ (ih h)
theorem dB (P:Params):tx.gT.all (iG (KK P))=true:=by kernel_rfl
theorem oB (P:Params):(tx.mT.all fun x=>x.2.all fun y=>decide (y.1<tx.aN.length)&&Zi (KK P) x.1 (xr tx.aN y.1) y.2)=true:=by kernel_rfl
theorem lr:tx.aN.Nodup:=by decide+kernel
theorem aZ {K:Frag}{h:Heap}{N:Addr}{mg:Str->Option Value}{n:Str}{v:Value}(X:K.In h)(G:h.Ns N mg)(e:nsIn K N n=some (some v)):mg n=some v:=by
 refine jI G fun o es ep ho hd _ hf=>?_;clear G;unfold nsIn at e;split at e
 .rename_i c d so n' sl q;have:=X _ _ q;rw[ho] at this;obtain rfl:=yd this;cases hd;split at e
  .rename_i en he;cases e;rw[<-hf];unfold nsFind findBy;rw[<-Array.find?_toList,he];rfl
  .split at e<;>cases e
 .exact zJ e
theorem cu (X:(KK w.params).In B):WJ (gr p w B) 48:=
 bV (g:=gr p w B) (nm:=("PrologError":Str)) (q:=("PrologError":Str)) (N:=50) (bs:=[.ref 31]) (bm:=[.ref 31,.type "Exception",.type "BaseException",.type "object"]) (hdct:=true) (sn:=[]) (sub:=[]) (ab:=false) (col:=none) (dd:=none) (k0:=some (.ref 35)) (k1:=none) (k2:=some (vS "PrologError" 216)) (k3:=some (vS "PrologError" 224)) (k5:=some (.bool true)) PySem.F.excBase_Exception (by decide+kernel) PySem.F.excBase_Exception (tail_of_in X (by kernel_rfl)) (X _ _ (by kernel_rfl)) (.of_isNs (isNs_of_in X (by kernel_rfl))) (aZ X (.of_isNs (isNs_of_in X (by kernel_rfl))) (by kernel_rfl)) (X 48 rt.obj (by kernel_rfl)) rfl (by decide+kernel) (by kernel_rfl)
theorem kE:GT (gr p w B) tx where
 exc:=fun ok=>cu ok.X
 nd:=lr
 glo:=fun j y q e=>(JV (g:=gr p w B) (qg (dB w.params) (y,q) (List.mem_of_getElem? e))).1
 cal:=fun j y f e=>(JV (g:=gr p w B) (qg (dB w.params) (y,.raw f) (List.mem_of_getElem? e))).2 f rfl
 met:=fun C t k f h1 h2=>by have:=qg (qg (oB w.params) _ (k_ h1)) _ (k_ h2);refine a2 (yP this) fun a b=>?_;exact⟨of_decide_eq_true a,b⟩
theorem Qo:Zx (gr p w B):=⟨by kernel_rfl,by kernel_rfl,by kernel_rfl⟩
section
set_option genInjectivity false
set_option genSizeOf false
set_option genCtorIdx false
theorem zh.up (h:zh g d H ps t Q X)(k:d<=d'):zh g d' H ps t Q X:=fun A za θ s vs Qc Ec C I R hQ hX=>h A za θ s vs Qc Ec (C.le k) I R hQ hX
theorem i_ {α:Type}[DecidableEq α](a b:α):(a==b)=decide (a=b):=by by_cases h:a=b<;>simp[h]
def gJ:Nat->(Lc->Prop)->Prop|0,K=>K []|n+1,K=>gJ n fun ρ=>K (none::ρ)
def pC (n:Nat):List PV->(Lc->Prop)->Prop|[],K=>gJ n K|p::r,K=>pC n r fun ρ=>K (some p::ρ)
theorem JW:∀ {n:Nat} {K:Lc->Prop},gJ n K->K (List.replicate n none)|0,_,h=>h|n+1,K,h=>JW (n:=n) (K:=fun ρ=>K (none::ρ)) h
theorem WW:∀ {ps:List PV} {K:Lc->Prop},pC n ps K->K (ps.map some++List.replicate n none)|[],_,h=>JW h|p::r,K,h=>WW (ps:=r) (K:=fun ρ=>K (some p::ρ)) h
def K1 (r:FR)(ps:List PV)(K:Lc->Prop):Prop:=bif Nat.beq ps.length r.ps.length then pC r.nl ps K else False
noncomputable def FR.fd (r:FR):FuncData:=fnOf (Str.ofString r.n) (Str.ofString r.q) {posonlyargs:=[],args:=r.args,vararg:=none,kwonlyargs:=[],kw_defaults:=[],kwarg:=none,defaults:=r.df} (r.b.asts tx r.s) r.s.c r.dV .none .none r.pm none (.ref r.cd) .none
noncomputable def WI (K:Frag)(r:FR):Bool:=
 decide (r.args.map (·.arg)).Nodup&&(r.args.map (·.arg)).all (fun x=>r.s.c.names.lookup x==some .local||r.s.c.names.lookup x==some .cell)&&r.s.c.names.all (fun x=>x.2 !=.free)&&r.s.c.kind==.function&& !r.s.c.isCoroutine&& !r.s.c.isGenerator&&
 Nat.beq r.args.length r.ps.length&&codeIn K (.ref r.cd) (Str.ofString r.q)&&r.b.wfs tx r.s
theorem aB (P:Params):(fT.all fun x=>((KB P).lookup x.1).isNone&&(!x.2.df.isEmpty||(WI (KK P) x.2&&x.2.dV==.none)))=true:=by kernel_rfl
theorem m6 {l:List (Addr×FR)}:ux l f=some r->(l.map fun x=>(x.1,x.2.obj)).lookup f=some r.obj:=by induction l with|nil=>exact fun h=>zJ h|cons x l ih=>exact fun h=>hV h (fun a b=>by rw[a,<-b];exact WY _) fun n h=>(U_ (beq_false_of_ne (Nat.ne_of_beq_eq_false n))).trans (ih h)
theorem Q8 {α:Type}{f:Addr}{l m:List (Addr×α)}(h:(l.lookup f).isNone=true):(l++m).lookup f=m.lookup f:=by rw[List.lookup_append,Option.isNone_iff_eq_none.mp h];rfl
theorem QS {P:Params}{f:Addr}{r:FR}(hr:ux fT f=some r):(KK P).lookup f=some r.obj:=by have h:=qg (aB P) _ (k_ hr);refine a2 (yP h) fun h1 _=>?_;unfold KK;rw[List.append_assoc,Q8 h1,List.lookup_append,m6 hr];rfl
variable {p:Program} {w:World} {B:Heap} {d:Nat} {s:Sc} {Q:xM->Prop} {X:PV->AH->Prop} {rs:List RS} {ρ:Lc} {ks:List EF} {H:AH} {F:List Fo}
theorem X3 {r:FR}{ps:List PV}(h:r.args.length=ps.length):xK (lo r.s (ps.map some++List.replicate r.nl none)) ((r.args.map (·.arg)).zip ps):=by
 intro y q e;refine yE ((Zf _ _ _ _).mp e) fun i k h1 h2=>?_;have hi:i<ps.length:=by
  by_cases c:i<ps.length
  .exact c
  .rw[List.getElem?_append_right (by rw[List.length_map];exact Nat.le_of_not_lt c)] at h2;have:=List.mem_of_getElem? h2;simp at this
 rw[List.getElem?_append_left (by rw[List.length_map];exact hi),List.getElem?_map,List.getElem?_eq_getElem hi] at h2;have h2:ps[i]=q:=yd (yd h2);have key:∀ (l:List (Str×NameKind)) (ns:List Nat) (ps:List PV) (i:Nat),(l.map (·.1)).Nodup->l[i]?=some (y,k)->ps[i]?=some q->((l.zip ns).map fun x=>({arg:=x.1.1,annotation:=none,pos:=zu x.2}:Arg)).length=ps.length->zS.get ((((l.zip ns).map fun x=>({arg:=x.1.1,annotation:=none,pos:=zu x.2}:Arg)).map (·.arg)).zip ps) y=some q:=by
  intro l;induction l with
  |nil=>intro ns ps i _ e;exact zJ e|cons a l ih=>
   intro ns ps i nd e1 e2 el;cases ns with
   |nil=>simp at el;rw[List.eq_nil_of_length_eq_zero el.symm] at e2;exact zJ e2|cons z ns=>
    cases ps with
    |nil=>exact zJ e2|cons v ps=>
     rw[List.map_cons,List.nodup_cons] at nd;show List.lookup y ((a.1,v)::_)=_;rw[List.lookup_cons];cases i with
     |zero=>cases e1;cases e2;rw[beq_self_eq_true]|succ i=>
      have hy:y≠a.1:=by rintro rfl;exact nd.1 (List.mem_map.mpr ⟨_,List.mem_of_getElem? e1,rfl⟩)
      rw[beq_false_of_ne hy];exact ih ns ps i nd.2 e1 e2 (by simpa using el)
 exact key _ _ _ i r.s.nd h1 (by rw[List.getElem?_eq_getElem hi,h2]) h
theorem fnRK {Q:PV->AH->Prop}(hr:ux fT f=some r)(hF:Fa (gr p w B) tx H F)(h:K1 r ps fun ρ=>run ⟨gr p w B,tx,d,r.s,uf Q,X⟩ H F 1000 ρ [] [] (.S r.b)) (hb:jX ps fun vs=>bindArgs r.fd ⟨vs,[]⟩=pure ((r.args.map (·.arg)).zip vs):=by(repeat' intro _);(change _=_);kernel_rfl) (hd:autoParam (r.df.isEmpty=true) ta._auto_1):kq (gr p w B) (d+1) H ps (.ref f) Kz Q X:=by have ok:=qg (aB w.params) _ (k_ hr);refine a2 (yP ok) fun _ ok=>?_;dsimp only at ok;rw[hd] at ok;refine a2 (yP (show(WI (KK w.params) r&&r.dV==.none)=true from ok)) fun ok LQ=>?_;unfold WI at ok;simp only[Bool.and_eq_true,List.all_eq_true,Bool.or_eq_true,beq_iff_eq,bne_iff_ne,ne_eq,Bool.not_eq_true',decide_eq_true_eq] at ok;refine a2 ok fun wd fe=>?_;clear ok;obtain⟨⟨⟨⟨⟨⟨⟨o1,o2⟩,o3⟩,o4⟩,o5⟩,o6⟩,o7⟩,o9⟩:=wd;have o7:=Nat.eq_of_beq_eq_true o7;unfold K1 at h;cases e:Nat.beq ps.length r.ps.length with|false=>rw[e] at h;exact h.elim|true=>rw[e] at h;have yf:r.args.length=ps.length:=o7.trans (Nat.eq_of_beq_eq_true e).symm;have hK:=QS (P:=w.params) hr;refine d5 (g:=gr p w B) hK o9 hb (by simpa using yf) o1 (fun x hx=>(o2 x hx)) (fun x hx=>o3 x hx) o4 o5 o6 ?_;exact Ki (T:=tx) rfl rfl fe (X3 yf) (vr kE hF _ _ _ _ _ (WW h))
theorem z9 {Q:PV->AH->Prop}(hr:ux fT f=some r)(hF:Fa (gr p w B) tx H F)(h:K1 r ps fun ρ=>run ⟨gr p w B,tx,d,r.s,uf Q,X⟩ H F 1000 ρ [] [] (.S r.b)) (hb:autoParam (jX ps fun vs=>bindArgs r.fd ⟨vs,[]⟩=pure ((r.args.map (·.arg)).zip vs)) fnRK._auto_1) (hd:autoParam (r.df.isEmpty=true) ta._auto_1):zh (gr p w B) (d+1) H ps (cZ f) Q X:=(fnRK hr hF h hb hd).t
theorem zd (hF:Fa (gr p w B) tx H F)(h:run ⟨gr p w B,tx,d,s,Q,X⟩ H F 1000 ρ rs ks (.V v)):sV ⟨gr p w B,tx,d,s,Q,X⟩ rs ρ ks v H:=vr kE hF _ _ _ _ _ h
theorem lu (hF:Fa (gr p w B) tx H F)(h:run ⟨gr p w B,tx,d,s,Q,X⟩ H F 1000 ρ rs ks (.Z v)):sZ ⟨gr p w B,tx,d,s,Q,X⟩ rs ρ ks v H:=vr kE hF _ _ _ _ _ h
theorem jv (hF:Fa (gr p w B) tx H F)(h:run ⟨gr p w B,tx,d,s,Q,X⟩ H F 1000 ρ rs ks (.T e)):WB ⟨gr p w B,tx,d,s,Q,X⟩ ρ H e (sZ ⟨gr p w B,tx,d,s,Q,X⟩ rs ρ ks):=vr kE hF _ _ _ _ _ h
theorem goN (hF:Fa (gr p w B) tx H F)(h:run ⟨gr p w B,tx,d,s,Q,X⟩ H F 1000 ρ rs [] .N):sN ⟨gr p w B,tx,d,s,Q,X⟩ rs ρ H:=vr kE hF _ _ _ _ _ h
theorem gV (h:run ⟨gr p w B,tx,d,s,Q,X⟩ H [] 1000 ρ rs ks (.V v)):sV ⟨gr p w B,tx,d,s,Q,X⟩ rs ρ ks v H:=zd (F:=[]) trivial h
theorem gN (h:run ⟨gr p w B,tx,d,s,Q,X⟩ H [] 1000 ρ rs [] .N):sN ⟨gr p w B,tx,d,s,Q,X⟩ rs ρ H:=goN (F:=[]) trivial h
theorem w8 (hF:Fa (gr p w B) tx H F)(h:run ⟨gr p w B,tx,d,s,Q,X⟩ H F 1000 ρ [] [] (.S b)):WS ⟨gr p w B,tx,d,s,Q,X⟩ ρ H b Q:=
 WS.mono (vr kE hF _ _ _ _ _ h:WS ⟨gr p w B,tx,d,s,Q,X⟩ ρ H b (uw ⟨gr p w B,tx,d,s,Q,X⟩ [])) fun o q=>by cases o<;>exact q
theorem qa {z:Bool}{a b:Prop}(h:z=true)(k:a):cond z a b:=by subst h;exact k
theorem jE {z:Bool}{a b:Prop}(h:z=false)(k:b):cond z a b:=by subst h;exact k
theorem br {z:Bool}{a b:Prop}(t:z=true->a)(f:z=false->b):cond z a b:=by cases z;exact f rfl;exact t rfl
noncomputable def PV.nr:PV->Bool|.raw _=>false|_=>true
noncomputable def YM (K:Frag)(C:Addr)(ks:List Nat):Bool:=ks.all fun k=>decide (k<tx.aN.length)&&Zu K C (xr tx.aN k)
theorem ZM (h1:H (.nm f.m)=some (.inst f.C (.nm f.j)))(h2:H (.nm f.j)=some (.ns (f.vs.map fun x=>(xr tx.aN x.1,x.2))))(h3:YM (KK w.params) f.C (f.vs.map (·.1))=true)(h4:f.vs.all (fun x=>x.2.nr)=true):h_ (gr p w B) tx H f:=by
 have key:∀ x∈f.vs,x.1<tx.aN.length/\Zu (KK w.params) f.C (xr tx.aN x.1)=true:=fun x hx=>by refine a2 (yP (qg h3 x.1 (List.mem_map.mpr ⟨x,hx,rfl⟩))) fun a b=>?_;exact⟨of_decide_eq_true a,b⟩
 refine⟨h1,h2,fun k q e=>⟨(key _ (k_ e)).2,fun v q'=>?_⟩,fun x hx=>(key x hx).1⟩;have:=qg h4 _ (k_ e);rw[show(k,q).2=q from rfl,q'] at this;exact zU this
theorem Fa.app (h:Fa (gr p w B) tx H F)(k:Fa (gr p w B) tx H G):Fa (gr p w B) tx H (F++G):=by induction F with|nil=>exact k|cons f r ih=>exact⟨h.1,ih h.2⟩
def zf (N:Id->Prop)(H H':AH):Prop:=∀ i,¬N i->(H i≠none\/∃ n,i=.nm n)->H' i=H i
theorem zf.refl:zf N H H:=fun _ _ _=>rfl
theorem zf.trans (x:zf N HZ H2_)(y:zf N H2_ HW):zf N HZ HW:=fun i n k=>by have e:=x i n k;rw[<-e];exact y i n (by rw[e];exact k)
theorem zf.mono (x:zf N HZ H2_)(h:∀ i,N i->N' i):zf N' HZ H2_:=fun i n k=>x i (fun z=>n (h i z)) k
theorem zf.upd (h:N i):zf N H (H.upd i mo):=fun j n _=>AH.upd_ne _ _ (fun e=>n (e▸h))
theorem zf.new (h:H (.an a)=none):zf N H (H.upd (.an a) mo):=fun j _ k=>AH.upd_ne _ _ (fun e=>by
 subst e;rcases k with k|⟨n,k⟩
 .exact k h
 .cases k)
theorem zf.get (x:zf N H H')(n:¬N i)(e:H i=some mo):H' i=some mo:=(x i n (.inl (by rw[e];simp))).trans e
structure Sy where
 texts:List Str
 funs:List (Int×Int)
noncomputable def Sy.atomD (S:Sy):List (Str×PV):=S.texts.zipIdx.map fun x=>(x.1,.int (x.2:Nat))
noncomputable def Sy.funD (S:Sy):List (List Int×PV):=S.funs.zipIdx.map fun x=>([x.1.1,x.1.2],.int (x.2:Nat))
theorem VZ {α:Type}[DecidableEq α]{l:List α}:∀ {m:List α},l.Nodup->(∀ x∈l,x∈m)->l.length<=m.length:=by induction l with|nil=>exact fun _ _=>Nat.zero_le _|cons x l ih=>intro m h hs;have h':=List.nodup_cons.mp h;have hx:=hs x (.head _);have:=ih (m:=m.erase x) h'.2 fun y hy=>(List.mem_erase_of_ne fun e:y=x=>h'.1 (e▸hy)).mpr (hs y (.tail _ hy));rw[List.length_erase_of_mem hx] at this;exact Nat.le_trans (Nat.succ_le_succ this) (Nat.le_of_eq (Nat.sub_add_cancel (List.length_pos_of_mem hx)))
noncomputable def xj:List Str:=(["[]",".","{}","-","+","*","/",",","|",";","->","\\+",":-","?-","-->","!","true","fail","false","call","=","^","error","","end_of_file","system","$VAR","catch","throw",
 "e","f","abs","msb","\\","succ","foo","//","mod","<<","rem","min","xor","type_error","evaluable","instantiation_error","evaluation_error","zero_divisor","resource_error","memory","not_less_than_one","not_less_than_zero","float","integer"]:List String).map Str.ofString
noncomputable def bP:List (Int×Int):=(List.range 60).flatMap fun(a:Nat)=>(List.range 9).map fun(n:Nat)=>((a:Int),(n:Int))
structure Sy.Ok (S:Sy):Prop where
 nt:S.texts.Nodup
 nf:S.funs.Nodup
 st:∀ t∈S.texts,t∈xj
 sf:∀ x∈S.funs,0<=x.1/\x.1<S.texts.length/\0<=x.2/\x.2<=8
theorem Sy.Ok.lt {S:Sy}(ok:S.Ok):S.texts.length<=60:=Nat.le_trans (VZ ok.nt ok.st) (by decide)
theorem Sy.Ok.lf {S:Sy}(ok:S.Ok):S.funs.length<=1000:=by
 have h:S.funs.length<=bP.length:=VZ ok.nf fun x hx=>by
  refine a4 (ok.sf x hx) fun h1 h2 h3 h4=>?_;have:=ok.lt;unfold bP;rw[List.mem_flatMap];refine⟨x.1.toNat,List.mem_range.mpr ((Int.toNat_lt h1).mpr (Int.lt_of_lt_of_le h2 (Int.ofNat_le.mpr this))),?_⟩;rw[List.mem_map];refine⟨x.2.toNat,List.mem_range.mpr ((Int.toNat_lt h3).mpr (Int.lt_of_le_of_lt h4 (by decide))),Prod.ext ?_ ?_⟩
  .show((x.1.toNat:Nat):Int)=x.1;exact Int.toNat_of_nonneg h1
  .show((x.2.toNat:Nat):Int)=x.2;exact Int.toNat_of_nonneg h3
 refine Nat.le_trans h ?_;decide+kernel
noncomputable def tO:List (Str×PV):=[(("texts":Str),.obj (.nm 2)),(("atom_numbers":Str),.obj (.nm 3)),(("functors":Str),.obj (.nm 4)),(("functor_numbers":Str),.obj (.nm 5))]
structure zj (H:AH)(S:Sy):Prop where
 inst:H (.nm 0)=some (.inst 154 (.nm 1))
 ns:H (.nm 1)=some (.ns tO)
 texts:H (.nm 2)=some (.list (S.texts.map .str))
 atoms:H (.nm 3)=some (.dictS S.atomD)
 funs:H (.nm 4)=some (.list (S.funs.map fun x=>.tup [.int x.1,.int x.2]))
 funD:H (.nm 5)=some (.dictT S.funD)
def yh (i:Id):Prop:=i=.nm 2\/i=.nm 3\/i=.nm 4\/i=.nm 5
theorem GU {m n:Nat}{G:Prop}(h:6<=n)(k:m<6)(z:Id.nm n=.nm m):G:=by cases z;exact absurd h (Nat.not_le.mpr k)
theorem UZ {n:Nat}(h:6<=n):¬yh (.nm n):=fun z=>by rcases z with z|z|z|z<;>exact GU h (by decide) z
theorem Xi (n:Nat)(h:8<=n)(_:n<=15):¬yh (.nm n):=UZ (Nat.le_of_succ_le (Nat.le_of_succ_le h))
theorem zj.ext (x:zj H S)(e:zf N H H')(h:∀ n<6,¬N (.nm n)):zj H' S:=⟨e.get (h 0 (by decide)) x.inst,e.get (h 1 (by decide)) x.ns,e.get (h 2 (by decide)) x.texts,e.get (h 3 (by decide)) x.atoms,e.get (h 4 (by decide)) x.funs,e.get (h 5 (by decide)) x.funD⟩
noncomputable def yy {K:Type}[DecidableEq K]:List K->K->Option Nat|[],_=>none|x::r,k=>if x=k then some 0 else(yy r k).map (·+1)
theorem Vb {K:Type}[DecidableEq K]{l:List K}{k:K}:yy l k=none↔k∉l:=by
 induction l with
 |nil=>simp[yy]|cons x r ih=>
  unfold yy;by_cases h:x=k
  .simp[h]
  .have h':¬k=x:=fun e=>h e.symm;simp[h,h',ih]
theorem ZV {K:Type}[DecidableEq K]{l:List K}{k:K}{i:Nat}(h:yy l k=some i):l[i]?=some k:=by
 induction l generalizing i with
 |nil=>exact zJ h|cons x r ih=>
  unfold yy at h;by_cases e:x=k
  .rw[if_pos e] at h;cases h;simp[e]
  .rw[if_neg e] at h;cases q:yy r k with|none=>rw[q] at h;exact zJ h|some j=>rw[q] at h;cases h;simpa using ih q
theorem Y0 {K:Type}[DecidableEq K]{l:List K}{k:K}{i:Nat}(h:yy l k=some i)(m:List K):yy (l++m) k=some i:=by
 induction l generalizing i with
 |nil=>exact zJ h|cons x r ih=>
  unfold yy at h;rw[List.cons_append];unfold yy;by_cases e:x=k
  .rw[if_pos e] at h|-;exact h
  .rw[if_neg e] at h|-;cases q:yy r k with|none=>rw[q] at h;exact zJ h|some j=>rw[q] at h;rw[ih q];exact h
theorem Uq {K:Type}[DecidableEq K]{l:List K}{k:K}(h:yy l k=none):yy (l++[k]) k=some l.length:=by
 induction l with
 |nil=>simp[yy]|cons x r ih=>
  unfold yy at h;rw[List.cons_append];unfold yy;by_cases e:x=k
  .rw[if_pos e] at h;exact qE h
  .rw[if_neg e] at h|-;have:yy r k=none:=by cases q:yy r k with|none=>rfl|some _=>rw[q] at h;exact qE h
   rw[ih this];rfl
theorem gE {K:Type}[DecidableEq K]{l:List K}{k:K}{i:Nat}(h:yy l k=some i):i<l.length:=(xU (ZV h)).1
noncomputable def Sy.atom (S:Sy)(t:Str):Sy×Nat:=match yy S.texts t with|some i=>(S,i)|none=>(⟨S.texts++[t],S.funs⟩,S.texts.length)
noncomputable def Sy.functor (S:Sy)(a n:Int):Sy×Nat:=match yy S.funs (a,n) with|some i=>(S,i)|none=>(⟨S.texts,S.funs++[(a,n)]⟩,S.funs.length)
theorem Xz {K:Type}[DecidableEq K](ks:List K)(t:K)(n:Nat):u6 ((ks.zipIdx n).map fun x=>(x.1,PV.int (x.2:Nat))) t=(yy ks t).map fun i=>.int ((n+i:Nat):Int):=by
 induction ks generalizing n with
 |nil=>rfl|cons k ks ih=>
  unfold u6 at ih|-;unfold yy;rw[List.zipIdx_cons,List.map_cons,List.find?_cons];by_cases h:k=t
  .subst h;simp
  .simp only[h,decide_false,ih,if_false,Option.map_map];congr 1;funext i;exact congrArg (fun n:Nat=>PV.int n) (by rw[Nat.add_assoc,Nat.add_comm 1])
theorem Sy.atomD_get (S:Sy)(t:Str):u6 S.atomD t=(yy S.texts t).map fun i=>.int ((i:Nat):Int):=by have:=Xz S.texts t 0;simp only[Nat.zero_add] at this;exact this
theorem gp {K K':Type}[DecidableEq K][DecidableEq K'](f:K->K')(hf:∀ a b,f a=f b->a=b)(l:List (K×PV))(k:K):u6 (l.map fun x=>(f x.1,x.2)) (f k)=u6 l k:=by
 unfold u6;induction l with
 |nil=>rfl|cons x l ih=>
  rw[List.map_cons,List.find?_cons,List.find?_cons];by_cases h:x.1=k
  .simp[h]
  .have:¬f x.1=f k:=fun e=>h (hf _ _ e);simp only[h,this,decide_false];exact ih
theorem Sy.funD_get (S:Sy)(a n:Int):u6 S.funD [a,n]=(yy S.funs (a,n)).map fun i=>.int ((i:Nat):Int):=by have h1:=Xz S.funs (a,n) 0;simp only[Nat.zero_add] at h1;rw[<-h1,<-gp (fun x:Int×Int=>[x.1,x.2]) (fun x y e=>by simp at e;exact Prod.ext e.1 e.2)];unfold Sy.funD;rw[List.map_map];rfl
theorem KW {K:Type}[DecidableEq K]{l:List (K×PV)}{k:K}{v:PV}(h:u6 l k=none):Vz l k v=l++[(k,v)]:=by unfold Vz;rw[if_neg];intro e;refine zg (List.any_eq_true.mp e) fun x hx hk=>?_;unfold u6 at h;simp only[Option.map_eq_none_iff,List.find?_eq_none] at h;exact h x hx hk
theorem Sy.atomD_put {S:Sy}{t:Str}(h:yy S.texts t=none):Vz S.atomD t (.int (S.texts.length:Nat))=Sy.atomD ⟨S.texts++[t],S.funs⟩:=by rw[KW (by rw[S.atomD_get,h];rfl)];unfold Sy.atomD;simp[List.zipIdx_append]
theorem Sy.funD_put {S:Sy}{a n:Int}(h:yy S.funs (a,n)=none):Vz S.funD [a,n] (.int (S.funs.length:Nat))=Sy.funD ⟨S.texts,S.funs++[(a,n)]⟩:=by rw[KW (by rw[S.funD_get,h];rfl)];unfold Sy.funD;simp[List.zipIdx_append]
theorem Sy.Ok.atom {S:Sy}(ok:S.Ok){t:Str}(h:t∈xj):(S.atom t).1.Ok:=by
 unfold Sy.atom;cases hp:yy S.texts t with
 |some i=>exact ok|none=>
  refine⟨?_,ok.nf,fun u hu=>?_,fun x hx=>?_⟩
  .rw[List.nodup_append];refine⟨ok.nt,by simp,fun a ha b hb=>?_⟩;simp only[List.mem_singleton] at hb;subst hb;exact fun e=>Vb.mp hp (e▸ha)
  .rcases Zo hu with z|z
   .exact ok.st u z
   .simp only[List.mem_singleton] at z;subst z;exact h
  .refine a4 (ok.sf x hx) fun h1 h2 h3 h4=>?_;exact⟨h1,Int.lt_of_lt_of_le h2 (Int.ofNat_le.mpr (by rw[List.length_append];exact Nat.le_add_right _ _)),h3,h4⟩
theorem Sy.Ok.functor {S:Sy}(ok:S.Ok){a n:Int}(h1:0<=a)(h2:a<S.texts.length)(h3:0<=n)(h4:n<=8):(S.functor a n).1.Ok:=by
 unfold Sy.functor;cases hp:yy S.funs (a,n) with
 |some i=>exact ok|none=>
  refine⟨ok.nt,?_,ok.st,fun x hx=>?_⟩
  .rw[List.nodup_append];refine⟨ok.nf,by simp,fun x hx b hb=>?_⟩;simp only[List.mem_singleton] at hb;subst hb;exact fun e=>Vb.mp hp (e▸hx)
  .rcases Zo hx with z|z
   .exact ok.sf x z
   .simp only[List.mem_singleton] at z;subst z;exact⟨h1,h2,h3,h4⟩
theorem Sy.atom_lt (S:Sy)(t:Str):(S.atom t).2<(S.atom t).1.texts.length:=by unfold Sy.atom;cases hp:yy S.texts t with|some i=>exact gE hp|none=>simp
noncomputable def Sy.func (S:Sy)(t:Str)(n:Int):Sy×Nat:=(S.atom t).1.functor (S.atom t).2 n
theorem Sy.Ok.func {S:Sy}(ok:S.Ok){t:Str}(h:t∈xj){n:Int}(h3:0<=n)(h4:n<=8):(S.func t n).1.Ok:=(ok.atom h).functor (Int.natCast_nonneg _) (by have:=S.atom_lt t;exact Int.ofNat_lt.mpr this) h3 h4
def Sy.Le (S S':Sy):Prop:=(∃ l,S'.texts=S.texts++l)/\∃ l,S'.funs=S.funs++l
theorem Sy.Le.refl (S:Sy):S.Le S:=⟨⟨[],by simp⟩,[],by simp⟩
theorem Sy.Le.trans {SZ SY SW:Sy}(x:SZ.Le SY)(y:SY.Le SW):SZ.Le SW:=by refine a2 x fun wd zz=>?_;refine zA zz fun b hb=>?_;clear x;obtain⟨a,ha⟩:=wd;refine a2 y fun wd zz=>?_;refine zA zz fun d hd=>?_;clear y;obtain⟨c,hc⟩:=wd;exact⟨⟨a++c,by rw[hc,ha,List.append_assoc]⟩,b++d,by rw[hd,hb,List.append_assoc]⟩
theorem Sy.atom_le (S:Sy)(t:Str):S.Le (S.atom t).1:=by unfold Sy.atom;cases yy S.texts t with|some i=>exact .refl S|none=>exact⟨⟨[t],rfl⟩,[],by simp⟩
theorem Sy.functor_le (S:Sy)(a n:Int):S.Le (S.functor a n).1:=by unfold Sy.functor;cases yy S.funs (a,n) with|some i=>exact .refl S|none=>exact⟨⟨[],by simp⟩,[(a,n)],rfl⟩
theorem Sy.func_le (S:Sy)(t:Str)(n:Int):S.Le (S.func t n).1:=(S.atom_le t).trans (Sy.functor_le _ _ _)
theorem Sy.atom_again {S S':Sy}{t:Str}(h:(S.atom t).1.Le S'):S'.atom t=(S',(S.atom t).2):=by
 refine a2 h fun wd _=>?_;clear h;obtain⟨l,hl⟩:=wd;have:yy S'.texts t=some (S.atom t).2:=by rw[hl];refine Y0 ?_ l;unfold Sy.atom;cases hp:yy S.texts t with|some i=>exact hp|none=>exact Uq hp
 unfold Sy.atom at this|-;rw[this]
theorem Sy.functor_again {S S':Sy}{a n:Int}(h:(S.functor a n).1.Le S'):S'.functor a n=(S',(S.functor a n).2):=by
 refine a2 h fun _ zz=>?_;refine zA zz fun l hl=>?_;clear h;have:yy S'.funs (a,n)=some (S.functor a n).2:=by rw[hl];refine Y0 ?_ l;unfold Sy.functor;cases hp:yy S.funs (a,n) with|some i=>exact hp|none=>exact Uq hp
 unfold Sy.functor at this|-;rw[this]
theorem Sy.func_again {S S':Sy}{t:Str}{n:Int}(h:(S.func t n).1.Le S'):S'.func t n=(S',(S.func t n).2):=by have h1:(S.atom t).1.Le S':=(Sy.functor_le _ _ _).trans h;unfold Sy.func;rw[Sy.atom_again h1];exact Sy.functor_again h
noncomputable def UO:Fo:=⟨0,1,154,[(1,.obj (.nm 2)),(2,.obj (.nm 3)),(3,.obj (.nm 4)),(4,.obj (.nm 5))]⟩
theorem XZ:YM (KK P) 154 [1,2,3,4]=true:=by kernel_rfl
theorem zj.fo (h:zj H S):Fa (gr p w B) tx H [UO]:=⟨ZM h.inst h.ns XZ rfl,trivial⟩
end
abbrev yA:Id->Prop:=fun _=>False
def zV (i:Id):Id->Prop:=fun j=>j=i
def uH (N M:Id->Prop):Id->Prop:=fun j=>N j\/M j
theorem zf.no (e:zf yA H H'):zf N H H':=e.mono fun _ h=>h.elim
theorem vw (b:Addr):¬yh (.an b):=by rintro(h|h|h|h)<;>exact v7 h
theorem zf.drop (e:zf (uH N (zV (.an a))) H H')(h:H (.an a)=none):zf N H H':=fun i hi k=>e i (fun z=>by
 rcases z with z|rfl
 .exact hi z
 .rcases k with k|⟨n,k⟩
  .exact k h
  .cases k) k
theorem zf.onL (e:zf N H H'):zf (uH N M) H H':=e.mono fun _ h=>.inl h
theorem zf.onR (e:zf M H H'):zf (uH N M) H H':=e.mono fun _ h=>.inr h
theorem zf.used (e:zf yA H HZ)(n:H (.an a)=none)(e':zf (uH N (zV (.an a))) HZ H2_):zf N H H2_:=(e.no.trans e').drop n
section
variable {g:Gr} {d:Nat} {H:AH} {X Q:PV->AH->Prop} {i:Id} {l:List PV} {p:PV}
theorem zf.one:zf (zV i) H (H.upd i mo):=zf.upd rfl
theorem pG (h:H i=some (.dictS m))(q:Q ((u6 m k).getD p) H):Y6 g d H (.obj i) (xr tx.aN 7) [.str k,p] Q X:=⟨_,rR h,xB _,rB h q⟩
theorem oW (k:List Int)(h:H i=some (.dictT m))(q:Q ((u6 m k).getD p) H):Y6 g d H (.obj i) (xr tx.aN 7) [.tup (k.map .int),p] Q X:=⟨_,rQ h,xB _,rp h q⟩
theorem rD (h:H i=some (.dictI m))(q:Q ((vF m k).getD p) H):Y6 g d H (.obj i) (xr tx.aN 7) [.int k,p] Q X:=⟨_,r9 h,xB _,oF h q⟩
theorem xV (h:H i=some (.list l))(hz:l.length<=10000000)(q:∀ H',H' i=some (.list (l++[p]))->zf (zV i) H H'->Q .none H'):zh g d H [.obj i,p] (fun vs=>call (.builtin "list.append") vs) Q X:=gf h hz (q _ (AH.upd_same _ _ _) zf.one)
theorem ku (h:H i=some (.list l))(hz:l.length<=10000000)(q:∀ H',H' i=some (.list (l++[p]))->zf (zV i) H H'->Q .none H'):Y6 g d H (.obj i) (xr tx.aN 8) [p] Q X:=⟨_,Kh h,xB _,xV h hz q⟩
theorem uZ (h:H i=some (.list (l++[p])))(hz:l.length<=1000000)(q:∀ H',H' i=some (.list l)->zf (zV i) H H'->Q p H'):Y6 g d H (.obj i) (xr tx.aN 26) [] Q X:=⟨_,BI h,xB _,BA h hz (q _ (AH.upd_same _ _ _) zf.one)⟩
theorem YD (q:Q (.int (Builtin.Int.intBits x)) H):Y6 g d H (.int x) (xr tx.aN 31) [] Q X:=⟨_,pQ,xB _,rl q⟩
theorem yo (q:∀ a H',H (.an a)=none->H' (.an a)=some (.list l)->zf yA H H'->Q (.obj (.an a)) H'):yW H (.list l) Q:=.an fun a n=>q a _ n (AH.upd_same _ _ _) (zf.new n)
theorem yF (hi:H i=some (.list l))(h0:0<=k)(hk:k<=100000000)(hx:l[k.toNat]?=some p)(q:Q p H):q9 g d H (.obj i) (.int k) Q X:=fun _ _ hs=>D4 hi h0 hk hx q hs
theorem iW {n:Nat}{k:Int}(e:k=n)(hi:H i=some (.list l))(hk:n<=100000000)(hx:l[n]?=some p)(q:Q p H):q9 g d H (.obj i) (.int k) Q X:=by subst e;exact yF hi (Int.natCast_nonneg n) (Int.le_trans (Int.ofNat_le.mpr hk) (by decide)) hx q
theorem uj {n:Nat}(hi:H i=some (.list l))(hk:n<=100000000)(hx:l[n]?=some p)(q:Q p H):q9 g d H (.obj i) (.int n) Q X:=iW rfl hi hk hx q
theorem w9 {α β:Type}{f:α->β}{l:List α}{n:Nat}{a:α}(h:l[n]?=some a):(l.map f)[n]?=some (f a):=by rw[List.getElem?_map,h];rfl
end
section
variable {p:Program} {w:World} {B:Heap} {d:Nat} {s:Sc} {Q:xM->Prop} {X:PV->AH->Prop} {rs:List RS} {ρ:Lc} {ks:List EF} {H:AH} {F:List Fo}
theorem xy (h:H i=some (.list l))(hF:Fa (gr p w B) tx H F)(k:run ⟨gr p w B,tx,d,s,Q,X⟩ H F 1000 ρ rs (.calG (.builtin "list.append") [.obj i] r::ks) (.E e)):sV ⟨gr p w B,tx,d,s,Q,X⟩ rs ρ (.metO 8 (.k e r)::ks) (.obj i) H:=⟨_,Kh h,xB _,Z9 (vr kE hF _ _ _ _ _ k)⟩
end
section
variable {g:Gr} {d:Nat} {H:AH} {i:Id} {p:PV} {K:AH->Prop}
theorem vV (h:H i=some (.list l))(h1:n<l.length)(hz:l.length<=1000000)(q:∀ H',H' i=some (.list (l.set n p))->zf (zV i) H H'->K H'):q8 g d H (.obj i) (.int n) p K:=.mk fun C I r1 r2 r3 k=>by refine zg (yz r1) fun x hx zm=>?_;subst zm;refine zA (zX r2) fun t zW=>?_;subst zW;refine zB (I.listAt h hx) fun items m hl hr hsz=>?_;refine UJ hl (Int.natCast_nonneg n) (Int.lt_of_lt_of_le (Int.ofNat_lt.mpr h1) (Int.le_trans (Int.ofNat_le.mpr hz) (by decide))) (Int.ofNat_lt.mpr (hsz▸h1)) ?_;refine k _ _ _ (q _ (AH.upd_same _ _ _) zf.one) (qi (S:=yB) I h hx hl (fun xs=>xs.setIfInBounds n _) ?_);rw[Array.toList_setIfInBounds];exact hr.set r3 n
theorem YT (I:HI g θ H F h)(hi:H i=some mo)(hx:i.at θ=some x)(ho:h.get? x=some ox)(hn:∀ items n,ox.data≠.seq items n)(hs:Heap.SameBut x h h')(r:(∀ a items,IsTup h a items->IsTup h' a items)->w6 g θ h' x mo'):Go g F yB θ H h θ (H.upd i mo') h':=by have k:∀ b o,b≠x->h.get? b=some o->h'.get? b=some o:=fun b o hb e=>(hs.2 b hb).trans e;refine Go.upd I hi hx k (r fun b items ⟨o,yg,hc,m,hd⟩=>⟨o,k b o (fun q=>?_) yg,hc,m,hd⟩);subst q;rw[ho] at yg;cases yg;exact hn _ _ hd
theorem Xp (h:H i=some (.dictI l))(hz:l.length<=1000000)(q:∀ H',H' i=some (.dictI (X8 l n p))->zf (zV i) H H'->K H'):q8 g d H (.obj i) (.int n) p K:=.mk fun C I r1 r2 r3 k=>by
 refine zg (yz r1) fun x hx zm=>?_;subst zm;refine zA (zX r2) fun t zW=>?_;subst zW;refine a2 (I.dictAt h hx) fun hB zz=>?_;refine zg zz fun kvs hd hp=>?_;have yf:kvs.length=l.length:=by have:=congrArg List.length hp.1;simpa using this
 refine wpAny_setItem_pairs (knd:=intKind g.prog g.w) (xY _ _ _ _) hd (fun h' xi ZD=>?_) (by rw[sizeLine_eq];exact A22 0x37D610042010418FAC00 yf hz);refine jI hd fun ox FV FQ eR sP eA _=>?_;exact k _ _ _ (q _ (AH.upd_same _ _ _) zf.one) (YT I h hx eR (fun _ _ e=>by rw[eA] at e;cases e) ZD fun tk=>⟨_,xi,(jq.store r3 hp).mono (zZ.refl _) tk⟩)
theorem Aq (h:H i=some (.dictS l))(hz:l.length<=1000000)(q:∀ H',H' i=some (.dictS (Vz l n p))->zf (zV i) H H'->K H'):q8 g d H (.obj i) (.str n) p K:=.mk fun C I r1 r2 r3 k=>by
 refine zg (yz r1) fun x hx zm=>?_;subst zm;refine zA (vC r2) fun t zW=>?_;subst zW;refine a2 (I.dictSAt h hx) fun hB zz=>?_;refine zg zz fun kvs hd hp=>?_;have yf:kvs.length=l.length:=by have:=congrArg List.length hp.1;simpa using this
 refine wpAny_setItem_pairs (knd:=strKind g.prog g.w) (strKind_is _ _ _ _) hd (fun h' xi ZD=>?_) (by rw[sizeLine_eq];exact A22 0x37D610042010418FAC00 yf hz);refine jI hd fun ox FV FQ eR sP eA _=>?_;exact k _ _ _ (q _ (AH.upd_same _ _ _) zf.one) (YT I h hx eR (fun _ _ e=>by rw[eA] at e;cases e) ZD fun tk=>⟨_,xi,(jq.store r3 hp).mono (zZ.refl _) tk⟩)
theorem CX (n:List Int)(h:H i=some (.dictT l))(hz:l.length<=1000000)(q:∀ H',H' i=some (.dictT (Vz l n p))->zf (zV i) H H'->K H'):q8 g d H (.obj i) (.tup (n.map .int)) p K:=.mk fun C I r1 r2 r3 k=>by
 refine zg (yz r1) fun x hx zm=>?_;subst zm;refine zg (U6 (prog:=g.prog) (w:=g.w) r2) fun t zW hk=>?_;subst zW;refine a2 (I.dictTAt h hx) fun hB zz=>?_;refine zg zz fun kvs hd hp=>?_;have yf:kvs.length=l.length:=by have:=congrArg List.length hp.1;simpa using this
 refine wpAny_setItem_heap (knd:=tupleKind (intKind g.prog g.w)) (tupleKind_room_in1 (by have:=C.unit;exact A21 0x805AF2C080840168101 this)) hk hd (fun h' xi ZD=>?_) (by rw[sizeLine_eq];exact A22 0x37D610042010418FAC00 yf hz);refine jI hd fun ox FV FQ eR sP eA _=>?_;exact k _ _ _ (q _ (AH.upd_same _ _ _) zf.one) (YT I h hx eR (fun _ _ e=>by rw[eA] at e;cases e) ZD fun tk=>⟨_,xi,by rw[show(storedH kvs n t _).map (fun x=>(x.1,x.2.2))=stored (kvs.map fun x=>(x.1,x.2.2)) n _ from kvsOf_storedH kvs n t _];exact(jq.store r3 hp).mono (zZ.refl _) tk⟩)
end
section
variable {g:Gr} {d:Nat} {H:AH} {p:PV} {K:AH->Prop} {name:Str}
theorem QP (h1:H i=some (.inst C j))(h2:H j=some (.ns l))(h3:ji g.K C name=true)(h4:l.length<=900)(q:∀ H',H' j=some (.ns (zS.put l name p))->zf (zV j) H H'->K H'):YV g d H (.obj i) p name K:=.mk fun C' I r1 r2 k=>by
 refine zg (yz r1) fun x hx zm=>?_;subst zm;refine gO (I.instAt h1 h2 hx) fun da sl es n hd _ yg hn IA=>?_;have hl:(getL name es).isSome=true:=by
  cases z:zS.get l name with
  |none=>rw[(Zn name hn).2 z];rfl|some p=>obtain⟨v,e1,_⟩:=(Zn name hn).1 p z;rw[e1];rfl
 exact iF (I.kin C'.ok) IA h3 hl (by rw[m5 hn];exact h4) fun h' hs tk n' jO e1 e2=>k _ _ _ (q _ (AH.upd_same _ _ _) zf.one) (Go.setNs (S:=yB) I h2 hd hn r2 yg e1 e2)
theorem A0 (h:H (.an a)=some (.exc g.C none))(hk:Zr g.K g.C name=true)(q:∀ da H',H (.an da)=none->a≠da->H' (.an a)=some (.exc g.C (some (.an da)))->H' (.an da)=some (.ns [(name,p)])->zf (zV (.an a)) H H'->K H'):YV g d H (.obj (.an a)) p name K:=.mk fun{A za θ s vo v Qc Ec} C' I r1 r2 k=>by
 refine zg (yz r1) fun x hx zm=>?_;subst zm;have:a=x:=yd hx;subst this;refine xI (I.rep _ _ h) fun b eb hB hF zz=>?_;refine yE zz fun od t ho Ju=>?_;have:a=b:=yd eb;subst this;have Ju:od=none:=Ju;subst Ju;refine nq (I.kin C'.ok) ho hk fun h' hs tk jO e1 e2 e3=>?_;have nx:s.heap.objs.size≠a:=Nat.ne_of_gt (Heap.lt_size ho);have uB:s.heap.get? s.heap.objs.size=none:=y8 s.heap;have XW:∀ b items,IsTup s.heap b items->IsTup h' b items:=fun b vh ⟨o,yg,hc,m,hd⟩=>⟨o,e3 b o (fun q=>by subst q;rw[ho] at yg;cases yg;cases hd) yg,hc,m,hd⟩;have n2:=Wc I uB;have nd:¬wI θ (H.upd (.an a) (.exc g.C (some (.an s.heap.objs.size)))) s.heap.objs.size:=by
  intro zq;refine yE zq fun i mo hi Yp=>?_;clear zq;unfold AH.upd at hi;split at hi
  .rename_i q;subst q;exact nx (yd Yp).symm
  .refine zA (I.dom_some ⟨i,mo,hi,Yp⟩) fun o ho=>?_;rw[uB] at ho;exact zJ ho
 have Gu:Go g (zE za) yB θ H s.heap θ (H.upd (.an a) (.exc g.C (some (.an s.heap.objs.size)))) h':=Go.upd I h rfl e3 ⟨_,t,e2,_,rfl,rfl⟩;have Ga:=Gu.adopt (mo:=.ns [(name,p)]) uB (xt I uB) (xG I uB) nd ⟨_,1,e1,_,_,_,rfl,rfl,Rd.mono (zZ.refl _) XW _ _ r2,rfl⟩;refine k _ _ _ (q _ _ n2 nx.symm ((AH.upd_ne _ _ (by simpa using nx.symm)).trans (AH.upd_same _ _ _)) (AH.upd_same _ _ _) ?_) Ga;intro i hi hk;rw[AH.upd_ne,AH.upd_ne _ _ hi];rintro rfl;rcases hk with hk|⟨n,hk⟩
 .exact hk n2
 .exact v7 hk
end
section
variable {g:Gr} {T:Tx} {d:Nat} {s:Sc} {Q0 Q:xM->Prop} {X:PV->AH->Prop} {i:Nat} {b:RS} {ρ:Lc} {H:AH} {l:List PV}
theorem iw (Inv:List PV->Lc->AH->Prop)(h0:Inv l ρ H)(h:∀ p r zO H',Inv (p::r) zO H'->∀ K:xM->Prop,(∀ {o},Z_ (Inv r) src Q o->K o)->WS ⟨g,T,d,s,K,X⟩ (zO.set i (some p)) H' b K)(h1:∀ zO H',Inv [] zO H'->Q (.next zO H')):ql ⟨g,T,d,s,Q0,X⟩ i b src Q l ρ H:=⟨Inv,h0,fun p r zO H' k=>h p r zO H' k _ fun h=>h,h1⟩
theorem r6 (hl:H j=some (.list l))(hz:l.length<=1000000)(Inv:List PV->Lc->AH->Prop)(h0:Inv l ρ H)(h:∀ p r zO H',Inv (p::r) zO H'->∀ K:xM->Prop,(∀ {o},Z_ (Inv r) (some (j,l)) Q o->K o)->WS ⟨g,T,d,s,K,X⟩ (zO.set i (some p)) H' b K)(h1:∀ zO H',Inv [] zO H'->Q (.next zO H')):ZU ⟨g,T,d,s,Q0,X⟩ i b Q ρ H (.obj j):=.obj j l hl hz (iw Inv h0 h h1)
theorem pF {α:Type}{src:qJ}{f:α->PV}{la:List α}(Inv:List α->Lc->AH->Prop)(h0:Inv la ρ H)(h:∀ a r zO H',Inv (a::r) zO H'->∀ K:xM->Prop,(∀ {o},Z_ (Inv r) src Q o->K o)->WS ⟨g,T,d,s,K,X⟩ (zO.set i (some (f a))) H' b K)(h1:∀ zO H',Inv [] zO H'->Q (.next zO H')):ql ⟨g,T,d,s,Q0,X⟩ i b src Q (la.map f) ρ H:=
 iw (fun r σ H=>∃ r0,r=r0.map f/\Inv r0 σ H) ⟨la,rfl,h0⟩ (fun p r zO H' z K hk=>by
  refine zg z fun r0 e k=>?_;cases r0 with
  |nil=>exact Kw e|cons a r0=>
   cases e;exact h a r0 zO H' k K fun{o} q=>hk (by cases o with
    |next σ H=>exact⟨q.1,r0,rfl,q.2⟩|cont σ H=>exact⟨q.1,r0,rfl,q.2⟩|brk σ H=>exact q|ret p H=>exact q)) fun zO H' z=>zg z fun r0 e k=>by
  cases r0 with|nil=>exact h1 _ _ k|cons a r0=>exact KI e
theorem VL {α:Type}{f:α->PV}{la:List α}(Inv:List α->Lc->AH->Prop)(h0:Inv la ρ H)(h:∀ a r zO H',Inv (a::r) zO H'->∀ K:xM->Prop,(∀ {o},Z_ (Inv r) none Q o->K o)->WS ⟨g,T,d,s,K,X⟩ (zO.set i (some (f a))) H' b K)(h1:∀ zO H',Inv [] zO H'->Q (.next zO H')):ZU ⟨g,T,d,s,Q0,X⟩ i b Q ρ H (.tup (la.map f)):=.tup _ (pF Inv h0 h h1)
theorem Xh {α:Type}{f:α->PV}{la:List α}{j:Id}(hl:H j=some (.list (la.map f)))(hz:la.length<=1000000)(Inv:List α->Lc->AH->Prop)(h0:Inv la ρ H)(h:∀ a r zO H',Inv (a::r) zO H'->∀ K:xM->Prop,(∀ {o},Z_ (Inv r) (some (j,la.map f)) Q o->K o)->WS ⟨g,T,d,s,K,X⟩ (zO.set i (some (f a))) H' b K)(h1:∀ zO H',Inv [] zO H'->Q (.next zO H')):ZU ⟨g,T,d,s,Q0,X⟩ i b Q ρ H (.obj j):=.obj j _ hl (by rw[List.length_map];exact hz) (pF Inv h0 h h1)
def VI (g:Gr)(T:Tx)(d:Nat)(s:Sc)(X:PV->AH->Prop)(i:Nat)(b:RS)(src:qJ)(Q:xM->Prop):List PV->Lc->AH->Prop|[],ρ,H=>Q (.next ρ H)|p::r,ρ,H=>WS ⟨g,T,d,s,Z_ (VI g T d s X i b src Q r) src Q,X⟩ (ρ.set i (some p)) H b (Z_ (VI g T d s X i b src Q r) src Q)
theorem dh (h:VI g T d s X i b none Q l ρ H):ZU ⟨g,T,d,s,Q0,X⟩ i b Q ρ H (.tup l):=.tup l ⟨VI g T d s X i b none Q,h,fun _ _ _ _ h=>h,fun _ _ h=>h⟩
end
section
variable {p:Program} {w:World} {B:Heap} {H:AH} {d:Nat} {X Q:PV->AH->Prop}
theorem n_ (q:Q (.tup [.str "a",.int n]) H):zh (gr p w B) (d+1) H [.int n] (cZ 165) Q X:=z9 (F:=[]) rfl trivial q
theorem qD (q:Q (.tup [.str "i",.int n]) H):zh (gr p w B) (d+1) H [.int n] (cZ 172) Q X:=z9 (F:=[]) rfl trivial q
theorem iu (q:Q (.tup [.str "s",.int f,.tup l]) H):zh (gr p w B) (d+1) H [.int f,.tup l] (cZ 179) Q X:=by refine z9 (F:=[]) rfl trivial (fY ?_);exact gV q
theorem xd (hS:zj H S)(ok:S.Ok)(q:∀ H',zj H' (S.atom t).1->zf yh H H'->Q (.int (S.atom t).2) H'):zh (gr p w B) (d+1) H [.obj (.nm 0),.str t] (cZ 88) Q X:=by
 refine z9 rfl hS.fo (pG hS.atoms ?_);rw[S.atomD_get];cases hp:yy S.texts t with
 |some i=>
  have e:S.atom t=(S,i):=by unfold Sy.atom;rw[hp]
  rw[e] at q;refine zd hS.fo ?_;exact q H hS .refl
 |none=>
  have e:S.atom t=(⟨S.texts++[t],S.funs⟩,S.texts.length):=by unfold Sy.atom;rw[hp]
  rw[e] at q;have lt:=ok.lt;refine zd hS.fo (xb hS.texts (A22 0x1E79610042010407FAC00 (List.length_map ..) lt) ?_);refine zd hS.fo (ku hS.texts (A22 0x1E79610042010407FAC00 (List.length_map ..) lt) fun H1 h1 e1=>?_);have n1:∀ n:Nat,n≠2->¬zV (.nm 2) (.nm n):=fun n h z=>h (by cases z;rfl);have eh:Fa (gr p w B) tx H1 [UO]:=⟨ZM (e1.get (n1 0 (by decide)) hS.inst) (e1.get (n1 1 (by decide)) hS.ns) XZ rfl,trivial⟩;refine zd eh (Aq (e1.get (n1 3 (by decide)) hS.atoms) (by unfold Sy.atomD;simp;exact A11 0x1E796000406FAC00 lt) fun H2 h2 e2=>?_);have n2:∀ n:Nat,n≠3->¬zV (.nm 3) (.nm n):=fun n h z=>h (by cases z;rfl);rw[List.length_map,Sy.atomD_put hp] at h2;have zN:zj H2 ⟨S.texts++[t],S.funs⟩:=⟨e2.get (n2 0 (by decide)) eh.1.inst,e2.get (n2 1 (by decide)) (e1.get (n1 1 (by decide)) hS.ns),by rw[List.map_append];exact e2.get (n2 2 (by decide)) h1,h2,e2.get (n2 4 (by decide)) (e1.get (n1 4 (by decide)) hS.funs),e2.get (n2 5 (by decide)) (e1.get (n1 5 (by decide)) hS.funD)⟩;refine goN zN.fo ?_;rw[List.length_map];exact q H2 zN ((e1.mono fun _ z=>.inl z).trans (e2.mono fun _ z=>.inr (.inl z)))
theorem dZ (hS:zj H S)(ok:S.Ok)(q:∀ H',zj H' (S.functor a n).1->zf yh H H'->Q (.int (S.functor a n).2) H'):zh (gr p w B) (d+1) H [.obj (.nm 0),.int a,.int n] (cZ 102) Q X:=by
 refine z9 rfl hS.fo (oW [a,n] hS.funD ?_);rw[S.funD_get];have lf:=ok.lf;cases hp:yy S.funs (a,n) with
 |some i=>
  have e:S.functor a n=(S,i):=by unfold Sy.functor;rw[hp]
  rw[e] at q;refine zd hS.fo ?_;exact q H hS .refl
 |none=>
  have e:S.functor a n=(⟨S.texts,S.funs++[(a,n)]⟩,S.funs.length):=by unfold Sy.functor;rw[hp]
  rw[e] at q;refine zd hS.fo (xb hS.funs (A22 0x1F479610042010407FAC00 (List.length_map ..) lf) ?_);refine zd hS.fo (ku hS.funs (A22 0x1F479610042010407FAC00 (List.length_map ..) lf) fun H1 h1 e1=>?_);have n1:∀ n:Nat,n≠4->¬zV (.nm 4) (.nm n):=fun n h z=>h (by cases z;rfl);have eh:Fa (gr p w B) tx H1 [UO]:=⟨ZM (e1.get (n1 0 (by decide)) hS.inst) (e1.get (n1 1 (by decide)) hS.ns) XZ rfl,trivial⟩;refine zd eh (CX [a,n] (e1.get (n1 5 (by decide)) hS.funD) (by unfold Sy.funD;simp;exact A11 0x1F4796000406FAC00 lf) fun H2 h2 e2=>?_);have n2:∀ n:Nat,n≠5->¬zV (.nm 5) (.nm n):=fun n h z=>h (by cases z;rfl);rw[List.length_map,Sy.funD_put hp] at h2;have zN:zj H2 ⟨S.texts,S.funs++[(a,n)]⟩:=⟨e2.get (n2 0 (by decide)) eh.1.inst,e2.get (n2 1 (by decide)) (e1.get (n1 1 (by decide)) hS.ns),e2.get (n2 2 (by decide)) (e1.get (n1 2 (by decide)) hS.texts),e2.get (n2 3 (by decide)) (e1.get (n1 3 (by decide)) hS.atoms),by rw[List.map_append];exact e2.get (n2 4 (by decide)) h1,h2⟩;refine goN zN.fo ?_;rw[List.length_map];exact q H2 zN ((e1.mono fun _ z=>.inr (.inr (.inl z))).trans (e2.mono fun _ z=>.inr (.inr (.inr z))))
theorem jn (hS:zj H S)(ok:S.Ok)(ht:t∈xj)(q:∀ H',zj H' (S.func t n).1->zf yh H H'->Q (.int (S.func t n).2) H'):zh (gr p w B) (d+2) H [.obj (.nm 0),.str t,.int n] (cZ 109) Q X:=
 z9 rfl hS.fo (xd hS ok fun _ zG e1=>zd zG.fo (dZ zG (ok.atom ht) fun H2 zN e2=>q H2 zN (e1.trans e2)))
theorem Kf {f:Nat}{a n:Int}(hS:zj H S)(hf:S.funs[f]?=some (a,n))(hz:f<=1000000)(q:Q (.int a) H):zh (gr p w B) (d+1) H [.obj (.nm 0),.int f] (cZ 116) Q X:=
 z9 rfl hS.fo (uj hS.funs (Nat.le_trans hz (by decide)) (w9 hf) (zd hS.fo q))
theorem je {f:Nat}{a n:Int}(hS:zj H S)(hf:S.funs[f]?=some (a,n))(hz:f<=1000000)(q:Q (.int n) H):zh (gr p w B) (d+1) H [.obj (.nm 0),.int f] (cZ 123) Q X:=
 z9 rfl hS.fo (uj hS.funs (Nat.le_trans hz (by decide)) (w9 hf) (zd hS.fo q))
theorem KS {a:Nat}(hS:zj H S)(hf:S.texts[a]?=some t)(hz:a<=1000000)(q:Q (.str t) H):zh (gr p w B) (d+1) H [.obj (.nm 0),.int a] (cZ 95) Q X:=
 z9 rfl hS.fo (uj hS.texts (Nat.le_trans hz (by decide)) (w9 hf) q)
end
section
set_option genInjectivity false
set_option genSizeOf false
section
variable {p:Program} {w:World} {B:Heap} {H:AH} {d:Nat} {X Q:PV->AH->Prop}
inductive Q4 (H:AH)(ball:PV):PV->AH->Prop
 |mk {a da:Addr} {H':AH} (ne:a≠da) (h1:H' (.an a)=some (.exc 51 (some (.an da)))) (h2:H' (.an da)=some (.ns [(xr tx.aN 0,ball)])) (n1:H (.an a)=none) (n2:H (.an da)=none) (e:zf yA H H'):Q4 H ball (.obj (.an a)) H'
theorem HR:Zr (KK P) 51 (xr tx.aN 0)=true:=by kernel_rfl
theorem dc (h:H (.an a)=some (.exc 51 none))(q:∀ da H',H (.an da)=none->a≠da->H' (.an a)=some (.exc 51 (some (.an da)))->H' (.an da)=some (.ns [(xr tx.aN 0,v)])->zf (zV (.an a)) H H'->Q .none H'):
  zh (gr p w B) (d+1) H [.obj (.an a),v] (cZ 48) Q X:=
 z9 (F:=[]) rfl trivial (A0 (g:=gr p w B) h HR fun da H' a1 a2 a3 a4 a5=>gN (q da H' a1 a2 a3 a4 a5))
theorem cA (q:∀ r H',Q4 H v r H'->Q r H'):zh (gr p w B) (d+2) H [v] (cZ 51) Q X:=by
 intro A za θ s vs Qc Ec C I R hQ hX;obtain⟨v',_,rfl,R,rfl⟩:=R;obtain⟨h,gs,dr,t,os⟩:=s;refine(cu (p:=p) C.ok.X).make I.stays (by rw[sizeLine_eq];simp) fun h' e hm=>?_;obtain⟨tt,he,_,_⟩:=hm.there;have GZ:=Go.newA (g:=gr p w B) (F:=zE za) (S:=yB) (mo:=.exc 51 none) I hm.new hm.keeps ⟨none,tt,he,rfl⟩;refine dc (H:=H.upd (.an e) (.exc 51 none)) (Q:=fun r H'=>r=.none/\Q4 H v (.obj (.an e)) H') (AH.upd_same _ _ _) (fun da H' n ne a3 a4 ex=>⟨rfl,.mk ne a3 a4 GZ.2 (by rwa [AH.upd_ne _ _ (by simpa using ne.symm)] at n) ?_⟩) _ za θ ⟨h',gs,dr,t,os⟩ [.ref e,v'] _ _ (C.create _ _ _) GZ.1.inv ?_ ?_ (hX.after GZ.1)
 .exact((zf.new GZ.2:zf (uH yA (zV (.an e))) H _).trans ex.onR).drop GZ.2
 .exact⟨_,_,rfl,⟨e,rfl,rfl⟩,v',_,rfl,GZ.1.rd I R,rfl⟩
 .rintro v2 p' zl H' h2 tk ⟨rfl,m⟩ G r;exact⟨r,hQ (.ref e) (.obj (.an e)) zl _ h2 tk (q _ _ m) (GZ.1.trans G) (⟨e,rfl,rfl⟩)⟩
set_option genCtorIdx false in
inductive zT where|inst|type (kind:Str) (culprit:PV)|eval (what:Str)|res (what:Str)
noncomputable def zT.ctorIdx (t:zT):Nat:=zT.casesOn t 0 (fun _ _=>1) (fun _=>2) (fun _=>3)
noncomputable def kg (formal:PV):PV:=.tup [.str "s",.int 16,.tup [formal,.tup [.str "a",.int 25]]]
noncomputable def Yj (n:Int):PV:=.tup [.str "a",.int n]
noncomputable def zT.ball (S:Sy):zT->Sy×PV|.inst=>((S.atom "instantiation_error").1,kg (Yj (S.atom "instantiation_error").2))|.type kind culprit=>(((S.atom kind).1.func "type_error" 2).1,kg (.tup [.str "s",.int ((S.atom kind).1.func "type_error" 2).2,.tup [Yj (S.atom kind).2,culprit]]))|.eval what=>(((S.atom what).1.func "evaluation_error" 1).1,kg (.tup [.str "s",.int ((S.atom what).1.func "evaluation_error" 1).2,.tup [Yj (S.atom what).2]]))|.res what=>(((S.atom what).1.func "resource_error" 1).1,kg (.tup [.str "s",.int ((S.atom what).1.func "resource_error" 1).2,.tup [Yj (S.atom what).2]]))
def uE (H:AH)(S':Sy)(ball:PV)(r:PV)(H':AH):Prop:=∃ HZ,zj HZ S'/\zf yh H HZ/\Q4 HZ ball r H'
theorem ZZ (hS:zj H S)(q:∀ r H',uE H S (kg f) r H'->Q r H'):zh (gr p w B) (d+3) H [f] (cZ 186) Q X:=
 z9 (F:=[]) rfl trivial (cA fun r H' m=>gV (q r H' ⟨H,hS,.refl,m⟩))
theorem uE.pre (e:zf yh H HZ)(h:uE HZ S' ball r H'):uE H S' ball r H':=
 let⟨H2_,a,b,c⟩:=h
 ⟨H2_,a,e.trans b,c⟩
theorem zf.back (e:zf N H H')(n:¬N (.an a))(h:H' (.an a)=none):H (.an a)=none:=by cases q:H (.an a) with|none=>rfl|some mo=>rw[e.get n q] at h;exact qE h
theorem zf.del2 (e:zf N H H')(h:H (.an a)=none)(k:H (.an b)=none):zf N H ((H'.del (.an a)).del (.an b)):=fun i hi z=>by
 have no:∀ c,H (.an c)=none->i≠.an c:=fun c hc q=>by subst q;rcases z with z|⟨n,z⟩;exact z hc;exact v7 z
 show(if i=.an b then none else if i=.an a then none else H' i)=_;rw[if_neg (no b k),if_neg (no a h)];exact e i hi z
theorem uE.rai (h:uE H S' ball r H')(q:∀ yr,zj yr S'->zf yh H yr->X ball yr):KP (gr p w B) H H' r X:=by obtain⟨HZ,hS,e,⟨ne,h1,h2,n1,n2,e'⟩⟩:=h;have d1:=e.back (vw _) n1;have d2:=e.back (vw _) n2;have ex:=e'.del2 n1 n2;exact⟨_,_,_,ball,rfl,h1,h2,by kernel_rfl,d1,d2,q _ (hS.ext ex fun n _ h=>h) (e.trans ex.no)⟩
theorem V9 (hS:zj H S)(ok:S.Ok)(h1:name∈xj)(h2:what∈xj) (q:∀ H',zj H' ((S.atom what).1.func name 1).1->zf yh H H'->Q (.tup [.str "s",.int ((S.atom what).1.func name 1).2,.tup [Yj (S.atom what).2]]) H'):
  zh (gr p w B) (d+3) H [.obj (.nm 0),.str name,.tup [.str what]] (cZ 193) Q X:=by
 refine z9 rfl hS.fo (yo fun a H0 na g0 e0=>?_);have Y_:=hS.ext e0 (fun _ _ h=>h);refine zd Y_.fo (dh ?_);refine w8 Y_.fo (xy g0 Y_.fo (JN ?_));refine zd Y_.fo (xd Y_ ok fun H1 zG e1=>?_);have g1:=e1.get (vw a) g0;refine zd zG.fo (xV g1 (by simp) fun H2 g2 e2=>?_);have zN:=zG.ext e2 fun n _ h=>(xh h);refine zd zN.fo ⟨trivial,?_⟩;refine goN zN.fo (xb g2 (by simp) (zd zN.fo (jn zN (ok.atom h2) h1 fun H3 yc e3=>?_)));refine zd yc.fo (jb (e3.get (vw a) g2) (by simp) (zd yc.fo ?_));exact q H3 yc (e0.used na ((e1.onL.trans e2.onR).trans e3.onL))
theorem cB (hS:zj H S)(ok:S.Ok)(h1:name∈xj)(h2:what∈xj) (q:∀ H',zj H' ((S.atom what).1.func name 2).1->zf yh H H'->Q (.tup [.str "s",.int ((S.atom what).1.func name 2).2,.tup [Yj (S.atom what).2,.tup l]]) H'):
  zh (gr p w B) (d+3) H [.obj (.nm 0),.str name,.tup [.str what,.tup l]] (cZ 193) Q X:=by
 refine z9 rfl hS.fo (yo fun a H0 na g0 e0=>?_);have Y_:=hS.ext e0 (fun _ _ h=>h);refine zd Y_.fo (dh ?_);refine w8 Y_.fo (xy g0 Y_.fo (JN ?_));refine zd Y_.fo (xd Y_ ok fun H1 zG e1=>?_);refine zd zG.fo (xV (e1.get (vw a) g0) (by simp) fun H2 g2 e2=>?_);have zN:=zG.ext e2 fun n _ h=>(xh h);refine zd zN.fo ⟨trivial,?_⟩;refine w8 zN.fo (xy g2 zN.fo (fM ?_));refine zd zN.fo (xV g2 (by simp) fun H3 g3 e3=>?_);have yc:=zN.ext e3 fun n _ h=>(xh h);refine zd yc.fo ⟨trivial,?_⟩;refine goN yc.fo (xb g3 (by simp) (zd yc.fo (jn yc (ok.atom h2) h1 fun H4 yn e4=>?_)));refine zd yn.fo (jb (e4.get (vw a) g3) (by simp) (zd yn.fo ?_));exact q H4 yn (e0.used na (((e1.onL.trans e2.onR).trans e3.onR).trans e4.onL))
theorem kf (hS:zj H S)(ok:S.Ok)(q:∀ r H',uE H (zT.inst.ball S).1 (zT.inst.ball S).2 r H'->Q r H'):zh (gr p w B) (d+4) H [.obj (.nm 0)] (cZ 200) Q X:=
 z9 rfl hS.fo (xd hS ok fun _ zG e1=>zd zG.fo (ZZ zG fun r H' m=>gV (q r H' (m.pre e1))))
theorem jx (hS:zj H S)(ok:S.Ok)(hk:kind∈xj)(q:∀ r H',uE H ((zT.type kind (.tup l)).ball S).1 ((zT.type kind (.tup l)).ball S).2 r H'->Q r H'):zh (gr p w B) (d+4) H [.obj (.nm 0),.str kind,.tup l] (cZ 207) Q X:=
 z9 rfl hS.fo (cB hS ok (by decide) hk fun _ zG e1=>zd zG.fo (ZZ zG fun r H' m=>gV (q r H' (m.pre e1))))
theorem c6 (hS:zj H S)(ok:S.Ok)(hk:what∈xj)(q:∀ r H',uE H ((zT.eval what).ball S).1 ((zT.eval what).ball S).2 r H'->Q r H'):zh (gr p w B) (d+4) H [.obj (.nm 0),.str what] (cZ 214) Q X:=
 z9 rfl hS.fo (V9 hS ok (by decide) hk fun _ zG e1=>zd zG.fo (ZZ zG fun r H' m=>gV (q r H' (m.pre e1))))
theorem Wh (hS:zj H S)(ok:S.Ok)(hk:what∈xj)(q:∀ r H',uE H ((zT.res what).ball S).1 ((zT.res what).ball S).2 r H'->Q r H'):zh (gr p w B) (d+4) H [.obj (.nm 0),.str what] (cZ 221) Q X:=
 z9 rfl hS.fo (V9 hS ok (by decide) hk fun _ zG e1=>zd zG.fo (ZZ zG fun r H' m=>gV (q r H' (m.pre e1))))
end
end
theorem uy {α:Type}{R:α->Prop}{c:Prop}[Decidable c]{a b:α}{A B:Prop}(q:R (if c then a else b))(t:c->R a->A)(f:¬c->R b->B):cond (decide c) A B:=by
 by_cases h:c
 .rw[if_pos h] at q;rw[decide_eq_true h];exact t h q
 .rw[if_neg h] at q;rw[decide_eq_false h];exact f h q
theorem wb {c:Prop}[Decidable c]{a b:Prop}(h:c)(k:a):cond (decide c) a b:=qa (decide_eq_true h) k
theorem yZ {c:Prop}[Decidable c]{a b:Prop}(h:¬c)(k:b):cond (decide c) a b:=jE (decide_eq_false h) k
section
variable {p:Program} {w:World} {B:Heap} {H:AH} {d:Nat} {X Q:PV->AH->Prop}
noncomputable def J_:List Str:=(["-","+","abs","sign","\\","msb","succ","truncate","round","ceiling","floor"]:List String).map Str.ofString
noncomputable def Ke:List Str:=(["+","-","*","//","rem","mod","div","min","max","gcd",">>","<<","/\\","\\/","xor","^","**","plus"]:List String).map Str.ofString
noncomputable def XA (n:Int):PV:=.tup [.str "i",.int n]
noncomputable def k9 (a n:Int):zT:=.type "evaluable" (.tup [.str "s",.int 15,.tup [Yj a,XA n]])
def y9 (H:AH)(S:Sy)(X:PV->AH->Prop)(e:zT):Prop:=∀ H',zj H' (e.ball S).1->zf yh H H'->X (e.ball S).2 H'
def Zm (H:AH)(S:Sy)(Q X:PV->AH->Prop):Except zT Int->Prop|.ok v=>Q (.int v) H|.error e=>y9 H S X e
theorem uE.thrown (m:uE H (e.ball S).1 (e.ball S).2 r H')(h:y9 H S X e):KP (gr p w B) H H' r X:=m.rai h
theorem YH (hS:zj H S)(ok:S.Ok)(q:∀ r H',uE H ((k9 a n).ball S).1 ((k9 a n).ball S).2 r H'->Q r H'):zh (gr p w B) (d+5) H [.obj (.nm 0),.int a,.int n] (cZ 427) Q X:=
 z9 (F:=[]) rfl trivial (n_ (gV (qD (gV (iu (gV (jx hS ok (by decide) fun r H' m=>gV (q r H' m))))))))
noncomputable def Zj (t:Str)(n:Int):Bool:=if n=1 then J_.contains t else if n=2 then Ke.contains t else false
theorem gZ {n:Int}(q:Q (.bool (Zj t n)) H):zh (gr p w B) (d+1) H [.str t,.int n] (cZ 434) Q X:=by
 unfold Zj at q;refine z9 (F:=[]) rfl trivial (uy (R:=fun z=>Q (.bool z) H) q (fun _ q=>?_) fun _ q=>uy (R:=fun z=>Q (.bool z) H) q (fun _ q=>?_) fun _ q=>q)
 .exact QN (l:=J_) (gV q)
 .exact QN (l:=Ke) (gV q)
theorem uT {f a:Nat}{n:Int}(hS:zj H S)(ok:S.Ok)(hf:S.funs[f]?=some ((a:Int),n))(ht:S.texts[a]?=some t)(q:Zj t n=true->Q .none H)(qe:Zj t n=false->y9 H S X (k9 a n)):
  zh (gr p w B) (d+6) H [.obj (.nm 0),.int f] (cZ 441) Q X:=by
 have lf:=ok.lf;have lt:=ok.lt;have ua:=(xU hf).1;have wD:=(xU ht).1;refine z9 rfl hS.fo (Kf hS hf (A22 0x1F479610042008406FAC00 ua lf) (zd hS.fo (je hS hf (A22 0x1F479610042008406FAC00 ua lf) (zd hS.fo (KS hS ht (A22 0x1E79610042008406FAC00 wD lt) (zd hS.fo (gZ (zd hS.fo ?_))))))));cases h:Zj t n with|true=>exact q h|false=>exact YH hS ok fun r H' m=>gV (m.thrown (qe h))
noncomputable def bl (v:Int):Nat:=Builtin.Int.intBits v
theorem uc (hS:zj H S)(ok:S.Ok)(q:(bl v:Int)<=bits->Q (.int v) H)(qe:bits<bl v->y9 H S X (.res "memory")):
  zh (gr p w B) (d+5) H [.obj (.nm 0),.int v,.int bits] (cZ 448) Q X:=
 z9 (F:=[]) rfl trivial (YD (gV (br (fun h=>Wh hS ok (by decide) fun r H' m=>gV (m.thrown (qe (of_decide_eq_true h)))) fun h=>q (Int.not_lt.mp (of_decide_eq_false h)))))
noncomputable def VK (a:Int):Int:=if a<0 then -a else a
noncomputable def W8 (a b:Int):Int:=if(decide (a<0) !=decide (b<0))=true then -((VK a).fdiv (VK b)) else(VK a).fdiv (VK b)
theorem my (h:b≠0):VK b≠0:=fun e=>vE (c:=b<0) e (fun _ e=>h (Int.neg_eq_zero.mp e)) fun _ e=>h e
theorem JZ (hb:b≠0)(q:Q (.int (W8 a b)) H):zh (gr p w B) (d+1) H [.int a,.int b] (cZ 455) Q X:=by unfold W8 at q;refine z9 (F:=[]) rfl trivial (aj (gV (aj (gV (W3 (my hb) (gV (B1 (gV ?_))))))));exact br (fun h=>by rw[if_pos h] at q;exact q) fun h=>by rw[if_neg (by rw[h];exact Bool.false_ne_true)] at q;exact q
theorem Dm (hb:b≠0)(hz:b.natAbs<2^64)(q:Q (.int (a-b*W8 a b)) H):zh (gr p w B) (d+2) H [.int a,.int b] (cZ 462) Q X:=
 z9 (F:=[]) rfl trivial (JZ hb (gV (W0 (.inl hz) (gV q))))
noncomputable def yD:zT:=.res "memory"
noncomputable def fL (b e bits:Int):Except zT Int:=
 if b=1 then .ok 1 else if b=-1 then(if e.fmod 2=0 then .ok 1 else .ok (-1)) else if e<0 then .error (.type "float" (XA b)) else if e=0 then .ok 1 else if b=0 then .ok 0
 else if bits<=((bl b:Int)-1)*e then .error yD else .ok (b^e.toNat)
theorem Fy (h:b≠0):bl b=b.natAbs.log2+1:=if_neg fun z=>h (eq_of_beq z)
theorem pP (h1:b≠1)(h2:b≠-1)(h0:b≠0):2<=bl b:=by have n0:=Int.natAbs_ne_zero.mpr h0;rw[Fy h0];exact Nat.succ_le_succ ((Nat.le_log2 n0).mpr (Nat.lt_of_le_of_ne (Nat.one_le_iff_ne_zero.mpr n0) fun e=>(Int.natAbs_eq b).elim (fun z=>h1 (by rw[<-e] at z;exact z)) fun z=>h2 (by rw[<-e] at z;exact z)))
theorem DR (h:a.natAbs<2^64):bl a<=64:=gd h
theorem mF (hS:zj H S)(ok:S.Ok)(hb:b.natAbs<2^64)(hz:bits<=64)(q:Zm H S Q X (fL b e bits)):
  zh (gr p w B) (d+6) H [.obj (.nm 0),.int b,.int e,.int bits] (cZ 476) Q X:=by
 unfold fL at q;refine z9 (F:=[]) rfl trivial (uy q (fun _ q=>q) fun h1 q=>uy q (fun _ q=>?_) fun h2 q=>uy q (fun _ q=>?_) fun h3 q=>uy q (fun _ q=>q) fun h4 q=>uy q (fun _ q=>q) fun h5 q=>?_)
 .exact ZL (by decide) (gV (uy q (fun _ q=>q) fun _ q=>q))
 .exact qD (gV (jx hS ok (by decide) fun r H' m=>gV (m.thrown q)))
 .have LJ:=DR hb;refine YD (gV (W0 (.inl (Nat.lt_of_le_of_lt (Int.natAbs_sub_le _ _) (Nat.lt_of_le_of_lt (Nat.add_le_add_right LJ 1) (by decide)))) (gV ?_)));refine uy (c:=bits<=((bl b:Int)-1)*e) q (fun _ q=>?_) fun h6 q=>?_
  .exact Wh hS ok (by decide) fun r H' m=>gV (m.thrown q)
  .have k:=Int.le_trans (Int.le_of_lt (Int.not_le.mp h6)) hz;exact jV (Int.lt_iff_le_and_ne.mpr ⟨Int.not_lt.mp h3,Ne.symm h4⟩) h5 h1 h2 (Int.le_trans (Int.mul_le_mul_of_nonneg_right (Int.le_trans (Int.le_of_eq (Int.sub_add_cancel (bl b:Int) 1).symm) (Int.add_le_add_left (Int.le_sub_right_of_add_le (Int.ofNat_le.mpr (pP h1 h2 h5))) _)) (Int.not_lt.mp h3)) (Int.le_trans (Int.le_of_eq (Int.add_mul ..)) (Int.le_trans (Int.add_le_add k k) (by decide)))) (gV q)
noncomputable def gx (v c:Int):Int:=if(bl v:Int)<=c then(if v<0 then -1 else 0) else v.fdiv (2^c.toNat)
theorem CV (hc:0<=c)(q:Q (.int (gx v c)) H):zh (gr p w B) (d+1) H [.obj (.nm 0),.int v,.int c,.int bits] (cZ 490) Q X:=by unfold gx at q;refine z9 (F:=[]) rfl trivial ?_;refine yZ (Int.not_lt.mpr hc) (YD (gV ?_));refine uy (R:=fun z=>Q (.int z) H) q (fun _ q=>uy (R:=fun z=>Q (.int z) H) q (fun _ q=>q) fun _ q=>q) fun _ q=>?_;exact B3 hc (gV q)
noncomputable def KR (v c bits:Int):Except zT Int:=if c<0 then .ok (gx v (-c)) else if v=0 then .ok 0 else if bits<(bl v:Int)+c then .error yD else .ok (v*2^c.toNat)
theorem Dl (hS:zj H S)(ok:S.Ok)(hv:v.natAbs<2^64)(hz:bits<=64)(q:Zm H S Q X (KR v c bits)):
  zh (gr p w B) (d+5) H [.obj (.nm 0),.int v,.int c,.int bits] (cZ 483) Q X:=by
 unfold KR at q;refine z9 (F:=[]) rfl trivial (uy q (fun h1 q=>?_) fun h1 q=>uy q (fun _ q=>q) fun h2 q=>YD (gV (uy q (fun _ q=>?_) fun h3 q=>?_)))
 .exact CV (Int.neg_nonneg_of_nonpos (Int.le_of_lt h1)) (gV q)
 .exact Wh hS ok (by decide) fun r H' m=>gV (m.thrown q)
 .exact E8 (Int.le_trans (by decide) (Int.not_lt.mp h1)) (Int.le_trans (Int.le_trans (Int.le_add_of_nonneg_left (Int.natCast_nonneg _)) (Int.not_lt.mp h3)) (Int.le_trans hz (by decide))) hv (gV q)
end
theorem QQ (h:it.wf x.T x.s=true->Ve x.g x.d x.s.c (lo x.s ρ) H (it.ast x.T x.s) (fun src l HZ=>ql x i b src Q l ρ HZ) x.X):W1 x ρ H (.fx i q it b p) Q:=fun hw=>by have hw:(x.s.kd i==some .local&&it.wf x.T x.s&&it.plain&&b.wfs x.T x.s)=true:=hw;simp only[Bool.and_eq_true,beq_iff_eq] at hw;refine dg (x.s.look hw.1.1.1) ?_ (fun env y=>X_ hw.1.2 env y);intro A env zb za θ s Qc Ec C EI I L hQ hX;exact h hw.1.1.2 A env zb za θ s _ _ C EI I L (fun v src l θZ HZ hZ tkZ qZ=>hQ v src l θZ HZ hZ tkZ (VG hw.1.1.1 hw.2 qZ)) hX
theorem u5.mono (h:u5 g d c ρ H e Q X)(k:∀ p H',Q p H'->Q' p H'):u5 g d c ρ H e Q' X:=fun A env zb za θ s Qc Ec pos C EI I L hQ hX=>h A env zb za θ s Qc Ec pos C EI I L (fun v p Nt H1 h1 tk q=>hQ v p Nt H1 h1 tk (k p H1 q)) hX
theorem kR:nsIn (KK P) mainGlobals "range"=some none:=by kernel_rfl
theorem kV:nsIn (KK P) mainGlobals "reversed"=some none:=by kernel_rfl
section
variable {p:Program} {w:World} {B:Heap} {d:Nat} {s:Sc} {Q Q0:xM->Prop} {X:PV->AH->Prop} {ρ:Lc} {H:AH} {F:List Fo} {i q pp q' p':Nat} {e r e2 e3:RE} {b:RS}
theorem i9 (h:H j=some (.list (l++[v])))(hz:l.length<=1000000):Yb (gr p w B) d H (.obj j) true:=by
 have e:(!(l++[v]).isEmpty)=true:=by cases l<;>rfl
 have k:Yb (gr p w B) d H (.obj j) (!(l++[v]).isEmpty):=Vr h (by rw[List.length_append];exact Nat.le_trans (Nat.add_le_add_right hz 1) (by decide));rw[e] at k;intro A za θ s v Qc Ec C I R n;exact k C I R n
theorem kc (hF:Fa (gr p w B) tx H F)(h:run ⟨gr p w B,tx,d,s,uf Q',X⟩ H F 1000 ρ [] [.ret] (.E e)):WE ⟨gr p w B,tx,d,s,Q0,X⟩ ρ H e Q':=vr kE hF _ _ _ _ _ h
theorem X7 (h:VI (gr p w B) tx d s X i b src Q l ρ H):ql ⟨gr p w B,tx,d,s,Q0,X⟩ i b src Q l ρ H:=⟨VI (gr p w B) tx d s X i b src Q,h,fun _ _ _ _ h=>h,fun _ _ h=>h⟩
theorem lB (hF:Fa (gr p w B) tx H F)(h:run ⟨gr p w B,tx,d,s,uf fun v HZ=>∃ l,v=.tup l/\l.length<=1000000/\ql ⟨gr p w B,tx,d,s,Q0,X⟩ i b none Q l.reverse ρ HZ,X⟩ H F 1000 ρ [] [.ret] (.E e)):
  W1 ⟨gr p w B,tx,d,s,Q0,X⟩ ρ H (.fx i q (.cal 51 (.k e .n) q' p') b pp) Q:=QQ fun hw=>by
 refine a2 (yP (show(ZO tx s 51&&(RE.k e .n).wfs tx s)=true from hw)) fun h1 h2=>?_;refine wU (ja h1) fun z e1 e2 e3=>?_;obtain rfl:=yd e1;refine pd e3 kV (kc (Q0:=Q0) hF h ?_) (wW h2);exact(yP h2).1
theorem f6 (hF:Fa (gr p w B) tx H F)(h:run ⟨gr p w B,tx,d,s,uf fun v HZ=>∃ n:Int,v=.int n/\0<=n/\n<=1000000/\ql ⟨gr p w B,tx,d,s,Q0,X⟩ i b none Q (wN 0 n 1) ρ HZ,X⟩ H F 1000 ρ [] [.ret] (.E e)):
  W1 ⟨gr p w B,tx,d,s,Q0,X⟩ ρ H (.fx i q (.cal 13 (.k e .n) q' p') b pp) Q:=QQ fun hw=>by
 refine a2 (yP (show(ZO tx s 13&&(RE.k e .n).wfs tx s)=true from hw)) fun h1 h2=>?_;refine wU (ja h1) fun z e1 e2 e3=>?_;obtain rfl:=yd e1;refine iq (KJ e3 kR (kc (Q0:=Q0) hF h ?_) (wW h2));exact(yP h2).1
theorem Z6 (hF:Fa (gr p w B) tx H F)(h:run ⟨gr p w B,tx,d,s,uf fun v HZ=>∃ a c:Int,v=.tup [.int a,.int c,.int (-1)]/\-1000000<=a/\a<=1000000/\-1000000<=c/\c<=1000000/\ql ⟨gr p w B,tx,d,s,Q0,X⟩ i b none Q (wN a c (-1)) ρ HZ,X⟩ H F 1000 ρ [] [.tupG [] (.k e2 (.k e3 .n)),.ret] (.E e)):
  W1 ⟨gr p w B,tx,d,s,Q0,X⟩ ρ H (.fx i q (.cal 13 (.k e (.k e2 (.k e3 .n))) q' p') b pp) Q:=QQ fun hw=>by
 refine a2 (yP (show(ZO tx s 13&&(RE.k e (.k e2 (.k e3 .n))).wfs tx s)=true from hw)) fun h1 h2=>?_;refine wU (ja h1) fun z k1 k2 k3=>?_;obtain rfl:=yd k1;refine iq (iD k3 kR ?_ (wW h2));have hx:=Z9 (x:=⟨gr p w B,tx,d,s,Q0,X⟩) (Q:=fun as H2_=>∃ a c:Int,as=[.int a,.int c,.int (-1)]/\-1000000<=a/\a<=1000000/\-1000000<=c/\c<=1000000/\ql ⟨gr p w B,tx,d,s,Q0,X⟩ i b none Q (wN a c (-1)) ρ H2_) (WE.mono (vr kE hF _ _ _ _ _ h:WE _ ρ H e _) fun a HZ k h=>u5.mono (k h) fun as H2_ k=>?_) h2
 .exact hx
 .have k:=k.2;refine yE k fun a c e k=>?_;exact⟨a,c,PV.tup.inj e,k⟩
end
section
variable {x:Cx} {ρ:Lc} {H:AH} {i q j q':Nat} {sp xp pos:Pos} {li:Id} {l:List PV}
theorem nP (h1:ρ[i]?=some (some (.obj li)))(h2:ρ[j]?=some (some (.int 0)))(hl:H li=some (.list l))(hz:l.length<=1000000) (k:∀ a H',H (.an a)=none->H' (.an a)=some (.list l)->zf yA H H'->Q (.obj (.an a)) H') (w1:autoParam ((RE.loc i q).wf x.T x.s=true) ta._auto_1) (w2:autoParam ((RE.loc j q').wf x.T x.s=true) ta._auto_1):
  WE x ρ H (.raw (.Subscript (RE.ast x.T x.s (.loc i q)) (.Slice (some (RE.ast x.T x.s (.loc j q'))) none none sp) xp)) Q:=fun _=>
 mR (kC h1 (Q:=fun o HZ=>z_ x.g x.d x.s.c (lo x.s ρ) HZ (RE.ast x.T x.s (.loc j q')) (fun pn H2_=>pn=.int 0/\∃ i l,o=.obj i/\H2_ i=some (.list l)/\l.length<=1000000/\∀ a,H2_ (.an a)=none->Q (.obj (.an a)) (H2_.upd (.an a) (.list l))) x.X) (kC h2 (Q:=fun pn H2_=>pn=.int 0/\∃ i l,PV.obj li=.obj i/\H2_ i=some (.list l)/\l.length<=1000000/\∀ a,H2_ (.an a)=none->Q (.obj (.an a)) (H2_.upd (.an a) (.list l))) ⟨rfl,li,l,rfl,hl,hz,fun a n=>k a _ n (AH.upd_same _ _ _) (zf.new n)⟩ w2) w1)
theorem gF (h1:ρ[i]?=some (some (.obj li)))(h2:ρ[j]?=some (some (.int 0)))(hl:H li=some (.list l))(hz:l.length<=1000000) (k:∀ H',H' li=some (.list [])->zf (zV li) H H'->Q (.next ρ H')) (w1:autoParam ((RE.loc i q).wf x.T x.s=true) ta._auto_1) (w2:autoParam ((RE.loc j q').wf x.T x.s=true) ta._auto_1):
  W1 x ρ H (.raw (.Delete [.Subscript (RE.ast x.T x.s (.loc i q)) (.Slice (some (RE.ast x.T x.s (.loc j q'))) none none sp) xp] pos)) Q:=fun _=>
 gj (kC h1 (Q:=fun o HZ=>z_ x.g x.d x.s.c (lo x.s ρ) HZ (RE.ast x.T x.s (.loc j q')) (fun pn H2_=>pn=.int 0/\∃ i l,o=.obj i/\H2_ i=some (.list l)/\l.length<=1000000/\qT x.s Q (.next (lo x.s ρ) (H2_.upd i (.list [])))) x.X) (kC h2 (Q:=fun pn H2_=>pn=.int 0/\∃ i l,PV.obj li=.obj i/\H2_ i=some (.list l)/\l.length<=1000000/\qT x.s Q (.next (lo x.s ρ) (H2_.upd i (.list [])))) ⟨rfl,li,l,rfl,hl,hz,uo (k _ (AH.upd_same _ _ _) zf.one)⟩ w2) w1)
end
section
set_option genSizeOf false
section
variable {p:Program} {w:World} {B:Heap} {H:AH} {d:Nat} {X Q:PV->AH->Prop}
set_option genInjectivity false
set_option genCtorIdx false in
inductive Op where|neg|abs|msb|cpl|succ|foo|add|sub|mul|idiv|mod|pow|shl|rem|min|xor|dot|ff (u:Unit)
noncomputable def Op.ctorIdx (t:Op):Nat:=Op.casesOn t 0 1 2 3 4 5 6 7 8 9 10 11 12 13 14 15 16 fun _=>17
noncomputable def Op.text:Op->Str|.neg=>("-":Str)|.abs=>("abs":Str)|.msb=>("msb":Str)|.cpl=>("\\":Str)|.succ=>("succ":Str)|.foo=>("foo":Str)|.add=>("+":Str)|.sub=>("-":Str)|.mul=>("*":Str)|.idiv=>("//":Str)|.mod=>("mod":Str)|.pow=>("^":Str)|.shl=>("<<":Str)|.rem=>("rem":Str)|.min=>("min":Str)|.xor=>("xor":Str)|.dot=>(".":Str)|.ff _=>("f":Str)
noncomputable def Op.isUn:Op->Bool|.neg|.abs|.msb|.cpl|.succ=>true|_=>false
noncomputable def Op.isBin:Op->Bool|.add|.sub|.mul|.idiv|.mod|.pow|.shl|.rem|.min|.xor=>true|_=>false
noncomputable def Op.arity:Op->Int|.neg|.abs|.msb|.cpl|.succ|.foo|.ff _=>1|_=>2
noncomputable def V8:Op->Int->Except zT Int|.neg,v=>.ok (-v)|.abs,v=>.ok (VK v)|.msb,v=>if v<1 then .error (.type "not_less_than_one" (XA v)) else .ok ((bl v:Int)-1)|.cpl,v=>.ok (-v-1)|.succ,v=>.ok (v+1)|_,v=>.ok v
theorem GL (hS:zj H S)(ok:S.Ok)(ho:op.isUn=true)(q:Zm H S Q X (V8 op v)):
  zh (gr p w B) (d+5) H [.obj (.nm 0),.str op.text,.int v] (cZ 504) Q X:=by
 cases op<;>first|(cases ho;done)|skip
 all_goals (dsimp only[Op.text,V8] at q|-;refine z9 (F:=[]) rfl trivial ?_)
 .exact q
 .exact aj (gV q)
 .refine uy q (fun _ q=>?_) fun _ q=>YD (gV q);exact qD (gV (jx hS ok (by decide) fun r H' m=>gV (m.thrown q)))
 .exact q
 .exact q
noncomputable def VH (op:Op)(a b:Int):Except zT Int:=if b=0 then .error (.eval "zero_divisor") else match op with
  |.idiv=>.ok (W8 a b)|.rem=>.ok (a-b*W8 a b)|_=>.ok (a.fmod b)
theorem QU (hS:zj H S)(ok:S.Ok)(ho:op=.idiv\/op=.rem\/op=.mod)(hb:b.natAbs<2^64)(q:Zm H S Q X (VH op a b)):
  zh (gr p w B) (d+5) H [.obj (.nm 0),.str op.text,.int a,.int b] (cZ 511) Q X:=by
 unfold VH at q;refine z9 (F:=[]) rfl trivial (uy q (fun _ q=>?_) fun h q=>?_)
 .exact c6 hS ok (by decide) fun r H' m=>gV (m.thrown q)
 .rcases ho with rfl|rfl|rfl
  .exact JZ h (gV q)
  .exact Dm h hb (gV q)
  .exact ZL h (gV q)
noncomputable def n9:Op->Int->Int->Int->Except zT Int|.shl,a,b,bits=>KR a b bits|_,a,b,_=>.ok (Builtin.bitXor a b)
theorem Zm.ret (q:Zm H S Q X r)(k:∀ v,Q v H->Q' v H):Zm H S Q' X r:=by cases r with|ok v=>exact k _ q|error e=>exact q
theorem b8 (hS:zj H S)(ok:S.Ok)(ho:op=.shl\/op=.xor)(ha:a.natAbs<2^64)(hz:bits<=64)(q:Zm H S Q X (n9 op a b bits)):
  zh (gr p w B) (d+6) H [.obj (.nm 0),.str op.text,.int a,.int b,.int bits] (cZ 518) Q X:=by
 rcases ho with rfl|rfl<;>refine z9 (F:=[]) rfl trivial ?_
 .exact Dl hS ok ha hz (Zm.ret (show Zm H S Q X (KR a b bits) from q) fun v z=>gV z)
 .exact DD (gV q)
noncomputable def YZ (op:Op)(a b bits:Int):Except zT Int:=match op with
 |.add=>.ok (a+b)|.sub=>.ok (a-b)|.mul=>.ok (a*b)|.idiv=>VH .idiv a b|.rem=>VH .rem a b|.mod=>VH .mod a b|.pow=>fL a b bits|.min=>.ok (if b<a then b else a)|.shl=>KR a b bits|_=>.ok (Builtin.bitXor a b)
noncomputable def iH:List Str:=(["//","rem","mod","div"]:List String).map Str.ofString
theorem A3 (hS:zj H S)(ok:S.Ok)(ho:op.isBin=true)(ha:a.natAbs<2^64)(hb:b.natAbs<2^64)(hz:bits<=64)(q:Zm H S Q X (YZ op a b bits)):
  zh (gr p w B) (d+7) H [.obj (.nm 0),.str op.text,.int a,.int b,.int bits] (cZ 525) Q X:=by
 cases op<;>first|(cases ho;done)|skip
 all_goals (dsimp only[Op.text,YZ] at q|-;refine z9 (F:=[]) rfl trivial ?_)
 .exact q
 .exact q
 .exact W0 (.inl ha) (gV q)
 all_goals refine QN (l:=iH) (gV ?_)
 .exact QU (op:=.idiv) hS ok (.inl rfl) hb (q.ret fun v z=>gV z)
 .exact QU (op:=.mod) hS ok (.inr (.inr rfl)) hb (q.ret fun v z=>gV z)
 .exact mF hS ok ha hz (q.ret fun v z=>gV z)
 .exact b8 (op:=.shl) hS ok (.inl rfl) ha hz (Zm.ret (show Zm H S Q X (n9 .shl a b bits) from q) fun v z=>gV z)
 .exact QU (op:=.rem) hS ok (.inr (.inl rfl)) hb (q.ret fun v z=>gV z)
 .exact uy (R:=fun z=>Q (.int z) H) q (fun _ q=>q) fun _ q=>q
 .exact b8 (op:=.xor) hS ok (.inr rfl) ha hz (q.ret fun v z=>gV z)
end
end
section
variable {p:Program} {w:World} {B:Heap} {H:AH} {d:Nat} {X Q:PV->AH->Prop}
def QX (S:Sy)(f:Nat)(op:Op):Prop:=∃ a:Nat,S.funs[f]?=some ((a:Int),op.arity)/\S.texts[a]?=some op.text
noncomputable def y7 (bits v:Int):Except zT Int:=if bits<(bl v:Int) then .error yD else .ok v
def Sm (v:Int):Prop:=v.natAbs<2^64
theorem oU (h:(bl v:Int)<=bits)(hb:bits<=64):Sm v:=by
 by_cases h0:v=0
 .subst h0;exact(by decide:0<2^64)
 .rw[Fy h0] at h;exact(Nat.log2_lt (Int.natAbs_ne_zero.mpr h0)).mp (Int.ofNat_le.mp (Int.le_trans h hb))
def VF (H:AH)(iv:Id)(S:Sy)(X:PV->AH->Prop)(e:zT):Prop:=∀ H',zj H' (e.ball S).1->zf (fun i=>yh i\/i=iv) H H'->X (e.ball S).2 H'
theorem dX (hS:zj H S)(ok:S.Ok)(hf:QX S f op)(ho:op.isUn=true)(hv:H (.an a)=some (.list ((r++[v]).map .int)))(hz:r.length<=100000) (q:∀ x,(V8 op v).bind (y7 bits)=.ok x->∀ H',H' (.an a)=some (.list ((r++[x]).map .int))->zj H' S->zf (zV (.an a)) H H'->Q .none H') (qe:∀ e,(V8 op v).bind (y7 bits)=.error e->VF H (.an a) S X e):
  zh (gr p w B) (d+6) H [.obj (.nm 0),.int f,.obj (.an a),.int bits] (cZ 532) Q X:=by
 refine zg hf fun k hf ht=>?_;have lf:=ok.lf;have lt:=ok.lt;have ua:=(xU hf).1;have wD:=(xU ht).1;have uz:op.arity=1:=by cases op<;>first|rfl|cases ho
 rw[uz] at hf;have kK:H (.an a)=some (.list (r.map .int++[.int v])):=by rw[hv,List.map_append];rfl
 refine z9 rfl hS.fo (Kf hS hf (A22 0x1F479610042008406FAC00 ua lf) (zd hS.fo (KS hS ht (A22 0x1E79610042008406FAC00 wD lt) (zd hS.fo (uZ kK (A22 0x2FD610042010406FAC00 (List.length_map ..) hz) fun H1 g1 e1=>?_)))));have zG:=hS.ext e1 (fun n _ h=>xh h);refine zd zG.fo (je zG hf (A22 0x1F479610042008406FAC00 ua lf) (zd zG.fo (GL zG ok ho ?_)));cases hr:V8 op v with
 |error e=>exact fun H' xk e'=>qe e (by rw[hr];rfl) H' xk ((e1.mono fun _ h=>.inr h).trans (e'.mono fun _ h=>.inl h))|ok x=>
  have qx:∀ y,y7 bits x=.ok y->_:=fun y hy=>q y (by rw[hr];exact hy);have fk:∀ e,y7 bits x=.error e->_:=fun e hy=>qe e (by rw[hr];exact hy);unfold y7 at qx fk;refine zd zG.fo (xy g1 zG.fo (uc zG ok (fun h=>?_) fun h H' xk e'=>?_))
  .refine zd zG.fo (xV g1 (A22 0x2FD610042010407FAC00 (List.length_map ..) hz) fun H2 g2 e2=>gV ?_);exact qx x (if_neg (Int.not_lt.mpr h)) H2 (by rw[g2,List.map_append];rfl) (zG.ext e2 fun n _ h=>xh h) (e1.trans e2)
  .exact fk _ (if_pos h) H' xk ((e1.mono fun _ h=>.inr h).trans (e'.mono fun _ h=>.inl h))
theorem bc (hS:zj H S)(ok:S.Ok)(hf:QX S f op)(ho:op.isBin=true)(hv:H (.an a)=some (.list ((r++[u,v]).map .int)))(hz:r.length<=100000)(su:Sm u)(sv:Sm v)(hb:bits<=64) (q:∀ x,(YZ op u v bits).bind (y7 bits)=.ok x->∀ H',H' (.an a)=some (.list ((r++[x]).map .int))->zj H' S->zf (zV (.an a)) H H'->Q .none H') (qe:∀ e,(YZ op u v bits).bind (y7 bits)=.error e->VF H (.an a) S X e):
  zh (gr p w B) (d+8) H [.obj (.nm 0),.int f,.obj (.an a),.int bits] (cZ 532) Q X:=by
 refine zg hf fun k hf ht=>?_;have lf:=ok.lf;have lt:=ok.lt;have ua:=(xU hf).1;have wD:=(xU ht).1;have uz:op.arity=2:=by cases op<;>first|rfl|cases ho
 rw[uz] at hf;have kK:H (.an a)=some (.list ((r.map .int++[.int u])++[.int v])):=by rw[hv];simp
 refine z9 rfl hS.fo (Kf hS hf (A22 0x1F479610042008406FAC00 ua lf) (zd hS.fo (KS hS ht (A22 0x1E79610042008406FAC00 wD lt) (zd hS.fo (uZ kK (A33 0x2FD6200441105AC4050010406FAC00 (List.length_append ..) (List.length_map ..) hz) fun H1 g1 e1=>?_)))));have zG:=hS.ext e1 (fun n _ h=>xh h);refine zd zG.fo (je zG hf (A22 0x1F479610042008406FAC00 ua lf) (zd zG.fo (uZ g1 (A22 0x2FD610042010406FAC00 (List.length_map ..) hz) fun H2 g2 e2=>?_)));have zN:=zG.ext e2 (fun n _ h=>xh h);have Qr:=e1.trans e2;refine zd zN.fo (A3 zN ok ho su sv hb ?_);cases hr:YZ op u v bits with
 |error e=>exact fun H' xk e'=>qe e (by rw[hr];rfl) H' xk ((Qr.mono fun _ h=>.inr h).trans (e'.mono fun _ h=>.inl h))|ok x=>
  have qx:∀ y,y7 bits x=.ok y->_:=fun y hy=>q y (by rw[hr];exact hy);have fk:∀ e,y7 bits x=.error e->_:=fun e hy=>qe e (by rw[hr];exact hy);unfold y7 at qx fk;refine zd zN.fo (xy g2 zN.fo (uc zN ok (fun h=>?_) fun h H' xk e'=>?_))
  .refine zd zN.fo (xV g2 (A22 0x2FD610042010407FAC00 (List.length_map ..) hz) fun H3 g3 e3=>gV ?_);exact qx x (if_neg (Int.not_lt.mpr h)) H3 (by rw[g3,List.map_append];rfl) (zN.ext e3 fun n _ h=>xh h) (Qr.trans e3)
  .exact fk _ (if_pos h) H' xk ((Qr.mono fun _ h=>.inr h).trans (e'.mono fun _ h=>.inl h))
end
section
set_option genInjectivity false
section
set_option genCtorIdx false in
inductive Tr where|V (k:Int)|A (n:Int)|I (n:Int)|U (f a:Nat) (op:Op) (t:Tr)|B (f a:Nat) (op:Op) (l r:Tr)
noncomputable def Tr.ctorIdx (t:Tr):Nat:=Tr.casesOn t (fun _=>0) (fun _=>1) (fun _=>2) (fun _ _ _ _=>3) (fun _ _ _ _ _=>4)
noncomputable def Tr.pv:Tr->PV|.V k=>.tup [.str "v",.int k]|.A n=>.tup [.str "a",.int n]|.I n=>.tup [.str "i",.int n]|.U f _ _ t=>.tup [.str "s",.int f,.tup [t.pv]]|.B f _ _ l r=>.tup [.str "s",.int f,.tup [l.pv,r.pv]]
def u0 (S:Sy)(f a:Nat)(op:Op):Prop:=S.funs[f]?=some ((a:Int),op.arity)/\S.texts[a]?=some op.text
theorem u0.at (h:u0 S f a op):QX S f op:=⟨a,h.1,h.2⟩
noncomputable def Op.isEv (op:Op):Bool:=op.isUn||op.isBin
theorem qK (op:Op):Zj op.text op.arity=op.isEv:=by cases op with|ff u=>cases u;decide+kernel|_=>decide+kernel
def Tr.Ok (S:Sy):Tr->Prop|.V _=>True|.A _=>True|.I n=>Sm n|.U f a op t=>u0 S f a op/\op.arity=1/\t.Ok S|.B f a op l r=>u0 S f a op/\op.arity=2/\l.Ok S/\r.Ok S
noncomputable def Tr.size:Tr->Nat|.U _ _ _ t=>t.size+2|.B _ _ _ l r=>l.size+r.size+2|_=>1
noncomputable def ev (bits:Int):Tr->Except zT Int|.V _=>.error .inst|.A n=>.error (k9 n 0)|.I n=>.ok n|.U _ a op t=>if op.isEv then(ev bits t).bind fun x=>(V8 op x).bind (y7 bits) else .error (k9 a 1)|.B _ a op l r=>if op.isEv then(ev bits l).bind fun x=>(ev bits r).bind fun y=>(YZ op x y bits).bind (y7 bits) else .error (k9 a 2)
set_option genCtorIdx false in
inductive xS where|T (t:Tr)|P (f a:Nat) (op:Op)
noncomputable def xS.size:xS->Nat|.T t=>t.size|.P _ _ _=>1
noncomputable def wz (l:List xS):Nat:=(l.map xS.size).sum
def xS.Ok (S:Sy):xS->Prop|.T t=>t.Ok S|.P f a op=>u0 S f a op/\op.isEv=true
noncomputable def VR (bits:Int)(op:Op):List Int->Except zT (List Int)
 |v::r=>if op.isUn then((V8 op v).bind (y7 bits)).bind fun x=>.ok (x::r) else match r with
  |u::r=>((YZ op u v bits).bind (y7 bits)).bind fun x=>.ok (x::r)|[]=>.ok []
 |[]=>.ok []
noncomputable def qR (bits:Int):List xS->List Int->Except zT (List Int)|[],vs=>.ok vs|.T t::r,vs=>(ev bits t).bind fun x=>qR bits r (x::vs)|.P _ _ op::r,vs=>(VR bits op vs).bind fun qt=>qR bits r qt
theorem IS {G:Prop}(h:(2:Int)=1):G:=nomatch h
theorem IU {G:Prop}(h:(1:Int)=2):G:=nomatch h
theorem ao {op:Op}(h:op.arity=1)(e:op.isEv=true):op.isUn=true:=by cases op<;>first|exact IS h|exact zU e|rfl
theorem Kd {op:Op}(h:op.arity=2)(e:op.isEv=true):op.isUn=false/\op.isBin=true:=by cases op<;>first|exact IU h|exact zU e|exact⟨rfl,rfl⟩
theorem J8 {α β γ:Type}{r:Except zT α}{f:α->Except zT β}{g:β->Except zT γ}:(r.bind f).bind g=r.bind fun x=>(f x).bind g:=by cases r<;>rfl
theorem kB {α β:Type}{r r':Except zT α}{g:α->Except zT β}(h:r=r'):r.bind g=r'.bind g:=congrArg (Except.bind · g) h
theorem JQ (h:op.arity=1)(e:op.isEv=true):qR bits (.T (.U f a op t)::r) vs=qR bits (.T t::.P f a op::r) vs:=(kB (if_pos e)).trans (J8.trans (congrArg (ev bits t).bind (funext fun x=>(show(VR bits op (x::vs)).bind (fun z=>qR bits r z)=_ from(kB (if_pos (ao h e))).trans J8).symm)))
theorem Kv (h:op.arity=2)(e:op.isEv=true):qR bits (.T (.B f a op t u)::r) vs=qR bits (.T t::.T u::.P f a op::r) vs:=(kB (if_pos e)).trans (J8.trans (congrArg (ev bits t).bind (funext fun x=>J8.trans (congrArg (ev bits u).bind (funext fun y=>(show(VR bits op (y::x::vs)).bind (fun z=>qR bits r z)=_ from(kB (if_neg fun z=>zU ((Kd h e).1.symm.trans z))).trans J8).symm)))))
theorem jt (hb:bits<=64)(h:y7 bits v=.ok x):Sm x:=vE h (fun _ h=>vA h) fun c h=>by cases h;exact oU (Int.not_lt.mp c) hb
theorem yt {α β:Type}{r:Except zT α}{f:α->Except zT β}{y:β}(h:r.bind f=.ok y):∃ x,r=.ok x/\f x=.ok y:=by cases r with|error e=>exact vA h|ok x=>exact⟨x,rfl,h⟩
theorem yT {α β:Type}{r:Except zT α}{f:α->Except zT β}{e:zT}(h:r.bind f=.error e):r=.error e\/∃ x,r=.ok x/\f x=.error e:=by cases r with|error e'=>cases h;exact .inl rfl|ok x=>exact .inr ⟨x,rfl,h⟩
theorem exc {α:Type}(r:Except zT α):(∃ e,r=.error e)\/∃ x,r=.ok x:=match r with|.error e=>.inl ⟨e,rfl⟩|.ok x=>.inr ⟨x,rfl⟩
theorem wX {α β:Type}{r:Except zT α}{f:α->Except zT β}{e:zT}(h:r=.error e):r.bind f=.error e:=by subst h;rfl
theorem xe {α β:Type}{r:Except zT α}{f:α->Except zT β}{x:α}{z:Except zT β}(h:r=.ok x)(k:f x=z):r.bind f=z:=by subst h;exact k
theorem kN {α β:Type}{r:Except zT α}{f:α->Except zT β}{x:α}{z:Except zT β}(h:r=.ok x)(k:r.bind f=z):f x=z:=by subst h;exact k
theorem cQ {α β:Type}{r:Except zT α}{f:α->β}{e:zT}(h:(r.bind fun v=>.ok (f v))=.error e):r=.error e:=(yT h).elim id fun⟨_,_,h⟩=>xn h
theorem AI {bits:Int}(hb:bits<=64){t:Tr}:∀ {x:Int},t.Ok S->ev bits t=.ok x->Sm x:=by cases t with|V _=>exact fun _ h=>vA h|A _=>exact fun _ h=>vA h|I n=>intro x o h;cases h;exact o|U f a op t=>exact fun _ h=>vE h (fun _ h=>zg (yt h) fun _ _ h=>zg (yt h) fun _ _ h=>jt hb h) fun _ h=>vA h|B f a op l r=>exact fun _ h=>vE h (fun _ h=>zg (yt h) fun _ _ h=>zg (yt h) fun _ _ h=>zg (yt h) fun _ _ h=>jt hb h) fun _ h=>vA h
theorem pU (h:Sm x)(k:∀ v∈l,Sm v):∀ v∈x::l,Sm v:=fun v hv=>(kS hv).elim (fun e=>e▸h) (k v)
theorem JO (hb:bits<=64)(hv:∀ v∈vs,Sm v)(h:VR bits op vs=.ok qt):∀ v∈qt,Sm v:=by
 cases vs with
 |nil=>cases h;exact hv|cons v r=>
  refine vE h (fun _ h=>zg (yt h) fun x hx h=>zg (yt hx) fun y _ hx=>?_) fun _ h=>?_
  .cases h;exact pU (jt hb hx) fun z hz=>hv z (.tail _ hz)
  .cases r with|nil=>cases h;exact fun _ hz=>wg hz|cons u r=>refine zg (yt h) fun x hx h=>zg (yt hx) fun y _ hx=>?_;cases h;exact pU (jt hb hx) fun z hz=>hv z (.tail _ (.tail _ hz))
noncomputable def kz:List xS->Nat->Option Nat|[],n=>some n|.T _::r,n=>kz r (n+1)|.P _ _ op::r,n=>if op.isUn then(if 1<=n then kz r n else none) else(if 2<=n then kz r (n-1) else none)
end
end
section
variable {p:Program} {w:World} {B:Heap} {H:AH} {d:Nat} {X Q:PV->AH->Prop}
noncomputable def xS.pv:xS->PV|.T t=>t.pv|.P f _ _=>.tup [.str "apply",.int f]
def AB (a b:Addr)(N:Id->Prop):Id->Prop:=uH (uH N (zV (.an a))) (zV (.an b))
theorem zf.a1 (e:zf (zV (.an a)) H H'):zf (AB a b N) H H':=e.mono fun _ h=>.inl (.inr h)
theorem zf.b1 (e:zf (zV (.an b)) H H'):zf (AB a b N) H H':=e.mono fun _ h=>.inr h
theorem zf.ab (e:zf (AB a b yA) H H'):zf (AB a b N) H H':=e.mono fun _ h=>by
 rcases h with(h|h)|h
 .exact h.elim
 .exact .inl (.inr h)
 .exact .inr h
theorem zf.n1 (e:zf N H H'):zf (AB a b N) H H':=e.mono fun _ h=>.inl (.inl h)
theorem Qa (hS:zj H S)(ok:S.Ok)(Qx:u0 S f k op)(v_:op.isEv=true)(sm:∀ v∈vs,Sm v)(small:vs.length<=900)(hb:bits<=64)(want:kz (.P f k op::items) vs.length=some 1)(v1:H (.an b)=some (.list (vs.reverse.map .int))) (q:∀ qt,VR bits op vs=.ok qt->kz items qt.length=some 1->qt.length<=vs.length->∀ H',H' (.an b)=some (.list (qt.reverse.map .int))->zj H' S->zf (zV (.an b)) H H'->Q .none H') (qe:∀ e,VR bits op vs=.error e->VF H (.an b) S X e):zh (gr p w B) (d+8) H [.obj (.nm 0),.int f,.obj (.an b),.int bits] (cZ 532) Q X:=by
 by_cases ho:op.isUn=true
 .cases vs with|nil=>exact zJ ((if_pos ho).symm.trans want)|cons v r=>have want:kz items (r.length+1)=some 1:=((if_pos ho).trans (if_pos (Nat.le_add_left ..))).symm.trans want;exact(dX hS ok Qx.at ho (r:=r.reverse) (v:=v) (by rw[v1];simp) (by simp;simp at small;exact A11 0x1C1F96000405FAC00 small) (fun x hx H2 h1 h2 h3=>q (x::r) ((if_pos ho).trans (kB hx)) want (Nat.le_refl _) H2 (by rw[h1];simp) h2 h3) fun e he=>qe e ((if_pos ho).trans (kB he))).up (Nat.le_add_right _ 2)
 .have eu:op.isBin=true:=(Bool.or_eq_true_iff.mp v_).resolve_left ho;cases vs with
  |nil=>exact zJ ((if_neg ho).symm.trans want)|cons v r=>cases r with|nil=>exact zJ ((if_neg ho).symm.trans want)|cons u r=>have want:kz items (r.length+1)=some 1:=((if_neg ho).trans (if_pos (Nat.le_add_left ..))).symm.trans want;exact bc hS ok Qx.at eu (r:=r.reverse) (u:=u) (v:=v) (by rw[v1];simp) (by simp;simp at small;exact A11 0x1C1796000405FAC00 small) (sm u (.tail _ (.head _))) (sm v (.head _)) hb (fun x hx H2 h1 h2 h3=>q (x::r) ((if_neg ho).trans (kB hx)) want (Nat.le_succ _) H2 (by rw[h1];simp) h2 h3) fun e he=>qe e ((if_neg ho).trans (kB he))
theorem Z8 (h:r=(ev bits t).bind fun x=>.ok [x])(h':r=.error e):ev bits t=.error e:=by subst h';cases hq:ev bits t with|ok x=>rw[hq] at h;exact vA h|error e'=>rw[hq] at h;cases h;rfl
theorem Qf (h:Sm v)(k:∀ v∈vs,Sm v):∀ u∈v::vs,Sm u:=pU h k
theorem c9 {x:xS}(h:x.Ok S)(k:∀ v∈l,xS.Ok S v):∀ v∈x::l,xS.Ok S v:=fun v hv=>(kS hv).elim (fun e=>e▸h) (k v)
theorem oN (ok:∀ it∈items,it.Ok S)(kW:Tr.Ok S (.U f k op u))(v_:op.isEv=true):∀ it∈xS.T u::.P f k op::items,it.Ok S:=c9 (x:=.T u) kW.2.2 (c9 (x:=.P f k op) ⟨kW.1,v_⟩ ok)
theorem pz (ok:∀ it∈items,it.Ok S)(kW:Tr.Ok S (.B f k op u1 u2))(v_:op.isEv=true):∀ it∈xS.T u1::.T u2::.P f k op::items,it.Ok S:=c9 (x:=.T u1) kW.2.2.1 (c9 (x:=.T u2) kW.2.2.2 (c9 (x:=.P f k op) ⟨kW.1,v_⟩ ok))
theorem Ql:wz (.T (.U f k op u)::items)=wz (.T u::.P f k op::items)+1:=by show u.size+2+wz items=u.size+(1+wz items)+1;exact A20 0xD0B5004202E02102
theorem JU:wz (.T (.B f k op u1 u2)::items)=wz (.T u1::.T u2::.P f k op::items)+1:=by show u1.size+u2.size+2+wz items=u1.size+(u2.size+(1+wz items))+1;exact A30 0xD13501401081382042102
structure I8 (H:AH)(S:Sy)(bits:Int)(R:Except zT (List Int))(a b:Addr)(n:Nat)(H':AH)(items:List xS)(vs:List Int):Prop where
 n:n=wz items
 ok:∀ it∈items,it.Ok S
 sm:∀ v∈vs,Sm v
 run:qR bits items vs=R
 want:kz items vs.length=some 1
 small:vs.length+wz items<=900
 todo:H' (.an a)=some (.list (items.reverse.map xS.pv))
 vals:H' (.an b)=some (.list (vs.reverse.map .int))
 sym:zj H' S
 ext:zf (AB a b yA) H H'
theorem xS.pos (x:xS):1<=x.size:=by cases x with|T t=>cases t<;>exact Nat.succ_pos _|P f a op=>exact Nat.le_refl 1
theorem V1 (l:List xS):l.length<=wz l:=by induction l with|nil=>exact Nat.le_refl _|cons x r ih=>exact Nat.le_trans (Nat.add_le_add ih x.pos) (Nat.le_of_eq (Nat.add_comm ..))
inductive FE (H:AH)(S:Sy)(bits:Int)(R:Except zT (List Int))(a b:Addr)(t:Tr)(n:Nat)(H':AH):Lc->Prop
 |mk (a1 a2 a3:Option PV) (items:List xS) (vs:List Int) (I:I8 H S bits R a b n H' items vs):FE H S bits R a b t n H' [some (.obj (.nm 0)),some t.pv,some (.int bits),some (.obj (.an a)),some (.obj (.an b)),a1,a2,a3]
theorem aT (hS:zj H S)(ok:S.Ok)(ht:t.Ok S)(hz:t.size<=500)(hb:bits<=64) (q:∀ x,ev bits t=.ok x->∀ H',zj H' S->zf yA H H'->Q (.int x) H') (qe:∀ e,ev bits t=.error e->y9 H S X e):
  zh (gr p w B) (d+10) H [.obj (.nm 0),t.pv,.int bits] (cZ 546) Q X:=by
 refine z9 rfl hS.fo (yo fun a Ha na ga ea=>?_);have lS:=hS.ext ea fun _ _ h=>h;refine zd lS.fo (yo fun b Hb nb gb eb=>?_);have lT:=lS.ext eb fun _ _ h=>h;have xN:b≠a:=fun e=>by subst e;rw[ga] at nb;exact qE nb
 have e_:=ea.back (fun h=>h) nb;have dr:∀ {N:Id->Prop} {H2:AH},zf (AB a b N) H H2->zf N H H2:=fun e=>(e.drop e_).drop na;refine zd lT.fo (ud (fun n ρ H'=>FE H S bits ((ev bits t).bind fun x=>.ok [x]) a b t n H' ρ) t.size ⟨_,_,_,[.T t],[],rfl,(fun it h=>by rw[List.mem_singleton.mp h];exact ht),(fun v h=>wg h),rfl,rfl,Nat.le_trans (Nat.le_of_eq (Nat.zero_add _)) (Nat.le_trans hz (by decide)),eb.get (fun h=>h) ga,gb,lT,(ea.trans eb).no⟩ ?_);rintro n zO H' ⟨a1,a2,a3,items,vs,I⟩ K hk;have hl:=V1 items;have ub:=I.small;refine jv I.sym.fo ?_;cases items with
 |nil=>
  refine⟨false,Vr I.todo (by simp),lu I.sym.fo (hk (goN I.sym.fo ?_))⟩;have hv:vs.length=1:=by exact yd I.want
  refine zA (List.length_eq_one_iff.mp hv) fun x zW=>?_;subst zW;refine zg (yt (show(ev bits t).bind (fun x=>.ok [x])=.ok [x] from I.run.symm)) fun y h1 h2=>?_;cases h2;refine yF (k:=0) I.vals (by decide) (by decide) rfl ?_;exact gV (q x h1 H' I.sym (dr I.ext))
 |cons it items=>
  have uM:H' (.an a)=some (.list (items.reverse.map xS.pv++[it.pv])):=by rw[I.todo];simp
  have hsz:wz (it::items)=it.size+wz items:=rfl;have hn:=I.n;have vj:items.length<=900:=A32 0x709E584480042D0200100384F2C00 hl ub;have jN:¬zV (.an a) (.an b):=fun h=>xN (by cases h;rfl);have fb:¬zV (.an b) (.an a):=fun h=>xN (by cases h;rfl);refine⟨true,i9 uM (A33 0x1C27962004411042010406FAC00 (List.length_map ..) (List.length_reverse ..) vj),lu I.sym.fo (uZ uM (A33 0x1C27962004411042010406FAC00 (List.length_map ..) (List.length_reverse ..) vj) fun H1 g1 e1=>?_)⟩;have zG:=I.sym.ext e1 (fun n _ h=>xh h);have v1:=e1.get jN I.vals;have x1:=I.ext.trans e1.a1;have jh:=I.run;have j0:=I.want;have err:∀ e,ev bits t=.error e->∀ H2,zj H2 (e.ball S).1->zf (AB a b yh) H1 H2->X (e.ball S).2 H2:=fun e hx H2 qO e2=>qe e hx H2 qO (dr (x1.ab.trans e2));cases it with
  |P f k op=>obtain⟨Qx,v_⟩:=I.ok (.P f k op) (.head _);have hp:(xS.P f k op).size=1:=rfl;refine zd zG.fo (Qa zG ok Qx v_ I.sm (A21 0x1C279610200100384F2C00 ub) hb j0 v1 (fun qt ha hw hle H2 h1 h2 h3=>gV ?_) fun e ha H2 qO e2=>err e (Z8 jh (kB ha)) H2 qO (e2.mono fun _ h=>h.elim (fun h=>.inl (.inl h)) .inr));exact hk ⟨wz items,A43 0x611840240C616886100401 hp hsz hn,_,_,_,items,qt,rfl,fun it h=>I.ok it (.tail _ h),JO hb I.sm ha,(kN ha jh),hw,A53 0x400042440C610709E58C4800400E13CB08100 ub hsz hle,by rw[h3.get fb g1,List.map_reverse],h1,h2,x1.trans h3.b1⟩
  |T u=>
   have kW:=I.ok (.T u) (.head _);have XU:∀ e,ev bits u=.error e->y9 H1 S X e:=fun e ha H2 qO e2=>err e (Z8 jh (kB ha)) H2 qO e2.n1;cases u with
   |V m=>exact zd zG.fo (kf zG ok fun r H' m=>gV (m.thrown (XU _ rfl)))|A m=>exact zd zG.fo (YH zG ok fun r H' m=>gV (m.thrown (XU _ rfl)))|I m=>refine zd zG.fo (ku v1 (A43 0x8C41180410709E5882800407FAC00 ub (List.length_map ..) (List.length_reverse ..)) fun H2 g2 e2=>gV ?_);have h1:(xS.T (.I m)).size=1:=rfl;exact hk ⟨wz items,A43 0x611840240C616886100401 h1 hsz hn,_,_,_,items,m::vs,rfl,fun it h=>I.ok it (.tail _ h),Qf kW I.sm,jh,j0,A43 0x8D02185A31841C279620200100384F2C2D02100 ub h1 hsz,by rw[e2.get fb g1,List.map_reverse],by rw[g2];simp,zG.ext e2 (fun n _ h=>xh h),x1.trans e2.b1⟩|U f k op u=>
    obtain⟨⟨ua,Uz⟩,uz,hu⟩:=id kW;rw[uz] at ua;have jL:=qK op;rw[uz] at jL;refine zd zG.fo (uT zG ok ua Uz (fun he=>?_) fun he=>XU _ (if_neg fun z=>zU (he.symm.trans (jL.trans z))));have v_:op.isEv=true:=by rw[<-jL];exact he
    refine zd zG.fo (xy g1 zG.fo (xV g1 (A33 0x1C27962004411042010407FAC00 (List.length_map ..) (List.length_reverse ..) vj) fun H2 g2 e2=>?_));have zN:=zG.ext e2 (fun n _ h=>xh h);refine zd zN.fo (lB zN.fo ⟨_,rfl,by simp,X7 ?_⟩);refine w8 zN.fo (ku g2 (by exact A44 0x1C279630044110462105AC4050010407FAC00 (List.length_append ..) (List.length_reverse ..) (List.length_map ..) vj) fun H3 g3 e3=>gV ⟨trivial,gN ?_⟩);have qo:=Ql (f:=f) (k:=k) (op:=op) (u:=u) (items:=items);exact hk ⟨_,A32 0x41185A04086100401 qo hn,_,_,_,.T u::.P f k op::items,vs,rfl,oN (fun it h=>I.ok it (.tail _ h)) kW v_,I.sm,by rw[<-JQ uz v_];exact jh,(if_pos (ao uz v_)).trans ((if_pos (Nat.le_add_left ..)).trans j0),A32 0x1A1408610709E5880800400E13CB08100 ub qo,by rw[g3];simp[xS.pv],e3.get jN (e2.get jN v1),zN.ext e3 (fun n _ h=>xh h),(x1.trans e2.a1).trans e3.a1⟩
   |B f k op u1 u2=>
    refine a4 kW fun wd uz Ms Mt=>?_;obtain⟨ua,Uz⟩:=wd;rw[uz] at ua;have jL:=qK op;rw[uz] at jL;refine zd zG.fo (uT zG ok ua Uz (fun he=>?_) fun he=>XU _ (if_neg fun z=>zU (he.symm.trans (jL.trans z))));have v_:op.isEv=true:=by rw[<-jL];exact he
    refine zd zG.fo (xy g1 zG.fo (xV g1 (by exact A33 0x1C27962004411042010407FAC00 (List.length_map ..) (List.length_reverse ..) vj) fun H2 g2 e2=>?_));have zN:=zG.ext e2 (fun n _ h=>xh h);refine zd zN.fo (lB zN.fo ⟨_,rfl,by simp,X7 ?_⟩);refine w8 zN.fo (ku g2 (by exact A44 0x1C279630044110462105AC4050010407FAC00 (List.length_append ..) (List.length_reverse ..) (List.length_map ..) vj) fun H3 g3 e3=>?_);have yc:=zN.ext e3 (fun n _ h=>xh h);refine zd yc.fo ⟨trivial,w8 yc.fo (ku g3 (by simp;exact A11 0x1C27960004098967EEAC00 vj) fun H4 g4 e4=>gV ⟨trivial,gN ?_⟩)⟩;have qo:=JU (f:=f) (k:=k) (op:=op) (u1:=u1) (u2:=u2) (items:=items);exact hk ⟨_,A32 0x41185A04086100401 qo hn,_,_,_,.T u1::.T u2::.P f k op::items,vs,rfl,pz (fun it h=>I.ok it (.tail _ h)) kW v_,I.sm,by rw[<-Kv uz v_];exact jh,(if_neg fun z=>zU ((Kd uz v_).1.symm.trans z)).trans ((if_pos (Nat.le_add_left ..)).trans j0),A32 0x1A1408610709E5880800400E13CB08100 ub qo,by rw[g4];simp[xS.pv],e4.get jN (e3.get jN (e2.get jN v1)),yc.ext e4 (fun n _ h=>xh h),((x1.trans e2.a1).trans e3.a1).trans e4.a1⟩
end
section
set_option genSizeOf false
set_option genCtorIdx false
section
variable {p:Program} {w:World} {B:Heap} {H:AH} {d:Nat} {X Q:PV->AH->Prop}
structure Cl where
 t:Int
 x:Int
theorem Yh {y z:Nat}{s t:Int}(h:(⟨s,y⟩:Cl)=⟨t,z⟩):y=z:=Int.ofNat.inj (congrArg Cl.x h)
noncomputable def Cl.pv (c:Cl):PV:=.tup [.int c.t,.int c.x]
noncomputable def Qd (bits:Int):List (Str×PV):=[(("symbols":Str),.obj (.nm 0)),(("max_heap":Str),.int bits),(("heap":Str),.obj (.nm 12)),(("stack":Str),.obj (.nm 13)),(("trail":Str),.obj (.nm 14)),(("hb":Str),.int 0),(("bb":Str),.int 0)]
structure ym (H:AH)(hp:List Cl):Prop where
 inst:H (.nm 10)=some (.inst 416 (.nm 11))
 ns:H (.nm 11)=some (.ns (Qd 100000))
 heap:H (.nm 12)=some (.list (hp.map Cl.pv))
 stack:H (.nm 13)=some (.list [])
 trail:H (.nm 14)=some (.list [])
theorem ym.ext (x:ym H hp)(e:zf N H H')(h:∀ n,10<=n->n<=14->¬N (.nm n)):ym H' hp:=⟨e.get (h 10 (by decide) (by decide)) x.inst,e.get (h 11 (by decide) (by decide)) x.ns,e.get (h 12 (by decide) (by decide)) x.heap,e.get (h 13 (by decide) (by decide)) x.stack,e.get (h 14 (by decide) (by decide)) x.trail⟩
inductive zP (hp:List Cl):Cl->Cl->Nat->Prop
 |stop {c:Cl} (h:c.t≠0) (h1:c.t≠1):zP hp c c 0|self {x:Nat} (h:hp[x]?=some ⟨0,x⟩):zP hp ⟨0,x⟩ ⟨0,x⟩ 0|step {x:Nat} {c c':Cl} {n:Nat} (h:hp[x]?=some c) (wJ:c≠⟨0,x⟩) (r:zP hp c c' n):zP hp ⟨0,x⟩ c' (n+1)
theorem B4 (c d:Cl):ZR [.int c.t,.int c.x] [.int d.t,.int d.x]=(c.t==d.t&&c.x==d.x):=by show(_&&(_&&true))=_;rw[Bool.and_true];rfl
theorem Xn {g:Gr}{d:Nat}{H:AH}{Q X:PV->AH->Prop}{c e:Cl}(q:Q (.bool (c.t==e.t&&c.x==e.x)) H):zh g d H [.tup [.int c.t,.int c.x],.tup [.int e.t,.int e.x]] (t2 (compareOp .Eq)) Q X:=
 lj 0 rfl rfl (by decide) (by rw[B4];exact q)
noncomputable def f5:Fo:=⟨10,11,416,[(10,.obj (.nm 0)),(11,.int 100000),(12,.obj (.nm 12)),(13,.obj (.nm 13)),(14,.obj (.nm 14)),(15,.int 0),(16,.int 0)]⟩
theorem mL:YM (KK P) 416 [10,11,12,13,14,15,16]=true:=by kernel_rfl
theorem ym.fo (h:ym H hp):Fa (gr p w B) tx H [f5]:=⟨ZM h.inst h.ns mL rfl,trivial⟩
theorem ym.at {x:Nat}(h:ym H hp)(hz:hp.length<=100000)(hx:hp[x]?=some c)(q:Q c.pv H):q9 g d H (.obj (.nm 12)) (.int x) Q X:=by have:=(xU hx).1;exact uj h.heap (A22 0x2FD610042008408FAC00 this hz) (w9 hx) q
theorem xJ {n:Nat}(hS:ym H hp)(hz:hp.length<=100000)(hd:zP hp c c' n)(q:Q c'.pv H):zh (gr p w B) (d+1) H [.obj (.nm 10),c.pv] (cZ 272) Q X:=by
 refine z9 rfl hS.fo (ud (fun m ρ H'=>H'=H/\∃ (e:Cl) (a b:Option PV),ρ=[some (.obj (.nm 10)),some e.pv,a,b]/\zP hp e c' m) n ⟨rfl,c,none,none,rfl,hd⟩ ?_);intro m zO H' zq;refine a2 zq fun xA zz=>?_;refine vW zz fun e a b vv hd=>?_;clear zq;subst xA vv;intro K hk;refine jv hS.fo ?_;cases hd with
 |stop h5 h6=>exact yZ h5 (yZ h6 (hk q))|self h5=>refine hS.at hz h5 (zd hS.fo (Xn (c:=⟨0,_⟩) (e:=⟨0,_⟩) (zd hS.fo ?_)));exact qa (by simp) (hk q)|@step x e' _ k h5 wJ r=>refine hS.at hz h5 (zd hS.fo (Xn (c:=e') (e:=⟨0,x⟩) (zd hS.fo (jE ?_ (hk ⟨_,Nat.lt_succ_self _,rfl,e',_,_,rfl,r⟩)))));rw[Bool.and_eq_false_imp];rintro z1;rw[beq_eq_false_iff_ne];rintro z2;exact wJ (by cases e';simp_all)
theorem X0 {c:Cl}(q:Q (.bool (c.t==2||c.t==3)) H){hp:List Cl}(hS:ym H hp):zh (gr p w B) (d+1) H [.obj (.nm 10),c.pv] (cZ 328) Q X:=by
 refine z9 rfl hS.fo ?_;by_cases h:c.t=2
 .refine wb h ?_;have q:Q (.bool true) H:=by simpa[h] using q
  exact q
 .refine yZ h ?_;have:(c.t==2)=false:=by simpa using h
  rw[this,Bool.false_or,i_] at q;exact q
theorem WK {c:Cl}{hp:List Cl}(hS:ym H hp)(h:c.t≠3)(q:Q (.int (c.x+1)) H):zh (gr p w B) (d+1) H [.obj (.nm 10),c.pv] (cZ 349) Q X:=
 z9 rfl hS.fo (yZ h q)
theorem JR (hS:ym H hp)(q:Q (.int x) H):zh (gr p w B) (d+1) H [.obj (.nm 10),(Cl.mk 3 x).pv] (cZ 349) Q X:=z9 rfl hS.fo q
theorem Z5 {x:Nat}{t f:Int}(hS:ym H hp)(hz:hp.length<=100000)(h:hp[x]?=some ⟨t,f⟩)(q:Q (.int f) H):zh (gr p w B) (d+1) H [.obj (.nm 10),(Cl.mk 2 x).pv] (cZ 335) Q X:=
 z9 rfl hS.fo (hS.at hz h (zd hS.fo q))
theorem Q1 (hS:ym H hp)(q:Q (.int 0) H):zh (gr p w B) (d+1) H [.obj (.nm 10),(Cl.mk 3 x).pv] (cZ 335) Q X:=z9 rfl hS.fo q
theorem U7 {x i:Nat}(hS:ym H hp)(hz:hp.length<=100000)(hi:1<=i)(h:hp[x+i]?=some c)(q:Q c.pv H):zh (gr p w B) (d+2) H [.obj (.nm 10),(Cl.mk 2 x).pv,.int i] (cZ 356) Q X:=by refine z9 rfl hS.fo (WK (c:=⟨2,x⟩) hS (show(2:Int)≠3 by decide) (zd hS.fo ?_));have hx:=(xU h).1;exact iW (k:=(x:Int)+1+(i:Int)-1) ((congrArg (·-1) (Int.add_right_comm ..)).trans (Int.add_sub_cancel ..)) hS.heap (Nat.le_trans (Nat.le_of_lt hx) (Nat.le_trans hz (by decide))) (w9 h) (zd hS.fo q)
theorem Xy (hS:ym H hp)(hz:hp.length<=100000)(hd:zP hp c c' n)(hc:c'.t≠1)(q:Q c'.pv H):zh (gr p w B) (d+2) H [.obj (.nm 10),c.pv] (cZ 300) Q X:=
 z9 rfl hS.fo (xJ hS hz hd (zd hS.fo (yZ hc q)))
theorem JK {x:Nat}(hS:ym H hp)(hz:hp.length<=100000)(h:hp[x]?=some c)(q:Q (.bool (c.t==0&&c.x==x)) H):zh (gr p w B) (d+1) H [.obj (.nm 10),(Cl.mk 0 x).pv] (cZ 279) Q X:=
 z9 rfl hS.fo (hS.at hz h (zd hS.fo (Xn (c:=c) (e:=⟨0,x⟩) (zd hS.fo q))))
end
end
section
variable {p:Program} {w:World} {B:Heap} {H:AH} {d:Nat} {X Q:PV->AH->Prop}
noncomputable def QR (bits:Int)(i j k:Id):List (Str×PV):=[(("symbols":Str),.obj (.nm 0)),(("code":Str),.obj i),(("max_heap":Str),.int 100000),(("occurs":Str),.bool true),(("max_bits":Str),.int bits),(("store":Str),.obj (.nm 10)),(("x":Str),.obj (.nm 15)),(("p":Str),.int 0),(("cp":Str),.int 0),(("e":Str),.int (-1)),(("b":Str),.int (-1)),(("b0":Str),.int (-1)),(("mode":Str),.str "read"),(("s":Str),.int 0),(("guard":Str),.tup [.int 5,.int 0]),(("roots":Str),.obj j),(("bags":Str),.obj k),(("collect_wanted":Str),.bool false)]
structure yJ (H:AH)(bits:Int)(hp xs:List Cl):Prop where
 inst:H (.nm 8)=some (.inst 858 (.nm 9))
 ns:∃ i j k,H (.nm 9)=some (.ns (QR bits i j k))
 x:H (.nm 15)=some (.list (xs.map Cl.pv))
 st:ym H hp
theorem yJ.ext (x:yJ H bits hp xs)(e:zf N H H')(h:∀ n,8<=n->n<=15->¬N (.nm n)):yJ H' bits hp xs:=by refine yU x.ns fun i j k hn=>?_;exact⟨e.get (h 8 (by decide) (by decide)) x.inst,⟨i,j,k,e.get (h 9 (by decide) (by decide)) hn⟩,e.get (h 15 (by decide) (by decide)) x.x,x.st.ext e fun n h1 h2=>h n (A11 0x580100280 h1) (A11 0xD000106C00 h2)⟩
inductive Lg (hp:List Cl)(c:Cl)(f:Nat)(R:Cl->Prop):Prop
 |mk (x n:Nat) (e:Cl) (h1:zP hp c ⟨2,x⟩ n) (h2:hp[x]?=some ⟨6,f⟩) (h3:hp[x+1]?=some e) (h4:R e)
inductive I2 (hp:List Cl)(c:Cl)(f:Nat)(z:Bool)(R1 R2:Cl->Prop):Prop
 |mk (x n:Nat) (e1 e2:Cl) (h:(zP hp c ⟨2,x⟩ n/\hp[x]?=some ⟨6,f⟩/\hp[x+1]?=some e1/\hp[x+2]?=some e2)\/(f=0/\z=false/\zP hp c ⟨3,x⟩ n/\hp[x]?=some e1/\hp[x+1]?=some e2)) (r1:R1 e1) (r2:R2 e2)
def RT (hp:List Cl)(P:Cl->Int->Prop):Cl->Tr->Prop|c,.V k=>P c k|c,.A a=>∃ n,zP hp c ⟨4,a⟩ n|c,.I a=>∃ n,zP hp c ⟨5,a⟩ n|c,.U f _ _ t=>Lg hp c f fun e=>RT hp P e t|c,.B f _ op l r=>I2 hp c f op.isEv (fun e=>RT hp P e l) fun e=>RT hp P e r
def HT (hp:List Cl):Cl->Tr->Prop:=RT hp fun c _=>∃ n x:Nat,zP hp c ⟨0,x⟩ n
theorem zP.ne6 (h:zP hp c c' n)(h':c'.t≠6):c.t≠6:=by cases h with|stop _ _=>exact h'|self _=>exact(by decide:(0:Int)≠6)|step _ _ _=>exact(by decide:(0:Int)≠6)
theorem HT.ne6 (h:HT hp c t):c.t≠6:=by
 unfold HT at h;cases t with
 |V k=>obtain⟨n,x,h⟩:=h;exact h.ne6 (by decide:(0:Int)≠6)
 |A k=>obtain⟨n,h⟩:=h;exact h.ne6 (by decide:(4:Int)≠6)
 |I k=>obtain⟨n,h⟩:=h;exact h.ne6 (by decide:(5:Int)≠6)
 |U f a op t=>obtain⟨x,n,e,h,_⟩:=h;exact h.ne6 (by decide:(2:Int)≠6)
 |B f a op l r=>
  obtain⟨x,n,e1,e2,h|h,_⟩:=h
  .exact h.1.ne6 (by decide:(2:Int)≠6)
  .exact h.2.2.1.ne6 (by decide:(3:Int)≠6)
def Hf (hp:List Cl):Cl->xS->Prop|c,.T t=>HT hp c t|c,.P f _ _=>c=⟨6,f⟩
noncomputable def Tr.peak:Tr->Nat|.U _ _ _ t=>1+t.peak|.B _ _ _ l r=>2+max l.peak r.peak|_=>0
noncomputable def xS.peak:xS->Nat|.T t=>t.peak|.P _ _ _=>0
def oe (M:Nat):List xS->Prop|[]=>True|it::r=>r.length+it.peak<=M/\oe M r
def UT (hp:List Cl):List Cl->List xS->Prop|[],[]=>True|c::cs,it::r=>Hf hp c it/\UT hp cs r|_,_=>False
theorem UT.len:∀ {cs:List Cl} {l:List xS},UT hp cs l->cs.length=l.length|[],[],_=>rfl|_::_,_::_,h=>congrArg (·+1) h.2.len|[],_::_,h=>h.elim|_::_,[],h=>h.elim
noncomputable def aO (bits:Int)(i j k:Id):Fo:=⟨8,9,858,[(10,.obj (.nm 0)),(43,.obj i),(11,.int 100000),(44,.bool true),(33,.int bits),(32,.obj (.nm 10)),(46,.obj (.nm 15)),(47,.int 0),(48,.int 0),(49,.int (-1)),(50,.int (-1)),(51,.int (-1)),(52,.str "read"),(53,.int 0),(54,.tup [.int 5,.int 0]),(55,.obj j),(56,.obj k),(57,.bool false)]⟩
theorem fJ:YM (KK P) 858 [10,43,11,44,33,32,46,47,48,49,50,51,52,53,54,55,56,57]=true:=by kernel_rfl
theorem yJ.fo (h:yJ H bits hp xs)(n:H (.nm 9)=some (.ns (QR bits i j k))):Fa (gr p w B) tx H [aO bits i j k]:=⟨ZM h.inst n fJ rfl,trivial⟩
structure IQ (H:AH)(S:Sy)(bits:Int)(R:Except zT (List Int))(a b:Addr)(hp:List Cl)(n:Nat)(H':AH)(cs:List Cl)(items:List xS)(vs:List Int):Prop where
 n:n=wz items
 ok:∀ it∈items,it.Ok S
 sm:∀ v∈vs,Sm v
 run:qR bits items vs=R
 want:kz items vs.length=some 1
 small:vs.length+wz items<=900
 its:UT hp cs items
 fit:oe hp.length items
 todo:H' (.an a)=some (.list (cs.reverse.map Cl.pv))
 vals:H' (.an b)=some (.list (vs.reverse.map .int))
 sym:zj H' S
 ext:zf (AB a b yA) H H'
theorem aW:wN 1 0 (-1)=[.int 1]:=by have:=jm 1 0 (by decide);exact this
theorem aQ:wN 2 0 (-1)=[.int 2,.int 1]:=by have:=jm 2 0 (by decide);exact this
inductive FG (H:AH)(S:Sy)(bits:Int)(R:Except zT (List Int))(a b:Addr)(hp:List Cl)(c0:Cl)(n:Nat)(H':AH):Lc->Prop
 |mk (a1 a2 a3:Option PV) (cs:List Cl) (items:List xS) (vs:List Int) (I:IQ H S bits R a b hp n H' cs items vs):FG H S bits R a b hp c0 n H' [some (.obj (.nm 8)),some c0.pv,some (.obj (.nm 10)),some (.obj (.nm 0)),some (.obj (.an a)),some (.obj (.an b)),a1,a2,a3]
theorem qk (hM:yJ H bits hp xs)(hS:zj H S)(n:H (.nm 9)=some (.ns (QR bits i j k))):Fa (gr p w B) tx H ([aO bits i j k]++([f5]++[UO])):=(hM.fo n).app (hM.st.fo.app hS.fo)
theorem Wx (hM:yJ H bits hp xs)(hS:zj H S)(ok:S.Ok)(ht:t.Ok S)(hz:t.size<=500)(hb:bits<=64) (hc:HT hp c0 t) (Mf:t.peak<=hp.length) (yf:hp.length<=100000) (q:∀ x,ev bits t=.ok x->∀ H',zj H' S->zf yA H H'->Q (.int x) H') (qe:∀ e,ev bits t=.error e->y9 H S X e):
  zh (gr p w B) (d+11) H [.obj (.nm 8),c0.pv] (cZ 539) Q X:=by
 refine yU hM.ns fun i1 i2 i3 m1=>?_;refine z9 rfl (qk hM hS m1) (yo fun a Ha na ga ea=>?_);have lS:=hS.ext ea fun _ _ h=>h;refine gV (yo fun b Hb nb gb eb=>?_);have lT:=lS.ext eb fun _ _ h=>h;have xN:b≠a:=fun e=>by subst e;rw[ga] at nb;exact qE nb
 have e_:=ea.back (fun h=>h) nb;have dr:∀ {N:Id->Prop} {H2:AH},zf (AB a b N) H H2->zf N H H2:=fun e=>(e.drop e_).drop na;refine gV (ud (fun n ρ H'=>FG H S bits ((ev bits t).bind fun x=>.ok [x]) a b hp c0 n H' ρ) t.size ⟨_,_,_,[c0],[.T t],[],rfl,(fun it h=>by rw[List.mem_singleton.mp h];exact ht),(fun v h=>wg h),rfl,rfl,Nat.le_trans (Nat.le_of_eq (Nat.zero_add _)) (Nat.le_trans hz (by decide)),⟨hc,trivial⟩,⟨Nat.le_trans (Nat.le_of_eq (Nat.zero_add _)) Mf,trivial⟩,eb.get (fun h=>h) ga,gb,lT,(ea.trans eb).no⟩ ?_);rintro n zO H' ⟨a1,a2,a3,cs,items,vs,I⟩ K hk;have hl:=V1 items;have ub:=I.small;have kG:=I.its.len;refine jv I.sym.fo ?_;cases items with
 |nil=>obtain rfl:=List.eq_nil_of_length_eq_zero kG;refine⟨false,Vr I.todo (by simp),lu I.sym.fo (hk (goN I.sym.fo ?_))⟩;have hv:vs.length=1:=yd I.want;refine zA (List.length_eq_one_iff.mp hv) fun x zW=>?_;subst zW;refine zg (yt (show(ev bits t).bind (fun x=>.ok [x])=.ok [x] from I.run.symm)) fun y h1 h2=>?_;cases h2;refine yF (k:=0) I.vals (by decide) (by decide) rfl ?_;exact gV (q x h1 H' I.sym (dr I.ext))
 |cons it items=>
  obtain⟨c,cs,rfl⟩:∃ c sj,cs=c::sj:=by cases cs with|nil=>exact nomatch kG|cons c cs=>exact⟨c,cs,rfl⟩
  obtain⟨hit,hits⟩:=I.its;obtain⟨Xu,Wl⟩:=I.fit;have kH:cs.length=items.length:=hits.len;have uM:H' (.an a)=some (.list (cs.reverse.map Cl.pv++[c.pv])):=by rw[I.todo];simp
  have hsz:wz (it::items)=it.size+wz items:=rfl;have hn:=I.n;have vj:items.length<=900:=A32 0x709E584480042D0200100384F2C00 hl ub;have jN:¬zV (.an a) (.an b):=fun h=>xN (by cases h;rfl);have fb:¬zV (.an b) (.an a):=fun h=>xN (by cases h;rfl);have JF:∀ n,¬AB a b yA (.nm n):=fun n h=>by
   rcases h with(h|h)|h
   .exact h
   .exact xh h
   .exact xh h
  refine⟨true,i9 uM (A65 0xBF58C012904109441200411882800406FAC00 Xu (List.length_map ..) kH (List.length_reverse ..) yf),lu I.sym.fo (uZ uM (A65 0xBF58C012904109441200411882800406FAC00 Xu (List.length_map ..) kH (List.length_reverse ..) yf) fun H1 g1 e1=>?_)⟩;have zG:=I.sym.ext e1 (fun n _ h=>xh h);have v1:=e1.get jN I.vals;have x1:=I.ext.trans e1.a1;have kF:=hM.ext x1 fun n _ _=>JF n;have F1:=qk (p:=p) (w:=w) (B:=B) kF zG (x1.get (JF 9) m1);have jh:=I.run;have j0:=I.want;have err:∀ e,ev bits t=.error e->∀ H2,zj H2 (e.ball S).1->zf (AB a b yh) H1 H2->X (e.ball S).2 H2:=fun e hx H2 qO e2=>qe e hx H2 qO (dr (x1.ab.trans e2));cases it with
  |P f k op=>obtain rfl:c=⟨6,f⟩:=hit;obtain⟨Qx,v_⟩:=I.ok (.P f k op) (.head _);have hp:(xS.P f k op).size=1:=rfl;refine zd F1 ((Qa zG ok Qx v_ I.sm (A21 0x1C279610200100384F2C00 ub) hb j0 v1 (fun qt ha hw hle H2 h1 h2 h3=>gV ?_) fun e ha H2 qO e2=>err e (Z8 jh (kB ha)) H2 qO (e2.mono fun _ h=>h.elim (fun h=>.inl (.inl h)) .inr)).up (Nat.le_add_right _ 2));exact hk ⟨wz items,A43 0x611840240C616886100401 hp hsz hn,_,_,_,cs,items,qt,rfl,fun it h=>I.ok it (.tail _ h),JO hb I.sm ha,(kN ha jh),hw,A53 0x400042440C610709E58C4800400E13CB08100 ub hsz hle,hits,Wl,by rw[h3.get fb g1,List.map_reverse],h1,h2,x1.trans h3.b1⟩
  |T u=>
   have kW:=I.ok (.T u) (.head _);change HT hp c u at hit;have XU:∀ e,ev bits u=.error e->y9 H1 S X e:=fun e ha H2 qO e2=>err e (Z8 jh (kB ha)) H2 qO e2.n1;refine zd F1 (yZ hit.ne6 ?_);unfold HT at hit;cases u with
   |V m=>refine vg hit fun n1 x hit=>?_;exact xJ kF.st yf hit (zd F1 (kf zG ok fun r H' m=>gV (m.thrown (XU _ rfl))))|A m=>refine zA hit fun n1 hit=>?_;exact xJ kF.st yf hit (zd F1 (YH zG ok fun r H' m=>gV (m.thrown (XU _ rfl))))|I m=>refine zA hit fun n1 hit=>?_;refine xJ kF.st yf hit (zd F1 (ku v1 (A43 0x8C41180410709E5882800407FAC00 ub (List.length_map ..) (List.length_reverse ..)) fun H2 g2 e2=>gV ?_));have h1:(xS.T (.I m)).size=1:=rfl;exact hk ⟨wz items,A43 0x611840240C616886100401 h1 hsz hn,_,_,_,cs,items,m::vs,rfl,fun it h=>I.ok it (.tail _ h),Qf kW I.sm,jh,j0,A43 0x8D02185A31841C279620200100384F2C2D02100 ub h1 hsz,hits,Wl,by rw[e2.get fb g1,List.map_reverse],by rw[g2];simp,zG.ext e2 (fun n _ h=>xh h),x1.trans e2.b1⟩|U f k op u=>
    obtain⟨⟨ua,Uz⟩,uz,hu⟩:=id kW;rw[uz] at ua;have jL:=qK op;rw[uz] at jL;obtain⟨x,n1,e,hit,wy,JC,Za⟩:=hit;have Jj:f<=1000000:=by have:=(xU ua).1;have:=ok.lf;exact A22 0x1F479610042008406FAC00 (by assumption) this
    refine xJ kF.st yf hit (zd F1 (Z5 kF.st yf wy (zd F1 (uT zG ok ua Uz (fun he=>?_) fun he=>XU _ (if_neg fun z=>zU (he.symm.trans (jL.trans z)))))));have v_:op.isEv=true:=by rw[<-jL];exact he
    refine zd F1 (xy g1 F1 (xV g1 (A44 0x1C2796300441104621042010407FAC00 (List.length_map ..) kH (List.length_reverse ..) vj) fun H2 g2 e2=>?_));have zN:=zG.ext e2 (fun n _ h=>xh h);have Vi:=kF.ext e2 (fun n _ _ h=>xh h);have F2:=qk (p:=p) (w:=w) (B:=B) Vi zN ((x1.trans e2.a1).get (JF 9) m1);refine zd F2 (Z6 F2 (je zN ua Jj (zd F2 ⟨1,0,rfl,by decide,by decide,by decide,by decide,X7 ?_⟩)));rw[aW];refine w8 F2 (xy g2 F2 (U7 (i:=1) Vi.st yf (by decide) JC (zd F2 (xV g2 (A55 0x1C27963004441048110462105AC4050010407FAC00 (List.length_append ..) kH (List.length_map ..) (List.length_reverse ..) vj) fun H3 g3 e3=>gV ⟨trivial,?_⟩))));have Uv:=Vi.ext e3 (fun n _ _ h=>xh h);have yc:=zN.ext e3 (fun n _ h=>xh h);have F3:=qk (p:=p) (w:=w) (B:=B) Uv yc (((x1.trans e2.a1).trans e3.a1).get (JF 9) m1);have xP:items.length+(1+u.peak)<=hp.length:=Xu;refine goN F3 (xb g3 (by simp;exact A22 0x1C2796100420104098967EEAC00 kH vj) (zd F3 (xb Uv.st.heap (A22 0x2FD610042010407FAC00 (List.length_map ..) yf) (zd F3 ?_))));refine yZ (by simp;lia) ?_;have qo:=Ql (f:=f) (k:=k) (op:=op) (u:=u) (items:=items);exact hk ⟨_,A32 0x41185A04086100401 qo hn,_,_,_,e::⟨6,f⟩::cs,.T u::.P f k op::items,vs,rfl,oN (fun it h=>I.ok it (.tail _ h)) kW v_,I.sm,by rw[<-JQ uz v_];exact jh,(if_pos (ao uz v_)).trans ((if_pos (Nat.le_add_left ..)).trans j0),A32 0x1A1408610709E5880800400E13CB08100 ub qo,⟨Za,rfl,hits⟩,⟨by simp only[List.length_cons,xS.peak];exact A31 0x105A8020010082D02100 xP,by simp only[xS.peak];exact A31 0x88080040160100 Xu,Wl⟩,by rw[g3];simp[Cl.pv],e3.get jN (e2.get jN v1),yc,(x1.trans e2.a1).trans e3.a1⟩
   |B f k op u1 u2=>
    refine a4 kW fun wd uz Ms Mt=>?_;obtain⟨ua,Uz⟩:=wd;rw[uz] at ua;have jL:=qK op;rw[uz] at jL;obtain⟨x,n1,vL,Y9,hit,Io,Za⟩:=hit;have Jj:f<=1000000:=by have:=(xU ua).1;have:=ok.lf;exact A22 0x1F479610042008406FAC00 (by assumption) this
    rcases hit with⟨hit,hx0,wy,JC⟩|⟨rfl,hnev,hit,wy,JC⟩
    .refine xJ kF.st yf hit (zd F1 (Z5 kF.st yf hx0 (zd F1 (uT zG ok ua Uz (fun he=>?_) fun he=>XU _ (if_neg fun z=>zU (he.symm.trans (jL.trans z)))))));have v_:op.isEv=true:=by rw[<-jL];exact he
     refine zd F1 (xy g1 F1 (xV g1 (by exact A44 0x1C2796300441104621042010407FAC00 (List.length_map ..) kH (List.length_reverse ..) vj) fun H2 g2 e2=>?_));have zN:=zG.ext e2 (fun n _ h=>xh h);have Vi:=kF.ext e2 (fun n _ _ h=>xh h);have F2:=qk (p:=p) (w:=w) (B:=B) Vi zN ((x1.trans e2.a1).get (JF 9) m1);refine zd F2 (Z6 F2 (je zN ua Jj (zd F2 ⟨2,0,rfl,by decide,by decide,by decide,by decide,X7 ?_⟩)));rw[aQ];refine w8 F2 (xy g2 F2 (U7 (i:=2) Vi.st yf (by decide) JC (zd F2 (xV g2 (by exact A55 0x1C27963004441048110462105AC4050010407FAC00 (List.length_append ..) kH (List.length_map ..) (List.length_reverse ..) vj) fun H3 g3 e3=>?_))));have Uv:=Vi.ext e3 (fun n _ _ h=>xh h);have yc:=zN.ext e3 (fun n _ h=>xh h);have x3:=(x1.trans e2.a1).trans e3.a1;have F3:=qk (p:=p) (w:=w) (B:=B) Uv yc (x3.get (JF 9) m1);refine zd F3 ⟨trivial,w8 F3 (xy g3 F3 (U7 (i:=1) Uv.st yf (by decide) wy (zd F3 (xV g3 (by simp;exact A22 0x1C2796100420104098967EEAC00 kH vj) fun H4 g4 e4=>gV ⟨trivial,?_⟩))))⟩;have F5:=Uv.ext e4 (fun n _ _ h=>xh h);have yn:=yc.ext e4 (fun n _ h=>xh h);have F4:=qk (p:=p) (w:=w) (B:=B) F5 yn ((x3.trans e4.a1).get (JF 9) m1);have xP:items.length+(2+max u1.peak u2.peak)<=hp.length:=Xu;refine goN F4 (xb g4 (by simp;exact A22 0x1C2796100420104098967DEAC00 kH vj) (zd F4 (xb F5.st.heap (A22 0x2FD610042010407FAC00 (List.length_map ..) yf) (zd F4 ?_))));refine yZ (by simp;lia) ?_;have qo:=JU (f:=f) (k:=k) (op:=op) (u1:=u1) (u2:=u2) (items:=items);exact hk ⟨_,A32 0x41185A04086100401 qo hn,_,_,_,vL::Y9::⟨6,f⟩::cs,.T u1::.T u2::.P f k op::items,vs,rfl,pz (fun it h=>I.ok it (.tail _ h)) kW v_,I.sm,by rw[<-Kv uz v_];exact jh,(if_neg fun z=>zU ((Kd uz v_).1.symm.trans z)).trans ((if_pos (Nat.le_add_left ..)).trans j0),A32 0x1A1408610709E5880800400E13CB08100 ub qo,⟨Io,Za,rfl,hits⟩,⟨by simp only[List.length_cons,xS.peak];lia,by simp only[List.length_cons,xS.peak];lia,by simp only[xS.peak];exact A31 0x88080040160100 Xu,Wl⟩,by rw[g4];simp[Cl.pv],e4.get jN (e3.get jN (e2.get jN v1)),yn,x3.trans e4.a1⟩
    .exact xJ kF.st yf hit (zd F1 (Q1 kF.st (zd F1 (uT (f:=0) zG ok ua Uz (fun he=>absurd (he.symm.trans jL) (by rw[hnev];decide)) fun he=>XU _ (if_neg fun z=>zU (hnev.symm.trans z))))))
end
section
variable {p:Program} {w:World} {B:Heap} {H:AH} {d:Nat} {X Q:PV->AH->Prop}
noncomputable def yG (tab:List (Int×Nat))(k:Int):Option Nat:=(tab.find? fun x=>decide (x.1=k)).map (·.2)
noncomputable def wG (tab:List (Int×Nat)):List (Int×PV):=tab.map fun x=>(x.1,(Cl.mk 0 (x.2:Nat)).pv)
theorem um (tab:List (Int×Nat))(k:Int):vF (wG tab) k=(yG tab k).map fun x=>(Cl.mk 0 (x:Nat)).pv:=by
 unfold vF wG yG;induction tab with
 |nil=>rfl|cons x r ih=>
  rw[List.map_cons,List.find?_cons,List.find?_cons];by_cases h:x.1=k
  .simp[h]
  .simp only[h,decide_false];exact ih
theorem K3 (h:yG tab k=some x)(l:List (Int×Nat)):yG (tab++l) k=some x:=by unfold yG at h|-;rw[List.find?_append];cases q:tab.find? fun x=>decide (x.1=k) with|none=>rw[q] at h;exact zJ h|some y=>rw[q] at h;exact h
theorem u4 (h:yG tab k=none)(j:Int):yG (tab++[(k,x)]) j=if j=k then some x else yG tab j:=by
 unfold yG at h|-;rw[List.find?_append];by_cases e:j=k
 .subst e;cases q:tab.find? fun x=>decide (x.1=j) with|none=>simp|some y=>rw[q] at h;exact qE h
 .rw[if_neg e];have e':¬k=j:=fun z=>e z.symm;cases q:tab.find? fun x=>decide (x.1=j) with|none=>simp[e']|some y=>simp
theorem Uk (h:yG tab k=none):X8 (wG tab) k (Cl.mk 0 (x:Nat)).pv=wG (tab++[(k,x)]):=by
 have:vF (wG tab) k=none:=by rw[um,h];rfl
 unfold X8;rw[if_neg]
 .unfold wG;simp
 .intro e;refine zg (List.any_eq_true.mp e) fun y hy hk=>?_;unfold vF at this;simp only[Option.map_eq_none_iff,List.find?_eq_none] at this;exact this y hy hk
def wQ (a b:List (Int×Nat)):Prop:=∀ k x,yG a k=some x->yG b k=some x
theorem wQ.refl (a:List (Int×Nat)):wQ a a:=fun _ _ h=>h
theorem wQ.trans (x:wQ a b)(y:wQ b c):wQ a c:=fun k v h=>y k v (x k v h)
structure qL (hp:List Cl)(tab:List (Int×Nat)):Prop where
 lt:∀ k x,yG tab k=some x->x<hp.length
 inj:∀ k j x,yG tab k=some x->yG tab j=some x->k=j
def PT (hp:List Cl)(tab:List (Int×Nat)):Cl->Tr->Prop:=RT hp fun c k=>∃ x:Nat,yG tab k=some x/\c=⟨0,x⟩
noncomputable def Tr.arsum:Tr->Nat|.U _ _ _ t=>1+t.arsum|.B _ _ _ l r=>2+l.arsum+r.arsum|_=>0
noncomputable def Tr.args:Tr->List Tr|.U _ _ _ t=>[t]|.B _ _ _ l r=>[l,r]|_=>[]
noncomputable def Tr.fn:Tr->Nat|.U f _ _ _=>f|.B f _ _ _ _=>f|_=>0
noncomputable def Tr.isS:Tr->Bool|.U _ _ _ _=>true|.B _ _ _ _ _=>true|_=>false
noncomputable def Tr.mk (t:Tr)(n:Nat):Cl:=if t.fn=0 then⟨3,n⟩ else⟨2,n⟩
noncomputable def Tr.bs (t:Tr)(n:Nat):Nat:=if t.fn=0 then n else n+1
noncomputable def fresh (n k:Nat):List Cl:=(List.range k).map fun j=>⟨0,(n+j:Nat)⟩
noncomputable def Tr.cells (t:Tr)(n:Nat):List Cl:=if t.fn=0 then fresh n t.args.length else⟨6,t.fn⟩::fresh (n+1) t.args.length
theorem qH (n k:Nat):(fresh n k).length=k:=by simp[fresh]
theorem Ub (h:j<k):(fresh n k)[j]?=some ⟨0,(n+j:Nat)⟩:=by unfold fresh;rw[List.getElem?_map,List.getElem?_range h];rfl
structure vm (S:Sy):Prop where
 dot:S.funs[0]?=some (1,2)
 tdot:S.texts[1]?=some (".":Str)
theorem vm.op {S:Sy}(b:vm S){a:Nat}{op:Op}(h:u0 S 0 a op):op.isEv=false/\op.arity=2:=by
 refine a2 h fun h1 h2=>?_;clear h;rw[b.dot] at h1;simp only[Option.some.injEq,Prod.mk.injEq] at h1;refine a2 h1 fun h3 h4=>?_;clear h1;have:a=1:=by lia
 subst this;rw[b.tdot] at h2;simp only[Option.some.injEq] at h2;refine⟨?_,h4.symm⟩;revert h2;cases op with|ff u=>cases u;decide+kernel|_=>decide+kernel
theorem RT.block (b:vm S)(ok:t.Ok S)(hs:t.isS=true)(hf:t.fn≠0->hp[n]?=some ⟨6,t.fn⟩)(ha:∀ i u,t.args[i]?=some u->∃ e,hp[t.bs n+i]?=some e/\RT hp P e u):RT hp P (t.mk n) t:=by
 cases t with
 |V k=>exact zU hs|A k=>exact zU hs|I k=>exact zU hs|U f a op t=>
  have h0:f≠0:=by rintro rfl;have:=(b.op ok.1).2;rw[ok.2.1] at this;cases this
  refine zg (ha 0 t rfl) fun e h1 h2=>?_;have hb:Tr.bs (.U f a op t) n=n+1:=if_neg h0;rw[hb] at h1;rw[show Tr.mk (.U f a op t) n=⟨2,n⟩ from if_neg h0];exact⟨n,0,e,.stop (by decide:(2:Int)≠0) (by decide:(2:Int)≠1),hf h0,h1,h2⟩
 |B f a op l r=>
  refine zg (ha 0 l rfl) fun e1 h1 h2=>?_;refine zg (ha 1 r rfl) fun e2 h3 h4=>?_;by_cases h0:f=0
  .have hb:Tr.bs (.B f a op l r) n=n:=if_pos h0;rw[hb] at h1 h3;rw[show Tr.mk (.B f a op l r) n=⟨3,n⟩ from if_pos h0];refine⟨n,0,e1,e2,.inr ⟨h0,?_,.stop (by decide:(3:Int)≠0) (by decide:(3:Int)≠1),h1,h3⟩,h2,h4⟩;subst h0;exact(b.op ok.1).1
  .have hb:Tr.bs (.B f a op l r) n=n+1:=if_neg h0;rw[hb] at h1 h3;rw[show Tr.mk (.B f a op l r) n=⟨2,n⟩ from if_neg h0];exact⟨n,0,e1,e2,.inl ⟨.stop (by decide:(2:Int)≠0) (by decide:(2:Int)≠1),hf h0,h1,h3⟩,h2,h4⟩
noncomputable abbrev vR:=List (Nat×List Tr)
noncomputable def xc (P:vR):List Nat:=P.flatMap fun b=>(List.range b.2.length).map (b.1+·)
noncomputable def yV (P:vR):Nat:=(P.map fun b=>(b.2.map Tr.size).sum).sum
noncomputable def vd (P:vR):Nat:=(P.map fun b=>(b.2.map Tr.arsum).sum).sum
def U3 (hp:List Cl)(tab:List (Int×Nat))(P:vR):Prop:=∀ b∈P,∀ i u,b.2[i]?=some u->∃ e,hp[b.1+i]?=some e/\PT hp tab e u
structure xu (yQ:List Cl)(xR:List (Int×Nat))(c0:Cl)(t0:Tr)(S:Sy)(hp:List Cl)(tab:List (Int×Nat))(P:vR):Prop where
 J:∀ hs ts,(∀ y<hp.length,y∉xc P->hs[y]?=hp[y]?)->wQ tab ts->U3 hs ts P->PT hs ts c0 t0
 self:∀ y∈xc P,hp[y]?=some ⟨0,y⟩/\yQ.length<=y
 nd:(xc P).Nodup
 old:∀ y<yQ.length,hp[y]?=yQ[y]?
 le:wQ xR tab
 new:∀ k x,yG tab k=some x->yG xR k=some x\/(yQ.length<=x/\hp[x]?=some ⟨0,x⟩/\x∉xc P)
 siz:hp.length+2*yV P<=yQ.length+2*t0.size
 tlen:tab.length+yV P<=xR.length+t0.size
 lo:yQ.length+t0.arsum<=hp.length+vd P
 ok:∀ b∈P,∀ u∈b.2,u.Ok S
 lt0:∀ k x,yG xR k=some x->x<yQ.length
 tok:qL hp tab
theorem q_ (b:Nat)(t:Tr)(ts:List Tr)(R:vR):xc ((b,t::ts)::R)=b::xc ((b+1,ts)::R):=by unfold xc;simp only[List.flatMap_cons,List.length_cons,List.range_succ_eq_map,List.map_cons,List.map_map,List.cons_append,Nat.add_zero];congr 3;funext i;simp only[Function.comp];exact A20 0x5A0421A140102
theorem Q6 (b:Nat)(R:vR):xc ((b,[])::R)=xc R:=by simp[xc]
theorem vO (P R:vR):xc (P++R)=xc P++xc R:=by simp[xc]
theorem Um (P N:vR):yV (P++N)=yV P+yV N:=by unfold yV;rw[List.map_append,List.sum_append]
theorem a_ (P N:vR):vd (P++N)=vd P+vd N:=by unfold vd;rw[List.map_append,List.sum_append]
theorem Ui (b:Nat)(P:vR):yV ((b,[])::P)=yV P:=Nat.zero_add _
theorem aU (b:Nat)(P:vR):vd ((b,[])::P)=vd P:=Nat.zero_add _
theorem xu.skip (I:xu yQ xR c0 t0 S hp tab ((b,[])::P)):xu yQ xR c0 t0 S hp tab P:=by
 have e:=Q6 b P;refine⟨fun hs ts h1 h2 h3=>I.J hs ts (by rw[e];exact h1) h2 fun c hc=>?_,by rw[<-e];exact I.self,by rw[<-e];exact I.nd,I.old,I.le,by rw[<-e];exact I.new,Ui b P▸I.siz,Ui b P▸I.tlen,aU b P▸I.lo,fun c hc=>I.ok c (.tail _ hc),I.lt0,I.tok⟩;rcases kS hc with rfl|hc
 .intro i u hu;exact zJ hu
 .exact h3 c hc
theorem xu.step (I:xu yQ xR c0 t0 S hp tab ((pl,t::ts)::R))
  {hp':List Cl} {tab':List (Int×Nat)} {N:vR} (h1:∀ y,y<hp.length->y≠pl->hp'[y]?=hp[y]?) (h2:wQ tab tab') (hl:hp.length<=hp'.length)
  (hN:∀ y∈xc N,hp.length<=y/\hp'[y]?=some ⟨0,y⟩) (Jr:(xc N).Nodup) (Jv:∀ b∈N,∀ u∈b.2,u.Ok S)
  (hf:∀ hs us,(∀ y<hp'.length,y∉xc ((pl+1,ts)::R++N)->hs[y]?=hp'[y]?)->wQ tab' us->U3 hs us N->∃ e,hs[pl]?=some e/\PT hs us e t)
  {kn:Int} (ht:∀ k x,yG tab' k=some x->yG tab k=some x\/(k=kn/\x=pl/\hp'[pl]?=some ⟨0,pl⟩))
  (Gj:hp'.length+2*yV N<=hp.length+2*t.size) (qO:tab'.length+yV N<=tab.length+t.size) (Gk:hp.length+t.arsum<=hp'.length+vd N):xu yQ xR c0 t0 S hp' tab' ((pl+1,ts)::R++N):=by
 have e:=q_ pl t ts R;have fj:hp[pl]?=some ⟨0,pl⟩/\yQ.length<=pl:=I.self pl (by rw[e];exact .head _);have GI:pl<hp.length:=(xU fj.1).1;have nd:pl∉xc ((pl+1,ts)::R)/\(xc ((pl+1,ts)::R)).Nodup:=by have:=I.nd;rw[e] at this;exact List.nodup_cons.mp this
 have sm:∀ y∈xc ((pl+1,ts)::R),y≠pl/\y<hp.length/\hp[y]?=some ⟨0,y⟩/\yQ.length<=y:=fun y hy=>by have:=I.self y (by rw[e];exact .tail _ hy);exact⟨fun z=>nd.1 (z▸hy),(xU this.1).1,this⟩
 have MU:pl∉xc ((pl+1,ts)::R++N):=by
  rw[vO];intro z;rcases Zo z with z|z
  .exact nd.1 z
  .have:=(hN pl z).1;exact A22 0x4010802103186 GI this
 have p1:yV ((pl,t::ts)::R)=t.size+yV ((pl+1,ts)::R):=Nat.add_assoc ..;have p2:yV ((pl+1,ts)::R++N)=yV ((pl+1,ts)::R)+yV N:=Um ..;have p3:vd ((pl,t::ts)::R)=t.arsum+vd ((pl+1,ts)::R):=Nat.add_assoc ..;have p4:vd ((pl+1,ts)::R++N)=vd ((pl+1,ts)::R)+vd N:=a_ ..;have z1:=I.siz;have z2:=I.tlen;have z3:=I.lo;refine⟨fun hs us g1 g2 g3=>?_,fun y hy=>?_,?_,fun y hy=>?_,I.le.trans h2,fun k x hk=>?_,by lia,by lia,by lia,fun b hb=>?_,I.lt0,fun k x hk=>?_,fun k j x hk hj=>?_⟩
 .refine I.J hs us (fun y hy hn=>?_) (h2.trans g2) fun b hb=>?_
  .rw[e] at hn;have mc:y≠pl:=fun z=>hn (z▸.head _);rw[g1 y (by lia) ?_,h1 y hy mc];rw[vO];intro z;rcases Zo z with z|z
   .exact hn (.tail _ z)
   .have:=(hN y z).1;lia
  .have gN:U3 hs us N:=fun c hc=>g3 c (List.mem_append_right _ hc);rcases kS hb with rfl|hb
   .intro i u hu;cases i with|zero=>simp only[List.getElem?_cons_zero,Option.some.injEq] at hu;subst hu;exact hf hs us g1 g2 gN|succ i=>have:=g3 (pl+1,ts) (.head _) i u (by simpa using hu);rwa [show pl+(i+1)=pl+1+i by lia]
   .exact g3 b (.tail _ (List.mem_append_left _ hb))
 .rw[vO] at hy;rcases Zo hy with hy|hy
  .refine a4 (sm y hy) fun a1 a2 a3 a4=>?_;exact⟨by rw[h1 y a2 a1];exact a3,a4⟩
  .refine a2 (hN y hy) fun a1 a2=>?_;exact⟨a2,by lia⟩
 .rw[vO,List.nodup_append];refine⟨nd.2,Jr,fun a ha b hb z=>?_⟩;subst z;have:=(sm a ha).2.1;have:=(hN a hb).1;exact A22 0x4010802103186 (by assumption) this
 .rw[h1 y (by lia) (by lia)];exact I.old y hy
 .rcases ht k x hk with q|⟨-,q1,q2⟩
  .rcases I.new k x q with r|⟨r1,r2,r3⟩
   .exact .inl r
   .rw[e] at r3;have xl:=(xU r2).1;refine .inr ⟨r1,?_,?_⟩
    .rw[h1 x xl fun z=>r3 (z▸.head _)];exact r2
    .rw[vO];intro z;rcases Zo z with z|z
     .exact r3 (.tail _ z)
     .have:=(hN x z).1;exact A22 0x4010802103186 xl this
  .subst q1;exact .inr ⟨fj.2,q2,MU⟩
 .rcases Zo hb with hb|hb
  .rcases kS hb with rfl|hb
   .exact fun u hu=>I.ok (pl,t::ts) (.head _) u (.tail _ hu)
   .exact I.ok b (.tail _ hb)
  .exact Jv b hb
 .rcases ht k x hk with q|⟨-,q1,q2⟩
  .have:=I.tok.lt k x q;exact A32 0x88011002100401 this hl
  .exact A43 0x8C01100411882100401 GI q1 hl
 .have no:∀ j,yG tab j≠some pl:=fun j hj=>by
   rcases I.new j pl hj with r|⟨r1,r2,r3⟩
   .have:=I.lt0 j pl r;lia
   .exact r3 (by rw[e];exact .head _)
  rcases ht k x hk with q|⟨q0,q1,q2⟩
  .rcases ht j x hj with r|⟨r0,r1,r2⟩
   .exact I.tok.inj k j x q r
   .exact absurd (r1▸q) (no k)
  .rcases ht j x hj with r|⟨r0,r1,r2⟩
   .exact absurd (q1▸r) (no j)
   .rw[q0,r0]
section
variable {yQ:List Cl} {xR:List (Int×Nat)} {c0:Cl} {t0:Tr} {S:Sy} {hp:List Cl} {tab:List (Int×Nat)} {pl:Nat} {t:Tr} {ts:List Tr} {R:vR}
theorem xu.here (I:xu yQ xR c0 t0 S hp tab ((pl,t::ts)::R)):hp[pl]?=some ⟨0,pl⟩/\pl<hp.length/\t.Ok S/\pl∉xc ((pl+1,ts)::R):=by have e:=q_ pl t ts R;have fj:hp[pl]?=some ⟨0,pl⟩/\yQ.length<=pl:=I.self pl (by rw[e];exact .head _);have nd:=I.nd;rw[e] at nd;exact⟨fj.1,(xU fj.1).1,I.ok (pl,t::ts) (.head _) t (.head _),(List.nodup_cons.mp nd).1⟩
theorem xu.leaf (I:xu yQ xR c0 t0 S hp tab ((pl,t::ts)::R))(e:Cl)(h:∀ hs us,wQ tab us->PT hs us e t)(h1:t.arsum=0)(h2:1<=t.size):xu yQ xR c0 t0 S (hp.set pl e) tab ((pl+1,ts)::R):=by
 refine a4 I.here fun g1 g2 g3 g4=>?_;have:=I.step (hp':=hp.set pl e) (tab':=tab) (N:=[]) (fun y hy hn=>by rw[List.getElem?_set_ne (fun z=>hn z.symm)]) (wQ.refl _) (by simp) (fun y hy=>wg hy) .nil (fun b hb=>wg hb) (fun hs us k1 k2 k3=>⟨e,?_,h hs us k2⟩) (kn:=0) (fun k x hk=>.inl hk) (by simp[yV];try lia) (by simp[yV]) (by simp;try exact A21 0x6004100400 h1)
 .rwa [List.append_nil] at this
 .rw[k1 pl (by simpa using g2) (by rw[List.append_nil];exact g4),List.getElem?_set_self g2]
theorem xu.leafI (I:xu yQ xR c0 t0 S hp tab ((pl,.I n::ts)::R)):xu yQ xR c0 t0 S (hp.set pl ⟨5,n⟩) tab ((pl+1,ts)::R):=
 I.leaf _ (fun _ _ _=>⟨0,.stop (by decide:(5:Int)≠0) (by decide:(5:Int)≠1)⟩) rfl (Nat.le_refl 1)
theorem xu.leafA (I:xu yQ xR c0 t0 S hp tab ((pl,.A n::ts)::R)):xu yQ xR c0 t0 S (hp.set pl ⟨4,n⟩) tab ((pl+1,ts)::R):=
 I.leaf _ (fun _ _ _=>⟨0,.stop (by decide:(4:Int)≠0) (by decide:(4:Int)≠1)⟩) rfl (Nat.le_refl 1)
theorem xu.leafV (I:xu yQ xR c0 t0 S hp tab ((pl,.V k::ts)::R))(h:yG tab k=some x):xu yQ xR c0 t0 S (hp.set pl ⟨0,x⟩) tab ((pl+1,ts)::R):=
 I.leaf _ (fun _ _ l=>⟨x,l _ _ h,rfl⟩) rfl (Nat.le_refl 1)
theorem xu.leafN (I:xu yQ xR c0 t0 S hp tab ((pl,.V k::ts)::R))(h:yG tab k=none):xu yQ xR c0 t0 S hp (tab++[(k,pl)]) ((pl+1,ts)::R):=by
 refine a4 I.here fun g1 g2 g3 g4=>?_;have:=I.step (hp':=hp) (tab':=tab++[(k,pl)]) (N:=[]) (fun y hy hn=>rfl) (fun k x hk=>K3 hk _) (Nat.le_refl _) (fun y hy=>wg hy) .nil (fun b hb=>wg hb) (fun hs us k1 k2 k3=>⟨⟨0,pl⟩,?_,pl,k2 _ _ (by rw[u4 h,if_pos rfl]),rfl⟩) (kn:=k) (fun j x hk=>?_) (Nat.add_le_add_left (Nat.zero_le 2) _) (Nat.le_of_eq (List.length_append ..)) (Nat.le_refl _)
 .rwa [List.append_nil] at this
 .rw[k1 pl g2 (by rw[List.append_nil];exact g4),g1]
 .rw[u4 h] at hk;split at hk
  .rename_i l9;cases hk;exact .inr ⟨l9,rfl,g1⟩
  .exact .inl hk
theorem jY (b:Nat)(l:List Tr):xc [(b,l)]=(List.range l.length).map (b+·):=by simp[xc]
theorem Y3 (t:Tr)(n:Nat):(t.cells n).length=t.args.length+(if t.fn=0 then 0 else 1):=by unfold Tr.cells;split<;>simp[qH]
theorem Ul (t:Tr)(hp:List Cl)(h:i<t.args.length):(hp++t.cells hp.length)[t.bs hp.length+i]?=some ⟨0,(t.bs hp.length+i:Nat)⟩:=by
 unfold Tr.bs Tr.cells;split
 .rw[List.getElem?_append_right (by exact A20 0x102000),show hp.length+i-hp.length=i by lia,Ub h]
 .rw[List.getElem?_append_right (by exact A20 0x5A042000),show hp.length+1+i-hp.length=i+1 by lia,List.getElem?_cons_succ,Ub h]
theorem KY (t:Tr)(hp:List Cl)(h:t.fn≠0):(hp++t.cells hp.length)[hp.length]?=some ⟨6,t.fn⟩:=by unfold Tr.cells;rw[if_neg h,List.getElem?_append_right (by exact A10 0x0),Nat.sub_self];rfl
theorem lC (t:Tr)(n:Nat):n<=t.bs n:=by unfold Tr.bs;split<;>lia
theorem vK (h:t.isS=true):(t.args.map Tr.size).sum+2=t.size/\(t.args.map Tr.arsum).sum+t.args.length=t.arsum/\t.args.length<=2:=by cases t with|V k=>exact zU h|A k=>exact zU h|I k=>exact zU h|U f a op t=>exact⟨rfl,Nat.add_comm ..,Nat.le_succ 1⟩|B f a op l r=>exact⟨congrArg (·+2) (Nat.add_assoc l.size r.size 0).symm,(Nat.add_comm _ 2).trans (Nat.add_assoc 2 _ _).symm,Nat.le_refl 2⟩
theorem Vw (h:t.Ok S):∀ u∈t.args,u.Ok S:=by cases t with|V k=>intro u hu;exact wg hu|A k=>intro u hu;exact wg hu|I k=>intro u hu;exact wg hu|U f a op t=>exact List.forall_mem_cons.mpr ⟨h.2.2,fun _ h=>wg h⟩|B f a op l r=>exact List.forall_mem_cons.mpr ⟨h.2.2.1,List.forall_mem_cons.mpr ⟨h.2.2.2,fun _ h=>wg h⟩⟩
theorem XI (b n:Nat):((List.range n).map (b+·)).Nodup:=by rw[List.nodup_iff_pairwise_ne,List.pairwise_map];exact(List.nodup_iff_pairwise_ne.mp List.nodup_range).imp fun h=>by lia
theorem xu.leafS (bS:vm S)(I:xu yQ xR c0 t0 S hp tab ((pl,t::ts)::R))(hs:t.isS=true):xu yQ xR c0 t0 S ((hp++t.cells hp.length).set pl (t.mk hp.length)) tab ((pl+1,ts)::R++[(t.bs hp.length,t.args)]):=by
 refine a4 I.here fun g1 g2 g3 g4=>?_;refine a3 (vK hs) fun a1 a2 a3=>?_;have cl:=Y3 t hp.length;have bg:=lC t hp.length;have bb:t.bs hp.length+t.args.length=hp.length+(t.cells hp.length).length:=by rw[cl];unfold Tr.bs;split<;>lia
 have ht:hp++t.cells hp.length=hp++t.cells hp.length:=rfl;have Qq:∀ y∈xc [(t.bs hp.length,t.args)],∃ i,i<t.args.length/\y=t.bs hp.length+i:=fun y hy=>by rw[jY,List.mem_map] at hy;refine zg hy fun i hi zm=>?_;clear hy;subst zm;exact⟨i,List.mem_range.mp hi,rfl⟩
 refine I.step (tab':=tab) (kn:=0) (fun y hy hn=>?_) (wQ.refl _) (by simp) (fun y hy=>?_) (by rw[jY];exact XI _ _) (fun b hb=>?_) (fun ZD us k1 k2 k3=>⟨t.mk hp.length,?_,?_⟩) (fun k x hk=>.inl hk) ?_ ?_ ?_
 .rw[List.getElem?_set_ne (fun z=>hn z.symm),List.getElem?_append_left hy]
 .refine zg (Qq y hy) fun i hi zm=>?_;subst zm;refine⟨A62 0x28D041848040C28184020A000 bb cl,?_⟩;rw[List.getElem?_set_ne (by lia)];exact Ul t hp hi
 .rw[List.mem_singleton.mp hb];exact Vw g3
 .rw[k1 pl (by simp;exact A31 0x20084020A001 g2) ?_,List.getElem?_set_self (by exact A42 0x62404611002100401 g2 (List.length_append ..))];rw[vO];intro z;rcases Zo z with z|z
  .exact g4 z
  .obtain⟨i,hi,e⟩:=Qq _ z;exact A74 0x30503184A04106111021189010206103186 bb g2 e cl
 .refine RT.block bS g3 hs (fun hn=>?_) fun i u hu=>k3 (t.bs hp.length,t.args) (.head _) i u hu;have LM:(t.cells hp.length).length=t.args.length+1:=by rw[cl,if_neg hn]
  have lU:t.bs hp.length=hp.length+1:=if_neg hn;rw[k1 hp.length (by simp;lia) ?_,List.getElem?_set_ne (by lia),KY t hp hn];rw[vO];intro z;rcases Zo z with z|z
  .have:=(I.self hp.length (by rw[q_];exact .tail _ z)).1;have:=(xU this).1;exact A11 0x2103186 this
  .obtain⟨i,hi,e⟩:=Qq _ z;lia
 .have:yV [(t.bs hp.length,t.args)]=(t.args.map Tr.size).sum:=rfl;simp only[List.length_set,List.length_append];have:(t.cells hp.length).length<=3:=by rw[cl];split<;>lia
  exact A53 0x78401208421B88810803124081092102100 a1 (by assumption) this
 .have:yV [(t.bs hp.length,t.args)]=(t.args.map Tr.size).sum:=rfl;exact A42 0x611044E1A0410080808100 a1 this
 .have:vd [(t.bs hp.length,t.args)]=(t.args.map Tr.arsum).sum:=rfl;simp only[List.length_set,List.length_append];have:t.args.length<=(t.cells hp.length).length:=by rw[cl];exact A20 0x102000
  exact A73 0x83184C54086109488184031010808100 a2 cl (by assumption)
structure q7 (yQ:List Cl)(xR:List (Int×Nat))(t0:Tr)(c0:Cl)(hp:List Cl)(tab:List (Int×Nat)):Prop where
 at_:PT hp tab c0 t0
 old:∀ y<yQ.length,hp[y]?=yQ[y]?
 le:wQ xR tab
 new:∀ k x,yG tab k=some x->yG xR k=some x\/(yQ.length<=x/\hp[x]?=some ⟨0,x⟩)
 siz:hp.length<=yQ.length+2*t0.size
 tlen:tab.length<=xR.length+t0.size
 lo:yQ.length+t0.arsum<=hp.length
 tok:qL hp tab
theorem xu.done (I:xu yQ xR c0 t0 S hp tab []):q7 yQ xR t0 c0 hp tab:=⟨I.J hp tab (fun _ _ _=>rfl) (wQ.refl _) (fun b hb=>wg hb),I.old,I.le,fun k x h=>(I.new k x h).imp id fun z=>⟨z.1,z.2.1⟩,I.siz,I.tlen,I.lo,I.tok⟩
theorem xu.start (bS:vm S)(to:qL yQ xR)(ok:t.Ok S)(hs:t.isS=true):xu yQ xR (t.mk yQ.length) t S (yQ++t.cells yQ.length) xR [(t.bs yQ.length,t.args)]:=by
 refine a3 (vK hs) fun a1 a2 a3=>?_;have cl:=Y3 t yQ.length;have bg:=lC t yQ.length;have Qq:∀ y∈xc [(t.bs yQ.length,t.args)],∃ i,i<t.args.length/\y=t.bs yQ.length+i:=fun y hy=>by rw[jY,List.mem_map] at hy;refine zg hy fun i hi zm=>?_;clear hy;subst zm;exact⟨i,List.mem_range.mp hi,rfl⟩
 have q1:yV [(t.bs yQ.length,t.args)]=(t.args.map Tr.size).sum:=rfl;have q2:vd [(t.bs yQ.length,t.args)]=(t.args.map Tr.arsum).sum:=rfl;have q3:(t.cells yQ.length).length<=3:=by rw[cl];split<;>lia
 have q4:t.args.length<=(t.cells yQ.length).length:=by rw[cl];exact A20 0x102000
 refine⟨fun ZD us k1 k2 k3=>?_,fun y hy=>?_,by rw[jY];exact XI _ _,fun y hy=>List.getElem?_append_left hy,wQ.refl _,fun k x h=>.inl h,?_,?_,?_,fun b hb=>?_,to.lt,fun k x h=>?_,to.inj⟩
 .refine RT.block bS ok hs (fun hn=>?_) fun i u hu=>k3 (t.bs yQ.length,t.args) (.head _) i u hu;have LM:(t.cells yQ.length).length=t.args.length+1:=by rw[cl,if_neg hn]
  have lU:t.bs yQ.length=yQ.length+1:=if_neg hn;rw[k1 yQ.length (by simp;lia) ?_,KY t yQ hn];intro z;obtain⟨i,hi,e⟩:=Qq _ z;exact A32 0x10101185A14006103186 lU e
 .refine zg (Qq y hy) fun i hi zm=>?_;subst zm;exact⟨Ul t yQ hi,A31 0x20004020A000 bg⟩
 .exact A64 0x7940120442289001046E2204200C491202248100 a1 (List.length_append ..) q1 q3
 .exact A42 0x611044E1A0410080808100 a1 q1
 .simp only[List.length_append];exact A73 0x83184C54086109488184031010808100 a2 cl q2
 .rw[List.mem_singleton.mp hb];exact Vw ok
 .have:=to.lt k x h;exact A42 0x62404611002100401 this (List.length_append ..)
end
end
section
variable {p:Program} {w:World} {B:Heap} {H:AH} {d:Nat} {X Q:PV->AH->Prop}
theorem Vc (hi:H i=some (.dictI l))(hx:vF l k=some v)(q:Q v H):q9 g d H (.obj i) (.int k) Q X:=fun _ _ hs=>E6 hi hx q hs
theorem ym.put (x:ym H hp)(e:zf (zV (.nm 12)) H H')(h:H' (.nm 12)=some (.list (hp'.map Cl.pv))):ym H' hp':=⟨e.get (by unfold zV;simp) x.inst,e.get (by unfold zV;simp) x.ns,h,e.get (by unfold zV;simp) x.stack,e.get (by unfold zV;simp) x.trail⟩
theorem QL (n j:Nat):fresh n (j+1)=fresh n j++[⟨0,(n+j:Nat)⟩]:=by unfold fresh;rw[List.range_succ,List.map_append];rfl
theorem Q9 (n j:Nat):fresh n (1+j)=⟨0,n⟩::fresh (n+1) j:=by unfold fresh;rw[Nat.add_comm,List.range_succ_eq_map,List.map_cons,List.map_map];congr 1;apply List.map_congr_left;intro a _;simp only[Function.comp];congr 2;exact A20 0x5A0421A140102
abbrev xo:Id->Prop:=zV (.nm 12)
theorem V_ (k:Nat)(hS:ym H hp)(hz:hp.length+k<=100000)(q:∀ H',ym H' (hp++fresh hp.length k)->zf xo H H'->Q (.int hp.length) H'):zh (gr p w B) (d+1) H [.obj (.nm 10),.int k] (cZ 258) Q X:=by
 refine z9 rfl hS.fo (xb hS.heap (A32 0x20104BF5882800407FAC00 hz (List.length_map ..)) (zd hS.fo (yZ (by simp;lia) (f6 hS.fo ⟨_,rfl,Int.natCast_nonneg _,by lia,?_⟩))));refine iw (fun r zO H'=>∃ a3:Option PV,zO=[some (.obj (.nm 10)),some (.int k),some (.int hp.length),a3]/\∃ j,j<=k/\r=((List.range k).drop j).map (fun(i:Nat)=>PV.int i)/\ym H' (hp++fresh hp.length j)/\zf xo H H') ⟨none,by rw[List.length_map],0,Nat.zero_le _,by rw[YJ];rfl,by simpa[fresh] using hS,.refl⟩ ?_ ?_
 .intro x r zO H' zq;refine zg zq fun a3 zW zz=>?_;refine xI zz fun j hj hr xk e=>?_;clear zq;subst zW;have kh:j<k:=by
   rcases Nat.lt_or_ge j k with h|h
   .exact h
   .rw[List.drop_eq_nil_of_le (by simpa using h)] at hr;exact Kw hr
  rw[List.drop_eq_getElem_cons (by simpa using kh),List.map_cons] at hr;simp only[List.getElem_range,List.cons.injEq] at hr;refine a2 hr fun xA zW=>?_;clear hr;subst xA zW;intro K hk;refine w8 xk.fo (xy xk.heap xk.fo (xV xk.heap (by simp[qH];exact A32 0x104212FD620200101FEB08100 hz kh) fun H2 h2 e2=>gV ?_));refine hk ⟨trivial,_,rfl,j+1,kh,rfl,xk.put e2 ?_,e.trans e2⟩;rw[h2,QL,<-List.append_assoc,List.map_append (l₁:=hp++_)];rfl
 .intro zO H' zq;refine zg zq fun a3 zW zz=>?_;refine xI zz fun j hj hr xk e=>?_;clear zq;subst zW;have kh:j=k:=by
   rcases Nat.lt_or_ge j k with h|h
   .rw[List.drop_eq_getElem_cons (by simpa using h)] at hr;exact KI hr
   .exact Nat.le_antisymm (A21 0x800100400 hj) (A21 0x800100400 h)
  subst kh;exact goN xk.fo (q H' xk e)
theorem Vf {S:Sy}{t:Tr}(ok:t.Ok S)(hs:t.isS=true):∃ a:Nat,S.funs[t.fn]?=some ((a:Int),(t.args.length:Int)):=by
 cases t with
 |V k=>exact zU hs|A k=>exact zU hs|I k=>exact zU hs|U f a op t=>obtain⟨⟨h1,h2⟩,h3,_⟩:=ok;rw[h3] at h1;exact⟨a,h1⟩
 |B f a op l r=>obtain⟨⟨h1,h2⟩,h3,_⟩:=ok;rw[h3] at h1;exact⟨a,h1⟩
theorem Tr.pv_S {t:Tr}(hs:t.isS=true):t.pv=.tup [.str "s",.int t.fn,.tup (t.args.map Tr.pv)]:=by cases t with|V k=>exact zU hs|A k=>exact zU hs|I k=>exact zU hs|U f a op t=>rfl|B f a op l r=>rfl
theorem WL {S:Sy}{hp:List Cl}{t:Tr}(bS:vm S)(hM:zj H S)(sok:S.Ok)(hS:ym H hp)(ok:t.Ok S)(hs:t.isS=true)(hz:hp.length+3<=100000) (q:∀ H',ym H' (hp++t.cells hp.length)->zf xo H H'->Q (t.mk hp.length).pv H'):zh (gr p w B) (d+2) H [.obj (.nm 10),.int t.fn] (cZ 363) Q X:=by
 refine zA (Vf ok hs) fun a hf=>?_;refine a3 (vK hs) fun _ _ a3=>?_;unfold Tr.cells Tr.mk at q;have F:=hS.fo (p:=p) (w:=w) (B:=B) |>.app hM.fo;refine z9 rfl F ?_;by_cases h:t.fn=0
 .rw[if_pos h,if_pos h] at q;have ha:t.args.length=2:=by
   rw[h,bS.dot] at hf;simp only[Option.some.injEq,Prod.mk.injEq] at hf;lia
  rw[ha] at q;exact wb (by lia) (V_ 2 hS (A11 0x2FD6F02001017EB70100 hz) fun H' g1 g2=>gV (q H' g1 g2))
 .rw[if_neg h,if_neg h] at q;have Jj:t.fn<=1000000:=by
   have:=(xU hf).1;have:=sok.lf;exact A22 0x1F479610042008406FAC00 (by assumption) this
  refine yZ (by lia) (je hM hf Jj (zd F ?_));refine V_ (1+t.args.length) hS (A22 0x1C1004BF5BC0800405FAC2D40100 hz a3) fun H' g1 g2=>zd g1.fo (vV g1.heap (by simp[qH];exact A10 0x6A181) (by simp[qH];exact A22 0x1C1004BF5BC0800406FAC2D40100 hz a3) fun H2 h2 e2=>gN ?_);have e1:(hp++fresh hp.length (1+t.args.length)).set hp.length ⟨6,t.fn⟩=hp++⟨6,t.fn⟩::fresh (hp.length+1) t.args.length:=by rw[Q9,List.set_append_right _ _ (Nat.le_refl _),Nat.sub_self];rfl
  exact q _ (g1.put e2 (by rw[h2,<-e1,List.map_set];rfl)) (g2.trans e2)
theorem JS {t:Tr}{hp:List Cl}(n:Nat)(hS:ym H hp)(q:Q (.int (t.bs n)) H):zh (gr p w B) (d+1) H [.obj (.nm 10),(t.mk n).pv] (cZ 349) Q X:=by
 unfold Tr.bs at q;unfold Tr.mk;by_cases h:t.fn=0
 .rw[if_pos h] at q|-;exact JR hS q
 .rw[if_neg h] at q|-;exact WK (c:=⟨2,n⟩) hS (show(2:Int)≠3 by decide) q
theorem gQ (hS:ym H hp)(hz:hp.length+1<=100000)(q:∀ H',ym H' (hp++[⟨0,hp.length⟩])->zf xo H H'->Q (Cl.mk 0 hp.length).pv H'):zh (gr p w B) (d+2) H [.obj (.nm 10)] (cZ 251) Q X:=by refine z9 rfl hS.fo (xb hS.heap (A22 0x20104BF5B42800407FAC00 hz (List.length_map ..)) (zd hS.fo ?_));refine z9 rfl hS.fo (xb hS.heap (A22 0x20104BF5B42800407FAC00 hz (List.length_map ..)) (zd hS.fo ?_));refine yZ (by simp;lia) (ku hS.heap (A22 0x20104BF5B42800407FAC00 hz (List.length_map ..)) fun H2 h2 e2=>gV (gV ?_));rw[List.length_map];exact q _ (hS.put e2 (by rw[h2,List.map_append,List.length_map];rfl)) e2
noncomputable def Xl (b:Nat×List Tr):PV:=.tup [.int b.1,.tup (b.2.map Tr.pv)]
abbrev Hs (ti:Id)(wl:Addr):Id->Prop:=uH (uH xo (zV ti)) (zV (.an wl))
structure ue (H:AH)(ti:Id)(wl:Addr)(H':AH)(hp:List Cl)(tab:List (Int×Nat))(W:List PV):Prop where
 st:ym H' hp
 tb:H' ti=some (.dictI (wG tab))
 wt:H' (.an wl)=some (.list W)
 ext:zf (Hs ti wl) H H'
section
variable {ti:Id} {wl:Addr} {H' H2:AH} {hp hp2:List Cl} {tab:List (Int×Nat)} {W:List PV}
theorem ue.sym (x:ue H ti wl H' hp tab W)(hn:∀ n<16,ti≠.nm n)(h:zj H S):zj H' S:=
 h.ext x.ext fun n hk z=>by
  rcases z with(z|z)|z
  .cases z;exact A01 0x9602103186 hk
  .exact hn n (A11 0x9002107001 hk) z.symm
  .exact xh z
theorem ue.go (x:ue H ti wl H' hp tab W)(hn:∀ n<16,ti≠.nm n)(e:zf xo H' H2)(h:ym H2 hp2):ue H ti wl H2 hp2 tab W:=⟨h,e.get (hn 12 (by decide)) x.tb,e.get (by unfold xo zV;simp) x.wt,x.ext.trans e.onL.onL⟩
theorem ue.heap (x:ue H ti wl H' hp tab W)(hn:∀ n<16,ti≠.nm n)(e:zf (zV (.nm 12)) H' H2)(h:H2 (.nm 12)=some (.list (hp2.map Cl.pv))):ue H ti wl H2 hp2 tab W:=x.go hn e (x.st.put e h)
theorem ue.table (x:ue H ti wl H' hp tab W)(hn:∀ n<16,ti≠.nm n)(hw:ti≠.an wl)(e:zf (zV ti) H' H2)(h:H2 ti=some (.dictI (wG Xg))):ue H ti wl H2 hp Xg W:=⟨x.st.ext e fun n h1 h2 z=>hn n (A11 0xD000107001 h2) z.symm,h,e.get (fun z=>hw z.symm) x.wt,x.ext.trans e.onR.onL⟩
theorem ue.wait (x:ue H ti wl H' hp tab W)(hw:ti≠.an wl)(e:zf (zV (.an wl)) H' H2)(h:H2 (.an wl)=some (.list W2)):ue H ti wl H2 hp tab W2:=⟨x.st.ext e fun n h1 h2 z=>(xh z),e.get hw x.tb,h,x.ext.trans e.onR⟩
end
theorem W9 (b:Nat)(t:Tr)(ts:List Tr)(R:vR):yV ((b,t::ts)::R)=t.size+yV ((b+1,ts)::R):=Nat.add_assoc ..
theorem Uc (b:Nat)(l:List Tr):yV [(b,l)]=(l.map Tr.size).sum:=rfl
theorem fG (b:Nat)(l:List Tr)(R:vR):yV ((b,l)::R)=(l.map Tr.size).sum+yV R:=rfl
inductive YK (H:AH)(S:Sy)(hp:List Cl)(tab:List (Int×Nat))(t:Tr)(ti:Id)(wl:Addr)(n:Nat)(a3:Option PV)(Wd:List PV)(ts:List Tr)(H':AH):Lc->Prop
 |mk (xP:List Cl) (vY:List (Int×Nat)) (pl:Nat) (R:vR) (x1 x2 x3 x4:Option PV) (hm:yV ((pl,ts)::R)+R.length<n) (I:xu hp tab (t.mk hp.length) t S xP vY ((pl,ts)::R)) (e:PV) (P:ue H ti wl H' xP vY (Wd++[e]++R.map Xl)):
  YK H S hp tab t ti wl n a3 Wd ts H' [some (.obj (.nm 10)),some t.pv,some (.obj ti),a3,x1,some (t.mk hp.length).pv,some (.obj (.an wl)),some (.int (Wd.length+1)),some (.int pl),x2,x3,x4]
inductive ia (H:AH)(S:Sy)(hp:List Cl)(tab:List (Int×Nat))(t:Tr)(ti:Id)(wl:Addr)(a3:Option PV)(H':AH)(n:Nat):Lc->Prop
 |mk (Wd:List PV) (xP:List Cl) (vY:List (Int×Nat)) (P:vR) (x1 x2 x3 x4 x5:Option PV) (hn:n=yV P+P.length) (hs:Wd.length+(yV P+P.length)<=5000) (I:xu hp tab (t.mk hp.length) t S xP vY P) (PH:ue H ti wl H' xP vY (Wd++P.map Xl)):
  ia H S hp tab t ti wl a3 H' n [some (.obj (.nm 10)),some t.pv,some (.obj ti),a3,x1,some (t.mk hp.length).pv,some (.obj (.an wl)),some (.int Wd.length),x2,x3,x4,x5]
theorem YK.fin {S:Sy}{hp hp2:List Cl}{tab Xg:List (Int×Nat)}{t u:Tr}{ti:Id}{wl:Addr}{n pl:Nat}{a3:Option PV}{Wd:List PV}{ts:List Tr}{R N:vR}{H2:AH}{e:PV}{x1 x2 x3 x4:Option PV}(hm:yV ((pl,u::ts)::R)+R.length<n) (h:yV N+N.length<u.size) (I:xu hp tab (t.mk hp.length) t S hp2 Xg ((pl+1,ts)::R++N)) (P:ue H ti wl H2 hp2 Xg (Wd++[e]++(R++N).map Xl)):YK H S hp tab t ti wl n a3 Wd ts H2 [some (.obj (.nm 10)),some t.pv,some (.obj ti),a3,x1,some (t.mk hp.length).pv,some (.obj (.an wl)),some (.int (Wd.length+1)),some (.int (pl+1:Nat)),x2,x3,x4]:=by refine .mk hp2 Xg (pl+1) (R++N) x1 x2 x3 x4 ?_ I e P;have:=Um ((pl+1,ts)::R) N;rw[List.cons_append] at this;rw[this,List.length_append];have Gl:=W9 pl u ts R;exact A73 0x1506184823202128C28084041890102101 h hm Gl
theorem q7.leaf (to:qL hp tab)(h:PT hp tab c t)(ha:t.arsum=0):q7 hp tab t c hp tab:=⟨h,fun _ _=>rfl,wQ.refl _,fun _ _ h=>.inl h,A20 0x44902000,A20 0x102000,A21 0x1811040008100 ha,to⟩
theorem q7.fresh (to:qL hp tab)(hk:yG tab k=none):q7 hp tab (.V k) ⟨0,hp.length⟩ (hp++[⟨0,hp.length⟩]) (tab++[(k,hp.length)]):=by
 refine⟨⟨hp.length,by rw[u4 hk,if_pos rfl],rfl⟩,fun y hy=>List.getElem?_append_left hy,fun j x hj=>K3 hj _,fun j x hj=>?_,Nat.le_trans (Nat.le_of_eq (List.length_append ..)) (Nat.le_succ _),Nat.le_of_eq (List.length_append ..),Nat.le_trans (Nat.le_succ hp.length) (Nat.le_of_eq (List.length_append (bs:=[_])).symm),fun j x hj=>?_,fun j i x hj hi=>?_⟩
 .rw[u4 hk] at hj;split at hj
  .obtain rfl:=yd hj;exact .inr ⟨Nat.le_refl _,by simp⟩
  .exact .inl hj
 .rw[u4 hk] at hj;simp only[List.length_append,List.length_singleton];split at hj
  .cases hj;exact A10 0xD02001
  .have:=to.lt j x hj;exact A21 0x200840D0A001 this
 .rw[u4 hk] at hj hi;split at hj
  .rename_i e1;obtain rfl:=yd hj;split at hi
   .rename_i e2;rw[e1,e2]
   .have:=to.lt i _ hi;lia
  .split at hi
   .obtain rfl:=yd hi;have:=to.lt j _ hj;lia
   .exact to.inj j i x hj hi
theorem jo {S:Sy}{hp:List Cl}{tab:List (Int×Nat)}{t:Tr}{ti:Id}(bS:vm S)(hM:zj H S)(sok:S.Ok)(hS:ym H hp)(hn:∀ n<16,ti≠.nm n)(ht:H ti=some (.dictI (wG tab)))(to:qL hp tab)(ok:t.Ok S)(hz:hp.length+2*t.size<=90000)(JE:tab.length+t.size<=1000) (q:∀ c hp' tab' H',q7 hp tab t c hp' tab'->ym H' hp'->H' ti=some (.dictI (wG tab'))->zf (uH xo (zV ti)) H H'->Q c.pv H'):zh (gr p w B) (d+4) H [.obj (.nm 10),t.pv,.obj ti] (cZ 406) Q X:=by
 refine z9 rfl hS.fo (mw ht (by simp[wG];exact A21 0x7D1E5840800405FAC00 JE) (yo fun l H1 nl gl eL=>?_));have wD:=eL.get (fun h=>h) ht;have zG:=hS.ext eL fun _ _ _ h=>h;have kF:=hM.ext eL fun _ _ h=>h;refine zd zG.fo (Xh gl (by simp[wG];exact A21 0x7D1E5840800406FAC00 JE) (fun tb zO H'=>H1=H'/\∃ (a3:Option PV),zO=[some (.obj (.nm 10)),some t.pv,some (.obj ti),a3,none,none,none,none,none,none,none,none]/\(∀ x∈tb,(yG tab x.1).isSome)) ⟨rfl,none,rfl,fun x hx=>?_⟩ ?_ ?_)
 .refine zg (List.mem_map.mp hx) fun x hm zr=>?_;subst zr;unfold yG;rw[Option.isSome_map,List.find?_isSome];exact⟨x,hm,by simp⟩
 .intro y tb zO H' zq;refine a2 zq fun xA zz=>?_;refine zg zz fun a3 uY hb=>?_;clear zq;subst xA uY
  .intro K hk;refine zA (Yi (hb y (.head _))) fun z hz=>?_;have hg:vF (wG tab) y.1=some (Cl.mk 0 (z:Nat)).pv:=by rw[um,hz];rfl
   refine w8 (F:=[]) trivial (Vc wD hg (gV ?_));exact hk ⟨gl,rfl,_,rfl,fun x hx=>hb x (.tail _ hx)⟩
 .intro zO H' zq;refine a2 zq fun xA zz=>?_;refine zg zz fun a3 uY hb=>?_;clear zq;subst xA uY;by_cases hs:t.isS=true
  .obtain⟨a1,a2,Nw⟩:=vK hs;rw[Tr.pv_S hs];refine goN zG.fo (WL bS kF sok zG ok hs (A21 0x2BF21D5844902001017EB78100 hz) fun H2 zN e2=>zd zN.fo (JS _ zN (zd zN.fo (yo fun wl H3 qq g3 e3=>?_))));rw[<-Tr.pv_S hs];have hw:ti≠.an wl:=fun e=>by
    have:=e2.get (hn 12 (by decide)) wD;rw[e,qq] at this;exact zJ this
   have tB:=e2.back (by unfold xo zV;simp) qq;have Nr:=eL.back (fun h=>h) tB;have yc:=zN.ext e3 fun _ _ _ h=>h;have P0:ue H1 ti wl H3 (hp++t.cells hp.length) tab [Xl (t.bs hp.length,t.args)]:=
    ⟨yc,e3.get (fun h=>h) (e2.get (hn 12 (by decide)) wD),g3,e2.onL.onL.trans e3.no⟩
   refine zd yc.fo (ud (fun n ρ H'=>ia H1 S hp tab t ti wl a3 H' n ρ) (yV [(t.bs hp.length,t.args)]+1) (.mk [] _ _ _ _ _ _ _ _ rfl ?_ (xu.start bS to ok hs) P0) ?_)
   .rw[Uc];exact A32 0x1F47961120010B80810404E23CB6B10043100 a1 JE
   .rintro n zO H' ⟨Wd,xP,vY,P,x1,x2,x3,x4,x5,md,hsz,I,PH⟩ K hk;refine jv PH.st.fo (xb PH.wt (A53 0x19041205001049C479631202800407FAC00 hsz (List.length_append ..) (List.length_map ..)) (zd PH.st.fo ?_));cases P with
    |nil=>refine yZ (by simp) (hk (goN PH.st.fo (q _ _ _ _ I.done PH.st PH.tb (eL.no.trans (PH.ext.drop tB)))))|cons b R=>
     obtain⟨pl,ts⟩:=b;refine wb (by simp;lia) (uj (p:=Xl (pl,ts)) PH.wt (A31 0x2711E5B4480A00800408FAC00 hsz) (by rw[List.getElem?_append_right (Nat.le_refl _),Nat.sub_self];rfl) (zd PH.st.fo (VL (f:=Tr.pv) (la:=ts) (fun ts ρ H'=>YK H1 S hp tab t ti wl n a3 Wd ts H' ρ) ?_ ?_ ?_)))
     .exact .mk xP vY pl R _ _ _ _ (by simp only[List.length_cons] at md;exact A31 0x1A1401021840208101 md) I (Xl (pl,ts)) (by simpa using PH)
     .rintro u ts zO H' ⟨xP,vY,pl,R,x1,x2,x3,x4,hm,I,e,PH⟩ K2 hK
      .refine a4 I.here fun i1 i2 i3 i4=>?_;have Gs:=I.siz;have MF:=I.tlen;have Gl:=W9 pl u ts R;by_cases hus:u.isS=true
       .obtain⟨b1,b2,b3⟩:=vK hus;rw[Tr.pv_S hus];refine w8 PH.st.fo (WL bS (PH.sym hn kF) sok PH.st i3 hus (A42 0x42485031240800402BF21D588490A001017EB78100 hz Gs) fun H3 yc e3=>zd yc.fo (vV yc.heap (A53 0x611848240C611002100401 i2 (List.length_append ..) (List.length_map ..)) (by simp[Y3];split<;>lia) fun H4 h4 e4=>?_));have K9:=(PH.go hn e3 yc).heap (hp2:=(xP++u.cells xP.length).set pl (u.mk xP.length)) hn e4 (by rw[h4,List.map_set]);refine goN K9.st.fo (xy K9.wt K9.st.fo (JS _ K9.st (zd K9.st.fo (xV K9.wt (by simp;exact A63 0x1A340905104A1220212711E5B4681200800407FADA140100 hsz hm md) fun H5 h5 e5=>gV ?_))));exact hK ⟨trivial,YK.fin (N:=[(u.bs xP.length,u.args)]) (u:=u) hm (by rw[Uc];exact A21 0x2E02041005AC40101 b1) (I.leafS bS hus) (K9.wait hw e5 (by rw[h5,List.map_append,<-List.append_assoc];rfl))⟩
       .have st:∀ {c:Cl} {H2:AH},xu hp tab (t.mk hp.length) t S (xP.set pl c) vY ((pl+1,ts)::R)->zf (zV (.nm 12)) H' H2->H2 (.nm 12)=some (.list ((xP.map Cl.pv).set pl c.pv))->1<=u.size->∀ x1 x2 x3 x4,YK H1 S hp tab t ti wl n a3 Wd ts H2 ([some (.obj (.nm 10)),some t.pv,some (.obj ti),a3,x1,some (t.mk hp.length).pv,some (.obj (.an wl)),some (.int (Wd.length+1)),some (.int (pl+1:Nat)),x2,x3,x4]):=fun I' e2 h2 hu x1 x2 x3 x4=>YK.fin (N:=[]) (u:=u) hm (Nat.lt_of_lt_of_le Nat.zero_lt_one hu) (by rw[List.append_nil];exact I') (by rw[List.append_nil];exact PH.heap hn e2 (by rw[h2,List.map_set]));have vj:pl<(xP.map Cl.pv).length:=by simpa using i2
        have eN:(xP.map Cl.pv).length<=1000000:=A53 0x1804110921410491A00100AFC875621242800406FAC00 hz Gs (List.length_map ..);cases u with
        |U f a op t=>exact absurd rfl hus|B f a op l r=>exact absurd rfl hus|A k=>exact w8 PH.st.fo (vV PH.st.heap vj eN fun H2 h2 e2=>gN (hK ⟨trivial,st I.leafA e2 h2 (Nat.le_refl 1) _ _ _ _⟩))|I k=>exact w8 PH.st.fo (vV PH.st.heap vj eN fun H2 h2 e2=>gN (hK ⟨trivial,st I.leafI e2 h2 (Nat.le_refl 1) _ _ _ _⟩))|V k=>
         refine w8 PH.st.fo (lp PH.tb (zd PH.st.fo ?_));cases hk:yG vY k with
         |some y=>
          have hg:vF (wG vY) k=some (Cl.mk 0 (y:Nat)).pv:=by rw[um,hk];rfl
          refine qa (by rw[hg];rfl) (Vc PH.tb hg (zd PH.st.fo (vV PH.st.heap vj eN fun H2 h2 e2=>gN (hK ⟨trivial,st (I.leafV hk) e2 h2 (Nat.le_refl 1) _ _ _ _⟩))))
         |none=>
          have hg:vF (wG vY) k=none:=by rw[um,hk];rfl
          refine jE (by rw[hg];rfl) (Xp PH.tb (by simp[wG];exact A42 0x105030200107D1E5882800406FAC00 JE MF) fun H2 h2 e2=>gN ?_);rw[show PV.tup [.int 0,.int pl]=(Cl.mk 0 (pl:Nat)).pv from rfl,Uk hk] at h2;exact hK ⟨trivial,YK.fin (N:=[]) (u:=.V k) hm Nat.zero_lt_one (by rw[List.append_nil];exact I.leafN hk) (by rw[List.append_nil];exact PH.table hn hw e2 h2)⟩
     .rintro zO H' ⟨xP,vY,pl,R,x1,x2,x3,x4,hm,I,e,PH⟩
      .have Gf:yV R+R.length<n:=by rw[fG] at hm;simpa using hm
       refine gN (hk ⟨yV R+R.length,Gf,?_⟩);have k:=ia.mk (a3:=a3) (n:=yV R+R.length) (Wd++[e]) xP vY R x1 (some (.int pl)) x2 x3 x4 rfl (A74 0x69504418416B10340041308280849C4796D2A0881A00101388F2C4140100 hsz Gf (List.length_append ..) md) I.skip PH;rw[List.length_append] at k;exact k
  .cases t with
   |U f a op t=>exact absurd rfl hs|B f a op l r=>exact absurd rfl hs|V k=>
    refine goN zG.fo (ik wD (zd zG.fo ?_));cases hk:yG tab k with
    |none=>
     have hg:vF (wG tab) k=none:=by rw[um,hk];rfl
     refine qa (by rw[hg];rfl) (gQ zG (A21 0x2BF21D5844902001017EB68100 hz) fun H2 zN e2=>?_);have vI:=e2.get (hn 12 (by decide)) wD;refine zd zN.fo (Xp vI (by simp[wG];exact A21 0x7D1E5840800406FAC00 JE) fun H3 h3 e3=>?_);rw[Uk hk] at h3;have yc:=zN.ext e3 fun n h1 h2 z=>hn n (A11 0xD000107001 h2) z.symm;refine goN yc.fo (Vc h3 (v:=(Cl.mk 0 hp.length).pv) (by rw[um,u4 hk,if_pos rfl];rfl) (gV ?_));exact q _ _ _ _ (.fresh to hk) yc h3 ((eL.no.trans e2.onL).trans e3.onR)
    |some x=>
     have hg:vF (wG tab) k=some (Cl.mk 0 (x:Nat)).pv:=by rw[um,hk];rfl
     exact jE (by rw[hg];rfl) (Vc wD hg (gV (q _ _ _ _ (.leaf to ⟨x,hk,rfl⟩ rfl) zG wD eL.no)))
   |A k=>exact gN (q ⟨4,k⟩ _ _ _ (.leaf to ⟨0,.stop (by decide:(4:Int)≠0) (by decide:(4:Int)≠1)⟩ rfl) zG wD eL.no)|I k=>exact gN (q ⟨5,k⟩ _ _ _ (.leaf to ⟨0,.stop (by decide:(5:Int)≠0) (by decide:(5:Int)≠1)⟩ rfl) zG wD eL.no)
end
section
variable {p:Program} {w:World} {B:Heap} {H:AH} {d:Nat} {X Q:PV->AH->Prop}
theorem zP.det (h:zP hp c r n)(h':zP hp c s m):r=s:=by
 induction h generalizing s m with
 |@stop c h0 h1=>
  cases h' with
  |stop _ _=>rfl|self _=>exact absurd rfl h0|step _ _ _=>exact absurd rfl h0
 |@self x h0=>
  cases hx:h' with
  |stop h2 _=>rfl|self _=>rfl|step h2 h3 _=>rw[h0] at h2;cases h2;exact absurd rfl h3
 |@step x c c' n h0 h1 _ ih=>cases h' with|stop h2 _=>exact absurd rfl h2|self h2=>rw[h0] at h2;cases h2;exact absurd rfl h1|step h2 h3 h4=>rw[h0] at h2;cases h2;exact ih h4
theorem zP.root {x:Nat}{n:Nat}(h:zP hp c ⟨0,x⟩ n):hp[x]?=some ⟨0,x⟩:=by generalize e:(⟨0,(x:Int)⟩:Cl)=r at h;induction h with|stop h0 h1=>subst e;exact absurd rfl h0|@self y h0=>cases Yh e;exact h0|step _ _ _ ih=>exact ih e
theorem zP.end_ (h:zP hp c r n):(r.t≠0/\r.t≠1)\/∃ x:Nat,r=⟨0,x⟩:=by induction h with|stop h0 h1=>exact .inl ⟨h0,h1⟩|@self y h0=>exact .inr ⟨y,rfl⟩|step _ _ _ ih=>exact ih
theorem zP.grow (g:∀ y<hp.length,hp'[y]?=hp[y]?)(h:zP hp c r n):zP hp' c r n:=by have lt:∀ {y:Nat} {e:Cl},hp[y]?=some e->y<hp.length:=fun h=>(xU h).1;induction h with|stop h0 h1=>exact .stop h0 h1|self h0=>exact .self (by rw[g _ (lt h0)];exact h0)|step h0 h1 _ ih=>exact .step (by rw[g _ (lt h0)];exact h0) h1 ih
noncomputable def UY (y:Nat)(rv r:Cl):Cl:=if r.t=0/\r.x=y then rv else r
theorem jg (y:Nat)(rv:Cl):UY y rv ⟨0,y⟩=rv:=if_pos ⟨rfl,rfl⟩
theorem uq (h:r≠⟨0,y⟩):UY y rv r=r:=if_neg fun z=>h (by obtain⟨a,b⟩:=r;obtain⟨z1,z2⟩:=z;simp only at z1 z2;rw[z1,z2])
theorem mD (h:a≠0):UY y rv ⟨a,b⟩=⟨a,b⟩:=uq fun z=>h (congrArg Cl.t z)
theorem zP.bind (hy:hp[y]?=some ⟨0,y⟩)(hv:v≠⟨0,y⟩)(hd:zP (hp.set y v) v rv k)(h:zP hp c r n):∃ m,zP (hp.set y v) c (UY y rv r) m:=by
 have yl:=(xU hy).1;induction h with
 |@stop c h0 h1=>refine⟨0,?_⟩;rw[uq (by rintro rfl;exact h0 rfl)];exact .stop h0 h1|@self x h0=>
  by_cases e:x=y
  .subst e;rw[jg];exact⟨k+1,.step (by rw[List.getElem?_set_self yl]) hv hd⟩
  .rw[uq (fun z=>e (Yh z))];exact⟨0,.self (by rw[List.getElem?_set_ne (fun z=>e z.symm)];exact h0)⟩
 |@step x c c' n h0 h1 _ ih=>
  refine zA ih fun m ih=>?_;have e:y≠x:=by rintro rfl;rw[hy] at h0;cases h0;exact h1 rfl
  exact⟨m+1,.step (by rw[List.getElem?_set_ne e];exact h0) h1 ih⟩
theorem RT.mono (h:∀ c k,P c k->P' c k){t:Tr}:∀ {c:Cl},RT hp P c t->RT hp P' c t:=by induction t with|V _=>exact h _ _|A _=>exact id|I _=>exact id|U _ _ _ _ ih=>exact fun⟨x,n,e,h1,h2,h3,h4⟩=>⟨x,n,e,h1,h2,h3,ih h4⟩|B _ _ _ _ _ il ir=>exact fun⟨x,n,e1,e2,h1,h2,h3⟩=>⟨x,n,e1,e2,h1,il h2,ir h3⟩
theorem RT.grow (g:∀ y<hp.length,hp'[y]?=hp[y]?)(h:∀ c k,P c k->P' c k){t:Tr}:∀ {c:Cl},RT hp P c t->RT hp' P' c t:=by have gg:∀ {y:Nat} {e:Cl},hp[y]?=some e->hp'[y]?=some e:=fun z=>(g _ (xU z).1).trans z;induction t with|V _=>exact h _ _|A _=>exact fun⟨n,x⟩=>⟨n,x.grow g⟩|I _=>exact fun⟨n,x⟩=>⟨n,x.grow g⟩|U _ _ _ _ ih=>exact fun⟨x,n,e,h1,h2,h3,h4⟩=>⟨x,n,e,h1.grow g,gg h2,gg h3,ih h4⟩|B _ _ _ _ _ il ir=>exact fun⟨x,n,e1,e2,h1,h2,h3⟩=>⟨x,n,e1,e2,h1.elim (fun⟨a,b,c,d⟩=>.inl ⟨a.grow g,gg b,gg c,gg d⟩) fun⟨a,b,c,d,e⟩=>.inr ⟨a,b,c.grow g,gg d,gg e⟩,il h2,ir h3⟩
theorem RT.bind (hy:hp[y]?=some ⟨0,y⟩)(hv:v≠⟨0,y⟩)(hd:zP (hp.set y v) v rv k)(h:∀ c j,P c j->P' c j)(hw:∀ j,P ⟨0,y⟩ j->P' v j): ∀ {c:Cl} {t:Tr},RT hp P c t->RT (hp.set y v) P' c t:=by
 have yl:=(xU hy).1;have nr:∀ {c:Cl} {a b:Int} {n:Nat},a≠0->zP hp c ⟨a,b⟩ n->∃ m,zP (hp.set y v) c ⟨a,b⟩ m:=fun ha x=>by have:=zP.bind hy hv hd x;rwa [mD ha] at this
 have sI:∀ {x:Nat} {a b:Int},a≠0->hp[x]?=some ⟨a,b⟩->(hp.set y v)[x]?=some ⟨a,b⟩:=fun{x a b} ha z=>by
  have e:y≠x:=by rintro rfl;rw[hy] at z;cases z;exact ha rfl
  rw[List.getElem?_set_ne e];exact z
 have vt:∀ {t:Tr},RT hp P ⟨0,y⟩ t->RT (hp.set y v) P' v t:=fun{t} x=>by
  have self:zP hp ⟨0,y⟩ ⟨0,y⟩ 0:=.self hy;cases t with
  |V j=>exact hw j x|A a=>obtain⟨n,x⟩:=x;exact absurd (x.det self) (fun z=>by cases z)
  |I a=>obtain⟨n,x⟩:=x;exact absurd (x.det self) (fun z=>by cases z)
  |U f a op t=>obtain⟨_,n,_,x,_⟩:=x;exact absurd (x.det self) (fun z=>by cases z)
  |B f a op l r=>
   obtain⟨_,n,_,_,x|x,_⟩:=x
   .exact absurd (x.1.det self) (fun z=>by cases z)
   .exact absurd (x.2.2.1.det self) (fun z=>by cases z)
 intro c t;induction t generalizing c with
 |V j=>exact h _ _|A a=>rintro⟨n,x⟩;exact nr (by decide) x
 |I a=>rintro⟨n,x⟩;exact nr (by decide) x
 |U f a op t ih=>
  intro zq;obtain⟨x,n,e,h1,h2,h3,h4⟩:=zq;obtain⟨m,h1⟩:=nr (by decide) h1;by_cases e0:y=x+1
  .subst e0;rw[hy] at h3;obtain rfl:=yd h3;exact⟨x,m,v,h1,sI (by decide) h2,by rw[List.getElem?_set_self yl],vt h4⟩
  .exact⟨x,m,e,h1,sI (by decide) h2,by rw[List.getElem?_set_ne e0];exact h3,ih h4⟩
 |B f a op l r ihl ihr=>
  intro zq;obtain⟨x,n,e1,e2,h1,h2,h3⟩:=zq;have arg:∀ {i:Nat} {e:Cl} {t:Tr},hp[i]?=some e->RT hp P e t->(∀ {c},RT hp P c t->RT (hp.set y v) P' c t)->∃ e',(hp.set y v)[i]?=some e'/\RT (hp.set y v) P' e' t:=fun{i e t} z1 z2 ih=>by
   by_cases e0:y=i
   .subst e0;rw[hy] at z1;obtain rfl:=yd z1;exact⟨v,by rw[List.getElem?_set_self yl],vt z2⟩
   .exact⟨e,by rw[List.getElem?_set_ne e0];exact z1,ih z2⟩
  rcases h1 with⟨a1,a2,a3,a4⟩|⟨a1,a2,a3,a4,a5⟩
  .obtain⟨m,a1⟩:=nr (by decide) a1;refine zg (arg a3 h2 ihl) fun vL g1 g2=>?_;refine zg (arg a4 h3 ihr) fun Y9 g3 g4=>?_;exact⟨x,m,vL,Y9,.inl ⟨a1,sI (by decide) a2,g1,g3⟩,g2,g4⟩
  .obtain⟨m,a3⟩:=nr (by decide) a3;refine zg (arg a4 h2 ihl) fun vL g1 g2=>?_;refine zg (arg a5 h3 ihr) fun Y9 g3 g4=>?_;exact⟨x,m,vL,Y9,.inr ⟨a1,a2,a3,g1,g3⟩,g2,g4⟩
def W7 (hp:List Cl)(tab:List (Int×Nat))(c:Cl)(k:Int):Prop:=∃ (x:Nat) (r:Cl) (n m:Nat),yG tab k=some x/\zP hp c r n/\zP hp ⟨0,x⟩ r m
def x_ (hp:List Cl)(tab:List (Int×Nat)):Cl->Tr->Prop:=RT hp (W7 hp tab)
theorem RT.same (h:zP hp c r n)(h':zP hp c' r m)(hP:∀ k,P c k->P c' k):∀ {t:Tr},RT hp P c t->RT hp P c' t
 |.V k,x=>hP k x|.A a,⟨n,x⟩=>⟨m,by have:=x.det h;subst this;exact h'⟩|.I a,⟨n,x⟩=>⟨m,by have:=x.det h;subst this;exact h'⟩|.U f a op t,⟨x,n,e,h1,h2,h3,h4⟩=>⟨x,m,e,by have:=h1.det h;subst this;exact h',h2,h3,h4⟩|.B f a op l s,⟨x,n,e1,e2,h1,h2,h3⟩=>by
  refine⟨x,m,e1,e2,?_,h2,h3⟩;rcases h1 with⟨a1,a2⟩|⟨a0,a1,a2,a3⟩
  .exact .inl ⟨by have:=a1.det h;subst this;exact h',a2⟩
  .exact .inr ⟨a0,a1,by have:=a2.det h;subst this;exact h',a3⟩
theorem x_.der:∀ {t:Tr},x_ hp tab c t->∃ r n,zP hp c r n
 |.V k,⟨x,r,n,m,h1,h2,h3⟩=>⟨r,n,h2⟩|.A a,⟨n,x⟩=>⟨_,_,x⟩|.I a,⟨n,x⟩=>⟨_,_,x⟩|.U f a op t,⟨x,n,e,h1,_,_,_⟩=>⟨_,_,h1⟩|.B f a op l s,⟨x,n,e1,e2,h1,_,_⟩=>by
  rcases h1 with⟨a1,a2⟩|⟨a0,a1,a2,a3⟩
  .exact⟨_,_,a1⟩
  .exact⟨_,_,a2⟩
noncomputable def Tr.subst (σ:Int->Tr):Tr->Tr|.V k=>σ k|.A a=>.A a|.I n=>.I n|.U f a op t=>.U f a op (t.subst σ)|.B f a op l r=>.B f a op (l.subst σ) (r.subst σ)
theorem HT.same (h:zP hp c r n)(h':zP hp c' r m)(x:HT hp c t):HT hp c' t:=
 RT.same h h' (fun k ⟨_,y,z⟩=>by have:=z.det h;subst this;exact⟨_,y,h'⟩) x
theorem PT.gt (hd:∀ k x,yG tab k=some x->∃ r n,zP hp ⟨0,(x:Nat)⟩ r n)(h:PT hp tab c t):x_ hp tab c t:=
 RT.mono (fun c k ⟨x,h1,h2⟩=>by obtain⟨r,n,h3⟩:=hd k x h1;subst h2;exact⟨x,r,n,n,h1,h3,h3⟩) h
theorem W7.grow (g:∀ y<hp.length,hp'[y]?=hp[y]?)(l:wQ tab tab'):W7 hp tab c k->W7 hp' tab' c k:=fun⟨x,r,n,m,h1,h2,h3⟩=>⟨x,r,n,m,l _ _ h1,h2.grow g,h3.grow g⟩
theorem W7.bind (hy:hp[y]?=some ⟨0,y⟩)(hv:v≠⟨0,y⟩)(hd:zP (hp.set y v) v rv k)(h:W7 hp tab c j):W7 (hp.set y v) tab c j:=by refine aG h fun x r n m h1 h2 h3=>?_;clear h;refine zA (zP.bind hy hv hd h2) fun n' h2=>?_;refine zA (zP.bind hy hv hd h3) fun m' h3=>?_;exact⟨x,_,n',m',h1,h2,h3⟩
theorem x_.bind (hy:hp[y]?=some ⟨0,y⟩)(hv:v≠⟨0,y⟩)(hd:zP (hp.set y v) v rv k)(h:x_ hp tab c t):x_ (hp.set y v) tab c t:=by refine RT.bind hy hv hd (fun c j h=>W7.bind hy hv hd h) (fun j h=>?_) h;refine aG h fun x r n m h1 h2 h3=>?_;clear h;have e:=h2.det (.self hy);subst e;refine zA (zP.bind hy hv hd h3) fun m' h3=>?_;rw[jg] at h3;exact⟨x,_,_,m',h1,hd,h3⟩
theorem YX:Ws Kz=Kz:=by funext vs;cases vs<;>rfl
theorem jS (q:∀ a H',H (.an a)=none->H' (.an a)=some mo->zf yA H H'->Q (.obj (.an a)) H'):yW H mo Q:=.an fun a n=>q a _ n (AH.upd_same _ _ _) (zf.new n)
theorem tV (hi:H i=some (.setI S n))(hz:n<=4000)(q:∀ H',H' i=some (.setI (fun k'=>S k'||decide (k'=k)) (if S k then n else n+1))->zf (zV i) H H'->Q .none H'):Y6 g d H (.obj i) (xr tx.aN 40) [.int k] Q X:=⟨_,f9 hi,xB _,gu hi hz (q _ (AH.upd_same _ _ _) zf.one)⟩
theorem U4 (hS:ym H hp)(hy:y<hp.length)(hz:hp.length<=100000)(q:∀ H',ym H' (hp.set y v)->zf xo H H'->Q .none H'):zh (gr p w B) (d+1) H [.obj (.nm 10),(Cl.mk 0 y).pv,v.pv] (cZ 286) Q X:=
 z9 rfl hS.fo (vV hS.heap (A32 0x104611002100401 hy (List.length_map ..)) (A22 0x2FD610042010406FAC00 (List.length_map ..) hz) fun H2 h2 e2=>by have zN:=hS.put (hp':=hp.set y v) e2 (by rw[h2,List.map_set]);exact goN zN.fo (q H2 zN e2))
theorem Q3 (hS:ym H hp)(hy:y<hp.length)(hw:z<hp.length)(wJ:z≠y)(hz:hp.length<=100000) (q:∀ hp' H',(hp'=hp.set y ⟨0,z⟩\/hp'=hp.set z ⟨0,y⟩)->ym H' hp'->zf xo H H'->Q .none H'):zh (gr p w B) (d+2) H [.obj (.nm 10),(Cl.mk 0 y).pv,(Cl.mk 0 z).pv] (cZ 293) Q X:=by refine z9 rfl hS.fo (Xn (c:=⟨0,y⟩) (e:=⟨0,z⟩) (zd hS.fo (jE (by simp;lia) ?_)));refine br (fun _=>U4 (y:=z) (v:=⟨0,y⟩) hS hw hz fun H' a b=>gV (q _ H' (.inr rfl) a b)) fun _=>U4 (y:=y) (v:=⟨0,z⟩) hS hy hz fun H' a b=>gV (q _ H' (.inl rfl) a b)
theorem fB (hS:ym H hp)(q:Q (.int 2) H):zh (gr p w B) (d+2) H [.obj (.nm 10),(Cl.mk 3 x).pv] (cZ 342) Q X:=z9 rfl hS.fo q
theorem We {x f:Nat}{a n:Int}(hS:ym H hp)(hM:zj H S)(sok:S.Ok)(hz:hp.length<=100000)(h:hp[x]?=some ⟨6,f⟩)(hf:S.funs[f]?=some (a,n))(q:Q (.int n) H):zh (gr p w B) (d+2) H [.obj (.nm 10),(Cl.mk 2 x).pv] (cZ 342) Q X:=by
 have Jj:f<=1000000:=by have:=(xU hf).1;have:=sok.lf;exact A22 0x1F479610042008406FAC00 (by assumption) this
 have F:=(hS.fo (p:=p) (w:=w) (B:=B)).app hM.fo;exact z9 rfl F (hS.at hz h (zd F (je hM hf Jj (zd F q))))
theorem WC:wN 0 (-1) (-1)=[.int 0]:=jm 0 (-1) (by decide)
theorem QV:wN 1 (-1) (-1)=[.int 1,.int 0]:=jm 1 (-1) (by decide)
theorem Q_ {hp:List Cl}{r:Cl}{b:Nat}{es:List Cl}{wl:Addr}{W:List PV}(hS:ym H hp)(hz:hp.length<=100000)(he:es.length=1\/es.length=2)(lY:∀ i e,es[i]?=some e->hp[b+i]?=some e)(hW:H (.an wl)=some (.list W))(sD:W.length<=5000) (bB:∀ {Q:PV->AH->Prop},Q (.int b) H->zh (gr p w B) (d+2) H [.obj (.nm 10),r.pv] (cZ 349) Q X) (IB:∀ {Q:PV->AH->Prop},Q (.int es.length) H->zh (gr p w B) (d+2) H [.obj (.nm 10),r.pv] (cZ 342) Q X) (q:∀ H',H' (.an wl)=some (.list (W++es.reverse.map Cl.pv))->zf (zV (.an wl)) H H'->Q .none H'):zh (gr p w B) (d+3) H [.obj (.nm 10),r.pv,.obj (.an wl)] (cZ 658) Q X:=by
 refine z9 rfl hS.fo (bB (zd hS.fo (Z6 hS.fo (IB (zd hS.fo ?_)))));have lt:∀ i e,es[i]?=some e->b+i<hp.length:=fun i e h=>(xU (lY i e h)).1;rcases he with he|he
 .refine zA (List.length_eq_one_iff.mp he) fun e zW=>?_;subst zW;have l0:=lt 0 e rfl;refine⟨0,-1,rfl,by decide,by decide,by decide,by decide,X7 ?_⟩;rw[WC];refine w8 hS.fo (xy hW hS.fo (uj (n:=b+0) hS.heap (Nat.le_trans (Nat.le_of_lt l0) (Nat.le_trans hz (by decide))) (w9 (lY 0 e rfl)) (zd hS.fo (xV hW (A11 0x9C4796000407FAC00 sD) fun H2 h2 e2=>gV ⟨trivial,gN (q H2 h2 e2)⟩))))
 .obtain⟨e,e',rfl⟩:=fF he;have l0:=lt 0 e rfl;have l1:=lt 1 e' rfl;refine⟨1,-1,rfl,by decide,by decide,by decide,by decide,X7 ?_⟩;rw[QV];refine w8 hS.fo (xy hW hS.fo (uj (n:=b+1) hS.heap (Nat.le_trans (Nat.le_of_lt l1) (Nat.le_trans hz (by decide))) (w9 (lY 1 e' rfl)) (zd hS.fo (xV hW (A11 0x9C4796000407FAC00 sD) fun H2 h2 e2=>?_))));have zN:=hS.ext e2 fun n _ _ h=>xh h;refine zd zN.fo ⟨trivial,w8 zN.fo (xy h2 zN.fo (uj (n:=b+0) zN.heap (Nat.le_trans (Nat.le_of_lt l0) (Nat.le_trans hz (by decide))) (w9 (lY 0 e rfl)) (zd zN.fo (xV h2 (A22 0x9C47961005AC4050010407FAC00 (List.length_append ..) sD) fun H3 h3 e3=>gV ⟨trivial,gN (q H3 (by rw[h3];simp) (e2.trans e3))⟩))))⟩
def rq (hp:List Cl)(y:Nat)(c:Cl)(_:Int):Prop:=∃ n z:Nat,zP hp c ⟨0,z⟩ n/\z≠y
def OT (hp:List Cl)(y:Nat):Cl->Tr->Prop:=RT hp (rq hp y)
def WT (hp:List Cl)(y:Nat):List Cl->List Tr->Prop|[],[]=>True|c::cs,t::ts=>OT hp y c t/\WT hp y cs ts|_,_=>False
theorem WT.len:∀ {cs:List Cl} {l:List Tr},WT hp y cs l->cs.length=l.length|[],[],_=>rfl|_::_,_::_,h=>congrArg (·+1) h.2.len|[],_::_,h=>h.elim|_::_,[],h=>h.elim
theorem WT.app:∀ {cs ds:List Cl} {l m:List Tr},WT hp y cs l->WT hp y ds m->WT hp y (cs++ds) (l++m)|[],_,[],_,_,h=>h|_::_,_,_::_,_,h,h'=>⟨h.1,h.2.app h'⟩|[],_,_::_,_,h,_=>h.elim|_::_,_,[],_,h,_=>h.elim
theorem OT.end_ (h:OT hp y c t)(hd:zP hp c r n):r≠⟨0,y⟩/\((r.t≠2/\r.t≠3)\/(t.isS=true/\∃ (x b:Nat) (es:List Cl),((r=⟨2,x⟩/\hp[x]?=some ⟨6,t.fn⟩/\b=x+1)\/(r=⟨3,x⟩/\b=x/\t.args.length=2))/\es.length=t.args.length/\(∀ i e,es[i]?=some e->hp[b+i]?=some e)/\WT hp y es t.args)):=by
 cases t with
 |V k=>refine yE h fun m z h1 h2=>?_;clear h;have e:=h1.det hd;subst e;exact⟨fun z=>h2 (Yh z),.inl ⟨by simp,by simp⟩⟩|A k=>refine zA h fun m h1=>?_;clear h;have e:=h1.det hd;subst e;exact⟨fun z=>(by simpa using congrArg Cl.t z),.inl ⟨by simp,by simp⟩⟩|I k=>refine zA h fun m h1=>?_;clear h;have e:=h1.det hd;subst e;exact⟨fun z=>(by simpa using congrArg Cl.t z),.inl ⟨by simp,by simp⟩⟩|U f a op t=>
  obtain⟨x,m,e,h1,h2,h3,h4⟩:=h;have ee:=h1.det hd;subst ee;refine⟨fun z=>(by simpa using congrArg Cl.t z),.inr ⟨rfl,x,x+1,[e],.inl ⟨rfl,h2,rfl⟩,rfl,fun i e' he=>?_,h4,trivial⟩⟩
  match i,he with
  |0,he=>cases he;exact h3
 |B f a op l s=>
  obtain⟨x,m,e1,e2,h1,h2,h3⟩:=h;have args:∀ {b:Nat},hp[b]?=some e1->hp[b+1]?=some e2->∀ i e,[e1,e2][i]?=some e->hp[b+i]?=some e:=fun{b} z1 z2 i e he=>by
   match i,he with
   |0,he=>cases he;exact z1|1,he=>cases he;exact z2
  rcases h1 with⟨a1,a2,a3,a4⟩|⟨a0,a1,a2,a3,a4⟩
  .have ee:=a1.det hd;subst ee;exact⟨fun z=>(by simpa using congrArg Cl.t z),.inr ⟨rfl,x,x+1,[e1,e2],.inl ⟨rfl,a2,rfl⟩,rfl,args a3 a4,h2,h3,trivial⟩⟩
  .have ee:=a2.det hd;subst ee;exact⟨fun z=>(by simpa using congrArg Cl.t z),.inr ⟨rfl,x,x,[e1,e2],.inr ⟨rfl,rfl,rfl⟩,rfl,args a3 a4,h2,h3,trivial⟩⟩
theorem OT.der:∀ {t:Tr},OT hp y c t->∃ r n,zP hp c r n
 |.V k,⟨n,z,h1,_⟩=>⟨_,n,h1⟩|.A a,⟨n,x⟩=>⟨_,_,x⟩|.I a,⟨n,x⟩=>⟨_,_,x⟩|.U f a op t,⟨x,n,e,h1,_,_,_⟩=>⟨_,_,h1⟩|.B f a op l s,⟨x,n,e1,e2,h1,_,_⟩=>by
  rcases h1 with⟨a1,a2⟩|⟨a0,a1,a2,a3⟩
  .exact⟨_,_,a1⟩
  .exact⟨_,_,a2⟩
theorem K7 (t:Tr):1<=t.size:=by cases t<;>exact Nat.succ_pos _
noncomputable def uG (l:List Tr):Nat:=(l.map Tr.size).sum
theorem YO:∀ l:List Tr,l.length<=uG l|[]=>Nat.le_refl _|x::r=>by have:=YO r;have:=K7 x;unfold uG at*;simp only[List.map_cons,List.sum_cons,List.length_cons];exact A32 0x100010B4010082868100 this (by assumption)
theorem WV {g:Gr}{d:Nat}{H:AH}{Q X:PV->AH->Prop}{c e:Cl}(h:c≠e)(q:Q (.bool false) H):zh g d H [.tup [.int c.t,.int c.x],.tup [.int e.t,.int e.x]] (t2 (compareOp .Eq)) Q X:=by
 refine Xn ?_;have:(c.t==e.t&&c.x==e.x)=false:=by rw[Bool.eq_false_iff];intro z;simp only[Bool.and_eq_true,beq_iff_eq] at z;exact h (by obtain⟨a,b⟩:=c;obtain⟨a',b'⟩:=e;obtain⟨z1,z2⟩:=z;simp only at z1 z2;rw[z1,z2])
 rw[this];exact q
structure Hr (H:AH)(hp:List Cl)(y:Nat)(ml wl:Addr)(n:Nat)(H':AH)(cs:List Cl)(ts:List Tr)(S:Sy)(k:Nat):Prop where
 hn:n=uG ts
 ok:∀ t∈ts,t.Ok S
 ot:WT hp y cs ts
 met:∃ M,H' (.an ml)=some (.setI M k)
 small:k+n<=1000
 work:H' (.an wl)=some (.list (cs.reverse.map Cl.pv))
 ext:zf (AB ml wl yA) H H'
theorem FH:∀ n,¬AB a b yA (.nm n):=fun n h=>by
 rcases h with(h|h)|h
 .exact h
 .exact xh h
 .exact xh h
inductive fu (H:AH)(hp:List Cl)(y:Nat)(ml wl:Addr)(S:Sy)(n:Nat)(H':AH):Lc->Prop
 |mk (a2:Option PV) (cs:List Cl) (ts:List Tr) (k:Nat) (I:Hr H hp y ml wl n H' cs ts S k):fu H hp y ml wl S n H' [some (.obj (.nm 10)),some (Cl.mk 0 y).pv,a2,some (.obj (.an ml)),some (.obj (.an wl))]
theorem fw {S:Sy}{hp:List Cl}{y:Nat}{c r:Cl}{n:Nat}{t:Tr}(hS:ym H hp)(hM:zj H S)(sok:S.Ok)(hz:hp.length<=100000)(hd:zP hp c r n)(ho:OT hp y c t)(ok:t.Ok S)(tj:t.size<=500) (q:∀ H',zf yA H H'->Q (.bool false) H'):zh (gr p w B) (d+4) H [.obj (.nm 10),(Cl.mk 0 y).pv,c.pv] (cZ 700) Q X:=by
 refine a2 (ho.end_ hd) fun wJ bE=>?_;refine z9 rfl hS.fo (xJ hS hz hd (zd hS.fo (WV (c:=r) (e:=⟨0,y⟩) wJ (zd hS.fo (X0 (c:=r) (zd hS.fo ?_) hS)))));rcases bE with⟨c2,c3⟩|bE
 .exact qa (by simp[c2,c3]) (q H .refl)
 .have LP:(r.t==2||r.t==3)=true:=by
   obtain⟨-,x,b,es,h|h,-⟩:=bE
   .rw[h.1];rfl
   .rw[h.1];rfl
  refine jE (by rw[LP];rfl) (cH (jS fun ml Hm GC gm em=>?_));have F7:=hS.ext em fun _ _ _ h=>h;refine zd F7.fo (yo fun wl Hw qq gw ew=>?_);have Xa:=F7.ext ew fun _ _ _ h=>h;have wJ:wl≠ml:=fun e=>by subst e;rw[gm] at qq;exact qE qq
  have IG:=em.back (fun h=>h) qq;have Md:OT hp y r t:=by
   refine vg ho.der fun r' n' h=>?_;have xi:zP hp r r 0:=by
    rcases hd.end_ with z|⟨x,rfl⟩
    .exact .stop z.1 z.2
    .exact .self hd.root
   exact RT.same hd xi (fun k ⟨m,z,g1,g2⟩=>by have:=g1.det hd;subst this;exact⟨0,z,xi,g2⟩) ho
  refine zd Xa.fo (ud (fun n ρ H'=>fu H hp y ml wl S n H' ρ) t.size ⟨_,[r],[t],0,by simp[uG],fun u hu=>(by rw[List.mem_singleton.mp hu];exact ok),⟨Md,trivial⟩,⟨_,ew.get (fun h=>h) gm⟩,A11 0xFA796000400FA3CB03100 tj,gw,(em.trans ew).no⟩ ?_);rintro m zO H' ⟨a2,cs,ts,k,I⟩ K hk;have hl:=YO ts;have kG:=I.ot.len;have Jq:=I.hn;have ub:=I.small;have xk:=hS.ext I.ext fun n _ _=>FH n;have LA:=hM.ext I.ext fun n _=>FH n;refine jv xk.fo (xb I.work (A76 0x3140120C4130861290411804107D1E5882800407FAC00 ub (List.length_map ..) kG Jq (List.length_reverse ..) hl) (zd xk.fo ?_));cases ts with
  |nil=>
   obtain rfl:cs=[]:=by simpa using kG
   refine hk (gN ?_);exact q H' ((I.ext.drop IG).drop GC)
  |cons u ts=>
   obtain⟨c',cs,rfl⟩:∃ c sj,cs=c::sj:=by cases cs with|nil=>simp at kG|cons c cs=>exact⟨c,cs,rfl⟩
   obtain⟨mf,iO⟩:=I.ot;have kH:=iO.len;have Mr:=YO ts;have hsz:uG (u::ts)=u.size+uG ts:=by simp[uG]
   have Mu:=K7 u;refine zA I.met fun M Iv=>?_;have jN:¬zV (.an wl) (.an ml):=fun h=>wJ (by cases h;rfl);have e_:¬zV (.an ml) (.an wl):=fun h=>wJ (by cases h;rfl);have uM:H' (.an wl)=some (.list (cs.reverse.map Cl.pv++[c'.pv])):=by rw[I.work];simp
   refine wb (by simp) (uZ uM (by simp;simp at hl;exact A54 0x44184201041F479641A0011342800406FAC00 hl ub kH Jq) fun H1 g1 e1=>?_);have zG:=xk.ext e1 (fun n _ _ h=>xh h);have kF:=LA.ext e1 (fun n _ h=>xh h);have x1:=I.ext.trans e1.b1;have bG:=e1.get jN Iv;refine vg mf.der fun r' n' xi=>?_;obtain⟨Xe,sG⟩:=mf.end_ xi;refine zd zG.fo (xJ zG hz xi (zd zG.fo (WV (c:=r') (e:=⟨0,y⟩) Xe (zd zG.fo (X0 (c:=r') (zd zG.fo ?_) zG)))));have GH:∀ u∈ts,u.Ok S:=fun v hv=>I.ok v (.tail _ hv);have back:∃ k,k<m/\fu H hp y ml wl S k H1 [some (.obj (.nm 10)),some (Cl.mk 0 y).pv,some r'.pv,some (.obj (.an ml)),some (.obj (.an wl))]:=⟨_,A43 0x611840240C611340100401 Mu hsz Jq,_,cs,ts,k,rfl,GH,iO,⟨M,bG⟩,A53 0x621842440C6107D1E5880800400FA3CB08100 ub hsz Jq,by rw[g1,List.map_reverse],x1⟩;rcases sG with⟨c2',c3'⟩|⟨us,x,b,es,hx,hel,heg,heo⟩
   .exact jE (by simp[c2',c3']) (hk back)
   .have hc:(r'.t==2||r'.t==3)=true:=by
     rcases hx with h|h
     .rw[h.1];rfl
     .rw[h.1];rfl
    refine qa hc (Q5 bG (zd zG.fo ?_));cases hin:M r'.x with
    |true=>exact hk back|false=>
     refine tV bG (A21 0x1F479610200100FA0F2C00 ub) fun H2 g2 e2=>?_;have zN:=zG.ext e2 (fun n _ _ h=>xh h);have Vi:=kF.ext e2 (fun n _ h=>xh h);have GJ:=I.ok u (.head _);refine a3 (vK us) fun a1 Nv a3=>?_;have vj:u.args.length=1\/u.args.length=2:=by cases u with|V k=>exact zU us|A k=>exact zU us|I k=>exact zU us|U f a op t=>exact .inl rfl|B f a op l r=>exact .inr rfl
     refine zd zN.fo (Q_ (r:=r') (es:=es) (b:=b) zN hz (by rw[hel];exact vj) heg (e2.get e_ g1) (by simp;exact A75 0x298011886130041291031841F479620A00101388F2C00 ub hsz kH Jq Mr) (fun{Q} q=>?_) (fun{Q} q=>?_) fun H3 g3 e3=>gV ?_)
     .rcases hx with⟨rfl,wy,rfl⟩|⟨rfl,rfl,wy⟩
      .exact(WK (c:=⟨2,x⟩) zN (show(2:Int)≠3 by decide) q).up (Nat.le_add_right _ 1)
      .exact(JR zN q).up (Nat.le_add_right _ 1)
     .rw[hel] at q;rcases hx with⟨rfl,wy,rfl⟩|⟨rfl,rfl,wy⟩
      .refine zA (Vf GJ us) fun a hf=>?_;exact We zN Vi sok hz wy hf q
      .rw[wy] at q;exact fB zN q
     .have tl:uG (u.args++ts)=uG u.args+uG ts:=by simp[uG]
      have tm:uG u.args+2=u.size:=a1;refine(hk ⟨uG (u.args++ts),A64 0xA11848341461209001046E1204100401 tm tl hsz Jq,_,es++cs,u.args++ts,k+1,rfl,fun v hv=>?_,heo.app iO,⟨fun k'=>M k'||decide (k'=r'.x),?_⟩,A75 0x2906130901104C34146107D1E590080046E12041003E8F2C2D02100 tm ub hsz tl Jq,by rw[g3];simp,(x1.trans e2.a1).trans e3.b1⟩)
      .rcases Zo hv with hv|hv
       .exact Vw GJ v hv
       .exact GH v hv
      .rw[e3.get jN g2,hin];rfl
theorem UB (hS:ym H hp)(hM:zj H S)(sok:S.Ok)(hz:hp.length<=100000)(hy:y<hp.length)(hd:zP hp r r 0)(ho:OT hp y r t)(ok:t.Ok S)(tj:t.size<=500) (q:∀ H',ym H' (hp.set y r)->zf xo H H'->Q (.bool true) H'):zh (gr p w B) (d+5) H [.obj (.nm 10),(Cl.mk 0 y).pv,r.pv,.bool true] (cZ 693) Q X:=by refine z9 rfl hS.fo (fw hS hM sok hz hd ho ok tj fun H1 e1=>?_);have zG:=hS.ext e1 (fun _ _ _ h=>h);exact zd zG.fo (U4 zG hy hz fun H2 a b=>gV (q H2 a (e1.no.trans b)))
theorem j6 {c:Cl}(q:Q (.bool (c.t==0||c.t==1)) H):zh (gr p w B) (d+1) H [c.pv] (cZ 679) Q X:=by
 refine z9 (F:=[]) rfl trivial ?_;by_cases h:c.t=0
 .refine wb h ?_;have q:Q (.bool true) H:=by simpa[h] using q
  exact q
 .refine yZ h ?_;have:(c.t==0)=false:=by simpa using h
  rw[this,Bool.false_or,i_] at q;exact q
theorem GR:makesIn (KK P) 647=true/\findIn (KK P) (.ref 647) "__init__"=some (some (.ref 637))/\typeIn (KK P) (.ref 637)=some (.type "function")/\ji (KK P) 647 (xr tx.aN 38)=true/\ji (KK P) 647 (xr tx.aN 39)=true:=by refine⟨?_,?_,?_,?_,?_⟩<;>kernel_rfl
theorem Ug (hS:ym H hp)(hz:hp.length<=100000)(q:∀ a H',zf yA H H'->H (.an a)=none->Q (.obj (.an a)) H'):zh (gr p w B) (d+2) H [.obj (.nm 10)] (cZ 647) Q X:=by
 refine a5 (GR (P:=w.params)) fun k1 k2 k3 k4 k5=>?_;refine(pN (d:=d+1) (fI:=637) k1 k2 k3 fun x dx nx Gz wJ=>?_).t;rw[YX];have e0:zf yA H ((H.upd (.an dx) (.ns [])).upd (.an x) (.inst 647 (.an dx))):=(zf.new Gz).trans (zf.new (by rw[AH.upd_ne _ _ (by simpa using wJ)];exact nx));have i1:((H.upd (.an dx) (.ns [])).upd (.an x) (.inst 647 (.an dx))) (.an x)=some (.inst 647 (.an dx)):=AH.upd_same _ _ _;have i2:((H.upd (.an dx) (.ns [])).upd (.an x) (.inst 647 (.an dx))) (.an dx)=some (.ns []):=by rw[AH.upd_ne _ _ (by simpa using wJ.symm)];exact AH.upd_same _ _ _
 generalize (H.upd (.an dx) (.ns [])).upd (.an x) (.inst 647 (.an dx))=H1 at*;have zG:=hS.ext e0 (fun _ _ _ h=>h);have ne:¬zV (.an dx) (.an x):=fun h=>wJ (by cases h;rfl);refine fnRK rfl zG.fo (xb zG.heap (A22 0x2FD610042010407FAC00 (List.length_map ..) hz) (zd zG.fo (QP i1 i2 k4 (by decide) fun H2 h2 e2=>gN (cH (jS fun ml H3 GC g3 e3=>gV (QP (e3.get (fun h=>h) (e2.get ne i1)) (e3.get (fun h=>h) h2) k5 (by simp[zS.put]) fun H4 h4 e4=>gN ⟨rfl,q x H4 ?_ nx⟩))))));exact(((e0.no.trans e2).trans e3.no).trans e4:zf (zV (.an dx)) H H4).mono (N':=uH yA (zV (.an dx))) (fun _ h=>.inr h) |>.drop Gz
def iZ (a b:Cl)(pa wl:Addr)(ρ:Lc):Prop:=∃ x y,ρ=[some (.obj (.nm 10)),some a.pv,some b.pv,some (.bool true),some (.obj (.an pa)),some (.obj (.an wl)),x,y]
theorem m3 {y n1 n2:Nat}(hS:ym H hp)(hM:zj H S)(sok:S.Ok)(hz:hp.length<=100000)(h1:zP hp c1 ⟨0,y⟩ n1)(h2:zP hp c2 r2 n2) (hr:(∃ z:Nat,r2=⟨0,z⟩/\z≠y)\/(r2.t≠0/\r2.t≠1/\OT hp y r2 t/\t.Ok S/\t.size<=500)) (q:∀ hp' H',(hp'=hp.set y r2\/∃ z:Nat,r2=⟨0,z⟩/\z≠y/\hp'=hp.set z ⟨0,y⟩)->ym H' hp'->zf xo H H'->Q (.bool true) H'):zh (gr p w B) (d+6) H [.obj (.nm 10),c1.pv,c2.pv,.bool true] (cZ 686) Q X:=by
 have MA:=h1.root;have QD:=(xU MA).1;refine z9 rfl hS.fo (Ug hS hz fun pa H1 e1 MN=>?_);have zG:=hS.ext e1 (fun _ _ _ h=>h);have kF:=hM.ext e1 (fun _ _ h=>h);refine zd zG.fo (yo fun wl Hw qq gw ew=>?_);have Xa:=zG.ext ew fun _ _ _ h=>h;have LB:=kF.ext ew fun _ _ h=>h;refine zd Xa.fo (ud (fun n ρ H'=>iZ c1 c2 pa wl ρ/\ ((n=1/\Hw=H')\/(n=0/\H' (.an wl)=some (.list [])/\∃ hp',(hp'=hp.set y r2\/∃ z:Nat,r2=⟨0,z⟩/\z≠y/\hp'=hp.set z ⟨0,y⟩)/\ym H' hp'/\zf (uH xo (zV (.an wl))) H1 H'))) 1 ⟨⟨_,_,rfl⟩,.inl ⟨rfl,rfl⟩⟩ ?_);rintro m zO H' ⟨⟨x,y',rfl⟩,⟨rfl,rfl⟩|⟨rfl,hw,hp',hc,xk,e⟩⟩ K hk
 .refine jv Xa.fo (xb gw (by simp) (zd Xa.fo (uZ (l:=[]) gw (by simp) fun H3 g3 e3=>?_)));have yc:=Xa.ext e3 fun n _ _ h=>xh h;have Uv:=LB.ext e3 fun n _ h=>xh h;have x3:zf (uH xo (zV (.an wl))) H1 H3:=ew.no.trans e3.onR;refine zd yc.fo (xJ yc hz h1 (zd yc.fo (xJ yc hz h2 (zd yc.fo ?_))));have back:∀ hp' H2 IM,iZ c1 c2 pa wl IM->(hp'=hp.set y r2\/∃ z:Nat,r2=⟨0,z⟩/\z≠y/\hp'=hp.set z ⟨0,y⟩)->ym H2 hp'->zf xo H3 H2->∃ n,n<1/\iZ c1 c2 pa wl IM/\ ((n=1/\Hw=H2)\/(n=0/\H2 (.an wl)=some (.list [])/\∃ hp',(hp'=hp.set y r2\/∃ z:Nat,r2=⟨0,z⟩/\z≠y/\hp'=hp.set z ⟨0,y⟩)/\ym H2 hp'/\zf (uH xo (zV (.an wl))) H1 H2)):=fun hp' H2 IM z0 z1 z2 z3=>⟨0,by decide,z0,.inr ⟨rfl,z3.get (by unfold xo zV;simp) g3,hp',z1,z2,x3.trans z3.onL⟩⟩;rcases hr with⟨z,rfl,QF⟩|⟨r0,r1,mf,tok,tsz⟩
  .have MC:=h2.root;refine WV (c:=⟨0,y⟩) (e:=⟨0,z⟩) (fun z=>QF (Yh z).symm) (zd yc.fo (j6 (c:=⟨0,y⟩) (zd yc.fo (j6 (c:=⟨0,z⟩) (zd yc.fo ?_)))));exact Q3 yc QD (xU MC).1 QF hz fun hp' H2 hc a b=>gV (hk (back hp' H2 _ ⟨_,_,rfl⟩ (hc.imp id fun h=>⟨z,rfl,QF,h⟩) a b))
  .have wJ:(⟨0,(y:Int)⟩:Cl)≠r2:=fun e=>r0 (by rw[<-e]);refine WV (c:=⟨0,y⟩) (e:=r2) wJ (zd yc.fo (j6 (c:=⟨0,y⟩) (zd yc.fo (j6 (c:=r2) (zd yc.fo ?_)))));exact jE (by simp[r0,r1]) (UB (r:=r2) yc Uv sok hz QD (.stop r0 r1) mf tok tsz fun H4 yn e4=>gV (hk (back _ H4 _ ⟨_,_,rfl⟩ (.inl rfl) yn e4)))
 .exact jv xk.fo (xb hw (by simp) (zd xk.fo (hk (gN (q hp' H' hc xk (e1.no.trans (e.drop qq)))))))
theorem gy (hS:ym H hp)(hz:hp.length<=100000)(h1:zP hp c1 ⟨5,u⟩ n1)(h2:zP hp c2 ⟨5,v⟩ n2) (q:∀ H',zf yA H H'->Q (.bool (u==v)) H'):zh (gr p w B) (d+6) H [.obj (.nm 10),c1.pv,c2.pv,.bool true] (cZ 686) Q X:=by
 refine z9 rfl hS.fo (Ug hS hz fun pa H1 e1 MN=>?_);have zG:=hS.ext e1 (fun _ _ _ h=>h);refine zd zG.fo (yo fun wl Hw qq gw ew=>?_);have Xa:=zG.ext ew fun _ _ _ h=>h;refine zd Xa.fo (ud (fun n ρ H'=>iZ c1 c2 pa wl ρ/\((n=1/\Hw=H')\/(n=0/\u=v/\H' (.an wl)=some (.list [])/\zf (uH yA (zV (.an wl))) H1 H'))) 1 ⟨⟨_,_,rfl⟩,.inl ⟨rfl,rfl⟩⟩ ?_);rintro m zO H' ⟨⟨x,y',rfl⟩,⟨rfl,rfl⟩|⟨rfl,QB,hw,e⟩⟩ K hk
 .refine jv Xa.fo (xb gw (by simp) (zd Xa.fo (uZ (l:=[]) gw (by simp) fun H3 g3 e3=>?_)));have yc:=Xa.ext e3 fun n _ _ h=>xh h;have x3:zf (uH yA (zV (.an wl))) H1 H3:=ew.no.trans e3.onR;refine zd yc.fo (xJ yc hz h1 (zd yc.fo (xJ yc hz h2 (zd yc.fo (Xn (c:=⟨5,u⟩) (e:=⟨5,v⟩) (zd yc.fo ?_))))));by_cases QB:u=v
  .exact qa (by simpa using QB) (hk ⟨0,by decide,⟨_,_,rfl⟩,.inr ⟨rfl,QB,g3,x3⟩⟩)
  .refine jE (by simpa using QB) (j6 (c:=⟨5,u⟩) (zd yc.fo (j6 (c:=⟨5,v⟩) (zd yc.fo (X0 (c:=⟨5,u⟩) (zd yc.fo ?_) yc)))));have:(u==v)=false:=by simpa using QB
   rw[this] at q;exact hk (q H3 (e1.trans (x3.drop qq)))
 .subst QB;rw[show(u==u)=true by simp] at q;exact jv (F:=[]) trivial (xb hw (by simp) (gV (hk (gN (q H' (e1.trans (e.drop qq)))))))
theorem yJ.fox (h:yJ H bits hp xs):∃ i j k,Fa (gr p w B) tx H ([aO bits i j k]++[f5]):=by refine yU h.ns fun i j k n=>?_;exact⟨i,j,k,(h.fo n).app h.st.fo⟩
theorem xF {bits:Int}{i:Nat}{n:Nat}(hM:yJ H bits hp xs)(hz:hp.length<=100000)(Mz:xs.length<=1000)(hi:xs[i]?=some c)(hd:zP hp c r n)(hr:r.t≠1)(q:Q r.pv H):zh (gr p w B) (d+3) H [.obj (.nm 8),.int i] (cZ 743) Q X:=by refine yU (hM.fox (p:=p) (w:=w) (B:=B)) fun i1 i2 i3 F=>?_;have hx:=(xU hi).1;refine z9 rfl F (uj (p:=c.pv) hM.x (A22 0x1F479610042008408FAC00 hx Mz) (w9 hi) (zd F ?_));exact Xy hM.st hz hd hr (zd F q)
theorem yJ.go (x:yJ H bits hp xs)(h:ym H' hp')(e:zf xo H H'):yJ H' bits hp' xs:=by refine yU x.ns fun i j k hn=>?_;exact⟨e.get (by unfold xo zV;simp) x.inst,⟨i,j,k,e.get (by unfold xo zV;simp) hn⟩,e.get (by unfold xo zV;simp) x.x,h⟩
theorem yJ.setx (x:yJ H bits hp xs)(e:zf (zV (.nm 15)) H H')(h:H' (.nm 15)=some (.list (ye.map Cl.pv))):yJ H' bits hp ye:=by refine yU x.ns fun i j k hn=>?_;exact⟨e.get (by unfold zV;simp) x.inst,⟨i,j,k,e.get (by unfold zV;simp) hn⟩,h,x.st.ext e fun n h1 h2 z=>by cases z;exact A01 0xD6C0103186 h2⟩
theorem K6 {bits:Int}{y n1 n2:Nat}(vB:yJ H bits hp xs)(hM:zj H S)(sok:S.Ok)(hz:hp.length<=100000)(h1:zP hp c1 ⟨0,y⟩ n1)(h2:zP hp c2 r2 n2) (hr:(∃ z:Nat,r2=⟨0,z⟩/\z≠y)\/(r2.t≠0/\r2.t≠1/\OT hp y r2 t/\t.Ok S/\t.size<=500)) (q:∀ hp' H',(hp'=hp.set y r2\/∃ z:Nat,r2=⟨0,z⟩/\z≠y/\hp'=hp.set z ⟨0,y⟩)->yJ H' bits hp' xs->zf xo H H'->Q (.bool true) H'):zh (gr p w B) (d+7) H [.obj (.nm 8),c1.pv,c2.pv] (cZ 750) Q X:=by refine yU (vB.fox (p:=p) (w:=w) (B:=B)) fun i1 i2 i3 F=>?_;exact z9 rfl F (m3 vB.st hM sok hz h1 h2 hr fun hp' H' z1 z2 z3=>gV (q hp' H' z1 (vB.go z2 z3) z3))
theorem cF (vB:yJ H bits hp xs)(hz:hp.length<=100000)(h1:zP hp c1 ⟨5,u⟩ n1)(h2:zP hp c2 ⟨5,v⟩ n2) (q:∀ H',zf yA H H'->Q (.bool (u==v)) H'):zh (gr p w B) (d+7) H [.obj (.nm 8),c1.pv,c2.pv] (cZ 750) Q X:=by refine yU (vB.fox (p:=p) (w:=w) (B:=B)) fun i1 i2 i3 F=>?_;exact z9 rfl F (gy vB.st hz h1 h2 fun H' z3=>gV (q H' z3))
theorem Y4 (hp:List Cl):qL hp []:=⟨fun _ _ h=>(zJ h),fun _ _ _ h=>(zJ h)⟩
theorem c8 (bS:vm S)(vB:yJ H bits hp xs)(hM:zj H S)(sok:S.Ok)(ok:t.Ok S)(hz:hp.length+2*t.size<=90000)(JE:t.size<=1000) (q:∀ c hp' tab' H',q7 hp [] t c hp' tab'->yJ H' bits hp' xs->zf xo H H'->Q c.pv H'):zh (gr p w B) (d+5) H [.obj (.nm 8),t.pv] (cZ 764) Q X:=by refine yU (vB.fox (p:=p) (w:=w) (B:=B)) fun i1 i2 i3 F=>?_;refine z9 rfl F (.I (jS fun a H1 na g1 e1=>gV ?_));refine jo (tab:=[]) bS (hM.ext e1 fun _ _ h=>h) sok (vB.st.ext e1 fun _ _ _ h=>h) (fun n _ h=>v7 h) g1 (Y4 _) ok hz (by simpa using JE) fun c hp' tab' H' z1 z2 z3 z4=>gV ?_;have e:=(e1.no.trans z4).drop (N:=xo) na;exact q c hp' tab' H' z1 (vB.go z2 e) e
theorem pW (vB:yJ H bits hp xs)(hn:n<=xs.length)(hz:xs.length<=1000) (q:∀ ye H',ye[n]?=some c->(∀ i<n,ye[i]?=xs[i]?)->n<ye.length->ye.length<=max xs.length (n+1)->yJ H' bits hp ye->zf (zV (.nm 15)) H H'->Q .none H'):zh (gr p w B) (d+1) H [.obj (.nm 8),.int n,c.pv] (cZ 729) Q X:=by
 refine yU (vB.fox (p:=p) (w:=w) (B:=B)) fun i1 i2 i3 F=>?_;refine z9 rfl F (ud (fun m ρ H'=>ρ=[some (.obj (.nm 8)),some (.int n),some c.pv]/\ ((m=1/\H=H'/\xs.length=n)\/(m=0/\∃ ye,(∀ i<n,ye[i]?=xs[i]?)/\n<ye.length/\ye.length<=max xs.length (n+1)/\yJ H' bits hp ye/\zf (zV (.nm 15)) H H'))) (if xs.length=n then 1 else 0) ⟨rfl,?_⟩ ?_)
 .by_cases h:xs.length=n
  .exact .inl ⟨if_pos h,rfl,h⟩
  .exact .inr ⟨if_neg h,xs,fun _ _=>rfl,by lia,by lia,vB,.refl⟩
 .rintro m zO H' ⟨rfl,⟨rfl,rfl,hl⟩|⟨rfl,ye,g1,g2,g3,g4,g5⟩⟩ K hk
  .refine jv F (xb vB.x (A22 0x1F479610042010407FAC00 (List.length_map ..) hz) (zd F (wb (by simp;exact A21 0x804100400 hl) (xy vB.x F (xV vB.x (A22 0x1F479610042010407FAC00 (List.length_map ..) hz) fun H2 h2 e2=>gV ?_)))));exact hk ⟨0,by decide,rfl,.inr ⟨rfl,xs++[Cl.mk 5 0],fun i hi=>List.getElem?_append_left (A32 0x104611002100401 hi hl),A32 0x8616B1024046100401 (List.length_append ..) hl,by simp;lia,vB.setx e2 (by rw[h2,List.map_append];rfl),e2⟩⟩
  .refine yU (g4.fox (p:=p) (w:=w) (B:=B)) fun j1 j2 j3 F'=>?_;refine jv F' (xb g4.x (by simp;lia) (zd F' (yZ (by simp;exact A21 0x802100401 g2) (hk<|goN F' (vV g4.x (A32 0x104611002100401 g2 (List.length_map ..)) (by simp;lia) fun H2 h2 e2=>gN ?_)))));exact q (ye.set n c) _ (List.getElem?_set_self g2) (fun i hi=>by rw[List.getElem?_set_ne (by lia)];exact g1 i hi) (by simpa using g2) (by simpa using g3) (g4.setx e2 (by rw[h2,List.map_set])) (g5.trans e2)
inductive FD (H:AH)(bits:Int)(hp xs cs:List Cl)(li:Id)(r:List PV)(H':AH):Lc->Prop
 |mk (j:Nat) (ye:List Cl) (a3:Option PV) (hj:j<=cs.length) (hr:r=(cs.drop j).map Cl.pv) (g1:∀ i<j,ye[i+1]?=cs[i]?) (g2:j+1<=ye.length) (g3:ye.length<=max xs.length (j+1)) (g4:yJ H' bits hp ye) (g5:zf (zV (.nm 15)) H H'):FD H bits hp xs cs li r H' [some (.obj (.nm 8)),some (.obj li),some (.int j),a3]
theorem cU {bits:Int}{hp xs cs:List Cl}{li:Id}(vB:yJ H bits hp xs)(hl:H li=some (.list (cs.map Cl.pv)))(vM:∀ n<16,li≠.nm n)(hn:1<=xs.length)(hz:xs.length<=900)(Qv:cs.length<=50) (q:∀ ye H',(∀ i,i<cs.length->ye[i+1]?=cs[i]?)->1<=ye.length->ye.length<=max xs.length (cs.length+1)->yJ H' bits hp ye->zf (zV (.nm 15)) H H'->Q .none H'):zh (gr p w B) (d+2) H [.obj (.nm 8),.obj li] (cZ 736) Q X:=by
 refine yU (vB.fox (p:=p) (w:=w) (B:=B)) fun i1 i2 i3 F=>?_;refine z9 rfl F (r6 hl (A22 0x1979610042010406FAC00 (List.length_map ..) Qv) (fun r zO H'=>FD H bits hp xs cs li r H' zO) ⟨0,xs,_,Nat.zero_le _,rfl,fun i hi=>by lia,hn,by lia,vB,.refl⟩ ?_ ?_)
 .rintro x r zO H' ⟨j,ye,a3,hj,hr,g1,g2,g3,g4,g5⟩;have kh:j<cs.length:=by
   rcases Nat.lt_or_ge j cs.length with h|h
   .exact h
   .rw[List.drop_eq_nil_of_le h] at hr;exact Kw hr
  rw[List.drop_eq_getElem_cons kh,List.map_cons] at hr;simp only[List.cons.injEq] at hr;refine a2 hr fun xA zW=>?_;clear hr;subst xA zW;intro K hk;refine yU (g4.fox (p:=p) (w:=w) (B:=B)) fun j1 j2 j3 F'=>?_;refine w8 F' (pW (n:=j+1) (c:=cs[j]) g4 g2 (by lia) fun IJ yr z1 z2 z3 z4 z5 z6=>gV ?_);refine hk ⟨z6.get (vM 15 (by decide)) (g5.get (vM 15 (by decide)) hl),j+1,IJ,_,kh,rfl,fun i hi=>?_,z3,by lia,z5,g5.trans z6⟩;by_cases e:i=j
  .subst e;rw[z1,List.getElem?_eq_getElem kh]
  .rw[z2 (i+1) (by lia)];exact g1 i (by lia)
 .rintro zO H' ⟨j,ye,a3,hj,hr,g1,g2,g3,g4,g5⟩;have kh:j=cs.length:=by
   rcases Nat.lt_or_ge j cs.length with h|h
   .rw[List.drop_eq_getElem_cons h] at hr;exact KI hr
   .exact Nat.le_antisymm (A21 0x800100400 hj) (A21 0x800100400 h)
  subst kh;exact gN (q ye H' g1 (A21 0xD0A001001A0 g2) g3 g4 g5)
end
section
variable {p:Program} {w:World} {B:Heap} {H:AH} {d:Nat} {X Q:PV->AH->Prop}
abbrev N3 (a b c:Addr):Id->Prop:=uH (uH (uH yA (zV (.an c))) (zV (.an b))) (zV (.an a))
theorem cK (l:List (Int×PV))(k:Int)(v:PV):(X8 l k v).length<=l.length+1:=by unfold X8;split<;>simp
def Kn (S:Sy)(hp:List Cl)(r:Cl)(term:PV):Prop:=(∃ n:Int,r=⟨4,n⟩/\term=Yj n)\/(∃ (x f:Nat) (e:Cl) (m a:Int) (k':Nat),r=⟨2,x⟩/\hp[x]?=some ⟨6,f⟩/\hp[x+1]?=some e/\zP hp e ⟨5,m⟩ k'/\S.funs[f]?=some (a,1)/\term=.tup [.str "s",.int f,.tup [XA m]])
structure vH (H:AH)(wa ra ka:Addr)(H':AH)(W R:List PV)(K:List (Int×PV)):Prop where
 wr:wa≠ra
 wk:wa≠ka
 kr:ka≠ra
 w:H' (.an wa)=some (.list W)
 r:H' (.an ra)=some (.list R)
 k:H' (.an ka)=some (.dictI K)
 ext:zf (N3 wa ra ka) H H'
theorem JT (h:b≠a):¬zV (.an a) (.an b):=fun z=>h (by cases z;rfl)
section
variable {wa ra ka:Addr} {H' H2:AH} {W R W2 R2:List PV} {K K2:List (Int×PV)}
theorem vH.sw (x:vH H wa ra ka H' W R K)(e:zf (zV (.an wa)) H' H2)(h:H2 (.an wa)=some (.list W2)):vH H wa ra ka H2 W2 R K:=⟨x.wr,x.wk,x.kr,h,e.get (JT x.wr.symm) x.r,e.get (JT x.wk.symm) x.k,x.ext.trans e.onR⟩
theorem vH.sr (x:vH H wa ra ka H' W R K)(e:zf (zV (.an ra)) H' H2)(h:H2 (.an ra)=some (.list R2)):vH H wa ra ka H2 W R2 K:=⟨x.wr,x.wk,x.kr,e.get (JT x.wr) x.w,h,e.get (JT x.kr) x.k,x.ext.trans e.onR.onL⟩
theorem vH.sk (x:vH H wa ra ka H' W R K)(e:zf (zV (.an ka)) H' H2)(h:H2 (.an ka)=some (.dictI K2)):vH H wa ra ka H2 W R K2:=⟨x.wr,x.wk,x.kr,e.get (JT x.wk) x.w,e.get (JT x.kr.symm) x.r,h,x.ext.trans e.onR.onL.onL⟩
theorem vH.no (x:vH H wa ra ka H' W R K)(e:zf yA H' H2):vH H wa ra ka H2 W R K:=⟨x.wr,x.wk,x.kr,e.get (fun h=>h) x.w,e.get (fun h=>h) x.r,e.get (fun h=>h) x.k,x.ext.trans e.no⟩
theorem vH.nn (n:Nat):¬N3 wa ra ka (.nm n):=fun h=>by
 rcases h with((h|h)|h)|h
 .exact h
 .exact xh h
 .exact xh h
 .exact xh h
theorem vH.st (x:vH H wa ra ka H' W R K)(h:ym H hp):ym H' hp:=h.ext x.ext fun n _ _=>vH.nn n
theorem vH.sym (x:vH H wa ra ka H' W R K)(h:zj H S):zj H' S:=h.ext x.ext fun n _=>vH.nn n
end
inductive rx (H:AH)(ti:Id)(wa ra ka:Addr)(n:Int)(H':AH):Nat->Lc->Prop
 |a (x1 x6 x7 x8 x9 vN uk xW:Option PV) (I:vH H wa ra ka H' [.tup [.int 0,(Cl.mk 4 n).pv]] [] []):rx H ti wa ra ka n H' 1 [some (.obj (.nm 10)),x1,some (.obj ti),some (.obj (.an ka)),some (.obj (.an ra)),some (.obj (.an wa)),x6,x7,x8,x9,vN,uk,xW]|b (x1 x6 x7 x8 x9 vN uk xW:Option PV) (I:vH H wa ra ka H' [] [Yj n] []):rx H ti wa ra ka n H' 0 [some (.obj (.nm 10)),x1,some (.obj ti),some (.obj (.an ka)),some (.obj (.an ra)),some (.obj (.an wa)),x6,x7,x8,x9,vN,uk,xW]
inductive cq (H:AH)(ti:Id)(wa ra ka:Addr)(x:Nat)(f m:Int)(e:Cl)(H':AH):Nat->Lc->Prop
 |a (x1 x6 x7 x8 x9 vN uk xW:Option PV) (I:vH H wa ra ka H' [.tup [.int 0,(Cl.mk 2 x).pv]] [] []):cq H ti wa ra ka x f m e H' 3 [some (.obj (.nm 10)),x1,some (.obj ti),some (.obj (.an ka)),some (.obj (.an ra)),some (.obj (.an wa)),x6,x7,x8,x9,vN,uk,xW]|b (x1 x6 x7 x8 x9 vN uk xW:Option PV) (l:List (Int×PV)) (hl:l.length<=3) (I:vH H wa ra ka H' [.tup [.int 1,(Cl.mk 2 x).pv],.tup [.int 0,e.pv]] [] l):cq H ti wa ra ka x f m e H' 2 [some (.obj (.nm 10)),x1,some (.obj ti),some (.obj (.an ka)),some (.obj (.an ra)),some (.obj (.an wa)),x6,x7,x8,x9,vN,uk,xW]|c (x1 x6 x7 x8 x9 vN uk xW:Option PV) (l:List (Int×PV)) (hl:l.length<=3) (I:vH H wa ra ka H' [.tup [.int 1,(Cl.mk 2 x).pv]] [XA m] l):cq H ti wa ra ka x f m e H' 1 [some (.obj (.nm 10)),x1,some (.obj ti),some (.obj (.an ka)),some (.obj (.an ra)),some (.obj (.an wa)),x6,x7,x8,x9,vN,uk,xW]|z (x1 x6 x7 x8 x9 vN uk xW:Option PV) (l:List (Int×PV)) (I:vH H wa ra ka H' [] [.tup [.str "s",.int f,.tup [XA m]]] l):cq H ti wa ra ka x f m e H' 0 [some (.obj (.nm 10)),x1,some (.obj ti),some (.obj (.an ka)),some (.obj (.an ra)),some (.obj (.an wa)),x6,x7,x8,x9,vN,uk,xW]
theorem pw (hM:zj H S)(sok:S.Ok)(hS:ym H hp)(hz:hp.length<=100000)(hd:zP hp c r k)(hc:Kn S hp r term) (q:∀ H',zf yA H H'->Q term H'):zh (gr p w B) (d+4) H [.obj (.nm 10),c.pv,.obj ti] (cZ 413) Q X:=by
 have iP:r.t≠0/\r.t≠1:=by
  rcases hc with⟨n,rfl,-⟩|⟨x,f,e,m,a,k',rfl,-⟩
  .exact⟨by simp,by simp⟩
  .exact⟨by simp,by simp⟩
 have Gi:zP hp r r 0:=.stop iP.1 iP.2;refine z9 rfl hS.fo (.I (jS fun ka H1 nk gk ek=>?_));have zG:=hS.ext ek fun _ _ _ h=>h;refine zd zG.fo (yo fun ra H2 nr FY er=>?_);have zN:=zG.ext er fun _ _ _ h=>h;refine zd zN.fo (Xy zN hz hd iP.2 (zd zN.fo (yo fun wa H3 nw gw ew=>?_)));have yc:=zN.ext ew fun _ _ _ h=>h;have FX:=er.get (fun h=>h) gk;have L8:ka≠ra:=fun e=>by subst e;rw[gk] at nr;exact qE nr
 have My:wa≠ra:=fun e=>by subst e;rw[FY] at nw;exact qE nw
 have Mx:wa≠ka:=fun e=>by subst e;rw[FX] at nw;exact qE nw
 have e3:=(ek.trans er).trans ew;have I0:vH H wa ra ka H3 [.tup [.int 0,r.pv]] [] []:=⟨My,Mx,L8,gw,ew.get (fun h=>h) FY,ew.get (fun h=>h) FX,e3.no⟩;have fin:∀ {H':AH} {W R:List PV} {K:List (Int×PV)},vH H wa ra ka H' W R K->zf yA H H':=fun I=>((I.ext.drop (ek.back (fun h=>h) (er.back (fun h=>h) nw))).drop (ek.back (fun h=>h) nr)).drop nk;rcases hc with⟨n,rfl,rfl⟩|⟨x,f,e,m,a,k',rfl,hx0,wy,sJ,hf,rfl⟩
 .refine zd yc.fo (ud (fun m ρ H'=>rx H ti wa ra ka n H' m ρ) 1 (.a _ _ _ _ _ _ _ _ I0) ?_);rintro m zO H' (⟨x1,x6,x7,x8,x9,vN,uk,xW,I⟩|⟨x1,x6,x7,x8,x9,vN,uk,xW,I⟩) K hk
  .refine jv (I.st hS).fo (xb I.w (by simp) (zd (I.st hS).fo (uZ (l:=[]) I.w (by simp) fun H4 g4 e4=>?_)));have I4:=I.sw e4 g4;refine zd (I4.st hS).fo (xJ (c:=⟨4,n⟩) (I4.st hS) hz Gi (zd (I4.st hS).fo (ku I4.r (by simp) fun H5 g5 e5=>gV ?_)));exact hk ⟨0,by decide,.b _ _ _ _ _ _ _ _ (I4.sr e5 g5)⟩
  .refine jv (F:=[]) trivial (xb I.w (by simp) (gV (hk<|gN (yF (k:=0) (p:=Yj n) I.r (by decide) (by decide) rfl (gV ?_)))));exact q H' (fin I)
 .refine zd yc.fo (ud (fun j ρ H'=>cq H ti wa ra ka x f m e H' j ρ) 3 (.a _ _ _ _ _ _ _ _ I0) ?_);rintro j zO H' (⟨x1,x6,x7,x8,x9,vN,uk,xW,I⟩|⟨x1,x6,x7,x8,x9,vN,uk,xW,l,hl,I⟩|⟨x1,x6,x7,x8,x9,vN,uk,xW,l,hl,I⟩|⟨x1,x6,x7,x8,x9,vN,uk,xW,l,I⟩) K hk
  .refine jv (I.st hS).fo (xb I.w (by simp) (zd (I.st hS).fo (uZ (l:=[]) I.w (by simp) fun H4 g4 e4=>?_)));have I4:=I.sw e4 g4;refine zd (I4.st hS).fo (xJ (c:=⟨2,x⟩) (I4.st hS) hz Gi (zd (I4.st hS).fo (lp I4.k (zd (I4.st hS).fo ?_))));refine Xp I4.k (by simp) fun H5 g5 e5=>?_;have I5:=I4.sk e5 g5;refine goN (I5.st hS).fo (xy I5.w (I5.st hS).fo (xV I5.w (by simp) fun H6 g6 e6=>?_));have I6:=I5.sw e6 g6;have F6:=(I6.st hS).fo (p:=p) (w:=w) (B:=B);refine zd F6 (WK (c:=⟨2,x⟩) (I6.st hS) (show(2:Int)≠3 by decide) (zd F6 (Z6 F6 (We (x:=x) (I6.st hS) (I6.sym hM) sok hz hx0 hf (zd F6 ⟨0,-1,rfl,by decide,by decide,by decide,by decide,X7 ?_⟩)))));rw[WC];have IC:=(xU wy).1;refine w8 F6 (xy I6.w F6 (uj (n:=x+1+0) (I6.st hS).heap (Nat.le_trans (Nat.le_of_lt IC) (Nat.le_trans hz (by decide))) (w9 wy) (zd F6 (xV I6.w (by simp) fun H7 g7 e7=>gV ⟨trivial,gN ?_⟩))));exact hk ⟨2,by decide,.b _ _ _ _ _ _ _ _ _ (Nat.le_trans (cK [] x .none) (by simp)) (I6.sw e7 g7)⟩
  .refine jv (I.st hS).fo (xb I.w (by simp) (zd (I.st hS).fo (uZ (l:=[.tup [.int 1,(Cl.mk 2 x).pv]]) I.w (by simp) fun H4 g4 e4=>?_)));have I4:=I.sw e4 g4;refine zd (I4.st hS).fo (xJ (I4.st hS) hz sJ (zd (I4.st hS).fo (ku I4.r (by simp) fun H5 g5 e5=>gV ?_)));exact hk ⟨1,by decide,.c _ _ _ _ _ _ _ _ l hl (I4.sr e5 g5)⟩
  .refine jv (I.st hS).fo (xb I.w (by simp) (zd (I.st hS).fo (uZ (l:=[]) I.w (by simp) fun H4 g4 e4=>?_)));have I4:=I.sw e4 g4;have F4:=(I4.st hS).fo (p:=p) (w:=w) (B:=B);refine zd F4 (Z5 (x:=x) (I4.st hS) hz hx0 (zd F4 (xb I4.r (by simp) (zd F4 (We (x:=x) (I4.st hS) (I4.sym hM) sok hz hx0 hf (zd F4 (nP (li:=.an ra) rfl rfl I4.r (by simp) fun sa H5 ns g5 e5=>?_)))))));have I5:=I4.no e5;refine gV (jb g5 (by simp) (gV (gF (li:=.an ra) rfl rfl I5.r (by simp) fun H6 g6 e6=>?_)));have I6:=I5.sr e6 g6;refine gN (Xp I6.k (A11 0x1E000406FAC00 hl) fun H7 g7 e7=>?_);have I7:=I6.sk e7 g7;refine gN (ku I7.r (by simp) fun H8 g8 e8=>gV ?_);exact hk ⟨0,by decide,.z _ _ _ _ _ _ _ _ _ (I7.sr e8 g8)⟩
  .refine jv (F:=[]) trivial (xb I.w (by simp) (gV (hk<|gN (yF (k:=0) I.r (by decide) (by decide) rfl (gV ?_)))));exact q H' (fin I)
theorem nB (vB:yJ H bits hp xs)(hM:zj H S)(sok:S.Ok)(hz:hp.length<=100000)(hd:zP hp c r k)(hc:Kn S hp r term) (q:∀ H',zf yA H H'->Q term H'):zh (gr p w B) (d+5) H [.obj (.nm 8),c.pv] (cZ 757) Q X:=by refine yU (vB.fox (p:=p) (w:=w) (B:=B)) fun i1 i2 i3 F=>?_;refine z9 rfl F (.I (jS fun a H1 na g1 e1=>gV ?_));exact pw (hM.ext e1 fun _ _ h=>h) sok (vB.st.ext e1 fun _ _ _ h=>h) hz hd hc fun H' e=>gV (q H' (e1.trans e))
end
section
variable {p:Program} {w:World} {B:Heap} {H:AH} {d:Nat} {X Q:PV->AH->Prop}
theorem zP.self_ (h:zP hp c r n):zP hp r r 0:=by
 rcases h.end_ with z|⟨x,rfl⟩
 .exact .stop z.1 z.2
 .exact .self h.root
theorem HT.der:∀ {t:Tr},HT hp c t->∃ r n,zP hp c r n
 |.V k,⟨n,x,h1⟩=>⟨_,n,h1⟩|.A a,⟨n,x⟩=>⟨_,_,x⟩|.I a,⟨n,x⟩=>⟨_,_,x⟩|.U f a op t,⟨x,n,e,h1,_,_,_⟩=>⟨_,_,h1⟩|.B f a op l s,⟨x,n,e1,e2,h1,_,_⟩=>by
  rcases h1 with⟨a1,a2⟩|⟨a0,a1,a2,a3⟩
  .exact⟨_,_,a1⟩
  .exact⟨_,_,a2⟩
theorem zP.ne1 (h:zP hp c r n):r.t≠1:=by
 rcases h.end_ with z|⟨x,rfl⟩
 .exact z.2
 .exact(by decide:(0:Int)≠1)
structure zL (H:AH)(S:Sy)(bits:Int)(hp xs:List Cl):Prop where
 mac:yJ H bits hp xs
 sym:zj H S
 ok:S.Ok
 bits64:bits<=64
 len:hp.length<=100000
 xlen:xs.length<=1000
theorem zL.ext (g:zL H S bits hp xs)(e:zf yA H H'):zL H' S bits hp xs:=⟨g.mac.ext e fun _ _ _ h=>h,g.sym.ext e fun _ _ h=>h,g.ok,g.bits64,g.len,g.xlen⟩
structure z8 (S:Sy)(hp:List Cl)(c:Cl)(t:Tr):Prop where
 at_:HT hp c t
 ok:t.Ok S
 size:t.size<=500
 peak:t.peak<=hp.length
theorem xT (g:zL H S bits hp xs)(ht:z8 S hp c t)(hd:zP hp c r n) (q:∀ x,ev bits t=.ok x->∀ H',zL H' S bits hp xs->zf yA H H'->Q (.int x) H') (qe:∀ e,ev bits t=.error e->y9 H S X e):zh (gr p w B) (d+11) H [.obj (.nm 8),r.pv] (cZ 539) Q X:=
 Wx g.mac g.sym g.ok ht.ok ht.size g.bits64 (ht.at_.same hd hd.self_) ht.peak g.len (fun x hx H' _ e=>q x hx H' (g.ext e) e) qe
theorem y9.pre (h:y9 H S X e)(e1:zf yA H H1):y9 H1 S X e:=fun H' h1 h2=>h H' h1 (e1.no.trans h2)
theorem f3 {S:Sy}{bits:Int}{hp xs:List Cl}{c1 c2:Cl}{t1 t2:Tr}(g:zL H S bits hp xs)(h1:xs[1]?=some c1)(h2:xs[2]?=some c2)(wD:z8 S hp c1 t1)(vI:z8 S hp c2 t2) (q:∀ x y,ev bits t1=.ok x->ev bits t2=.ok y->∀ H',zL H' S bits hp xs->zf yA H H'->Q (.bool (x==y)) H') (qe:∀ e,(ev bits t1).bind (fun _=>ev bits t2)=.error e->y9 H S X e):zh (gr p w B) (d+12) H [.obj (.nm 8)] (cZ 560) Q X:=by refine vg wD.at_.der fun r1 n1 wc=>?_;refine vg vI.at_.der fun r2 n2 hd2=>?_;refine yU (g.mac.fox (p:=p) (w:=w) (B:=B)) fun i1 i2 i3 F=>?_;refine z9 rfl F (xF (i:=1) g.mac g.len g.xlen h1 wc wc.ne1 (zd F (xT g wD wc (fun x hx H1 g1 e1=>?_) fun e he=>qe e (by rw[he];rfl))));refine yU (g1.mac.fox (p:=p) (w:=w) (B:=B)) fun j1 j2 j3 F1=>?_;exact zd F1 (xF (i:=2) g1.mac g1.len g1.xlen h2 hd2 hd2.ne1 (zd F1 (xT g1 vI hd2 (fun y hy H2 g2 e2=>gV (q x y hx hy H2 g2 (e1.trans e2))) fun e he=>(qe e (by rw[hx];exact he)).pre e1)))
theorem fH {S:Sy}{bits:Int}{hp xs:List Cl}{c1 c2:Cl}{t1 t2:Tr}(g:zL H S bits hp xs)(h1:xs[1]?=some c1)(h2:xs[2]?=some c2)(wD:z8 S hp c1 t1)(vI:z8 S hp c2 t2) (q:∀ x y,ev bits t1=.ok x->ev bits t2=.ok y->∀ H',zL H' S bits hp xs->zf yA H H'->Q (.bool (x !=y)) H') (qe:∀ e,(ev bits t1).bind (fun _=>ev bits t2)=.error e->y9 H S X e):zh (gr p w B) (d+12) H [.obj (.nm 8)] (cZ 567) Q X:=by refine vg wD.at_.der fun r1 n1 wc=>?_;refine vg vI.at_.der fun r2 n2 hd2=>?_;refine yU (g.mac.fox (p:=p) (w:=w) (B:=B)) fun i1 i2 i3 F=>?_;refine z9 rfl F (xF (i:=1) g.mac g.len g.xlen h1 wc wc.ne1 (zd F (xT g wD wc (fun x hx H1 g1 e1=>?_) fun e he=>qe e (by rw[he];rfl))));refine yU (g1.mac.fox (p:=p) (w:=w) (B:=B)) fun j1 j2 j3 F1=>?_;exact zd F1 (xF (i:=2) g1.mac g1.len g1.xlen h2 hd2 hd2.ne1 (zd F1 (xT g1 vI hd2 (fun y hy H2 g2 e2=>gV (q x y hx hy H2 g2 (e1.trans e2))) fun e he=>(qe e (by rw[hx];exact he)).pre e1)))
theorem gC {S:Sy}{bits:Int}{hp xs:List Cl}{c1 c2:Cl}{t1 t2:Tr}(g:zL H S bits hp xs)(h1:xs[1]?=some c1)(h2:xs[2]?=some c2)(wD:z8 S hp c1 t1)(vI:z8 S hp c2 t2) (q:∀ x y,ev bits t1=.ok x->ev bits t2=.ok y->∀ H',zL H' S bits hp xs->zf yA H H'->Q (.bool (decide (x<y))) H') (qe:∀ e,(ev bits t1).bind (fun _=>ev bits t2)=.error e->y9 H S X e):zh (gr p w B) (d+12) H [.obj (.nm 8)] (cZ 574) Q X:=by refine vg wD.at_.der fun r1 n1 wc=>?_;refine vg vI.at_.der fun r2 n2 hd2=>?_;refine yU (g.mac.fox (p:=p) (w:=w) (B:=B)) fun i1 i2 i3 F=>?_;refine z9 rfl F (xF (i:=1) g.mac g.len g.xlen h1 wc wc.ne1 (zd F (xT g wD wc (fun x hx H1 g1 e1=>?_) fun e he=>qe e (by rw[he];rfl))));refine yU (g1.mac.fox (p:=p) (w:=w) (B:=B)) fun j1 j2 j3 F1=>?_;exact zd F1 (xF (i:=2) g1.mac g1.len g1.xlen h2 hd2 hd2.ne1 (zd F1 (xT g1 vI hd2 (fun y hy H2 g2 e2=>gV (q x y hx hy H2 g2 (e1.trans e2))) fun e he=>(qe e (by rw[hx];exact he)).pre e1)))
theorem gn {S:Sy}{bits:Int}{hp xs:List Cl}{c1 c2:Cl}{t1 t2:Tr}(g:zL H S bits hp xs)(h1:xs[1]?=some c1)(h2:xs[2]?=some c2)(wD:z8 S hp c1 t1)(vI:z8 S hp c2 t2) (q:∀ x y,ev bits t1=.ok x->ev bits t2=.ok y->∀ H',zL H' S bits hp xs->zf yA H H'->Q (.bool (decide (y<x))) H') (qe:∀ e,(ev bits t1).bind (fun _=>ev bits t2)=.error e->y9 H S X e):zh (gr p w B) (d+12) H [.obj (.nm 8)] (cZ 581) Q X:=by refine vg wD.at_.der fun r1 n1 wc=>?_;refine vg vI.at_.der fun r2 n2 hd2=>?_;refine yU (g.mac.fox (p:=p) (w:=w) (B:=B)) fun i1 i2 i3 F=>?_;refine z9 rfl F (xF (i:=1) g.mac g.len g.xlen h1 wc wc.ne1 (zd F (xT g wD wc (fun x hx H1 g1 e1=>?_) fun e he=>qe e (by rw[he];rfl))));refine yU (g1.mac.fox (p:=p) (w:=w) (B:=B)) fun j1 j2 j3 F1=>?_;exact zd F1 (xF (i:=2) g1.mac g1.len g1.xlen h2 hd2 hd2.ne1 (zd F1 (xT g1 vI hd2 (fun y hy H2 g2 e2=>gV (q x y hx hy H2 g2 (e1.trans e2))) fun e he=>(qe e (by rw[hx];exact he)).pre e1)))
theorem gA {S:Sy}{bits:Int}{hp xs:List Cl}{c1 c2:Cl}{t1 t2:Tr}(g:zL H S bits hp xs)(h1:xs[1]?=some c1)(h2:xs[2]?=some c2)(wD:z8 S hp c1 t1)(vI:z8 S hp c2 t2) (q:∀ x y,ev bits t1=.ok x->ev bits t2=.ok y->∀ H',zL H' S bits hp xs->zf yA H H'->Q (.bool (decide (x<=y))) H') (qe:∀ e,(ev bits t1).bind (fun _=>ev bits t2)=.error e->y9 H S X e):zh (gr p w B) (d+12) H [.obj (.nm 8)] (cZ 588) Q X:=by refine vg wD.at_.der fun r1 n1 wc=>?_;refine vg vI.at_.der fun r2 n2 hd2=>?_;refine yU (g.mac.fox (p:=p) (w:=w) (B:=B)) fun i1 i2 i3 F=>?_;refine z9 rfl F (xF (i:=1) g.mac g.len g.xlen h1 wc wc.ne1 (zd F (xT g wD wc (fun x hx H1 g1 e1=>?_) fun e he=>qe e (by rw[he];rfl))));refine yU (g1.mac.fox (p:=p) (w:=w) (B:=B)) fun j1 j2 j3 F1=>?_;exact zd F1 (xF (i:=2) g1.mac g1.len g1.xlen h2 hd2 hd2.ne1 (zd F1 (xT g1 vI hd2 (fun y hy H2 g2 e2=>gV (q x y hx hy H2 g2 (e1.trans e2))) fun e he=>(qe e (by rw[hx];exact he)).pre e1)))
theorem fs {S:Sy}{bits:Int}{hp xs:List Cl}{c1 c2:Cl}{t1 t2:Tr}(g:zL H S bits hp xs)(h1:xs[1]?=some c1)(h2:xs[2]?=some c2)(wD:z8 S hp c1 t1)(vI:z8 S hp c2 t2) (q:∀ x y,ev bits t1=.ok x->ev bits t2=.ok y->∀ H',zL H' S bits hp xs->zf yA H H'->Q (.bool (decide (y<=x))) H') (qe:∀ e,(ev bits t1).bind (fun _=>ev bits t2)=.error e->y9 H S X e):zh (gr p w B) (d+12) H [.obj (.nm 8)] (cZ 595) Q X:=by refine vg wD.at_.der fun r1 n1 wc=>?_;refine vg vI.at_.der fun r2 n2 hd2=>?_;refine yU (g.mac.fox (p:=p) (w:=w) (B:=B)) fun i1 i2 i3 F=>?_;refine z9 rfl F (xF (i:=1) g.mac g.len g.xlen h1 wc wc.ne1 (zd F (xT g wD wc (fun x hx H1 g1 e1=>?_) fun e he=>qe e (by rw[he];rfl))));refine yU (g1.mac.fox (p:=p) (w:=w) (B:=B)) fun j1 j2 j3 F1=>?_;exact zd F1 (xF (i:=2) g1.mac g1.len g1.xlen h2 hd2 hd2.ne1 (zd F1 (xT g1 vI hd2 (fun y hy H2 g2 e2=>gV (q x y hx hy H2 g2 (e1.trans e2))) fun e he=>(qe e (by rw[hx];exact he)).pre e1)))
inductive ZX (hp:List Cl)(c:Cl)(v:Int):Bool->List Cl->Prop
 |same {u:Int} {n:Nat} (h:zP hp c ⟨5,u⟩ n):ZX hp c v (u==v) hp|bind {y n:Nat} (h:zP hp c ⟨0,y⟩ n):ZX hp c v true (hp.set y ⟨5,v⟩)
theorem jf (g:zL H S bits hp xs)(hd:zP hp c r n)(hr:r.t=0\/r.t=5)(hv:Sm v)(q:∀ b hp' H',ZX hp c v b hp'->zL H' S bits hp' xs->zf xo H H'->Q (.bool b) H'):
  zh (gr p w B) (d+7) H [.obj (.nm 8),r.pv,(Cl.mk 5 v).pv] (cZ 750) Q X:=by
 have h5:zP hp ⟨5,v⟩ ⟨5,v⟩ 0:=.stop (by decide:(5:Int)≠0) (by decide:(5:Int)≠1);rcases hr with h0|h0
 .obtain⟨y,rfl⟩:∃ y:Nat,r=⟨0,y⟩:=by
   rcases hd.end_ with z|z
   .exact absurd h0 z.1
   .exact z
  refine K6 (t:=.I v) g.mac g.sym g.ok g.len hd.self_ h5 (.inr ⟨(by decide:(5:Int)≠0),(by decide:(5:Int)≠1),⟨0,h5⟩,hv,(by decide:1<=500)⟩) fun hp' H' h1 h2 h3=>?_
  .rcases h1 with rfl|⟨z,hz,_⟩
   .exact q _ _ H' (.bind hd) ⟨h2,g.sym.ext h3 (fun n hn z=>by cases z;exact A01 0x9602103186 hn),g.ok,g.bits64,by simpa using g.len,g.xlen⟩ h3
   .cases hz
 .obtain⟨t,x⟩:=r;simp only at h0;subst h0;refine cF g.mac g.len hd.self_ h5 fun H' e=>?_;exact q _ _ H' (.same hd) (g.ext e) e.no
theorem c7 {S:Sy}{bits:Int}{hp xs:List Cl}{c1 c2 r1:Cl}{t2:Tr}{n1:Nat}(g:zL H S bits hp xs)(h1:xs[1]?=some c1)(h2:xs[2]?=some c2)(wc:zP hp c1 r1 n1)(Jx:r1.t=0\/r1.t=5)(vI:z8 S hp c2 t2) (q:∀ x,ev bits t2=.ok x->∀ b hp' H',ZX hp c1 x b hp'->zL H' S bits hp' xs->zf xo H H'->Q (.bool b) H') (qe:∀ e,ev bits t2=.error e->y9 H S X e):zh (gr p w B) (d+12) H [.obj (.nm 8)] (cZ 553) Q X:=by refine vg vI.at_.der fun r2 n2 hd2=>?_;refine yU (g.mac.fox (p:=p) (w:=w) (B:=B)) fun i1 i2 i3 F=>?_;refine z9 rfl F (xF (i:=2) g.mac g.len g.xlen h2 hd2 hd2.ne1 (zd F (xT g vI hd2 (fun x hx H1 g1 e1=>?_) fun e he=>qe e he)));refine yU (g1.mac.fox (p:=p) (w:=w) (B:=B)) fun j1 j2 j3 F1=>?_;exact zd F1 (xF (i:=1) g1.mac g1.len g1.xlen h1 wc wc.ne1 (zd F1 (jf (v:=x) g1 wc Jx (AI g.bits64 vI.ok hx) fun b hp' H2 u g2 e2=>gV (q x hx b hp' H2 u g2 (e1.no.trans e2)))))
end
section
set_option genInjectivity false
set_option genSizeOf false
set_option genCtorIdx false
section
variable {p:Program} {w:World} {B:Heap} {H:AH} {d:Nat} {X Q:PV->AH->Prop}
theorem KD {c:Cl}{hp:List Cl}(hS:ym H hp)(h0:c.t≠0)(h1:c.t≠1)(q:Q (.bool false) H):zh (gr p w B) (d+1) H [.obj (.nm 10),c.pv] (cZ 279) Q X:=by refine z9 rfl hS.fo ?_;refine yZ h0 ?_;exact yZ h1 q
def xv (S:Sy)(hp:List Cl)(c:Cl):Tr->Prop|.I n=>(∃ k,zP hp c ⟨5,n⟩ k)/\Sm n|.V _=>∃ k x:Nat,zP hp c ⟨0,x⟩ k|.A n=>∃ k,zP hp c ⟨4,n⟩ k|.U f _ _ (.I m)=>∃ (k x k':Nat) (e:Cl) (a:Int),zP hp c ⟨2,x⟩ k/\hp[x]?=some ⟨6,f⟩/\hp[x+1]?=some e/\zP hp e ⟨5,m⟩ k'/\S.funs[f]?=some (a,1)|_=>False
noncomputable def wA:Tr->Except zT (Option Int)|.I n=>.ok (some n)|.V _=>.ok none|t=>.error (.type "integer" t.pv)
noncomputable def Z7 (t:Tr):Except zT (Option Int):=(wA t).bind fun o=>match o with
 |some n=>if n<0 then .error (.type "not_less_than_zero" (XA n)) else .ok (some n)|none=>.ok none
noncomputable def jT:Option Int->PV|none=>.none|some n=>.int n
theorem UU {S:Sy}{bits:Int}{hp xs:List Cl}{i:Nat}{c:Cl}{t:Tr}(g:zL H S bits hp xs)(h:xs[i]?=some c)(s:xv S hp c t) (q:∀ o,wA t=.ok o->Q (jT o) H) (qe:∀ e,wA t=.error e->y9 H S X e):zh (gr p w B) (d+6) H [.obj (.nm 8),.int i] (cZ 602) Q X:=by
 refine yU (g.mac.fox (p:=p) (w:=w) (B:=B)) fun i1 i2 i3 F=>?_;have bad:∀ {r:Cl} {k:Nat} {l:List PV},zP hp c r k->r.t≠0->r.t≠1->r.t≠5->Kn S hp r (.tup l)->y9 H S X (.type "integer" (.tup l))->zh (gr p w B) (d+6) H [.obj (.nm 8),.int i] (cZ 602) Q X:=by intro r k l hd r0 r1 r5 ta th;refine z9 rfl F (xF g.mac g.len g.xlen h hd hd.ne1 (zd F (yZ r5 (KD (c:=r) g.mac.st r0 r1 (zd F (nB (c:=r) g.mac g.sym g.ok g.len hd.self_ ta fun H1 e1=>?_))))));exact gV (jx (g.sym.ext e1 fun _ _ h=>h) g.ok (by decide) fun rr H' m=>gV ((m.pre e1.no).thrown th))
 cases t with
 |I n=>refine a2 s fun wd ub=>?_;clear s;obtain⟨k,hd⟩:=wd;exact z9 rfl F (xF g.mac g.len g.xlen h hd hd.ne1 (zd F (q (some n) rfl)))
 |V n=>refine vg s fun k x hd=>?_;clear s;refine z9 rfl F (xF g.mac g.len g.xlen h hd hd.ne1 (zd F (JK (x:=x) g.mac.st g.len hd.root (zd F ?_))));exact qa (by simp) (q none rfl)|A n=>refine zA s fun k hd=>?_;clear s;exact bad hd (by simp) (by simp) (by simp) (.inl ⟨n,rfl,rfl⟩) (qe _ rfl)|U f a op t=>
  cases t with
  |I m=>refine rS s fun k x k' e a hd g1 g2 g3 g4=>?_;clear s;exact bad hd (by simp) (by simp) (by simp) (.inr ⟨x,f,e,m,a,k',rfl,g1,g2,g3,g4,rfl⟩) (qe _ rfl)|V n=>exact s.elim|A n=>exact s.elim|U _ _ _ _=>exact s.elim|B _ _ _ _ _=>exact s.elim
 |B _ _ _ _ _=>exact s.elim
theorem lH {bits:Int}{i:Nat}(g:zL H S bits hp xs)(h:xs[i]?=some c)(s:xv S hp c t) (q:∀ o,Z7 t=.ok o->Q (jT o) H) (qe:∀ e,Z7 t=.error e->y9 H S X e):zh (gr p w B) (d+7) H [.obj (.nm 8),.int i] (cZ 609) Q X:=by
 refine yU (g.mac.fox (p:=p) (w:=w) (B:=B)) fun i1 i2 i3 F=>?_;refine z9 rfl F (UU g h s (fun o ho=>?_) (fun e he=>qe e (wX he)));cases o with
 |none=>exact zd F (q none (xe ho rfl))|some n=>
  have e:Z7 t=if n<0 then .error (.type "not_less_than_zero" (XA n)) else .ok (some n):=xe ho rfl;refine zd F ?_;by_cases hn:n<0
  .rw[if_pos hn] at e;exact wb hn (qD (zd F (jx g.sym g.ok (by decide) fun rr H' m=>gV (m.thrown (qe _ e)))))
  .rw[if_neg hn] at e;exact yZ hn (q (some n) e)
inductive bW where|uni (i:Nat) (v:Int)|no
noncomputable def Xj (bits:Int)(t1 t2:Tr):Except zT bW:=(Z7 t1).bind fun a=>(Z7 t2).bind fun b=>match a,b with
 |some n,_=>(y7 bits (n+1)).bind fun v=>.ok (.uni 2 v)|none,none=>.error .inst|none,some m=>if m=0 then .ok .no else .ok (.uni 1 (m-1))
noncomputable def Xo (bits:Int)(t1 t2 t3:Tr):Except zT bW:=(wA t1).bind fun a=>(wA t2).bind fun b=>(wA t3).bind fun c=>match a,b,c with
 |none,some b,some c=>(y7 bits (c-b)).bind fun v=>.ok (.uni 1 v)|none,_,_=>.error .inst|some a,none,some c=>(y7 bits (c-a)).bind fun v=>.ok (.uni 2 v)|some _,none,none=>.error .inst|some a,some b,_=>(y7 bits (a+b)).bind fun v=>.ok (.uni 3 v)
def VM (hp xs:List Cl)(b:Bool)(hp':List Cl):bW->Prop|.uni i v=>∃ c,xs[i]?=some c/\ZX hp c v b hp'|.no=>b=false/\hp'=hp
theorem xv.der (s:xv S hp c t)(h:wA t=.ok o):∃ r k,zP hp c r k/\(r.t=0\/r.t=5):=by
 cases t with
 |I n=>obtain⟨⟨k,hd⟩,_⟩:=s;exact⟨_,k,hd,.inr rfl⟩
 |V n=>obtain⟨k,x,hd⟩:=s;exact⟨_,k,hd,.inl rfl⟩
 |A n=>exact vA h|U f a op t=>exact vA h|B f a op l r=>exact vA h
theorem qM (h:Z7 t=.ok o):wA t=.ok o/\∀ n,o=some n->0<=n:=by refine zg (yt h) fun a h1 h2=>?_;cases a with|none=>cases h2;exact⟨h1,fun n e=>zJ e⟩|some m=>exact vE h2 (fun _ h=>vA h) fun c h=>by cases h;exact⟨h1,fun n e=>by cases e;exact Int.not_lt.mp c⟩
theorem xv.sm (s:xv S hp c t)(h:wA t=.ok (some n)):Sm n:=by cases t with|I m=>cases h;exact s.2|V n=>cases h|A n=>exact vA h|U f a op t=>exact vA h|B f a op l r=>exact vA h
theorem jr (h:(bl v:Int)<=bits):y7 bits v=.ok v:=if_neg (Int.not_lt.mpr h)
theorem WM (h:bits<(bl v:Int)):y7 bits v=.error yD:=if_pos h
theorem rL {S:Sy}{bits:Int}{hp xs:List Cl}{c1 c2:Cl}{t1 t2:Tr}(g:zL H S bits hp xs)(h1:xs[1]?=some c1)(h2:xs[2]?=some c2)(s1:xv S hp c1 t1)(s2:xv S hp c2 t2) (q:∀ a,Xj bits t1 t2=.ok a->∀ b hp' H',VM hp xs b hp' a->zL H' S bits hp' xs->zf xo H H'->Q (.bool b) H') (qe:∀ e,Xj bits t1 t2=.error e->y9 H S X e):zh (gr p w B) (d+12) H [.obj (.nm 8)] (cZ 616) Q X:=by
 refine yU (g.mac.fox (p:=p) (w:=w) (B:=B)) fun i1 i2 i3 F=>?_;refine z9 rfl F (lH (i:=1) g h1 s1 (fun o1 Yr=>zd F (lH (i:=2) g h2 s2 (fun o2 Ys=>?_) (fun e he=>qe e (xe Yr (wX he))))) (fun e he=>qe e (wX he)));refine a2 (qM Yr) fun Iw mc=>?_;refine a2 (qM Ys) fun td Qz=>?_;have q:=fun a h=>q a (xe Yr (xe Ys h));have qe:=fun a h=>qe a (xe Yr (xe Ys h));cases o1 with
 |some n=>refine zd F (uc g.sym g.ok (fun hb=>?_) (fun hb=>qe _ (wX (WM hb))));refine yE (s2.der td) fun r2 k2 hd2 Mh=>?_;refine zd F (xF (i:=2) g.mac g.len g.xlen h2 hd2 hd2.ne1 (zd F (jf (v:=n+1) g hd2 Mh (jt g.bits64 (jr hb)) fun b hp' H' u g' e'=>gV ?_)));exact q (.uni 2 (n+1)) (xe (jr hb) rfl) b hp' H' ⟨c2,h2,u⟩ g' e'|none=>
  cases o2 with
  |none=>exact zd F (kf g.sym g.ok fun rr H' m=>gV (m.thrown (qe _ rfl)))|some m=>
   have ub:=s2.sm td;have wC:=Qz m rfl;refine zd F ?_;by_cases hm:m=0
   .exact wb hm (q .no (if_pos hm) false hp H ⟨rfl,rfl⟩ g .refl)
   .refine yE (s1.der Iw) fun r1 k1 wc Jx=>?_;refine yZ hm (xF (i:=1) g.mac g.len g.xlen h1 wc wc.ne1 (zd F (jf (v:=m-1) g wc Jx (by unfold Sm at ub|-;lia) fun b hp' H' u g' e'=>gV ?_)));exact q (.uni 1 (m-1)) (if_neg hm) b hp' H' ⟨c1,h1,u⟩ g' e'
theorem oh {S:Sy}{bits:Int}{hp xs:List Cl}{c1 c2 c3:Cl}{t1 t2 t3:Tr}(g:zL H S bits hp xs)(h1:xs[1]?=some c1)(h2:xs[2]?=some c2)(h3:xs[3]?=some c3)(s1:xv S hp c1 t1)(s2:xv S hp c2 t2)(s3:xv S hp c3 t3) (q:∀ a,Xo bits t1 t2 t3=.ok a->∀ b hp' H',VM hp xs b hp' a->zL H' S bits hp' xs->zf xo H H'->Q (.bool b) H') (qe:∀ e,Xo bits t1 t2 t3=.error e->y9 H S X e):zh (gr p w B) (d+12) H [.obj (.nm 8)] (cZ 623) Q X:=by
 refine yU (g.mac.fox (p:=p) (w:=w) (B:=B)) fun i1 i2 i3 F=>?_;refine z9 rfl F (UU (i:=1) g h1 s1 (fun o1 Yr=>zd F (UU (i:=2) g h2 s2 (fun o2 Ys=>zd F (UU (i:=3) g h3 s3 (fun o3 eQ=>?_) (fun e he=>qe e (xe Yr (xe Ys (wX he)))))) (fun e he=>qe e (xe Yr (wX he))))) (fun e he=>qe e (wX he)));have q:=fun a h=>q a (xe Yr (xe Ys (xe eQ h)));have qe:=fun a h=>qe a (xe Yr (xe Ys (xe eQ h)));cases o1 with
 |none=>
  cases o2 with
  |none=>exact zd F (kf g.sym g.ok fun rr H' m=>gV (m.thrown (qe _ rfl)))|some b=>
   cases o3 with
   |none=>exact zd F (kf g.sym g.ok fun rr H' m=>gV (m.thrown (qe _ rfl)))|some c=>refine yE (s1.der Yr) fun r k hd hr=>?_;refine zd F (uc g.sym g.ok (fun hb=>?_) (fun hb=>qe _ (wX (WM hb))));refine zd F (xF (i:=1) g.mac g.len g.xlen h1 hd hd.ne1 (zd F (jf (v:=c-b) g hd hr (jt g.bits64 (jr hb)) fun bb hp' H' u g' e'=>gV ?_)));exact q (.uni 1 (c-b)) (xe (jr hb) rfl) bb hp' H' ⟨c1,h1,u⟩ g' e'
 |some a=>
  cases o2 with
  |none=>
   cases o3 with
   |none=>exact zd F (kf g.sym g.ok fun rr H' m=>gV (m.thrown (qe _ rfl)))|some c=>refine yE (s2.der Ys) fun r k hd hr=>?_;refine zd F (uc g.sym g.ok (fun hb=>?_) (fun hb=>qe _ (wX (WM hb))));refine zd F (xF (i:=2) g.mac g.len g.xlen h2 hd hd.ne1 (zd F (jf (v:=c-a) g hd hr (jt g.bits64 (jr hb)) fun bb hp' H' u g' e'=>gV ?_)));exact q (.uni 2 (c-a)) (xe (jr hb) rfl) bb hp' H' ⟨c2,h2,u⟩ g' e'
  |some b=>refine yE (s3.der eQ) fun r k hd hr=>?_;refine zd F (uc g.sym g.ok (fun hb=>?_) (fun hb=>qe _ (wX (WM hb))));refine zd F (xF (i:=3) g.mac g.len g.xlen h3 hd hd.ne1 (zd F (jf (v:=a+b) g hd hr (jt g.bits64 (jr hb)) fun bb hp' H' u g' e'=>gV ?_)));exact q (.uni 3 (a+b)) (xe (jr hb) rfl) bb hp' H' ⟨c3,h3,u⟩ g' e'
end
end
section
variable {p:Program} {w:World} {B:Heap} {H:AH} {d:Nat} {X Q:PV->AH->Prop}
noncomputable def Vd:List Str:=(["[]",".","{}","-","+","*","/",",","|",";","->","\\+",":-","?-","-->","!","true","fail","false","call","=","^","error","","end_of_file","system","$VAR","catch","throw"]:List String).map Str.ofString
noncomputable def bf:List (Str×Int):=([(".",2),(",",2),(";",2),("->",2),("\\+",1),(":-",2),(":-",1),("?-",1),("-->",2),("{}",1),("=",2),("^",2),("-",1),("-",2),("+",2),("/",2),("error",2),("$VAR",1),("catch",3),("throw",1),("!",0),("true",0),("fail",0),("false",0),("call",1),("call",2),("call",3),("call",4),("call",5),("call",6),("call",7),("call",8)]:List (String×Int)).map fun x=>(Str.ofString x.1,x.2)
theorem KQ (q:Q (.tup (Vd.map .str)) H):zh (gr p w B) (d+1) H [] (cZ 60) Q X:=z9 (F:=[]) rfl trivial q
theorem JI (q:Q (.tup (bf.map fun x=>.tup [.str x.1,.int x.2])) H):zh (gr p w B) (d+1) H [] (cZ 67) Q X:=z9 (F:=[]) rfl trivial q
noncomputable def ZN (S:Sy)(l:List Str):Sy:=l.foldl (fun S t=>(S.atom t).1) S
noncomputable def VW (S:Sy)(l:List (Str×Int)):Sy:=l.foldl (fun S x=>(S.func x.1 x.2).1) S
noncomputable def Qi:Sy:=VW (ZN ⟨[],[]⟩ Vd) bf
theorem U9:∀ t∈Vd,t∈xj:=by decide+kernel
theorem Qh:∀ x∈bf,x.1∈xj/\0<=x.2/\x.2<=8:=by decide+kernel
theorem Wb:vm Qi:=⟨by decide+kernel,by decide+kernel⟩
theorem cM:Sy.Ok ⟨[],[]⟩:=⟨.nil,.nil,fun _ h=>(wg h),fun _ h=>(wg h)⟩
theorem Xw:∀ {l:List Str} {S:Sy},S.Ok->(∀ t∈l,t∈xj)->(ZN S l).Ok|[],_,h,_=>h|t::l,S,h,hv=>Xw (l:=l) (h.atom (hv t (.head _))) fun u hu=>hv u (.tail _ hu)
theorem Wo:∀ {l:List (Str×Int)} {S:Sy},S.Ok->(∀ x∈l,x.1∈xj/\0<=x.2/\x.2<=8)->(VW S l).Ok|[],_,h,_=>h|t::l,S,h,hv=>Wo (l:=l) (h.func (hv t (.head _)).1 (hv t (.head _)).2.1 (hv t (.head _)).2.2) fun u hu=>hv u (.tail _ hu)
theorem nQ:Qi.Ok:=Wo (Xw cM U9) Qh
abbrev Wa:Id->Prop:=fun i=>∃ n,n<6/\i=.nm n
theorem J3 (h:yh i):Wa i:=by
 rcases h with h|h|h|h
 .exact⟨2,by decide,h⟩
 .exact⟨3,by decide,h⟩
 .exact⟨4,by decide,h⟩
 .exact⟨5,by decide,h⟩
structure St (N:Id->Prop)(H0:AH)(l:List (Nat×Option MO))(H:AH):Prop where
 k:∀ n v,l.lookup n=some v->H (.nm n)=v
 e:zf N H0 H
section
variable {N:Id->Prop} {H0:AH} {l:List (Nat×Option MO)} {H':AH}
theorem St.put (s:St N H0 l H)(e:zf (zV (.nm n)) H H')(h:H' (.nm n)=some mo)(hn:N (.nm n)):St N H0 ((n,some mo)::l) H':=by
 refine⟨fun k v hk=>?_,s.e.trans (e.mono fun _ z=>z▸hn)⟩;rw[List.lookup_cons] at hk;by_cases c:k=n
 .subst c;rw[beq_self_eq_true] at hk;cases hk;exact h
 .rw[beq_false_of_ne c] at hk;rw[e (.nm k) (fun z=>c (by cases z;rfl)) (.inr ⟨k,rfl⟩)];exact s.k k v hk
theorem St.no (s:St N H0 l H)(e:zf yA H H'):St N H0 l H':=⟨fun n v h=>(e (.nm n) (fun z=>z) (.inr ⟨n,rfl⟩)).trans (s.k n v h),s.e.trans e.no⟩
noncomputable def YR (vs:List (Nat×PV)):List (Str×PV):=(vs.map fun x=>(xr tx.aN x.1,x.2)).reverse
theorem dt:tx.aN.length=63:=by kernel_rfl
theorem Qe:∀ {l:List (Str×PV)},(∀ x∈l,k≠x.1)->zS.put l k v=l++[(k,v)]|[],_=>rfl|x::r,h=>by show(if k=x.1 then(k,v)::r else x::zS.put r k v)=_;rw[if_neg (h x (.head _)),Qe fun y hy=>h y (.tail _ hy)];rfl
theorem m4 (hk:k<63)(h:(vs.all fun x=>Nat.ble x.1 62&& !Nat.beq x.1 k)=true):zS.put (YR vs) (xr tx.aN k) v=YR ((k,v)::vs):=by unfold YR;rw[Qe,List.map_cons,List.reverse_cons];intro x hx e;rw[List.mem_reverse,List.mem_map] at hx;refine zg hx fun y hy zm=>?_;clear hx;subst zm;refine a2 (yP (qg h y hy)) fun h1 h2=>?_;have h1:=Nat.le_of_ble_eq_true h1;have:k=y.1:=J2 lr (by rw[dt];exact A11 0x7FE580210003FF2C01 hk) (by rw[dt];exact A11 0x7DE580010003FF2C01 h1) e;rw[this,Nat.beq_refl] at h2;exact zU h2
theorem xm {i j k:Nat}{K:AH->Prop}(s:St N H0 l H)(h1:l.lookup i=some (some (.inst C (.nm j))))(h2:l.lookup j=some (some (.ns (YR vs))))(h3:ji g.K C (xr tx.aN k)=true)(h4:(Nat.ble k 62&&Nat.ble vs.length 60&&vs.all fun x=>Nat.ble x.1 62&& !Nat.beq x.1 k)=true)(hn:N (.nm j)) (q:∀ H',St N H0 ((j,some (.ns (YR ((k,v)::vs))))::l) H'->K H'):YV g d H (.obj (.nm i)) v (xr tx.aN k) K:=by refine a2 (yP h4) fun h4 h6=>?_;refine a2 (yP h4) fun h4 h5=>?_;have h4:=Nat.le_of_ble_eq_true h4;have h5:=Nat.le_of_ble_eq_true h5;refine QP (s.k i _ h1) (s.k j _ h2) h3 (by unfold YR;rw[List.length_reverse,List.length_map];exact A11 0x79E5800100384F2C00 h5) fun H' a e=>q H' (s.put e ?_ hn);rw[<-m4 (by exact A11 0x7DE580010003FF2C01 h4) h6];exact a
theorem qA (s:St N H0 l H)(h:l.lookup n=some none)(hn:N (.nm n))(q:∀ H',St N H0 ((n,some mo)::l) H'->Q (.obj (.nm n)) H'):yW H mo Q:=.nm n (s.k n _ h) (q _ (s.put zf.one (AH.upd_same _ _ _) hn))
end
theorem nZ:makesIn (KK P) 154=true/\findIn (KK P) (.ref 154) "__init__"=some (some (.ref 81))/\typeIn (KK P) (.ref 81)=some (.type "function")/\([1,2,3,4].all fun k=>ji (KK P) 154 (xr tx.aN k))=true:=by refine⟨?_,?_,?_,?_⟩<;>kernel_rfl
theorem cw (hn:∀ n<6,H (.nm n)=none)(q:∀ H',zj H' Qi->zf Wa H H'->Q (.obj (.nm 0)) H'):zh (gr p w B) (d+4) H [] (cZ 154) Q X:=by
 refine a4 (nZ (P:=w.params)) fun k1 k2 k3 k4=>?_;have k4:=fun k h=>qg k4 k h;have u:∀ {n:Nat},n<6->Wa (.nm n):=fun h=>⟨_,h,rfl⟩;refine(Kb 0 1 (by decide) (d:=d+3) (fI:=81) k1 k2 k3 (hn 0 (by decide)) (hn 1 (by decide)) ?_).t;rw[YX];have s:St Wa H [(0,some (.inst 154 (.nm 1))),(1,some (.ns (YR []))),(2,none),(3,none),(4,none),(5,none)] ((H.upd (.nm 1) (.ns [])).upd (.nm 0) (.inst 154 (.nm 1))):=by
  have s0:St Wa H [(2,none),(3,none),(4,none),(5,none)] H:=⟨fun n v h=>?_,.refl⟩
  .exact(s0.put zf.one (AH.upd_same _ _ _) (u (by decide))).put zf.one (AH.upd_same _ _ _) (u (by decide))
  .have:v=none/\n<6:=by
    simp only[List.lookup_cons,List.lookup_nil] at h;split at h
    .rename_i z;simp at z;subst z;cases h;exact⟨rfl,by decide⟩
    .split at h
     .rename_i z;simp at z;subst z;cases h;exact⟨rfl,by decide⟩
     .split at h
      .rename_i z;simp at z;subst z;cases h;exact⟨rfl,by decide⟩
      .split at h
       .rename_i z;simp at z;subst z;cases h;exact⟨rfl,by decide⟩
       .exact zJ h
   rw[this.1];exact hn n this.2
 generalize (H.upd (.nm 1) (.ns [])).upd (.nm 0) (.inst 154 (.nm 1))=H0 at*;refine fnRK (F:=[]) rfl trivial (qA (n:=2) s rfl (u (by decide)) fun H1 s=>gV (xm s rfl rfl (k4 1 (by decide)) rfl (u (by decide)) fun H2 s=>?_));refine gN (.S (qA (n:=3) s rfl (u (by decide)) fun H3 s=>gV (xm s rfl rfl (k4 2 (by decide)) rfl (u (by decide)) fun H4 s=>?_)));refine gN (qA (n:=4) s rfl (u (by decide)) fun H5 s=>gV (xm s rfl rfl (k4 3 (by decide)) rfl (u (by decide)) fun H6 s=>?_));refine gN (.T (qA (n:=5) s rfl (u (by decide)) fun H7 s=>gV (xm s rfl rfl (k4 4 (by decide)) rfl (u (by decide)) fun H8 s=>?_)));have zG:zj H8 ⟨[],[]⟩:=⟨s.k 0 _ rfl,(s.k 1 _ rfl).trans (by kernel_rfl),s.k 2 _ rfl,s.k 3 _ rfl,s.k 4 _ rfl,s.k 5 _ rfl⟩;refine gN (KQ (gV (VL (fun l zO H'=>∃ (S:Sy) (a:Option PV),zO=[some (.obj (.nm 0)),a,none]/\(∀ t∈l,t∈xj)/\zj H' S/\S.Ok/\ZN S l=ZN ⟨[],[]⟩ Vd/\zf Wa H8 H') ⟨_,_,rfl,U9,zG,cM,rfl,.refl⟩ ?_ ?_)))
 .intro t l zO H' zq K hk;refine aX zq fun S a uY hv hS sok hA e=>?_;subst uY;refine w8 hS.fo (xd hS sok fun H2 zN e2=>gV ?_);exact hk ⟨trivial,_,_,rfl,fun u hu=>hv u (.tail _ hu),zN,sok.atom (hv t (.head _)),hA,e.trans (e2.mono fun _ h=>J3 h)⟩
 .intro zO H' zq;refine aX zq fun S a uY hv hS sok hA e=>?_;subst uY;refine goN hS.fo (JI (zd hS.fo (VL (fun l zO H'=>∃ (S:Sy) (b:Option PV),zO=[some (.obj (.nm 0)),a,b]/\(∀ x∈l,x.1∈xj/\0<=x.2/\x.2<=8)/\zj H' S/\S.Ok/\VW S l=Qi/\zf Wa H8 H') ⟨S,_,rfl,Qh,hS,sok,by unfold Qi;rw[<-hA];rfl,e⟩ ?_ ?_)))
  .intro t l zO H' zq K hk;refine aX zq fun S b uY hv hS sok hA e=>?_;subst uY;refine w8 hS.fo (jn hS sok (hv t (.head _)).1 fun H2 zN e2=>gV ?_);exact hk ⟨trivial,_,_,rfl,fun u hu=>hv u (.tail _ hu),zN,sok.func (hv t (.head _)).1 (hv t (.head _)).2.1 (hv t (.head _)).2.2,hA,e.trans (e2.mono fun _ h=>J3 h)⟩
  .intro zO H' zq;refine aX zq fun S b uY hv hS sok hA e=>?_;subst uY;obtain rfl:S=Qi:=hA;exact gN ⟨rfl,q H' hS (s.e.trans e)⟩
end
section
theorem zf.none' (e:zf N H H')(hN:¬N (.nm n))(h:H (.nm n)=none):H' (.nm n)=none:=(e (.nm n) hN (.inr ⟨n,rfl⟩)).trans h
section
variable {N:Id->Prop} {H0 H:AH} {l:List (Nat×Option MO)} {n:Nat} {v:Option MO}
theorem St.init (e:zf N H0 H):St N H0 [] H:=⟨fun _ _ h=>(zJ h),e⟩
theorem St.and (s:St N H0 l H)(h:H (.nm n)=v):St N H0 ((n,v)::l) H:=⟨fun k u hk=>by
 rw[List.lookup_cons] at hk;by_cases c:k=n
 .subst c;rw[beq_self_eq_true] at hk;cases hk;exact h
 .rw[beq_false_of_ne c] at hk;exact s.k k u hk,s.e⟩
end
variable {p:Program} {w:World} {B:Heap} {H:AH} {d:Nat} {X Q:PV->AH->Prop} {F:List Fo}
theorem rV (hr:ux fT f=some r)(Jv:(WI (KK w.params) r&&r.s.c.names.all (fun x=>x.2 !=.cell))=true)(hF:Fa (gr p w B) tx H F) (Yd:∀ (θ:Nm) (s:Shared) (vs:List Value),B.StaysIn s.heap->yb θ s.heap ps vs->∃ us,BindsTo s r.fd (mk vs) ((r.args.map (·.arg)).zip us)/\yb θ s.heap qs us) (h:K1 r qs fun ρ=>run ⟨gr p w B,tx,d,r.s,uf Q,X⟩ H F 1000 ρ [] [] (.S r.b)):kq (gr p w B) (d+1) H ps (.ref f) mk Q X:=by refine a2 (yP Jv) fun ok hc=>?_;unfold WI at ok;simp only[Bool.and_eq_true,List.all_eq_true,Bool.or_eq_true,beq_iff_eq,bne_iff_ne,ne_eq,Bool.not_eq_true',decide_eq_true_eq] at ok hc;refine a2 ok fun wd fe=>?_;clear ok;obtain⟨⟨⟨⟨⟨⟨⟨o1,o2⟩,o3⟩,o4⟩,o5⟩,o6⟩,o7⟩,o9⟩:=wd;have o7:=Nat.eq_of_beq_eq_true o7;unfold K1 at h;cases e:Nat.beq qs.length r.ps.length with|false=>rw[e] at h;exact h.elim|true=>rw[e] at h;have yf:r.args.length=qs.length:=o7.trans (Nat.eq_of_beq_eq_true e).symm;have hK:=QS (P:=w.params) hr;refine gY (g:=gr p w B) (qs:=qs) hK o9 Yd (by simpa using yf) o1 (fun x hx=>(o2 x hx).resolve_right fun z=>hc _ (wV z) rfl) (fun x hx=>hc x hx) (fun x hx=>o3 x hx) o4 o5 o6 ?_;exact Ki (T:=tx) rfl rfl fe (X3 yf) (vr kE hF _ _ _ _ _ (WW h))
theorem Ia:(KK P).lookup 230=some ⟨.type "tuple",none,.seq (Array.mk [.int (.ofNat 100000) 489]) 0,Array.mk []⟩:=by kernel_rfl
theorem HE:(KK P).lookup 708=some ⟨.type "tuple",none,.seq (Array.mk [.int (.ofNat 100000) 1200,.bool true,.int (.ofNat 4096) 1201]) 0,Array.mk []⟩:=by kernel_rfl
theorem Ep:(WI (KK P) ae&&ae.s.c.names.all (fun x=>x.2 !=.cell))=true:=by kernel_rfl
theorem Bp:(WI (KK P) aF&&aF.s.c.names.all (fun x=>x.2 !=.cell))=true:=by kernel_rfl
theorem o8:makesIn (KK P) 416=true/\findIn (KK P) (.ref 416) "__init__"=some (some (.ref 237))/\typeIn (KK P) (.ref 237)=some (.type "function")/\([10,11,12,13,14,15,16].all fun k=>ji (KK P) 416 (xr tx.aN k))=true:=by refine⟨?_,?_,?_,?_⟩<;>kernel_rfl
theorem dJ:makesIn (KK P) 858=true/\findIn (KK P) (.ref 858) "__init__"=some (some (.ref 715))/\typeIn (KK P) (.ref 715)=some (.type "function")/\([10,11,32,33,43,44,46,47,48,49,50,51,52,53,54,55,56,57].all fun k=>ji (KK P) 858 (xr tx.aN k))=true:=by refine⟨?_,?_,?_,?_⟩<;>kernel_rfl
abbrev X5:Id->Prop:=fun i=>∃ n,10<=n/\n<15/\i=.nm n
theorem aI (GX:(gr p w B).K.In B)(hn:∀ n,10<=n->n<15->H (.nm n)=none)(q:∀ H',ym H' []->zf X5 H H'->Q (.obj (.nm 10)) H'):zh (gr p w B) (d+2) H [.obj (.nm 0),.int 100000] (cZ 416) Q X:=by
 refine a4 (o8 (P:=w.params)) fun k1 k2 k3 k4=>?_;have k4:=fun k h=>qg k4 k h;have u:∀ {n:Nat},10<=n->n<15->X5 (.nm n):=fun h k=>⟨_,h,k,rfl⟩;refine(Kb 10 11 (by decide) (d:=d+1) (fI:=237) k1 k2 k3 (hn 10 (by decide) (by decide)) (hn 11 (by decide) (by decide)) ?_).t;rw[YX];have s:St X5 H [(10,some (.inst 416 (.nm 11))),(11,some (.ns (YR []))),(12,none),(13,none),(14,none)] ((H.upd (.nm 11) (.ns [])).upd (.nm 10) (.inst 416 (.nm 11))):=by have s0:St X5 H [(12,none),(13,none),(14,none)] H:=((((St.init .refl).and (hn 14 (by decide) (by decide))).and (hn 13 (by decide) (by decide))).and (hn 12 (by decide) (by decide)));exact(s0.put zf.one (AH.upd_same _ _ _) (u (by decide) (by decide))).put zf.one (AH.upd_same _ _ _) (u (by decide) (by decide))
 generalize (H.upd (.nm 11) (.ns [])).upd (.nm 10) (.inst 416 (.nm 11))=H0 at*;have un:X5 (.nm 11):=u (by decide) (by decide);refine rV (F:=[]) (qs:=[.obj (.nm 10),.obj (.nm 0),.int 100000]) rfl Ep trivial (fun θ s vs st R=>?_) (xm s rfl rfl (k4 10 (by decide)) rfl un fun H1 s=>?_)
 .refine zB R fun v1 _ zm r1 zz=>?_;refine zB zz fun v2 _ wj r2 zz=>?_;refine zB zz fun v3 _ qw r3 Yg=>?_;clear R;subst zm wj qw Yg;refine⟨[v1,v2,v3],PySem.W.binds_K (T:=230) (K:=KK w.params) (fun a o e=>st a o (GX a o e)) rfl Ia rfl rfl rfl,?_⟩;exact⟨v1,_,rfl,r1,v2,_,rfl,r2,v3,_,rfl,r3,rfl⟩
 refine gN (xm s rfl rfl (k4 11 (by decide)) rfl un fun H2 s=>?_);refine gN (qA (n:=12) s rfl (u (by decide) (by decide)) fun H3 s=>gV (xm s rfl rfl (k4 12 (by decide)) rfl un fun H4 s=>?_));refine gN (qA (n:=13) s rfl (u (by decide) (by decide)) fun H3 s=>gV (xm s rfl rfl (k4 13 (by decide)) rfl un fun H4 s=>?_));refine gN (qA (n:=14) s rfl (u (by decide) (by decide)) fun H3 s=>gV (xm s rfl rfl (k4 14 (by decide)) rfl un fun H4 s=>?_));refine gN (xm s rfl rfl (k4 15 (by decide)) rfl un fun H5 s=>?_);refine gN (xm s rfl rfl (k4 16 (by decide)) rfl un fun H6 s=>gN ⟨rfl,?_⟩);exact q _ ⟨s.k 10 _ rfl,(s.k 11 _ rfl).trans (by kernel_rfl),s.k 12 _ rfl,s.k 13 _ rfl,s.k 14 _ rfl⟩ s.e
abbrev qV:Id->Prop:=fun i=>∃ n,8<=n/\n<16/\i=.nm n
theorem r_ (h:X5 i):qV i:=by obtain⟨n,h1,h2,h3⟩:=h;exact⟨n,A11 0x580100280 h1,A11 0xD802107001 h2,h3⟩
noncomputable def oS (bits:Int)(i:Id):List (Nat×PV):=[(33,.int bits),(44,.bool true),(11,.int 100000),(43,.obj i),(10,.obj (.nm 0))]
theorem KZ:YM (KK P) 858 [10,43,11,44,33]=true:=by kernel_rfl
theorem nE (GX:(gr p w B).K.In B)(h0:H (.nm 8)=some (.inst 858 (.nm 9)))(h1:H (.nm 9)=some (.ns (YR (oS bits i))))(hn:∀ n,10<=n->n<16->H (.nm n)=none)(q:∀ H',yJ H' bits [] [⟨5,0⟩]->zf qV H H'->Q .none H'):
  zh (gr p w B) (d+3) H [.obj (.nm 8)] (cZ 722) Q X:=by
 refine a4 (dJ (P:=w.params)) fun k1 k2 k3 k4=>?_;have k4:=fun k h=>qg k4 k h;have F0:Fa (gr p w B) tx H [⟨8,9,858,[(10,.obj (.nm 0)),(43,.obj i),(11,.int 100000),(44,.bool true),(33,.int bits)]⟩]:=⟨ZM h0 h1 KZ rfl,trivial⟩;refine z9 rfl F0 (aI GX (fun n h1 h2=>hn n h1 (A11 0xD802107001 h2)) fun H1 zG e1=>?_);have n8:∀ n,n<10\/14<n->¬X5 (.nm n):=fun n h ⟨m,z1,z2,z3⟩=>by cases z3;lia+abstractProof
 have s:St qV H [(10,some (.inst 416 (.nm 11))),(11,some (.ns (Qd 100000))),(12,some (.list [])),(13,some (.list [])),(14,some (.list [])),(8,some (.inst 858 (.nm 9))),(9,some (.ns (YR (oS bits i)))),(15,none)] H1:=
  ((((((((St.init (e1.mono fun _ h=>r_ h)).and (e1.none' (n8 15 (by decide)) (hn 15 (by decide) (by decide)))).and (e1.get (n8 9 (by decide)) h1)).and (e1.get (n8 8 (by decide)) h0)).and zG.trail).and zG.stack).and zG.heap).and zG.ns).and zG.inst
 have u:∀ {n:Nat},8<=n->n<16->qV (.nm n):=fun h k=>⟨_,h,k,rfl⟩;have un:qV (.nm 9):=u (by decide) (by decide);refine gV (xm s rfl rfl (k4 32 (by decide)) rfl un fun H2 s=>?_);refine gN (qA (n:=15) s rfl (u (by decide) (by decide)) fun H3 s=>gV (xm s rfl rfl (k4 46 (by decide)) rfl un fun H4 s=>?_));refine gN (xm s rfl rfl (k4 47 (by decide)) rfl un fun H5 s=>?_);refine gN (xm s rfl rfl (k4 48 (by decide)) rfl un fun H5 s=>?_);refine gN (xm s rfl rfl (k4 49 (by decide)) rfl un fun H5 s=>?_);refine gN (xm s rfl rfl (k4 50 (by decide)) rfl un fun H5 s=>?_);refine gN (xm s rfl rfl (k4 51 (by decide)) rfl un fun H5 s=>?_);refine gN (xm s rfl rfl (k4 52 (by decide)) rfl un fun H5 s=>?_);refine gN (xm s rfl rfl (k4 53 (by decide)) rfl un fun H5 s=>?_);refine gN (xm s rfl rfl (k4 54 (by decide)) rfl un fun H5 s=>?_);refine gN (yo fun ra H6 _ _ e6=>gV (xm (s.no e6) rfl rfl (k4 55 (by decide)) rfl un fun H7 s=>?_));refine gN (.I (jS fun ba H8 _ _ e8=>gV (xm (s.no e8) rfl rfl (k4 56 (by decide)) rfl un fun H9 s=>?_)));refine gN (xm s rfl rfl (k4 57 (by decide)) rfl un fun Nu s=>gN ?_);exact q _ ⟨s.k 8 _ rfl,⟨i,.an ra,.an ba,(s.k 9 _ rfl).trans (by kernel_rfl)⟩,s.k 15 _ rfl,s.k 10 _ rfl,s.k 11 _ rfl,s.k 12 _ rfl,s.k 13 _ rfl,s.k 14 _ rfl⟩ s.e
theorem fW (GX:(gr p w B).K.In B)(hn:∀ n,8<=n->n<16->H (.nm n)=none)(q:∀ H',yJ H' bits [] [⟨5,0⟩]->zf qV H H'->Q (.obj (.nm 8)) H'):kq (gr p w B) (d+5) H [.obj (.nm 0),.obj i,.int bits] (.ref 858) (gH "max_bits") Q X:=by
 refine a4 (dJ (P:=w.params)) fun k1 k2 k3 k4=>?_;have k4:=fun k h=>qg k4 k h;refine Kb 8 9 (by decide) (d:=d+4) (fI:=715) k1 k2 k3 (hn 8 (by decide) (by decide)) (hn 9 (by decide) (by decide)) ?_;have u:∀ {n:Nat},8<=n->n<16->qV (.nm n):=fun h k=>⟨_,h,k,rfl⟩;have un:qV (.nm 9):=u (by decide) (by decide);have s:St qV H [(8,some (.inst 858 (.nm 9))),(9,some (.ns (YR []))),(10,none),(11,none),(12,none),(13,none),(14,none),(15,none)] ((H.upd (.nm 9) (.ns [])).upd (.nm 8) (.inst 858 (.nm 9))):=by have s0:St qV H [(10,none),(11,none),(12,none),(13,none),(14,none),(15,none)] H:=((((((St.init .refl).and (hn 15 (by decide) (by decide))).and (hn 14 (by decide) (by decide))).and (hn 13 (by decide) (by decide))).and (hn 12 (by decide) (by decide))).and (hn 11 (by decide) (by decide))).and (hn 10 (by decide) (by decide));exact(s0.put zf.one (AH.upd_same _ _ _) un).put zf.one (AH.upd_same _ _ _) (u (by decide) (by decide))
 generalize (H.upd (.nm 9) (.ns [])).upd (.nm 8) (.inst 858 (.nm 9))=H0 at*;refine rV (F:=[]) (qs:=[.obj (.nm 8),.obj (.nm 0),.obj i,.int 100000,.bool true,.int bits]) rfl Bp trivial (fun θ s vs st R=>?_) (xm s rfl rfl (k4 10 (by decide)) rfl un fun H1 s=>?_)
 .refine zB R fun v1 _ zm r1 zz=>?_;refine zB zz fun v2 _ wj r2 zz=>?_;refine zB zz fun v3 _ qw r3 zz=>?_;refine zB zz fun v4 _ IK r4 IL=>?_;clear R;subst zm wj qw IK IL;refine⟨[v1,v2,v3,.int 100000 _,.bool true,v4],PySem.W.binds_K (T:=708) (K:=KK w.params) (fun a o e=>st a o (GX a o e)) rfl HE rfl rfl rfl,?_⟩;exact⟨v1,_,rfl,r1,v2,_,rfl,r2,v3,_,rfl,r3,_,_,rfl,kb _ _ _ _,_,_,rfl,uQ _ _ _,v4,_,rfl,r4,rfl⟩
 refine gN (xm s rfl rfl (k4 43 (by decide)) rfl un fun H2 s=>?_);refine gN (xm s rfl rfl (k4 11 (by decide)) rfl un fun H2 s=>?_);refine gN (xm s rfl rfl (k4 44 (by decide)) rfl un fun H2 s=>?_);refine gN (xm s rfl rfl (k4 33 (by decide)) rfl un fun H3 s=>?_);have F3:Fa (gr p w B) tx H3 [⟨8,9,858,[(10,.obj (.nm 0)),(43,.obj i),(11,.int 100000),(44,.bool true),(33,.int bits)]⟩]:=⟨ZM (s.k 8 _ rfl) (s.k 9 _ rfl) KZ rfl,trivial⟩;refine goN F3 (nE GX (bits:=bits) (i:=i) (s.k 8 _ rfl) (s.k 9 _ rfl) (fun n h1 h2=>?_) fun H1 h1 e6=>gV ?_)
 .have:n=10\/n=11\/n=12\/n=13\/n=14\/n=15:=by lia+abstractProof
  rcases this with rfl|rfl|rfl|rfl|rfl|rfl<;>exact s.k _ _ rfl
 .exact⟨rfl,q _ h1 (s.e.trans e6)⟩
end
section
variable {p:Program} {w:World} {B:Heap} {H:AH} {d:Nat} {X Q:PV->AH->Prop}
theorem vm.le (b:vm S)(l:S.Le S'):vm S':=by refine a2 l fun wd zz=>?_;refine zA zz fun y hy=>?_;clear l;obtain⟨x,hx⟩:=wd;exact⟨by rw[hy,List.getElem?_append_left (xU b.dot).1];exact b.dot,by rw[hx,List.getElem?_append_left (xU b.tdot).1];exact b.tdot⟩
theorem u0.le (h:u0 S f a op)(l:S.Le S'):u0 S' f a op:=by refine a2 l fun wd zz=>?_;refine zA zz fun y hy=>?_;clear l;obtain⟨x,hx⟩:=wd;exact⟨by rw[hy,List.getElem?_append_left (xU h.1).1];exact h.1,by rw[hx,List.getElem?_append_left (xU h.2).1];exact h.2⟩
theorem Tr.Ok.le (l:S.Le S'):∀ {t:Tr},t.Ok S->t.Ok S'|.V _,h=>h|.A _,h=>h|.I _,h=>h|.U _ _ _ _,h=>⟨h.1.le l,h.2.1,Tr.Ok.le l h.2.2⟩|.B _ _ _ _ _,h=>⟨h.1.le l,h.2.1,Tr.Ok.le l h.2.2.1,Tr.Ok.le l h.2.2.2⟩
theorem Sy.atom_get (S:Sy)(t:Str):(S.atom t).1.texts[(S.atom t).2]?=some t:=by unfold Sy.atom;cases hp:yy S.texts t with|some i=>exact ZV hp|none=>simp
theorem Sy.functor_get (S:Sy)(a n:Int):(S.functor a n).1.funs[(S.functor a n).2]?=some (a,n):=by unfold Sy.functor;cases hp:yy S.funs (a,n) with|some i=>exact ZV hp|none=>simp
theorem Sy.functor_texts (S:Sy)(a n:Int):(S.functor a n).1.texts=S.texts:=by unfold Sy.functor;cases hp:yy S.funs (a,n) with|some i=>rfl|none=>rfl
theorem Sy.func_AA (S:Sy)(op:Op):u0 (S.func op.text op.arity).1 (S.func op.text op.arity).2 (S.atom op.text).2 op:=by refine⟨Sy.functor_get _ _ _,?_⟩;unfold Sy.func;rw[Sy.functor_texts];exact S.atom_get op.text
inductive yu (H:AH):Prop
 |mk (ks:List Int) (i:Nat) (cur Zb Y8:Int) (h1:i<=ks.length) (h2:ks.length<=63) (h3:H (.nm 6)=some (.list [.obj (.nm 7),.int i,.int cur,.int Zb,.int Y8])) (h4:H (.nm 7)=some (.list (ks.map .int)))
theorem yu.ext (h:yu H)(e:zf N H H')(h6:¬N (.nm 6))(h7:¬N (.nm 7)):yu H':=by obtain⟨ks,i,cur,Zb,Y8,h1,h2,h3,h4⟩:=h;exact⟨ks,i,cur,Zb,Y8,h1,h2,e.get h6 h3,e.get h7 h4⟩
abbrev XF:Id->Prop:=zV (.nm 6)
theorem yu.put {H':AH}{ks:List Int}{i:Nat}{cur Zb Y8:Int}(h1:i<=ks.length)(h2:ks.length<=63)(h4:H (.nm 7)=some (.list (ks.map .int)))(e:zf XF H H')(h:H' (.nm 6)=some (.list [.obj (.nm 7),.int i,.int cur,.int Zb,.int Y8])):yu H':=⟨ks,i,cur,Zb,Y8,h1,h2,h,e.get (by unfold XF zV;simp) h4⟩
theorem uD {a b:Int}(h:0<b):0<=a.fmod b/\a.fmod b<b:=⟨Int.fmod_nonneg_of_pos _ h,Int.fmod_lt_of_pos _ h⟩
theorem w0 (hh:yu H)(hl:0<limit)(q:∀ r H',0<=r->r<limit->yu H'->zf XF H H'->Q (.int r) H'):zh (gr p w B) (d+1) H [.obj (.nm 6),.int limit] (cZ 869) Q X:=by
 obtain⟨ks,i,cur,Zb,Y8,h1,h2,h3,h4⟩:=hh;have n7:¬zV (.nm 6) (.nm 7):=by unfold zV;simp
 have eK:limit≠0:=by lia
 refine z9 (F:=[]) rfl trivial ?_;refine yF (k:=2) (p:=.int cur) h3 (by decide) (by decide) rfl (gV ?_);by_cases hc:cur=0
 .refine wb hc (yF (k:=1) (p:=.int i) h3 (by decide) (by decide) rfl (gV (yF (k:=0) (p:=.obj (.nm 7)) h3 (by decide) (by decide) rfl (gV (xb h4 (A22 0x1FF9610042010407FAC00 (List.length_map ..) h2) (gV ?_))))));by_cases hi:i=ks.length
  .refine wb (by simp;lia) (yF (k:=3) (p:=.int Zb) h3 (by decide) (by decide) rfl (gV (W0 (.inr (by decide)) (gV (ZL (by decide) (gV (vV (n:=3) h3 (by simp) (by simp) fun H1 g1 e1=>?_)))))));refine gN (yF (k:=3) g1 (by decide) (by decide) rfl (gV (W3 (by decide) (gV (ZL eK (gV ?_))))));exact q _ _ (uD hl).1 (uD hl).2 (.put h1 h2 h4 e1 g1) e1
  .obtain⟨k,hk⟩:∃ k,ks[i]?=some k:=⟨ks[i]'(by lia),List.getElem?_eq_getElem (by lia)⟩;refine yZ (by simp;lia) (yF (k:=0) (p:=.obj (.nm 7)) h3 (by decide) (by decide) rfl (gV (yF (k:=1) (p:=.int i) h3 (by decide) (by decide) rfl (gV (uj (p:=.int k) h4 (A22 0x2000401FF96100408FAC00 h2 h1) (w9 hk) (gV ?_))))));refine yF (k:=1) (p:=.int i) h3 (by decide) (by decide) rfl (gV (vV (n:=1) h3 (by simp) (by simp) fun H1 g1 e1=>gN ?_));have Nz:=e1.get n7 h4;refine br (fun _=>vV (n:=2) g1 (by simp) (by simp) fun H2 g2 e2=>?_) fun _=>vV (n:=2) g1 (by simp) (by simp) fun H2 g2 e2=>?_;all_goals
    refine gN (yF (k:=2) g2 (by decide) (by decide) rfl (gV (ZL eK (gV ?_))));refine yF (k:=2) g2 (by decide) (by decide) rfl (gV (W3 eK (gV (vV (n:=2) g2 (by simp) (by simp) fun H3 g3 e3=>gN ?_))));exact q _ _ (uD hl).1 (uD hl).2 (.put (i:=i+1) (by lia) h2 h4 ((e1.trans e2).trans e3) g3) ((e1.trans e2).trans e3)
 .refine yZ hc (yF (k:=2) (p:=.int cur) h3 (by decide) (by decide) rfl (gV (ZL eK (gV ?_))));refine yF (k:=2) (p:=.int cur) h3 (by decide) (by decide) rfl (gV (W3 eK (gV (vV (n:=2) h3 (by simp) (by simp) fun H3 g3 e3=>gN ?_))));exact q _ _ (uD hl).1 (uD hl).2 (.put h1 h2 h4 e3 g3) e3
theorem YA (h:zh g d H ps t Q X)(k:∀ b H',Q b H'->Q' b H'):zh g d H ps t Q' X:=by intro A za θ s vs Qc Ec C I R hQ hX;exact h A za θ s vs Qc Ec C I R (fun v b zl H' h' tk q G r=>hQ v b zl H' h' tk (k b H' q) G r) hX
noncomputable def sz:Nat->Nat|0=>1|n+1=>2*sz n+2
theorem og (n:Nat):1<=sz n:=by cases n<;>exact Nat.succ_pos _
def Tr.V3:Tr->Prop|.V k=>k=0\/k=1\/k=2|.A _=>True|.I _=>True|.U _ _ _ t=>t.V3|.B _ _ _ l r=>l.V3/\r.V3
abbrev xq:Id->Prop:=fun i=>yh i\/i=.nm 6
theorem aw {n:Nat}(h:8<=n):¬xq (.nm n):=fun z=>z.elim (UZ (Nat.le_of_succ_le (Nat.le_of_succ_le h))) fun z=>by cases z;exact absurd h (by decide)
structure QM (H:AH)(S:Sy)(t:Tr)(n:Nat)(S':Sy)(H':AH):Prop where
 le:S.Le S'
 sok:S'.Ok
 sym:zj H' S'
 hand:yu H'
 ok:t.Ok S'
 size:t.size<=sz n
 v3:t.V3
 ext:zf xq H H'
theorem zj.pick (h:zj H S)(e:zf XF H H'):zj H' S:=h.ext e fun n h z=>by cases z;exact A01 0x9482103186 h
theorem yu.sym (h:yu H)(e:zf yh H H'):yu H':=h.ext e (by rintro(h|h|h|h)<;>cases h) (by rintro(h|h|h|h)<;>cases h)
noncomputable def Xr:List Op:=[.neg,.abs,.msb,.cpl,.succ,.foo]
noncomputable def Zp:List Op:=[.add,.sub,.mul,.idiv,.mod,.pow,.shl,.rem,.min,.xor]
theorem mE:∀ op∈Xr,op.text∈xj/\op.arity=1:=by intro op h;simp only[Xr,List.mem_cons,List.not_mem_nil,or_false] at h;rcases h with rfl|rfl|rfl|rfl|rfl|rfl<;>exact⟨by decide+kernel,rfl⟩
theorem gv:∀ op∈Zp,op.text∈xj/\op.arity=2:=by intro op h;simp only[Zp,List.mem_cons,List.not_mem_nil,or_false] at h;rcases h with rfl|rfl|rfl|rfl|rfl|rfl|rfl|rfl|rfl|rfl<;>exact⟨by decide+kernel,rfl⟩
def jc (p:Program)(w:World)(B:Heap)(n:Nat):Prop:=∀ {d:Nat} {H:AH} {S:Sy} {X Q:PV->AH->Prop},yu H->zj H S->S.Ok->vm S->(∀ t S' H',QM H S t n S' H'->Q t.pv H')->zh (gr p w B) (n+d+3) H [.obj (.nm 6),.obj (.nm 0),.int n] (cZ 876) Q X
theorem QM.leaf (le:S.Le S')(sok:S'.Ok)(sym:zj H' S')(hand:yu H')(ok:t.Ok S')(v3:t.V3)(size:t.size=1)(ext:zf xq H H'):QM H S t n S' H':=⟨le,sok,sym,hand,ok,by rw[size];exact og n,v3,ext⟩
theorem KA (h:a=b)(k:zh g d H [x,y,.int b] t Q X):zh g d H [x,y,.int a] t Q X:=h▸k
theorem WZ (n:Nat)(ih:∀ m,n=m+1->jc p w B m):jc p w B n:=by
 intro d H S X Q hh hS sok bS q;refine z9 (F:=[]) rfl trivial (w0 hh (by decide) fun k1 H1 MG MH jB e1=>?_);have zG:=hS.pick e1;have Ja:zf xq H H1:=e1.mono fun _ h=>.inr h;obtain⟨ks,i,cur,Zb,Y8,wc,hd2,Qw,sH⟩:=id jB;refine zd zG.fo ?_;refine br (fun hk=>?_) fun hk=>?_
 rotate_left
 refine br (fun hn=>?_) fun hn=>?_
 rotate_left
 refine yF (k:=4) (p:=.int Y8) Qw (by decide) (by decide) rfl (zd zG.fo ?_);refine br (fun hb=>?_) fun hb=>?_
 rotate_left
 .have hn:=of_decide_eq_false hn;have hk:=of_decide_eq_false hk;obtain⟨m,rfl⟩:∃ m,n=m+1:=⟨n-1,by lia+abstractProof⟩;refine yF (k:=4) (p:=.int Y8) Qw (by decide) (by decide) rfl ?_;refine zd zG.fo (vV (n:=4) Qw (by simp) (by simp) fun H2 g2 e2=>?_);have uJ:yu H2:=.put wc hd2 sH e2 g2;have zN:=zG.pick e2;have Qs:zf xq H H2:=Ja.trans (e2.mono fun _ h=>.inr h);refine goN zN.fo ?_;by_cases hk:k1=2
  .refine wb hk (yo fun la H3 Yv Jm eL=>?_);have yc:=zN.ext eL fun _ _ h=>h;have ZA:=uJ.ext eL (fun h=>h) fun h=>h;have eg:=Qs.trans (eL.no (N:=xq));refine zd yc.fo (w0 ZA (by decide) fun k3 H4 eZ QG Yo e4=>?_);have yn:=yc.pick e4;have Ut:=eg.trans (e4.mono (N':=xq) fun _ h=>.inr h);have s7:=e4.get (by unfold XF zV;simp) Jm;obtain⟨op,ho⟩:∃ op,Xr[k3.toNat]?=some op:=⟨Xr[k3.toNat]'(by simp[Xr];lia+abstractProof),List.getElem?_eq_getElem _⟩;refine a2 (mE op (List.mem_of_getElem? ho)) fun ov oa=>?_;refine zd yn.fo (yF (k:=k3) (p:=.str op.text) (l:=Xr.map fun op:Op=>PV.str op.text) s7 eZ (Int.le_trans (Int.le_of_lt QG) (by decide)) (w9 ho) (zd yn.fo (jn yn sok ov fun H5 xf e5=>?_)));have ej:=S.func_AA op;rw[oa] at ej;refine zd xf.fo (KA (b:=(m:Int)) (by lia+abstractProof) ?_);refine(ih m rfl (d:=d) (Yo.sym e5) xf (sok.func ov (n:=1) (by decide) (by decide)) (bS.le (S.func_le _ _)) fun t S6 H6 I=>gV ?_).up (by show m+d+3<=m+1+d+2;exact A20 0xE0B408421E102100);refine q (.U _ _ op t) S6 H6 ⟨(S.func_le _ _).trans I.le,I.sok,I.sym,I.hand,⟨ej.le I.le,oa,I.ok⟩,?_,I.v3,(Ut.trans (e5.mono (N':=xq) fun _ h=>.inl h)).trans I.ext⟩;have:=I.size;exact A21 0x200040E0892870100 this
  .refine yZ hk (yo fun la H3 Yv Jm eL=>?_);have yc:=zN.ext eL fun _ _ h=>h;have ZA:=uJ.ext eL (fun h=>h) fun h=>h;have eg:=Qs.trans (eL.no (N:=xq));refine zd yc.fo (w0 ZA (by decide) fun k3 H4 eZ QG Yo e4=>?_);have yn:=yc.pick e4;have Ut:=eg.trans (e4.mono (N':=xq) fun _ h=>.inr h);have s7:=e4.get (by unfold XF zV;simp) Jm;have fin:∀ (f a:Nat) (op:Op) (S5:Sy) (H5:AH),S.Le S5->S5.Ok->zj H5 S5->yu H5->u0 S5 f a op->op.arity=2->zf xq H H5->
     zh (gr p w B) (m+1+d+2) H5 [.obj (.nm 6),.obj (.nm 0),.int m] (cZ 876) (fun p1 H6=>zh (gr p w B) (m+1+d+2) H6 [.obj (.nm 6),.obj (.nm 0),.int m] (cZ 876) (fun p2 H7=>Q (.tup [.str "s",.int f,.tup [p1,p2]]) H7) X) X:=by
    intro f a op S5 H5 z1 z2 z3 z4 z5 z6 z7;refine(ih m rfl (d:=d) z4 z3 z2 (bS.le z1) fun t S6 H6 I=>?_).up (A20 0xE0B408421E102100);refine(ih m rfl (d:=d) I.hand I.sym I.sok ((bS.le z1).le I.le) fun u S7 H7 J=>?_).up (A20 0xE0B408421E102100);refine q (.B f a op t u) S7 H7 ⟨(z1.trans I.le).trans J.le,J.sok,J.sym,J.hand,⟨(z5.le I.le).le J.le,z6,I.ok.le J.le,J.ok⟩,?_,⟨I.v3,J.v3⟩,(z7.trans I.ext).trans J.ext⟩;have:=I.size;have:=J.size;exact A32 0x1040110001038424A1C102100 (by assumption) this
   refine zd yn.fo ?_;by_cases XR:k3=7
   .refine wb XR (KA (b:=(m:Int)) (by lia+abstractProof) (YA (fin 0 1 .dot S H4 (.refl S) sok yn Yo ⟨bS.dot,bS.tdot⟩ rfl Ut) fun p1 H7 h7=>gV ?_));exact KA (b:=(m:Int)) (by lia+abstractProof) (YA h7 fun p2 H8 h8=>gV h8)
   .refine yZ XR (w0 Yo (by decide) fun k5 H5 MK ML Jk e5=>?_);have xf:=yn.pick e5;have Lu:=Ut.trans (e5.mono (N':=xq) fun _ h=>.inr h);have L_:=e5.get (by unfold XF zV;simp) s7;obtain⟨op,ho⟩:∃ op,Zp[k5.toNat]?=some op:=⟨Zp[k5.toNat]'(by simp[Zp];lia+abstractProof),List.getElem?_eq_getElem _⟩;refine a2 (gv op (List.mem_of_getElem? ho)) fun ov oa=>?_;refine zd xf.fo (yF (k:=k5) (p:=.str op.text) (l:=Zp.map fun op:Op=>PV.str op.text) L_ MK (Int.le_trans (Int.le_of_lt ML) (by decide)) (w9 ho) (zd xf.fo (jn xf sok ov fun H6 v8 e6=>?_)));have ej:=S.func_AA op;rw[oa] at ej;refine zd v8.fo (KA (b:=(m:Int)) (by lia+abstractProof) (YA (fin _ _ op _ H6 (S.func_le _ _) (sok.func ov (n:=2) (by decide) (by decide)) v8 (Jk.sym e6) ej oa (Lu.trans (e6.mono (N':=xq) fun _ h=>.inl h))) fun p1 H7 h7=>gV ?_));exact KA (b:=(m:Int)) (by lia+abstractProof) (YA h7 fun p2 H8 h8=>gV h8)
 all_goals
  refine w0 jB (by decide) fun k2 H2 MI MJ uJ e2=>?_;have zN:=zG.pick e2;have Qs:zf xq H H2:=Ja.trans (e2.mono fun _ h=>.inr h);refine zd zN.fo ?_;by_cases Vk:k2<3
  .refine wb Vk (xd zN sok fun H3 yc e3=>?_);have iR:=sok.atom (t:=("e":Str)) (by decide+kernel);have ZA:=uJ.sym e3;have eg:zf xq H H3:=Qs.trans (e3.mono fun _ h=>.inl h);refine zd yc.fo (w0 ZA (by decide) fun k3 H4 eZ QG Yo e4=>?_);have yn:=yc.pick e4;have Ut:zf xq H H4:=eg.trans (e4.mono fun _ h=>.inr h);refine zd yn.fo (yo fun la H5 Yv gl eL=>?_);have xf:=yn.ext eL fun _ _ h=>h;have Jk:=Yo.ext eL (fun h=>h) fun h=>h;have Vk:k2=0\/k2=1\/k2=2:=by lia+abstractProof
   rcases Vk with rfl|rfl|rfl
   .exact zd xf.fo (yF (k:=0) gl (by decide) (by decide) rfl (gV (q (.A _) _ _ (.leaf (S.atom_le _) iR xf Jk trivial trivial rfl (Ut.trans eL.no)))))
   .exact zd xf.fo (yF (k:=1) gl (by decide) (by decide) rfl (gV (q (.V k3) _ _ (.leaf (S.atom_le _) iR xf Jk trivial (show k3=0\/k3=1\/k3=2 by lia+abstractProof) rfl (Ut.trans eL.no)))))
   .exact zd xf.fo (yF (k:=2) gl (by decide) (by decide) rfl (gV (q (.V 2) _ _ (.leaf (S.atom_le _) iR xf Jk trivial (.inr (.inr rfl)) rfl (Ut.trans eL.no)))))
  .refine yZ Vk ?_;by_cases XR:k2=3
   .refine wb XR (jV (by decide) (by decide) (by decide) (by decide) (by decide) (zd zN.fo (w0 (limit:=10^(6:Int).toNat) uJ (by decide) fun k3 H4 eZ QG Yo e4=>?_)));have NG:k3<1000000:=QG;exact gV (q (.I (k3-1000)) _ _ (.leaf (.refl S) sok (zN.pick e4) Yo (show Sm _ by unfold Sm;lia+abstractProof) trivial rfl (Qs.trans (e4.mono fun _ h=>.inr h))))
   .refine yZ XR (w0 uJ (by decide) fun k3 H4 eZ QG Yo e4=>?_);exact gV (q (.I (k3-4)) _ _ (.leaf (.refl S) sok (zN.pick e4) Yo (show Sm _ by unfold Sm;lia+abstractProof) trivial rfl (Qs.trans (e4.mono fun _ h=>.inr h))))
theorem KV (n:Nat):jc p w B n:=by induction n with|zero=>exact WZ 0 fun m h=>by cases h|succ n ih=>exact WZ (n+1) fun m h=>by cases h;exact ih
end
theorem cn (k:xK σ ρ)(h:z_ g d c σ H e Q X):z_ g d c ρ H e Q X:=fun A env zb za θ s Qc Ec C EI I L hQ hX=>h A env zb za θ s Qc Ec C EI I (L.le k) hQ hX
theorem om (k:xK σ ρ)(h:kM g d c σ H e Q X):kM g d c ρ H e Q X:=fun A env zb za θ s Qc Ec C EI I L hQ hX=>h A env zb za θ s Qc Ec C EI I (L.le k) hQ hX
theorem ib (h:∀ y q,zS.get l y=some q->(y=x/\q=p)\/(y≠x/\zS.get iT y=some q/\uI.names.lookup y=some .free)):xK l ((u_ uI iT).put x p):=by
 intro y q e;rw[zS.get_put];rcases h y q e with⟨rfl,rfl⟩|⟨h1,h2,h3⟩
 .rw[if_pos rfl]
 .rw[if_neg h1];unfold u_;have key:∀ iT:zS,zS.get iT y=some q->zS.get (iT.filter fun yp=>uI.names.lookup yp.1==some .free) y=some q:=by
   intro iT;induction iT with
   |nil=>intro h;exact zJ h|cons a r ih=>
    obtain⟨z,u⟩:=a;intro h;unfold zS.get at h ih|-;rw[List.lookup_cons] at h;rw[List.filter_cons];by_cases c:y=z
    .subst c;rw[beq_self_eq_true] at h;rw[if_pos (by rw[h3];rfl),List.lookup_cons,beq_self_eq_true];exact h
    .rw[beq_false_of_ne c] at h;split
     .rw[List.lookup_cons,beq_false_of_ne c];exact ih h
     .exact ih h
  exact key iT h2
noncomputable def cS (l:List (Option (Option Nat)))(ρ:Lc)(p:PV):Lc:=l.map fun o=>match o with
 |none=>none|some none=>some p|some (some j)=>(ρ[j]?).getD none
noncomputable def V5 (uI:Scope)(cs s:Sc)(x:Str)(l:List (Option (Option Nat))):Bool:=(cs.c.names.zip l).all fun y=>match y.2 with
 |none=>true|some none=>y.1.1==x|some (some j)=>y.1.1 !=x&&y.1.1==s.nm j&&(s.kd j).isSome&&uI.names.lookup y.1.1==some .free
theorem VP (ok:V5 uI cs s x l=true):xK (lo cs (cS l ρ p)) ((u_ uI (lo s ρ)).put x p):=by
 refine ib fun y q e=>?_;refine yE ((Zf _ _ _ _).mp e) fun i k h1 h2=>?_;unfold cS at h2;rw[List.getElem?_map] at h2;cases ho:l[i]? with
 |none=>rw[ho] at h2;exact zJ h2|some o=>
  rw[ho] at h2;have hz:(cs.c.names.zip l)[i]?=some ((y,k),o):=by rw[List.getElem?_zip_eq_some];exact⟨h1,ho⟩
  have:=qg ok _ (List.mem_of_getElem? hz)
  match o,h2,this with
  |some none,h2,t=>cases h2;exact .inl ⟨eq_of_beq t,rfl⟩|some (some j),h2,t=>simp only[Bool.and_eq_true,bne_iff_ne,ne_eq,beq_iff_eq] at t;refine a2 t fun wd t4=>?_;clear t;obtain⟨⟨t1,t2⟩,t3⟩:=wd;refine zA (Yi t3) fun kk hk=>?_;simp only[Option.map_some,Option.some.injEq] at h2;refine .inr ⟨t1,?_,t4⟩;rw[t2];refine Yz hk ?_;cases hj:ρ[j]? with|none=>rw[hj] at h2;exact zJ h2|some u=>rw[hj] at h2;exact congrArg some h2
section
variable {p:Program} {w:World} {B:Heap} {d:Nat} {Q0:xM->Prop} {X:PV->AH->Prop} {ρ:Lc} {H:AH} {s cs:Sc} {uI:Scope} {b it:RE} {x:Str} {yp pos:Pos} {cl:List (Option (Option Nat))}
structure qC (p:Program)(w:World)(B:Heap)(d:Nat)(cs:Sc)(cl:List (Option (Option Nat)))(ρ:Lc)(b:RE)(Fin:List PV->AH->Prop)(src:qJ)(l:List PV)(H:AH):Prop where
 len:l.length<=1000000
 h:∃ Inv:List PV->List PV->AH->Prop,Inv l [] H/\(∀ v r ys H',Inv (v::r) ys H'->WE ⟨gr p w B,tx,d,cs,fun _=>True,fun _ _=>False⟩ (cS cl ρ v) H' b fun y yr=>vD src yr/\Inv r (ys++[y]) yr)/\∀ ys H',Inv [] ys H'->Fin ys H'
theorem qC.body {Fin:List PV->AH->Prop}(t:qC p w B d cs cl ρ b Fin src l H)(Ux:cs.c=uh uI s.c)(hl:V5 uI cs s x cl=true)(hw:b.wf tx cs=true):j9 (gr p w B) d s.c (lo s ρ) uI x [] (RE.ast tx cs b) Fin src l H:=by obtain⟨h0,Inv,h1,h2,h3⟩:=t;refine⟨h0,Inv,h1,fun v r ys H' k=>?_,h3⟩;show z_ _ _ _ _ _ _ _ _;rw[<-Ux];exact cn (VP hl) (h2 v r ys H' k hw)
theorem pL (cl:List (Option (Option Nat)))(Ux:cs.c=uh uI s.c)(hs:uP uI s.c x=true)(hl:V5 uI cs s x cl=true)(hw:b.wf tx cs=true)(hi:(it.wf tx s&&it.plain)=true) (h:WE ⟨gr p w B,tx,d,s,Q0,X⟩ ρ H it fun v HZ=>(∃ l,v=.tup l/\qC p w B d cs cl ρ b (fun ys H'=>∀ a yr,H' (.an a)=none->yr (.an a)=some (.list ys)->zf yA H' yr->Q (.obj (.an a)) yr) none l HZ)\/∃ i l,v=.obj i/\HZ i=some (.list l)/\qC p w B d cs cl ρ b (fun ys H'=>∀ a yr,H' (.an a)=none->yr (.an a)=some (.list ys)->zf yA H' yr->Q (.obj (.an a)) yr) (some (i,l)) l HZ):
  WE ⟨gr p w B,tx,d,s,Q0,X⟩ ρ H (.raw (.ListComp (RE.ast tx cs b) [⟨.Name x yp,RE.ast tx s it,[],0⟩] uI pos)) Q:=fun _=>by
 refine a2 (yP hi) fun LV LW=>?_;have fin:∀ {src l HZ},qC p w B d cs cl ρ b (fun ys H'=>∀ a yr,H' (.an a)=none->yr (.an a)=some (.list ys)->zf yA H' yr->Q (.obj (.an a)) yr) src l HZ->qC p w B d cs cl ρ b (fun ys H'=>∀ a,H' (.an a)=none->Q (.obj (.an a)) (H'.upd (.an a) (.list ys))) src l HZ:=fun t=>by obtain⟨h0,Inv,h1,h2,h3⟩:=t;exact⟨h0,Inv,h1,h2,fun ys H' k a n=>h3 ys H' k a _ n (AH.upd_same _ _ _) (zf.new n)⟩
 refine oM hs (Q7 ((h LV).mono fun v HZ k=>?_)) (fun env y=>X_ LW env y);rcases k with⟨l,e,t⟩|⟨i,l,e,Vl,t⟩
 .exact .inl ⟨l,e,(fin t).body Ux hl hw⟩
 .exact .inr ⟨i,l,e,Vl,t.len,(fin t).body Ux hl hw⟩
end
section
variable {p:Program} {w:World} {B:Heap} {d:Nat} {Q0 Q:xM->Prop} {X:PV->AH->Prop} {ρ:Lc} {H:AH} {s cs:Sc} {uI:Scope} {b t it:RE} {x:Str} {px py pos tE:Pos} {cl:List (Option (Option Nat))} {i q p':Nat}
structure av (p:Program)(w:World)(B:Heap)(d:Nat)(cs:Sc)(cl:List (Option (Option Nat)))(ρ:Lc)(b t:RE)(Fin:List PV->AH->Prop)(src:qJ)(l:List PV)(H:AH):Prop where
 len:l.length<=1000000
 h:∃ Inv:List PV->List PV->AH->Prop,Inv l [] H/\(∀ v r ys H',Inv (v::r) ys H'->WB ⟨gr p w B,tx,d,cs,fun _=>True,fun _ _=>False⟩ (cS cl ρ v) H' t fun z HZ=>if z then WE ⟨gr p w B,tx,d,cs,fun _=>True,fun _ _=>False⟩ (cS cl ρ v) HZ b (fun y yr=>vD src yr/\Inv r (ys++[y]) yr) else vD src HZ/\Inv r ys HZ)/\∀ ys H',Inv [] ys H'->Fin ys H'
theorem av.body {Fin:List PV->AH->Prop}(k:av p w B d cs cl ρ b t Fin src l H)(Ux:cs.c=uh uI s.c)(hl:V5 uI cs s x cl=true)(hw:(b.wf tx cs&&t.wf tx cs)=true):j9 (gr p w B) d s.c (lo s ρ) uI x [RE.ast tx cs t] (RE.ast tx cs b) Fin src l H:=by obtain⟨h0,Inv,h1,h2,h3⟩:=k;refine a2 (yP hw) fun w1 w2=>?_;refine⟨h0,Inv,h1,fun v r ys H' k=>?_,h3⟩;show kM _ _ _ _ _ _ _ _;rw[<-Ux];refine om (VP hl) ((h2 v r ys H' k w2).mono fun z HZ k=>?_);cases z with|false=>exact k|true=>exact cn (VP hl) (k w1)
theorem VA (hy:s.kd i=some .local)(hp:(py.line==pos.line)=true)(hn:(uI.names.any fun(n,k)=>n==s.nm i&&(k==.local||k==.cell))=false)(hs:uP uI s.c x=true)(eT:∀ env x,foldedSetIterable iter env x=pure x) (h:Ve (gr p w B) d s.c (lo s ρ) H iter (j9 (gr p w B) d s.c (lo s ρ) uI x ifs elt fun ys H'=>∀ a yr,H' (.an a)=none->yr (.an a)=some (.list ys)->zf yA H' yr->Q (.next (ρ.set i (some (.obj (.an a)))) yr)) X):
  W1 ⟨gr p w B,tx,d,s,Q0,X⟩ ρ H (.raw (.Assign [.Name (s.nm i) py] (RE.ast tx s (.raw (.ListComp elt [⟨.Name x px,iter,ifs,0⟩] uI pos))) tE)) Q:=fun _=>by
 refine rf hs (s.look hy) hp hn ?_ eT;intro A env zb za θ st Qc Ec C EI I L hQ hX;refine h A env zb za θ st _ _ C EI I L (fun ME src l θZ HZ hZ tkZ qZ=>hQ ME src l θZ HZ hZ tkZ ?_) hX;refine a2 qZ fun h0 zz=>?_;refine wU zz fun Inv h1 h2 h3=>?_;clear qZ;exact⟨h0,Inv,h1,h2,fun ys H' k a n=>⟨_,v5 hy,h3 ys H' k a _ n (AH.upd_same _ _ _) (zf.new n)⟩⟩
theorem J7 (hw:((RE.cal 13 (.k it .n) q p').wf tx s)=true)(hF:WE ⟨gr p w B,tx,d,s,Q0,X⟩ ρ H it fun v HZ=>∃ n:Int,v=.int n/\0<=n/\n<=1000000/\Qg none (wN 0 n 1) HZ):
  Ve (gr p w B) d s.c (lo s ρ) H (RE.ast tx s (.cal 13 (.k it .n) q p')) Qg X:=by
 refine a2 (yP (show(ZO tx s 13&&(RE.k it .n).wfs tx s)=true from hw)) fun h1 h2=>?_;refine wU (ja h1) fun z e1 e2 e3=>?_;obtain rfl:=yd e1;exact iq (KJ e3 kR (hF (yP h2).1) (wW h2))
end
section
variable {p:Program} {w:World} {B:Heap} {H:AH} {d:Nat} {X Q:PV->AH->Prop}
noncomputable def wB (vl:List (Int×Tr))(k:Int):Option Tr:=(vl.find? fun x=>decide (x.1=k)).map (·.2)
noncomputable def wH (vl:List (Int×Tr)):List (Int×PV):=vl.map fun x=>(x.1,x.2.pv)
theorem Uh (vl:List (Int×Tr))(k:Int):vF (wH vl) k=(wB vl k).map Tr.pv:=by
 unfold vF wH wB;induction vl with
 |nil=>rfl|cons x r ih=>
  rw[List.map_cons,List.find?_cons,List.find?_cons];by_cases h:x.1=k
  .simp[h]
  .simp only[h,decide_false];exact ih
noncomputable def yI (vl:List (Int×Tr))(k:Int):Tr:=(wB vl k).getD (.V k)
noncomputable def Tr.full (vl:List (Int×Tr))(t:Tr):Tr:=t.subst (yI vl)
noncomputable def Tr.dep:Tr->Nat|.U _ _ _ t=>t.dep+1|.B _ _ _ l r=>max l.dep r.dep+1|_=>0
theorem rN {vl:List (Int×Tr)}{t:Tr}(h:t.isS=true):(t.full vl).pv=.tup [.str "s",.int t.fn,.tup (t.args.map fun u=>(u.full vl).pv)]:=by cases t with|V k=>exact zU h|A k=>exact zU h|I k=>exact zU h|U f a op t=>rfl|B f a op l r=>rfl
theorem g9 {t:Tr}:∀ u∈t.args,u.dep+1<=t.dep:=by cases t with|V k=>intro u hu;exact wg hu|A k=>intro u hu;exact wg hu|I k=>intro u hu;exact wg hu|U f a op t=>exact List.forall_mem_cons.mpr ⟨Nat.le_refl _,fun _ h=>wg h⟩|B f a op l r=>exact List.forall_mem_cons.mpr ⟨Nat.succ_le_succ (Nat.le_max_left ..),List.forall_mem_cons.mpr ⟨Nat.succ_le_succ (Nat.le_max_right ..),fun _ h=>wg h⟩⟩
def X4 (p:Program)(w:World)(B:Heap)(vl:List (Int×Tr))(vi:Id)(n:Nat):Prop:=∀ (t:Tr) {d:Nat} {H:AH} {X Q:PV->AH->Prop},t.dep<=n->H vi=some (.dictI (wH vl))->(∀ H',zf yA H H'->Q (t.full vl).pv H')->zh (gr p w B) (n+d+1) H [t.pv,.obj vi] (cZ 881) Q X
theorem oE:uP WU Wu.c "part"=true/\V5 WU lE Wu "part" [none,some none,none,some (some 1)]=true:=by constructor<;>kernel_rfl
theorem WR (n:Nat)(ih:∀ m,n=m+1->X4 p w B vl vi m):X4 p w B vl vi n:=by
 intro t d H X Q hn hv q;by_cases hs:t.isS=true
 .rw[Tr.pv_S hs];refine z9 (F:=[]) rfl trivial (pL [none,some none,none,some (some 1)] rfl oE.1 oE.2 (by kernel_rfl) (by kernel_rfl) (kc (F:=[]) trivial (.inl ⟨_,rfl,by simp;have:=(vK hs).2.2;exact A11 0x1C000406FAC00 this,fun r ys H'=>∃ us vs,t.args=us++vs/\r=vs.map Tr.pv/\ys=us.map (fun u=>(u.full vl).pv)/\zf yA H H',⟨[],t.args,rfl,rfl,rfl,.refl⟩,?_,?_⟩)))
  .intro x r ys H' zq;refine bw zq fun us vs ha hr hy e=>?_;clear zq;cases vs with
   |nil=>exact Kw hr|cons u vs=>simp only[List.map_cons,List.cons.injEq] at hr;refine a2 hr fun xA zW=>?_;clear hr;subst xA zW;have hd:=g9 u (by rw[ha];simp);obtain⟨m,rfl⟩:∃ m,n=m+1:=⟨n-1,by lia⟩;refine kc (F:=[]) trivial ?_;refine(ih m rfl u (d:=d) (A32 0x685020044D0200100400 hd hn) (e.get (fun h=>h) hv) fun H2 e2=>gV ?_).up (by show m+d+1<=m+1+d;exact A20 0x5A0421A102100);exact⟨trivial,us++[u],vs,by rw[ha];simp,rfl,by rw[hy];simp,e.trans e2⟩
  .rintro ys H' ⟨us,vs,ha,hr,hy,e⟩ a H2 na ga ea;obtain rfl:vs=[]:=by cases vs with
    |nil=>rfl|cons _ _=>exact KI hr
   rw[List.append_nil] at ha;subst ha hy;refine gV (jb ga (by simp;have:=(vK hs).2.2;exact A11 0x1C000406FAC00 this) (gV ?_));have:=q H2 (e.trans ea);rw[rN hs] at this;exact this
 .cases t with
  |U f a op t=>exact absurd rfl hs|B f a op l r=>exact absurd rfl hs|V k=>
   have get:Q (((wB vl k).map Tr.pv).getD (Tr.V k).pv) H->zh (gr p w B) (n+d+1) H [(Tr.V k).pv,.obj vi] (cZ 881) Q X:=fun q=>by rw[<-Uh] at q;cases vi<;>exact z9 (F:=[]) rfl trivial (rD hv (gV q))
   refine get ?_;have:=q H .refl;unfold Tr.full Tr.subst yI at this;cases hk:wB vl k with
   |none=>rw[hk] at this;exact this|some u=>rw[hk] at this;exact this
  |A k=>exact z9 (F:=[]) rfl trivial (q H .refl)|I k=>exact z9 (F:=[]) rfl trivial (q H .refl)
theorem YC (n:Nat):X4 p w B vl vi n:=by induction n with|zero=>exact WR 0 fun m h=>by cases h|succ n ih=>exact WR (n+1) fun m h=>by cases h;exact ih
end
section
theorem JY (hi:(s.kd i).isSome=true)(e:ρ[i]?=some none):(lo s ρ).get (s.nm i)=none:=by
 cases h:(lo s ρ).get (s.nm i) with
 |none=>rfl|some q=>
  refine yE ((Zf _ _ _ _).mp h) fun j k h1 h2=>?_;unfold Sc.kd at hi;unfold Sc.nm at h1;cases hn:s.c.names[i]? with
  |none=>rw[hn] at hi;exact zU hi|some y=>
   rw[hn] at h1;have hj:j<(s.c.names.map (·.1)).length:=by rw[List.length_map];exact(xU h1).1
   have:j=i:=(List.getElem?_inj hj s.nd).mp (by rw[List.getElem?_map,List.getElem?_map,h1,hn];rfl);subst this;rw[e] at h2;cases h2
section
variable {p:Program} {w:World} {B:Heap} {d:Nat} {s:Sc} {Q Q0:xM->Prop} {X:PV->AH->Prop} {ρ:Lc} {H:AH} {n:Nat} {e:RE} {tp p0 p1 p2 p3 p4 p5 pos Jw:Pos} {k1 k2:Nat}
theorem cf (hg:s.c.names.lookup ("PrologError":Str)=some .globalImplicit)(hk:s.kd n=some .local)(hd:(s.nm n==("__debug__":Str))=false)(hr:ρ[n]?=some none)(hw:e.wf tx s=true) (h:WE ⟨gr p w B,tx,d,s,Q0,fun ball HZ=>(∀ v,ball≠.raw v)/\Q (.ret (.tup [.str "error",ball]) HZ)⟩ ρ H e fun v HZ=>Q (.ret v HZ)):
  W1 ⟨gr p w B,tx,d,s,Q0,X⟩ ρ H (.raw (.Try [.Return (some (RE.ast tx s e)) p0] [.ExceptHandler (some (.Name "PrologError" tp)) (some (s.nm n)) [.Return (some (.Tuple [.Constant (.str "error") k1 p1,.Attribute (.Name (s.nm n) p2) "ball" p3] k2 p4)) p5] Jw] [] [] pos)) Q:=
 fun _=>c5 Qo hg (s.look hk) hd (JY (by rw[hk];rfl) hr) (h hw)
end
variable {p:Program} {w:World} {B:Heap} {H:AH} {d:Nat} {X Q:PV->AH->Prop}
theorem j4 (hi:H i=some (.list l))(hj:H j=some (.list []))(q:Q (.bool l.isEmpty) H):zh g d H [.obj i,.obj j] (t2 (compareOp .Eq)) Q X:=xa (fun{_ _ _ s _ _ _ _} C I r1 r2 k=>by
 refine zg (yz r1) fun a ha zm=>?_;subst zm;refine zg (yz r2) fun b hb zm=>?_;subst zm;refine zB (I.listAt hi ha) fun x n hl hr zx=>?_;refine zB (I.listAt hj hb) fun y n' hm uW zy=>?_;have hu:=C.unit;have ly:=uW.length;have lx:=hr.length;cases l with
 |nil=>
  refine eq_listAt (e:=fun _=>true) hl.isList hm.isList (by simp at lx ly;simp[lx,ly]) (A21 0x2016BCB0202100401 hu) (fun j h1 h2=>?_) ?_
  .simp at lx;simp[lx] at h1
  .have:x.size=0:=by simpa using lx
   rw[this];exact k _ s.toks (uQ _ _ _)
 |cons z r=>refine eq_list_lengthsAt hl.isList hm.isList ?_ (A21 0x2016BCB0202100401 hu) (k _ s.toks (uQ _ _ _));simp at lx ly;simp[lx,ly]) q
noncomputable def ui (ball:PV):PV:=.tup [.str "error",ball]
noncomputable def La (f:Nat)(l:List PV):PV:=.tup [.str "s",.int f,.tup l]
theorem dY (hS:zj H S)(sok:S.Ok)(hk:k∈xj)(hl:H li=some (.list []))(vM:∀ n<6,li≠.nm n)(q:∀ H',zj H' ((S.func k 0).1.atom k).1->zf yh H H'->Q (ui (kg (Yj ((S.func k 0).1.atom k).2))) H'):
  zh (gr p w B) (d+3) H [.obj (.nm 0),.str k,.obj li] (cZ 888) Q X:=by
 refine z9 rfl hS.fo (xb hl (by simp) (zd hS.fo (jn (n:=0) hS sok hk fun H1 zG e1=>?_)));have vj:=e1.get (N:=yh) (by rintro(h|h|h|h)<;>exact vM _ (by decide) h) hl;refine zd zG.fo (jb vj (by simp) (zd zG.fo (yo fun la H2 Yv gl eL=>?_)));have zN:=zG.ext eL fun _ _ h=>h;refine zd zN.fo (j4 (eL.get (fun h=>h) vj) gl (zd zN.fo (xd zN (sok.func hk (by decide) (by decide)) fun H3 yc e2=>gV ?_)));exact q H3 yc ((e1.trans eL.no).trans e2)
theorem vX (hS:zj H S)(sok:S.Ok)(hk:k∈xj)(hl:H li=some (.list l))(vM:∀ n<6,li≠.nm n)(wJ:l≠[])(hz:l.length<=8)(q:∀ H',zj H' (S.func k l.length).1->zf yh H H'->Q (ui (kg (La (S.func k l.length).2 l))) H'):
  zh (gr p w B) (d+3) H [.obj (.nm 0),.str k,.obj li] (cZ 888) Q X:=by
 refine z9 rfl hS.fo (xb hl (A11 0x28000407FAC00 hz) (zd hS.fo (jn hS sok hk fun H1 zG e1=>?_)));have vj:=e1.get (N:=yh) (by rintro(h|h|h|h)<;>exact vM _ (by decide) h) hl;refine zd zG.fo (jb vj (A11 0x28000406FAC00 hz) (zd zG.fo (yo fun la H2 Yv gl eL=>?_)));have zN:=zG.ext eL fun _ _ h=>h;refine zd zN.fo (j4 (eL.get (fun h=>h) vj) gl (zd zN.fo ?_));refine jE (by cases l with|nil=>exact absurd rfl wJ|cons _ _=>rfl) ?_;exact q _ zN (e1.trans eL.no)
theorem qh (S:Sy)(e:zT):∀ v,(e.ball S).2≠.raw v:=by intro v;cases e<;>intro h<;>cases h
theorem aa (hS:zj H S)(ok:S.Ok)(ht:t.Ok S)(hz:t.size<=500)(hb:bits<=64) (q:∀ x,ev bits t=.ok x->∀ H',zj H' S->zf yA H H'->Q (.tup [.str ("value":Str),.int x]) H') (qe:∀ e,ev bits t=.error e->∀ H',zj H' (e.ball S).1->zf yh H H'->Q (ui (e.ball S).2) H'):
  zh (gr p w B) (d+11) H [.obj (.nm 0),t.pv,.int bits] (cZ 895) Q X:=
 z9 (F:=[]) rfl trivial (cf rfl rfl rfl rfl (by kernel_rfl) (kc (F:=[]) trivial (aT hS ok ht hz hb (fun x hx H1 h1 e1=>gV (q x hx H1 h1 e1)) fun e he H1 h1 e1=>⟨qh S e,qe e he H1 h1 e1⟩)))
theorem Y1 {f:Addr}{li:Id}{S:Sy}{bits:Int}{hp xs cs:List Cl}(hk:keepIn (gr p w B).K (.ref f)=true)(g:zL H S bits hp xs)(hl:H li=some (.list (cs.map Cl.pv)))(vM:∀ n<16,li≠.nm n)(hn:1<=xs.length)(uX:xs.length<=900)(Qv:cs.length<=50) (h:∀ ye H',(∀ i,i<cs.length->ye[i+1]?=cs[i]?)->1<=ye.length->ye.length<=max xs.length (cs.length+1)->zL H' S bits hp ye->zf (zV (.nm 15)) H H'->
   zh (gr p w B) (d+2) H' [.obj (.nm 8)] (cZ f) (fun r H2=>Q (.tup [.str ("holds":Str),r]) H2) (fun ball H2=>(∀ v,ball≠.raw v)/\Q (ui ball) H2)):
  zh (gr p w B) (d+3) H [.raw (.ref f),.obj (.nm 8),.obj li] (cZ 902) Q X:=by
 refine yU (g.mac.fox (p:=p) (w:=w) (B:=B)) fun i1 i2 i3 F=>?_;refine z9 rfl F (cU g.mac hl vM hn uX Qv fun ye H1 z1 z2 z3 z4 z5=>?_);have g1:zL H1 S bits hp ye:=⟨z4,g.sym.ext z5 (fun n hn z=>by cases z;exact A01 0x96C2103186 hn),g.ok,g.bits64,g.len,by have:=g.xlen;lia+abstractProof⟩;refine gV (cf rfl rfl rfl rfl (by kernel_rfl) (kc (F:=[]) trivial ⟨_,rfl,Wi hk,?_⟩));exact Z9 (kc (F:=[]) trivial (UL (YA (h ye H1 z1 z2 z3 g1 z5) fun r H2 hq=>gV hq)))
end
section
variable {p:Program} {w:World} {B:Heap} {H:AH} {d:Nat} {X Q:PV->AH->Prop}
noncomputable def vx:Tr->Bool|.V _=>true|.A _=>true|.I _=>true|.U _ _ _ (.I _)=>true|_=>false
structure Bh (H:AH)(S:Sy)(t:Tr)(S':Sy)(H':AH):Prop where
 le:S.Le S'
 sok:S'.Ok
 sym:zj H' S'
 hand:yu H'
 ok:t.Ok S'
 form:vx t=true
 size:t.size<=10
 ext:zf xq H H'
theorem oZ (hh:yu H)(hS:zj H S)(sok:S.Ok)(bH:near.natAbs<=2^50)(q:∀ t S' H',Bh H S t S' H'->Q t.pv H'):zh (gr p w B) (d+4) H [.obj (.nm 6),.obj (.nm 0),.int near] (cZ 909) Q X:=by
 refine z9 (F:=[]) rfl trivial (w0 hh (by decide) fun k1 H1 MG MH jB e1=>?_);have zG:=hS.pick e1;have Ja:zf xq H H1:=e1.mono fun _ h=>.inr h;refine zd zG.fo ?_;by_cases hk:k1<3
 .exact wb hk (q (.V 0) _ _ ⟨.refl S,sok,zG,jB,trivial,rfl,by decide,Ja⟩)
 refine yZ hk ?_;by_cases XR:k1=3
 .refine wb XR (xd zG sok fun H2 zN e2=>gV ?_);exact q (.A _) _ _ ⟨S.atom_le _,sok.atom (by decide+kernel),zN,jB.sym e2,trivial,rfl,(by decide:1<=10),Ja.trans (e2.mono fun _ h=>.inl h)⟩
 refine yZ XR ?_;by_cases sT:k1=4
 .refine wb sT (jn (t:=(Op.ff ()).text) (n:=(Op.ff ()).arity) zG sok (by decide+kernel) fun H2 zN e2=>gV ?_);exact q (.U _ _ (.ff ()) (.I 3)) _ _ ⟨S.func_le _ _,sok.func (by decide+kernel) (by decide) (by decide),zN,jB.sym e2,⟨S.func_AA (.ff ()),rfl,show Sm 3 from by unfold Sm;decide⟩,rfl,(by decide:3<=10),Ja.trans (e2.mono fun _ h=>.inl h)⟩
 refine yZ sT (yo fun la H2 Yv hl eL=>?_);have zN:=zG.ext eL fun _ _ h=>h;have uJ:=jB.ext eL (fun h=>h) fun h=>h;refine zd zN.fo (w0 uJ (by decide) fun k2 H3 MI MJ ZA e3=>?_);have Jm:=e3.get (by unfold XF zV;simp) hl;have fin:∀ n:Int,Sm n->Q (Tr.I n).pv H3:=fun n hn=>q (.I n) _ _ ⟨.refl S,sok,zN.pick e3,ZA,hn,rfl,(by decide:1<=10),(Ja.trans eL.no).trans (e3.mono fun _ h=>.inr h)⟩;have Vk:k2=0\/k2=1\/k2=2\/k2=3\/k2=4\/k2=5:=by lia
 rcases Vk with rfl|rfl|rfl|rfl|rfl|rfl<;>refine gV (yF Jm (by decide) (by decide) rfl (gV (fin _ ?_)))
 .unfold Sm;decide
 .unfold Sm;lia
 .unfold Sm;lia
 .unfold Sm;lia
 .unfold Sm;decide
 .unfold Sm;decide
theorem q7.side (h:q7 hp [] t c hp' tab')(ok:t.Ok S)(hf:vx t=true):xv S hp' c t:=by
 have ha:=h.at_;unfold PT at ha;cases t with
 |V k=>
  refine zg ha fun x h1 zm=>?_;clear ha;subst zm;rcases h.new k x h1 with z|⟨z1,z2⟩
  .exact zJ z
  .exact⟨0,x,.self z2⟩
 |A k=>exact ha|I k=>exact⟨ha,ok⟩|U f a op t=>
  cases t with
  |I m=>obtain⟨x,n,e,h1,h2,h3,zz⟩:=ha;refine zA zz fun n' h4=>?_;have:=ok.1.1;rw[ok.2.1] at this;exact⟨n,x,n',e,a,h1,h2,h3,h4,this⟩
  |V k=>exact zU hf|A k=>exact zU hf|U _ _ _ _=>exact zU hf|B _ _ _ _ _=>exact zU hf
 |B f a op l r=>exact zU hf
theorem xv.grow (l:S.Le S')(g:∀ y<hp.length,hp'[y]?=hp[y]?)(h:xv S hp c t):xv S' hp' c t:=by
 have gg:∀ {y:Nat} {e:Cl},hp[y]?=some e->hp'[y]?=some e:=fun z=>by rw[g _ (xU z).1];exact z
 cases t with
 |V k=>obtain⟨n,x,h⟩:=h;exact⟨n,x,h.grow g⟩
 |A k=>obtain⟨n,h⟩:=h;exact⟨n,h.grow g⟩
 |I k=>obtain⟨⟨n,h⟩,h2⟩:=h;exact⟨⟨n,h.grow g⟩,h2⟩
 |U f a op t=>
  cases t with
  |I m=>refine rS h fun k x k' e a h1 h2 h3 h4 h5=>?_;clear h;refine a2 l fun _ zz=>?_;refine zA zz fun y hy=>?_;clear l;exact⟨k,x,k',e,a,h1.grow g,gg h2,gg h3,h4.grow g,by rw[hy,List.getElem?_append_left (xU h5).1];exact h5⟩|V k=>exact h.elim|A k=>exact h.elim|U _ _ _ _=>exact h.elim|B _ _ _ _ _=>exact h.elim
 |B f a op l r=>exact h.elim
end
section
set_option genInjectivity false
set_option genSizeOf false
set_option genCtorIdx false
section
variable {p:Program} {w:World} {B:Heap} {H:AH} {d:Nat} {X Q:PV->AH->Prop}
theorem jW (q:Q (.bool (x !=y)) H):zh g d H [.str x,.str y] (t2 (compareOp .NotEq)) Q X:=xa (fun{_ _ _ s _ _ _ _} _ _ r1 r2 k=>by obtain⟨t,rfl⟩:=vC r1;obtain⟨u,rfl⟩:=vC r2;exact ne_str (k _ s.toks (uQ _ _ _))) q
noncomputable def Wq (nat:Bool)(t:Tr):Except zT (Option Int):=if nat then Z7 t else wA t
noncomputable def yO (nat:Bool):List Tr->Except zT (List (Option Int))|[]=>.ok []|t::r=>(Wq nat t).bind fun v=>(yO nat r).bind fun vs=>.ok (v::vs)
noncomputable def qG (vs:List (Option Int))(j:Nat):List PV:=((List.range j).filter fun i=>vs[i]?==some none).map fun(i:Nat)=>PV.int i
theorem aS (vs:List (Option Int))(j:Nat):qG vs (j+1)=if vs[j]?==some none then qG vs j++[.int j] else qG vs j:=by
 unfold qG;rw[List.range_succ,List.filter_append,List.map_append];by_cases h:(vs[j]?==some none)=true
 .rw[if_pos h];simp[h]
 .rw[if_neg h];simp[h]
theorem ZW {S S':Sy}{e:zT}(h:(e.ball S).1.Le S'):(e.ball S').2=(e.ball S).2:=by cases e with|inst=>simp only[zT.ball] at h|-;rw[Sy.atom_again h]|type k c=>simp only[zT.ball] at h|-;rw[Sy.atom_again ((Sy.func_le _ _ _).trans h),Sy.func_again h]|eval k=>simp only[zT.ball] at h|-;rw[Sy.atom_again ((Sy.func_le _ _ _).trans h),Sy.func_again h]|res k=>simp only[zT.ball] at h|-;rw[Sy.atom_again ((Sy.func_le _ _ _).trans h),Sy.func_again h]
def w_ (S:Sy)(H:AH)(Q:PV->AH->Prop)(e:zT):Prop:=∀ S' H',(e.ball S).1.Le S'->S'.Ok->zj H' S'->zf yh H H'->Q (ui (e.ball S).2) H'
theorem pq {α:Type}{r:Except zT α}:(r.bind fun x=>.ok x)=r:=by cases r<;>rfl
theorem W5 {a b:List Tr}:∀ {vs:List (Option Int)},yO nat a=.ok vs->yO nat (a++b)=(yO nat b).bind fun ws=>.ok (vs++ws):=by induction a with|nil=>intro vs h;cases h;exact pq.symm|cons t a ih=>intro vs h;refine zg (yt h) fun v h1 h=>?_;refine zg (yt h) fun us h2 h=>?_;cases h;exact xe h1 ((kB (ih h2)).trans J8)
theorem dM (h:H i=some (.list l))(hn:l.length=n)(hz:n<=1000)(q:Q (.int n) H):zh g d H [.obj i] (fun vs=>call (.builtin "len") vs) Q X:=
 xb h (A22 0x1F479610042010407FAC00 hn hz) (by rw[hn];exact q)
theorem jU (h0:0<most)(_h64:most<=64):(most<(bl v:Int))↔(2^most.toNat<=v\/v<=-2^most.toNat):=by
 have key:(2:Int)^most.toNat=((2^most.toNat:Nat):Int):=by simp
 rw[key];generalize hm:most.toNat=m;have e:most=(m:Int):=by lia
 subst e;have hp:0<2^m:=Nat.two_pow_pos m;unfold bl Builtin.Int.intBits;by_cases hv:v=0
 .subst hv;simp only[beq_self_eq_true,if_true];lia
 .have:(v==0)=false:=by simpa using hv
  rw[this];simp only[Bool.false_eq_true,if_false];have hn:v.natAbs≠0:=Int.natAbs_ne_zero.mpr hv;have h1:m<=v.natAbs.log2↔2^m<=v.natAbs:=Nat.le_log2 hn;generalize 2^m=z at*;lia
inductive qF where|holds (b:Bool)|value (v:Int) (k:Nat)
noncomputable def qF.pv:qF->PV|.holds b=>.tup [.str "holds",.bool b]|.value v k=>.tup [.str "value",.int v,.int k]
noncomputable def Hv (most:Int):Option Int->Option Int->Except zT qF|some a,some b=>(y7 most (a+1)).bind fun v=>.ok (.holds (b==v))|some a,none=>(y7 most (a+1)).bind fun v=>.ok (.value v 1)|none,some b=>if b=0 then .ok (.holds false) else .ok (.value (b-1) 0)|none,none=>.error .inst
noncomputable def Hu (most:Int):Option Int->Option Int->Option Int->Except zT qF|some a,some b,some c=>(y7 most (a+b)).bind fun v=>.ok (.holds (c==v))|some a,some b,none=>(y7 most (a+b)).bind fun v=>.ok (.value v 2)|some a,none,some c=>(y7 most (c-a)).bind fun v=>.ok (.value v 1)|some _,none,none=>.error .inst|none,some b,some c=>(y7 most (c-b)).bind fun v=>.ok (.value v 0)|none,some _,none=>.error .inst|none,none,_=>.error .inst
noncomputable def HA (most:Int)(nat:Bool)(a b:Option Int):List (Option Int)->Except zT qF|[]=>if nat then Hv most a b else .ok (.holds false)|[c]=>if nat then .ok (.holds false) else Hu most a b c|_=>.ok (.holds false)
noncomputable def xQ (most:Int)(nat:Bool):List (Option Int)->Except zT qF|a::b::r=>HA most nat a b r|_=>.ok (.holds false)
theorem aA {a:List Tr}:∀ {vs:List (Option Int)},yO nat a=.ok vs->vs.length=a.length:=by induction a with|nil=>intro vs h;cases h;rfl|cons t a ih=>intro vs h;refine zg (yt h) fun v h1 h=>?_;refine zg (yt h) fun us h2 h=>?_;cases h;exact congrArg (·+1) (ih h2)
theorem iC (sok:S.Ok)(h:w_ S H Q .inst):∀ (S2:Sy) (H':AH),zj H' ((S.func "instantiation_error" 0).1.atom "instantiation_error").1->zf yh H H'->Q (ui (kg (Yj ((S.func "instantiation_error" 0).1.atom "instantiation_error").2))) H':=by intro _ H' hS e;have l:(S.atom "instantiation_error").1.Le (S.func "instantiation_error" 0).1:=Sy.functor_le _ _ _;rw[Sy.atom_again l] at hS|-;exact h _ H' l (sok.func (by decide+kernel) (by decide) (by decide)) hS e
theorem pb:uP W6 jk.c "place"=true/\V5 W6 aJ jk "place" [none,some none,some (some 4)]=true:=by constructor<;>kernel_rfl
section
variable {p:Program} {w:World} {B:Heap} {d:Nat} {s:Sc} {Q0 Qc:xM->Prop} {X:PV->AH->Prop} {rs:List RS} {ρ:Lc} {H:AH} {F:List Fo} {t e:RE} {b o:RS} {pp i q:Nat}
theorem wq (hF:Fa (gr p w B) tx H F)(h:run ⟨gr p w B,tx,d,s,Qc,X⟩ H F 1000 ρ [] [.iffZ b o] (.T t)):W1 ⟨gr p w B,tx,d,s,Q0,X⟩ ρ H (.iff t b o pp) Qc:=by
 have k:WB ⟨gr p w B,tx,d,s,Qc,X⟩ ρ H t (sZ ⟨gr p w B,tx,d,s,Qc,X⟩ [] ρ [.iffZ b o]):=vr kE hF _ _ _ _ _ h;have m:∀ {b:RS} {HZ:AH},WS ⟨gr p w B,tx,d,s,Qc,X⟩ ρ HZ b (uw ⟨gr p w B,tx,d,s,Qc,X⟩ [])->WS ⟨gr p w B,tx,d,s,Q0,X⟩ ρ HZ b Qc:=fun h=>WS.mono (x:=⟨gr p w B,tx,d,s,Q0,X⟩) h fun o q=>by cases o<;>exact q
 refine dy (fun hw=>(k hw).mono fun z HZ q=>?_);cases z with|false=>exact m q|true=>exact m q
theorem Ze (hF:Fa (gr p w B) tx H F)(h:run ⟨gr p w B,tx,d,s,uf fun v HZ=>Qc (.next (ρ.set i (some v)) HZ),X⟩ H F 1000 ρ [] [.ret] (.E e)):W1 ⟨gr p w B,tx,d,s,Q0,X⟩ ρ H (.asn i q e pp) Qc:=cT (kc hF h)
end
noncomputable def Wr:Nat->RS->RS|0,b=>b|n+1,.k _ b=>Wr n b|_+1,b=>b
def qS (p:Program)(w:World)(B:Heap)(n d:Nat)(ρ:Lc)(H:AH)(Q X:PV->AH->Prop):Prop:=WS ⟨gr p w B,tx,d,jk,uf Q,X⟩ ρ H (Wr n bk) (uw ⟨gr p w B,tx,d,jk,uf Q,X⟩ [])
theorem UP (hF:Fa (gr p w B) tx H F)(h:run ⟨gr p w B,tx,d,jk,uf Q,X⟩ H F 1000 ρ [] [] (.S (Wr n bk))):qS p w B n d ρ H Q X:=vr kE hF _ _ _ _ _ h
theorem w_.ext (h:w_ S H Q e)(x:zf yA H H'):w_ S H' Q e:=fun S' H2 l ok hS e'=>h S' H2 l ok hS (x.no.trans e')
theorem wL {S:Sy}{most:Int}{nat:Bool}{wl la:Addr}{x1 x5 x6 x8 x9:Option PV}{n pl:Nat}{ks:List Int}{ws:List PV}(hS:zj H S)(sok:S.Ok)(wx:H (.an la)=some (.list (ks.map .int)))(hw:H (.an wl)=some (.list ws))(hn:ws.length=n+1)(eO:n<=100)(XR:ks.length<=100)(hl:((n+1:Nat):Int)-1=lst)(hp:ks.length<=1->pl=ks.headD lst) (qe:1<ks.length->w_ S H Q .inst) (q:ks.length<=1->∀ H4,zj H4 S->zf yA H H4->qS p w B 6 (d+5) [some (.obj (.nm 0)),x1,some (.int most),some (.bool nat),some (.obj (.an wl)),x5,some (.int pl),some (.obj (.an la)),some (.int lst),x9] H4 Q X):
  qS p w B 3 (d+5) [some (.obj (.nm 0)),x1,some (.int most),some (.bool nat),some (.obj (.an wl)),x5,x6,some (.obj (.an la)),x8,x9] H Q X:=by
 refine xC (wq hS.fo (dM (n:=ks.length) wx (by simp) (A11 0xC9E58001003E8F2C00 XR) (zd hS.fo ?_)));by_cases h1:1<ks.length
 .refine wb (by lia) (yo fun ea H4 MM sO eE=>?_);have yn:=hS.ext eE fun _ _ h=>h;refine zd yn.fo (dY yn sok (by decide+kernel) sO (fun n _ h=>v7 h) fun H5 xf e5=>gV ?_);exact iC sok (qe h1) S _ xf (eE.no.trans e5)
 .have FZ:ks.length<=1:=A11 0x34A103400 h1;refine yZ (by lia) (xC (Ze hS.fo (dM (n:=n+1) hw hn (A11 0x32796000400FA3CB68100 eO) (zd hS.fo ?_))));subst hl;refine xC (Ze hS.fo (yo fun ea H4 MM sO eE=>?_));have yn:=hS.ext eE fun _ _ h=>h;have s9:=eE.get (fun h=>h) wx;refine zd yn.fo (p8 (ks:=ks) (ms:=[]) s9 sO (zd yn.fo ?_));have k:=q FZ H4 yn eE;rw[hp FZ] at k;refine br (fun h=>?_) fun h=>?_
  .cases ks with|nil=>exact zU h|cons z ks=>exact yF (k:=0) s9 (by decide) (by decide) rfl (gV k)
  .cases ks with|nil=>exact k|cons z ks=>exact nomatch h
theorem Un {most v:Int}{last:Nat}(hS:zj H S)(sok:S.Ok)(wC:0<most)(xO:most<=64)(wx:H (.an la)=some (.list (([]:List Int).map .int))){y:Int}(hw:H (.an wl)=some (.list ws))(hz:last<=100)(hy:ws[last]?=some (.int y))(qe:y7 most v=.error yD->w_ S H Q yD)(q:y7 most v=.ok v->∀ H',zj H' S->zf yA H H'->Q (qF.pv (.holds (y==v))) H'):
  qS p w B 7 (d+5) [some (.obj (.nm 0)),x1,some (.int most),some (.bool nat),some (.obj (.an wl)),x5,some (.int last),some (.obj (.an la)),some (.int last),some (.int v)] H Q X:=by
 have bad:y7 most v=.error yD->∀ {H5 H6 H7:AH},zf yh H H5->zf yA H5 H6->zf yh H6 H7->zj H7 (((S.atom "memory").1.func "resource_error" 1).1)->Q (ui (yD.ball S).2) H7:=fun v9 _ _ _ a b c jA=>qe v9 _ _ (.refl _) ((sok.atom (by decide+kernel)).func (by decide+kernel) (by decide) (by decide)) jA ((a.trans b.no).trans c);refine UP hS.fo ?_;refine qa (by simp) ?_;refine jV wC (by decide) (by decide) (by decide) (by rw[show Builtin.Int.intBits 2=2 from rfl];exact tw xO (by decide)) (zd hS.fo ?_);by_cases h1:(2:Int)^most.toNat<=v
 .have v9:y7 most v=.error yD:=if_pos ((jU wC xO).mpr (.inl h1));refine wb h1 (xd hS sok fun H5 xf e5=>?_);refine zd xf.fo (yo fun li H6 UA uL eP=>?_);have v8:=xf.ext eP fun _ _ h=>h;exact zd v8.fo (vX v8 (sok.atom (by decide+kernel)) (by decide+kernel) uL (fun _ _ h=>v7 h) (by simp) (by simp) fun H7 jA e7=>gV (bad v9 e5 eP e7 jA))
 refine yZ h1 (jV wC (by decide) (by decide) (by decide) (by rw[show Builtin.Int.intBits 2=2 from rfl];exact tw xO (by decide)) (zd hS.fo ?_));by_cases h2:v<=-(2:Int)^most.toNat
 .have v9:y7 most v=.error yD:=if_pos ((jU wC xO).mpr (.inr h2));refine wb h2 (xd hS sok fun H5 xf e5=>?_);refine zd xf.fo (yo fun li H6 UA uL eP=>?_);have v8:=xf.ext eP fun _ _ h=>h;exact zd v8.fo (vX v8 (sok.atom (by decide+kernel)) (by decide+kernel) uL (fun _ _ h=>v7 h) (by simp) (by simp) fun H7 jA e7=>gV (bad v9 e5 eP e7 jA))
 have v9:y7 most v=.ok v:=if_neg (fun h=>((jU wC xO).mp h).elim h1 h2);refine yZ h2 (yo fun eb H5 tv Ji eF=>?_);have xf:=hS.ext eF fun _ _ h=>h;refine zd xf.fo (j4 (eF.get (fun h=>h) wx) Ji (zd xf.fo ?_));refine uj (eF.get (fun h=>h) hw) (Nat.le_trans hz (by decide)) hy (gV ?_);exact q v9 H5 xf eF
theorem Up (hS:zj H S)(sok:S.Ok)(wC:0<most)(xO:most<=64)(wx:H (.an la)=some (.list (([k]:List Int).map .int)))(qe:y7 most v=.error yD->w_ S H Q yD)(q:y7 most v=.ok v->∀ H',zj H' S->zf yA H H'->Q (qF.pv (.value v last)) H'):
  qS p w B 7 (d+5) [some (.obj (.nm 0)),x1,some (.int most),some (.bool nat),some (.obj (.an wl)),x5,some (.int last),some (.obj (.an la)),some (.int last),some (.int v)] H Q X:=by
 have bad:y7 most v=.error yD->∀ {H5 H6 H7:AH},zf yh H H5->zf yA H5 H6->zf yh H6 H7->zj H7 (((S.atom "memory").1.func "resource_error" 1).1)->Q (ui (yD.ball S).2) H7:=fun v9 _ _ _ a b c jA=>qe v9 _ _ (.refl _) ((sok.atom (by decide+kernel)).func (by decide+kernel) (by decide) (by decide)) jA ((a.trans b.no).trans c);refine UP hS.fo ?_;refine qa (by simp) ?_;refine jV wC (by decide) (by decide) (by decide) (by rw[show Builtin.Int.intBits 2=2 from rfl];exact tw xO (by decide)) (zd hS.fo ?_);by_cases h1:(2:Int)^most.toNat<=v
 .have v9:y7 most v=.error yD:=if_pos ((jU wC xO).mpr (.inl h1));refine wb h1 (xd hS sok fun H5 xf e5=>?_);refine zd xf.fo (yo fun li H6 UA uL eP=>?_);have v8:=xf.ext eP fun _ _ h=>h;exact zd v8.fo (vX v8 (sok.atom (by decide+kernel)) (by decide+kernel) uL (fun _ _ h=>v7 h) (by simp) (by simp) fun H7 jA e7=>gV (bad v9 e5 eP e7 jA))
 refine yZ h1 (jV wC (by decide) (by decide) (by decide) (by rw[show Builtin.Int.intBits 2=2 from rfl];exact tw xO (by decide)) (zd hS.fo ?_));by_cases h2:v<=-(2:Int)^most.toNat
 .have v9:y7 most v=.error yD:=if_pos ((jU wC xO).mpr (.inr h2));refine wb h2 (xd hS sok fun H5 xf e5=>?_);refine zd xf.fo (yo fun li H6 UA uL eP=>?_);have v8:=xf.ext eP fun _ _ h=>h;exact zd v8.fo (vX v8 (sok.atom (by decide+kernel)) (by decide+kernel) uL (fun _ _ h=>v7 h) (by simp) (by simp) fun H7 jA e7=>gV (bad v9 e5 eP e7 jA))
 have v9:y7 most v=.ok v:=if_neg (fun h=>((jU wC xO).mp h).elim h1 h2);refine yZ h2 (yo fun eb H5 tv Ji eF=>?_);have xf:=hS.ext eF fun _ _ h=>h;refine zd xf.fo (j4 (eF.get (fun h=>h) wx) Ji (zd xf.fo ?_));exact q v9 H5 xf eF
theorem Ur (hS:zj H S)(sok:S.Ok)(wC:0<most)(xO:most<=64)(wx:H (.an la)=some (.list (([k]:List Int).map .int)))(wJ:pl≠last)(qe:y7 most v=.error yD->w_ S H Q yD)(q:y7 most v=.ok v->∀ H',zj H' S->zf yA H H'->Q (qF.pv (.value v pl)) H'):
  qS p w B 7 (d+5) [some (.obj (.nm 0)),x1,some (.int most),some (.bool false),some (.obj (.an wl)),x5,some (.int pl),some (.obj (.an la)),some (.int last),some (.int v)] H Q X:=by
 have bad:y7 most v=.error yD->∀ {H5 H6 H7:AH},zf yh H H5->zf yA H5 H6->zf yh H6 H7->zj H7 (((S.atom "memory").1.func "resource_error" 1).1)->Q (ui (yD.ball S).2) H7:=fun v9 _ _ _ a b c jA=>qe v9 _ _ (.refl _) ((sok.atom (by decide+kernel)).func (by decide+kernel) (by decide) (by decide)) jA ((a.trans b.no).trans c);refine UP hS.fo ?_;refine jE (beq_eq_false_iff_ne.mpr (by lia)) ?_;refine jV wC (by decide) (by decide) (by decide) (by rw[show Builtin.Int.intBits 2=2 from rfl];exact tw xO (by decide)) (zd hS.fo ?_);by_cases h1:(2:Int)^most.toNat<=v
 .have v9:y7 most v=.error yD:=if_pos ((jU wC xO).mpr (.inl h1));refine wb h1 (xd hS sok fun H5 xf e5=>?_);refine zd xf.fo (yo fun li H6 UA uL eP=>?_);have v8:=xf.ext eP fun _ _ h=>h;exact zd v8.fo (vX v8 (sok.atom (by decide+kernel)) (by decide+kernel) uL (fun _ _ h=>v7 h) (by simp) (by simp) fun H7 jA e7=>gV (bad v9 e5 eP e7 jA))
 refine yZ h1 (jV wC (by decide) (by decide) (by decide) (by rw[show Builtin.Int.intBits 2=2 from rfl];exact tw xO (by decide)) (zd hS.fo ?_));by_cases h2:v<=-(2:Int)^most.toNat
 .have v9:y7 most v=.error yD:=if_pos ((jU wC xO).mpr (.inr h2));refine wb h2 (xd hS sok fun H5 xf e5=>?_);refine zd xf.fo (yo fun li H6 UA uL eP=>?_);have v8:=xf.ext eP fun _ _ h=>h;exact zd v8.fo (vX v8 (sok.atom (by decide+kernel)) (by decide+kernel) uL (fun _ _ h=>v7 h) (by simp) (by simp) fun H7 jA e7=>gV (bad v9 e5 eP e7 jA))
 have v9:y7 most v=.ok v:=if_neg (fun h=>((jU wC xO).mp h).elim h1 h2);refine yZ h2 (yo fun eb H5 tv Ji eF=>?_);have xf:=hS.ext eF fun _ _ h=>h;refine zd xf.fo (j4 (eF.get (fun h=>h) wx) Ji (zd xf.fo ?_));exact q v9 H5 xf eF
theorem fQ (hS:zj H S)(wx:H (.an la)=some (.list (([0]:List Int).map .int)))(q:∀ H',zj H' S->zf yA H H'->Q (qF.pv (.value v 0)) H'):
  qS p w B 7 (d+5) [some (.obj (.nm 0)),x1,some (.int most),some (.bool true),some (.obj (.an wl)),x5,some (.int (0:Nat)),some (.obj (.an la)),some (.int (1:Nat)),some (.int v)] H Q X:=by
 refine UP hS.fo (yo fun eb H5 tv Ji eF=>?_);have xf:=hS.ext eF fun _ _ h=>h;exact zd xf.fo (j4 (eF.get (fun h=>h) wx) Ji (gV (q H5 xf eF)))
theorem EA {most:Int}(hS:zj H S)(sok:S.Ok)(wC:0<most)(xO:most<=64)(wx:H (.an la)=some (.list (qG [o1,o2] 2)))(hw:H (.an wl)=some (.list ([o1,o2].map jT))) (q2:∀ e,xQ most true [o1,o2]=.error e->w_ S H Q e) (q:∀ u,xQ most true [o1,o2]=.ok u->∀ H',zj H' S->zf yA H H'->Q u.pv H'):
  qS p w B 3 (d+5) [some (.obj (.nm 0)),x1,some (.int most),some (.bool true),some (.obj (.an wl)),x5,x6,some (.obj (.an la)),x8,x9] H Q X:=by
 cases o1 with
 |some a=>
  cases o2 with
  |some b=>
   refine wL (ks:=[]) (ws:=[.int a,.int b]) (n:=1) (pl:=(1:Nat)) (lst:=(1:Nat)) hS sok wx hw rfl (by decide) (by decide) rfl (fun _=>rfl) (fun h=>absurd h (by decide)) fun _ H4 yn eE=>xC (wq yn.fo ?_);have ki:=eE.get (fun h=>h) hw;refine yF (k:=0) ki (by decide) (by decide) rfl (zd yn.fo ?_);have uA:∀ {x},y7 most (a+1)=x->xQ most true [some a,some b]=x.bind fun v=>.ok (.holds (b==v)):=fun h=>by subst h;rfl
   exact Un (v:=a+1) yn sok wC xO (eE.get (fun h=>h) wx) ki (by decide) rfl (fun h=>(q2 yD (uA h)).ext eE) fun h H' a b=>q _ (uA h) H' a (eE.trans b)
  |none=>
   refine wL (ks:=[1]) (ws:=[.int a,.none]) (n:=1) (pl:=(1:Nat)) (lst:=(1:Nat)) hS sok wx hw rfl (by decide) (by decide) rfl (fun _=>rfl) (fun h=>absurd h (by decide)) fun _ H4 yn eE=>xC (wq yn.fo ?_);have ki:=eE.get (fun h=>h) hw;refine yF (k:=0) ki (by decide) (by decide) rfl (zd yn.fo ?_);have uA:∀ {x},y7 most (a+1)=x->xQ most true [some a,none]=x.bind fun v=>.ok (.value v 1):=fun h=>by subst h;rfl
   exact Up (v:=a+1) yn sok wC xO (eE.get (fun h=>h) wx) (fun h=>(q2 yD (uA h)).ext eE) fun h H' a b=>q _ (uA h) H' a (eE.trans b)
 |none=>
  cases o2 with
  |some b=>
   refine wL (ks:=[0]) (ws:=[.none,.int b]) (n:=1) (pl:=(0:Nat)) (lst:=(1:Nat)) hS sok wx hw rfl (by decide) (by decide) rfl (fun _=>rfl) (fun h=>absurd h (by decide)) fun _ H4 yn eE=>xC (wq yn.fo ?_);have ki:=eE.get (fun h=>h) hw;refine yF (k:=1) ki (by decide) (by decide) rfl (zd yn.fo ?_);by_cases hb0:b=0
   .refine wb hb0 ?_;exact q (.holds false) (by show(if b=0 then _ else _)=_;rw[if_pos hb0]) H4 yn eE
   refine yZ hb0 (yF (k:=1) ki (by decide) (by decide) rfl (zd yn.fo ?_));exact fQ yn (eE.get (fun h=>h) wx) fun H5 xf eF=>q (.value (b-1) 0) (by show(if b=0 then _ else _)=_;rw[if_neg hb0]) H5 xf (eE.trans eF)
  |none=>exact wL (ks:=[0,1]) (ws:=[.none,.none]) (n:=1) (pl:=0) hS sok wx hw rfl (by decide) (by decide) rfl (fun h=>absurd h (by decide)) (fun _=>q2 .inst rfl) fun h=>absurd h (by decide)
theorem Bc {most:Int}(hS:zj H S)(sok:S.Ok)(wC:0<most)(xO:most<=64)(wx:H (.an la)=some (.list (qG [o1,o2,o3] 3)))(hw:H (.an wl)=some (.list ([o1,o2,o3].map jT))) (q2:∀ e,xQ most false [o1,o2,o3]=.error e->w_ S H Q e) (q:∀ u,xQ most false [o1,o2,o3]=.ok u->∀ H',zj H' S->zf yA H H'->Q u.pv H'):
  qS p w B 3 (d+5) [some (.obj (.nm 0)),x1,some (.int most),some (.bool false),some (.obj (.an wl)),x5,x6,some (.obj (.an la)),x8,x9] H Q X:=by
 cases o1 with
 |some a=>
  cases o2 with
  |some b=>
   cases o3 with
   |some c=>
    refine wL (ks:=[]) (ws:=[.int a,.int b,.int c]) (n:=2) (pl:=(2:Nat)) (lst:=(2:Nat)) hS sok wx hw rfl (by decide) (by decide) rfl (fun _=>rfl) (fun h=>absurd h (by decide)) fun _ H4 yn eE=>xC (wq yn.fo ?_);have ki:=eE.get (fun h=>h) hw;refine yF (k:=0) ki (by decide) (by decide) rfl (zd yn.fo ?_);refine yF (k:=1) ki (by decide) (by decide) rfl (zd yn.fo ?_);have uA:∀ {x},y7 most (a+b)=x->xQ most false [some a,some b,some c]=x.bind fun v=>.ok (.holds (c==v)):=fun h=>by subst h;rfl
    exact Un (v:=a+b) yn sok wC xO (eE.get (fun h=>h) wx) ki (by decide) rfl (fun h=>(q2 yD (uA h)).ext eE) fun h H' a b=>q _ (uA h) H' a (eE.trans b)
   |none=>
    refine wL (ks:=[2]) (ws:=[.int a,.int b,.none]) (n:=2) (pl:=(2:Nat)) (lst:=(2:Nat)) hS sok wx hw rfl (by decide) (by decide) rfl (fun _=>rfl) (fun h=>absurd h (by decide)) fun _ H4 yn eE=>xC (wq yn.fo ?_);have ki:=eE.get (fun h=>h) hw;refine yF (k:=0) ki (by decide) (by decide) rfl (zd yn.fo ?_);refine yF (k:=1) ki (by decide) (by decide) rfl (zd yn.fo ?_);have uA:∀ {x},y7 most (a+b)=x->xQ most false [some a,some b,none]=x.bind fun v=>.ok (.value v 2):=fun h=>by subst h;rfl
    exact Up (v:=a+b) yn sok wC xO (eE.get (fun h=>h) wx) (fun h=>(q2 yD (uA h)).ext eE) fun h H' a b=>q _ (uA h) H' a (eE.trans b)
  |none=>
   cases o3 with
   |some c=>
    refine wL (ks:=[1]) (ws:=[.int a,.none,.int c]) (n:=2) (pl:=(1:Nat)) (lst:=(2:Nat)) hS sok wx hw rfl (by decide) (by decide) rfl (fun _=>rfl) (fun h=>absurd h (by decide)) fun _ H4 yn eE=>xC (wq yn.fo ?_);have ki:=eE.get (fun h=>h) hw;refine yF (k:=2) ki (by decide) (by decide) rfl (zd yn.fo ?_);refine yF (k:=0) ki (by decide) (by decide) rfl (zd yn.fo ?_);have uA:∀ {x},y7 most (c-a)=x->xQ most false [some a,none,some c]=x.bind fun v=>.ok (.value v 1):=fun h=>by subst h;rfl
    exact Ur (v:=c-a) yn sok wC xO (eE.get (fun h=>h) wx) (by decide) (fun h=>(q2 yD (uA h)).ext eE) fun h H' a b=>q _ (uA h) H' a (eE.trans b)
   |none=>exact wL (ks:=[1,2]) (ws:=[.int a,.none,.none]) (n:=2) (pl:=0) hS sok wx hw rfl (by decide) (by decide) rfl (fun h=>absurd h (by decide)) (fun _=>q2 .inst rfl) fun h=>absurd h (by decide)
 |none=>
  cases o2 with
  |some b=>
   cases o3 with
   |some c=>
    refine wL (ks:=[0]) (ws:=[.none,.int b,.int c]) (n:=2) (pl:=(0:Nat)) (lst:=(2:Nat)) hS sok wx hw rfl (by decide) (by decide) rfl (fun _=>rfl) (fun h=>absurd h (by decide)) fun _ H4 yn eE=>xC (wq yn.fo ?_);have ki:=eE.get (fun h=>h) hw;refine yF (k:=2) ki (by decide) (by decide) rfl (zd yn.fo ?_);refine yF (k:=1) ki (by decide) (by decide) rfl (zd yn.fo ?_);have uA:∀ {x},y7 most (c-b)=x->xQ most false [none,some b,some c]=x.bind fun v=>.ok (.value v 0):=fun h=>by subst h;rfl
    exact Ur (v:=c-b) yn sok wC xO (eE.get (fun h=>h) wx) (by decide) (fun h=>(q2 yD (uA h)).ext eE) fun h H' a b=>q _ (uA h) H' a (eE.trans b)
   |none=>exact wL (ks:=[0,2]) (ws:=[.none,.int b,.none]) (n:=2) (pl:=0) hS sok wx hw rfl (by decide) (by decide) rfl (fun h=>absurd h (by decide)) (fun _=>q2 .inst rfl) fun h=>absurd h (by decide)
  |none=>cases o3 with|some c=>exact wL (ks:=[0,1]) (ws:=[.none,.none,.int c]) (n:=2) (pl:=0) hS sok wx hw rfl (by decide) (by decide) rfl (fun h=>absurd h (by decide)) (fun _=>q2 .inst rfl) fun h=>absurd h (by decide)|none=>exact wL (ks:=[0,1,2]) (ws:=[.none,.none,.none]) (n:=2) (pl:=0) hS sok wx hw rfl (by decide) (by decide) rfl (fun h=>absurd h (by decide)) (fun _=>q2 .inst rfl) fun h=>absurd h (by decide)
theorem mQ (hS:zj H S)(sok:S.Ok)(wC:0<most)(xO:most<=64)(wx:H (.an la)=some (.list (qG vs vs.length)))(hw:H (.an wl)=some (.list (vs.map jT)))(hn:vs.length=n)(Yt:(nat=true/\n=2)\/(nat=false/\n=3)) (q2:∀ e,xQ most nat vs=.error e->w_ S H Q e) (q:∀ u,xQ most nat vs=.ok u->∀ H',zj H' S->zf yA H H'->Q u.pv H'):
  qS p w B 3 (d+5) [some (.obj (.nm 0)),x1,some (.int most),some (.bool nat),some (.obj (.an wl)),x5,x6,some (.obj (.an la)),x8,x9] H Q X:=by
 subst hn;cases vs with
 |nil=>exact Yt.elim (fun h=>nomatch h.2) fun h=>nomatch h.2|cons a vs=>cases vs with
  |nil=>exact Yt.elim (fun h=>nomatch h.2) fun h=>nomatch h.2|cons b vs=>cases vs with
   |nil=>exact Yt.elim (fun h=>by cases h.1;exact EA hS sok wC xO wx hw q2 q) fun h=>nomatch h.2|cons c vs=>cases vs with
    |nil=>exact Yt.elim (fun h=>nomatch h.2) fun h=>by cases h.1;exact Bc hS sok wC xO wx hw q2 q|cons d vs=>exact Yt.elim (fun h=>nomatch h.2) fun h=>nomatch h.2
theorem b_ (hS:zj H S)(sok:S.Ok)(hl:H li=some (.list (sides.map Tr.pv)))(vM:∀ n<6,li≠.nm n)(hf:∀ t∈sides,vx t=true)(hz:sides.length<=3) (qe:∀ e,yO nat sides=.error e->w_ S H Q e) (Yt:(nat=true/\sides.length=2)\/(nat=false/\sides.length=3)) (wC:0<most) (xO:most<=64) (q2:∀ vs e,yO nat sides=.ok vs->xQ most nat vs=.error e->w_ S H Q e) (q:∀ vs u,yO nat sides=.ok vs->xQ most nat vs=.ok u->∀ H',zj H' S->zf yA H H'->Q u.pv H'):
  zh (gr p w B) (d+6) H [.obj (.nm 0),.obj li,.int most,.bool nat] (cZ 914) Q X:=by
 refine z9 (F:=[]) rfl trivial (yo fun wl H1 qq hw eW=>?_);have zG:=hS.ext eW fun _ _ h=>h;have vj:=eW.get (fun h=>h) hl;have mm:li≠.an wl:=fun e=>by rw[e,qq] at hl;exact zJ hl
 refine zd zG.fo (Xh vj (A11 0x1E000406FAC00 hz) (fun b zO H'=>∃ (a:List Tr) (vs:List (Option Int)) (a5:Option PV),sides=a++b/\zO=[some (.obj (.nm 0)),some (.obj li),some (.int most),some (.bool nat),some (.obj (.an wl)),a5,none,none,none,none]/\yO nat a=.ok vs/\vs.length=a.length/\H' (.an wl)=some (.list (vs.map jT))/\zf (zV (.an wl)) H1 H') ⟨[],[],none,rfl,rfl,rfl,rfl,hw,.refl⟩ ?_ ?_)
 .intro t b zO H' zq K ZC;refine rK zq fun a vs a5 xN wj QA JA XT e'=>?_;subst wj
  .have Mq:=hf t (by rw[xN];simp);have Yn:a.length<=3:=by
    have:=congrArg List.length xN;simp at this;exact A32 0x78401689004046103C00 this hz
   have eH:zf yh H H':=(eW.no.trans e'.onR:zf (uH yh (zV (.an wl))) H H').drop qq;have xk:=zG.ext e' (fun n _ h=>xh h);have Vl:=e'.get (fun z=>mm z) vj;have bad:∀ e,Wq nat t=.error e->yO nat sides=.error e:=fun e he=>by rw[xN,W5 QA];exact wX (wX he)
   have next:∀ {v:Option Int} {H2:AH} {x5:Option PV},Wq nat t=.ok v->H2 (.an wl)=some (.list (vs.map jT++[jT v]))->zf (zV (.an wl)) H' H2->K (.next [some (.obj (.nm 0)),some (.obj li),some (.int most),some (.bool nat),some (.obj (.an wl)),x5,none,none,none,none] H2):=
    fun hv h2 e2=>ZC ⟨e2.get (fun z=>mm z) Vl,a++[t],vs++[_],_,by rw[xN];simp,rfl,(W5 QA).trans (kB (xe hv rfl)),by simp[JA],by rw[h2,List.map_append];rfl,e'.trans e2⟩
   have JD:(vs.map jT).length<=10000000:=A33 0x1E2004411042010407FAC00 (List.length_map ..) JA Yn;cases t with
   |V k=>
    refine w8 xk.fo (jW ?_);cases nat<;>refine zd xk.fo (xy XT xk.fo (xV XT JD fun H2 h2 e2=>gV ?_))
    .exact next (v:=none) rfl h2 e2
    .exact next (v:=none) rfl h2 e2
   |A k=>refine w8 xk.fo (jW ?_);refine zd xk.fo (jW ?_);refine zd xk.fo (xd xk sok fun H2 zN e2=>?_);refine zd zN.fo (yo fun pl H3 UA uL eP=>?_);have yc:=zN.ext eP fun _ _ h=>h;refine zd yc.fo (vX yc (sok.atom (by decide+kernel)) (by decide+kernel) uL (by simp) (by simp) (by simp) fun H4 yn e4=>gV ?_);exact ZC<|qe _ (bad (.type "integer" (Tr.pv (.A k))) (by cases nat<;>rfl)) _ H4 (.refl _) ((sok.atom (by decide+kernel)).func (by decide+kernel) (by decide) (by decide)) yn (((eH.trans e2).trans eP.no).trans e4)|I k=>
    cases nat with
    |false=>refine w8 xk.fo (jW ?_);refine zd xk.fo (jW ?_);refine zd xk.fo (xy XT xk.fo (xV XT JD fun H2 h2 e2=>gV ?_));exact next (v:=some k) rfl h2 e2|true=>
     refine w8 xk.fo (jW ?_);refine zd xk.fo (jW ?_);refine zd xk.fo ?_;by_cases hk:k<0
     .refine wb hk (xd xk sok fun H2 zN e2=>?_);refine zd zN.fo (yo fun pl H3 UA uL eP=>?_);have yc:=zN.ext eP fun _ _ h=>h;refine zd yc.fo (vX yc (sok.atom (by decide+kernel)) (by decide+kernel) uL (by simp) (by simp) (by simp) fun H4 yn e4=>gV ?_);exact ZC<|qe _ (bad (.type "not_less_than_zero" (XA k)) (if_pos hk)) _ H4 (.refl _) ((sok.atom (by decide+kernel)).func (by decide+kernel) (by decide) (by decide)) yn (((eH.trans e2).trans eP.no).trans e4)
     .refine yZ hk (xy XT xk.fo (xV XT JD fun H2 h2 e2=>gV ?_));exact next (v:=some k) (if_neg hk) h2 e2
   |U f a' op t=>rw[Tr.pv_S rfl];refine w8 xk.fo (jW ?_);refine zd xk.fo (jW ?_);refine zd xk.fo (xd xk sok fun H2 zN e2=>?_);refine zd zN.fo (yo fun pl H3 UA uL eP=>?_);have yc:=zN.ext eP fun _ _ h=>h;refine zd yc.fo (vX yc (sok.atom (by decide+kernel)) (by decide+kernel) uL (by simp) (by simp) (by simp) fun H4 yn e4=>gV ?_);exact ZC<|qe _ (bad (.type "integer" (Tr.pv (.U f a' op t))) (by cases nat<;>rfl)) _ H4 (.refl _) ((sok.atom (by decide+kernel)).func (by decide+kernel) (by decide) (by decide)) yn (((eH.trans e2).trans eP.no).trans e4)|B f a op l r=>exact zU Mq
 .intro zO H' zq;refine rK zq fun a vs a5 xN wj QA JA XT e'=>?_;subst wj;rw[List.append_nil] at xN;subst xN;have zN:=zG.ext e' (fun n _ h=>xh h);have eH:zf yA H H':=(eW.no.trans e'.onR:zf (uH yA (zV (.an wl))) H H').drop qq;have JB:vs.length<=3:=A22 0x784010804103C00 JA hz;refine goN zN.fo (VA rfl rfl (by kernel_rfl) pb.1 (by intros;rfl) (J7 (Q0:=fun _=>True) (by kernel_rfl) (kc (F:=[]) trivial (xb XT (A33 0x1E2004411042010407FAC00 (List.length_map ..) JA hz) (gV ⟨vs.length,by simp,Int.natCast_nonneg _,by lia,av.body (cl:=[none,some none,some (some 4)]) ⟨by simp[YJ];exact A22 0x1E10042010406FAC00 JA hz,fun r ys H2=>H'=H2/\∃ j,j<=vs.length/\r=((List.range vs.length).drop j).map (fun(i:Nat)=>PV.int i)/\ys=qG vs j,⟨rfl,0,Nat.zero_le _,by rw[YJ];rfl,rfl⟩,?_,?_⟩ rfl pb.2 (by kernel_rfl)⟩)))))
  .intro x r ys H2 zq;refine a2 zq fun xA zz=>?_;refine wU zz fun j hj hr vv=>?_;clear zq;subst xA vv;have kh:j<vs.length:=by
    rcases Nat.lt_or_ge j vs.length with h|h
    .exact h
    .rw[List.drop_eq_nil_of_le (by simpa using h)] at hr;exact Kw hr
   rw[List.drop_eq_getElem_cons (by simpa using kh),List.map_cons] at hr;simp only[List.getElem_range,List.cons.injEq] at hr;refine a2 hr fun xA zW=>?_;clear hr;subst xA zW;obtain⟨v,hv⟩:∃ v,vs[j]?=some v:=⟨_,List.getElem?_eq_getElem kh⟩;have ma:=aS vs j;refine dO (kc (F:=[]) trivial (uj XT (A33 0x1E2004411042008408FAC00 kh JA hz) (w9 hv) (gV (kc (F:=[]) trivial ?_))));refine U5 (fun x e=>by cases v<;>cases e) ⟨_,rfl,?_⟩;cases v with|none=>rw[hv] at ma;exact kc (F:=[]) trivial ⟨trivial,rfl,j+1,kh,rfl,ma.symm⟩|some k=>rw[hv] at ma;exact⟨trivial,rfl,j+1,kh,rfl,ma.symm⟩
  .rintro ys H2 ⟨rfl,j,hj,hr,rfl⟩ la H3 Yv wx eL;obtain rfl:j=vs.length:=by
    rcases Nat.lt_or_ge j vs.length with h|h
    .rw[List.drop_eq_getElem_cons (by simpa using h)] at hr;exact KI hr
    .exact Nat.le_antisymm (A21 0x800100400 hj) (A21 0x800100400 h)
   have Mw:=eL.get (fun h=>h) XT;have yc:=zN.ext eL fun _ _ h=>h;have ef:=eH.trans eL;have Mg:∀ e,xQ most nat vs=.error e->w_ S H3 Q e:=fun e h=>(q2 vs e QA h).ext ef;have hq:∀ u,xQ most nat vs=.ok u->∀ H',zj H' S->zf yA H3 H'->Q u.pv H':=fun u h H' a b=>q vs u QA h H' a (ef.trans b);exact mQ yc sok wC xO wx Mw (aA QA) Yt Mg hq
end
end
section
variable {p:Program} {w:World} {B:Heap} {H:AH} {d:Nat} {X Q:PV->AH->Prop}
def se (hp' cs:List Cl)(b:Bool):qF->Prop|.holds b'=>b=b'|.value v k=>b=true/\∃ c n,cs[k]?=some c/\zP hp' c ⟨5,v⟩ n
theorem aV (h:wA t=.ok (some n)):t=.I n:=by cases t with|I m=>cases h;rfl|V m=>cases h|_=>exact vA h
theorem QI (h:wA t=.ok none):∃ k,t=.V k:=by cases t with|I m=>cases h|V m=>exact⟨_,rfl⟩|_=>exact vA h
theorem KL (s:xv S hp c t)(h:wA t=.ok (some u))(r:ZX hp c v b hp'):b=(u==v):=by have e:=aV h;subst e;refine a2 s fun wd _=>?_;clear s;obtain⟨k,hd⟩:=wd;cases r with|same h2=>have e:=hd.det h2;have:u=_:=congrArg Cl.x e;rw[this]|bind h2=>have e:=hd.det h2;cases e
theorem j8 (s:xv S hp c t)(h:wA t=.ok none)(r:ZX hp c v b hp'):b=true/\∃ n,zP hp' c ⟨5,v⟩ n:=by
 refine zA (QI h) fun k e=>?_;subst e;refine vg s fun n x hd=>?_;clear s;cases r with
 |same h2=>have e:=hd.det h2;cases e|@bind y m h2=>refine⟨rfl,?_⟩;have h5:zP (hp.set y ⟨5,v⟩) ⟨5,v⟩ ⟨5,v⟩ 0:=.stop (by simp) (by simp);obtain⟨m',h⟩:=zP.bind h2.root (by intro z;cases z) h5 h2;rw[jg] at h;exact⟨m',h⟩
theorem Kg {bits:Int}{t1 t2:Tr}{e:zT}(h:yO true [t1,t2]=.error e):Xj bits t1 t2=.error e:=(yT h).elim wX fun⟨_,h1,h⟩=>(yT h).elim (fun h=>(yT h).elim (fun h=>xe h1 (wX h)) fun⟨_,_,h⟩=>xn h) fun⟨_,_,h⟩=>xn h
theorem VU {t1 t2:Tr}{vs:List (Option Int)}(h:yO true [t1,t2]=.ok vs):∃ a b,Z7 t1=.ok a/\Z7 t2=.ok b/\vs=[a,b]:=by refine zg (yt h) fun a h1 h=>?_;refine zg (yt h) fun us h2 h=>?_;refine zg (yt h2) fun b h3 h2=>?_;cases h2;cases h;exact⟨a,b,h1,h3,rfl⟩
theorem Uj {bits:Int}{t1 t2:Tr}{vs:List (Option Int)}{e:zT}(h:yO true [t1,t2]=.ok vs)(h2:xQ bits true vs=.error e):Xj bits t1 t2=.error e:=by
 refine zB (VU h) fun a b h3 h4 vv=>?_;subst vv;refine xe h3 (xe h4 ?_);cases a with
 |none=>
  cases b with
  |none=>cases h2;rfl|some m=>exact vE h2 (fun _ h=>xn h) fun _ h=>xn h
 |some n=>cases b<;>exact wX (cQ h2)
theorem fy {S:Sy}{bits:Int}{t1 t2:Tr}{vs:List (Option Int)}{u:qF}{hp hp' xs:List Cl}{c1 c2:Cl}{b:Bool}{a:bW}(h:yO true [t1,t2]=.ok vs)(h2:xQ bits true vs=.ok u)(ha:Xj bits t1 t2=.ok a) (s1:xv S hp c1 t1) (s2:xv S hp c2 t2) (x1:xs[1]?=some c1) (x2:xs[2]?=some c2) (r:VM hp xs b hp' a):se hp' [c1,c2] b u:=by
 refine zB (VU h) fun o1 o2 h3 h4 vv=>?_;subst vv;have ha:=kN h3 ha;have ha:=kN h4 ha;refine a2 (qM h3) fun k1 _=>?_;refine a2 (qM h4) fun k2 _=>?_;cases o1 with
 |none=>
  cases o2 with
  |none=>exact vA ha|some m=>
   refine vE h2 (fun hm h2=>?_) fun hm h2=>?_
   .cases h2;cases(if_pos hm).symm.trans ha;exact r.1
   .cases h2;cases(if_neg hm).symm.trans ha;refine zg r fun c hc ur=>?_;cases yd (x1.symm.trans hc);refine a2 (j8 s1 k1 ur) fun e1 zz=>?_;refine zA zz fun n e2=>?_;exact⟨e1,c1,n,rfl,e2⟩
 |some n=>refine zg (yt ha) fun v hv ha=>?_;cases ha;refine zg r fun c hc ur=>?_;cases yd (x2.symm.trans hc);cases o2 with|none=>cases kN hv h2;refine a2 (j8 s2 k2 ur) fun e1 zz=>?_;refine zA zz fun n e2=>?_;exact⟨e1,c2,n,rfl,e2⟩|some m=>cases kN hv h2;exact KL s2 k2 ur
theorem Ka {bits:Int}{t1 t2 t3:Tr}{e:zT}(h:yO false [t1,t2,t3]=.error e):Xo bits t1 t2 t3=.error e:=(yT h).elim wX fun⟨_,h1,h⟩=>(yT h).elim (fun h=>(yT h).elim (fun h=>xe h1 (wX h)) fun⟨_,h2,h⟩=>(yT h).elim (fun h=>(yT h).elim (fun h=>xe h1 (xe h2 (wX h))) fun⟨_,_,h⟩=>xn h) fun⟨_,_,h⟩=>xn h) fun⟨_,_,h⟩=>xn h
theorem VQ {t1 t2 t3:Tr}{vs:List (Option Int)}(h:yO false [t1,t2,t3]=.ok vs):∃ a b c,wA t1=.ok a/\wA t2=.ok b/\wA t3=.ok c/\vs=[a,b,c]:=by refine zg (yt h) fun a h1 h=>?_;refine zg (yt h) fun us h2 h=>?_;refine zg (yt h2) fun b h3 h2=>?_;refine zg (yt h2) fun ws h4 h2=>?_;refine zg (yt h4) fun c h5 h4=>?_;cases h4;cases h2;cases h;exact⟨a,b,c,h1,h3,h5,rfl⟩
theorem Us {bits:Int}{t1 t2 t3:Tr}{vs:List (Option Int)}{e:zT}(h:yO false [t1,t2,t3]=.ok vs)(h2:xQ bits false vs=.error e):Xo bits t1 t2 t3=.error e:=by refine jI (VQ h) fun a b c h3 h4 h5 wj=>?_;subst wj;refine xe h3 (xe h4 (xe h5 ?_));cases a<;>cases b<;>cases c<;>first|exact wX (cQ h2)|(cases h2;rfl)
theorem gP {S:Sy}{bits:Int}{t1 t2 t3:Tr}{vs:List (Option Int)}{u:qF}{hp hp' xs:List Cl}{c1 c2 c3:Cl}{b:Bool}{a:bW}(h:yO false [t1,t2,t3]=.ok vs)(h2:xQ bits false vs=.ok u)(ha:Xo bits t1 t2 t3=.ok a) (s1:xv S hp c1 t1) (s2:xv S hp c2 t2) (s3:xv S hp c3 t3) (x1:xs[1]?=some c1) (x2:xs[2]?=some c2) (x3:xs[3]?=some c3) (r:VM hp xs b hp' a):se hp' [c1,c2,c3] b u:=by
 refine jI (VQ h) fun o1 o2 o3 k1 k2 k3 wj=>?_;subst wj;have ha:=kN k1 ha;have ha:=kN k2 ha;have ha:=kN k3 ha;cases o1 with
 |none=>
  cases o2 with
  |none=>exact vA ha|some y=>
   cases o3 with
   |none=>exact vA ha|some z=>refine zg (yt ha) fun v hv ha=>?_;cases ha;refine zg r fun c hc ur=>?_;cases yd (x1.symm.trans hc);cases kN hv h2;refine a2 (j8 s1 k1 ur) fun e1 zz=>?_;refine zA zz fun n e2=>?_;exact⟨e1,c1,n,rfl,e2⟩
 |some x=>
  cases o2 with
  |none=>
   cases o3 with
   |none=>exact vA ha|some z=>refine zg (yt ha) fun v hv ha=>?_;cases ha;refine zg r fun c hc ur=>?_;cases yd (x2.symm.trans hc);cases kN hv h2;refine a2 (j8 s2 k2 ur) fun e1 zz=>?_;refine zA zz fun n e2=>?_;exact⟨e1,c2,n,rfl,e2⟩
  |some y=>refine zg (yt ha) fun v hv ha=>?_;cases ha;refine zg r fun c hc ur=>?_;cases yd (x3.symm.trans hc);cases o3 with|none=>cases kN hv h2;refine a2 (j8 s3 k3 ur) fun e1 zz=>?_;refine zA zz fun n e2=>?_;exact⟨e1,c3,n,rfl,e2⟩|some z=>cases kN hv h2;exact KL s3 k3 ur
def WO (e:zT):Prop:=∀ k c,e=.type k c->PV.ok 10 c=true
theorem Zl (S:Sy)(h:WO e):PV.ok 14 (e.ball S).2=true:=by cases e with|inst=>rfl|eval k=>rfl|res k=>rfl|type k c=>have:=h k c rfl;exact congrArg (fun b=>(((b&&true)&&true)&&true)&&true) this
theorem fR (hf:vx t=true):PV.ok 10 t.pv=true:=by
 cases t with
 |V k=>rfl|A k=>rfl|I k=>rfl|U f a op t=>
  cases t with
  |I m=>rfl|V k=>exact zU hf|A k=>exact zU hf|U _ _ _ _=>exact zU hf|B _ _ _ _ _=>exact zU hf
 |B f a op l r=>exact zU hf
theorem cz (hf:vx t=true)(h:Wq nat t=.error e):WO e:=by
 have hs:∀ e,wA t=.error e->WO e:=fun e h=>by
  have:e=.type "integer" t.pv:=by cases t with|I _=>exact xn h|V _=>exact xn h|_=>cases h;rfl
  subst this;intro k c z;cases z;exact fR hf
 cases nat with
 |false=>exact hs e h|true=>refine(yT (r:=wA t) h).elim (hs e) fun⟨o,_,h⟩=>?_;cases o with|none=>exact xn h|some n=>exact vE h (fun _ h=>by cases h;exact fun k c z=>by cases z;rfl) fun _ h=>xn h
theorem af {l:List Tr}:∀ {e:zT},(∀ t∈l,vx t=true)->yO nat l=.error e->WO e:=by induction l with|nil=>exact fun _ h=>xn h|cons t l ih=>exact fun hf h=>(yT h).elim (cz (hf t (.head _))) fun⟨_,_,h⟩=>(yT h).elim (ih fun u hu=>hf u (.tail _ hu)) fun⟨_,_,h⟩=>xn h
theorem KU:WO .inst:=fun _ _ h=>by cases h
theorem J4:WO yD:=fun _ _ h=>by cases h
theorem VT (h:y7 b v=.error e):e=yD:=by exact vE h (fun _ h=>by cases h;rfl) fun _ h=>xn h
theorem K4 {P:zT->Prop}{most:Int}(h:xQ most nat vs=.error e)(h1:P .inst)(h2:∀ v e',y7 most v=.error e'->P e'):P e:=by
 have go:∀ {v:Int} {f:Int->qF},(y7 most v).bind (fun v=>Except.ok (f v))=Except.error e->P e:=fun z=>h2 _ _ (cQ z);cases vs with
 |nil=>exact xn h|cons a l=>
  cases l with
  |nil=>exact xn h|cons b l=>
   cases l with
   |nil=>
    cases nat with
    |false=>exact xn h|true=>
     cases a with
     |none=>
      cases b with
      |none=>cases h;exact h1|some m=>exact vE h (fun _ h=>xn h) fun _ h=>xn h
     |some n=>cases b<;>exact go h
   |cons c l=>
    cases l with
    |nil=>
     cases nat with
     |true=>exact xn h|false=>cases a<;>cases b<;>cases c<;>first|exact go h|(cases h;exact h1)
    |cons d l=>exact xn h
theorem gS (h:xQ most nat vs=.error e):WO e:=K4 h KU fun v e' hc=>by rw[VT hc];exact J4
def wZ (most:Int)(nat:Bool)(sides:List Tr)(e:zT):Prop:=yO nat sides=.error e\/∃ vs,yO nat sides=.ok vs/\xQ most nat vs=.error e
theorem wZ.okd (hf:∀ t∈sides,vx t=true)(h:wZ most nat sides e):WO e:=by
 rcases h with h|⟨vs,_,h⟩
 .exact af hf h
 .exact gS h
structure Xs (S:Sy)(hp cs:List Cl)(l:List Tr):Prop where
 len:cs.length=l.length
 at_:∀ (i:Nat) (t:Tr) (c:Cl),l[i]?=some t->cs[i]?=some c->xv S hp c t
def Wg (p:Program)(w:World)(B:Heap)(f:Addr)(most:Int)(nat:Bool)(sides:List Tr):Prop:=∀ {d:Nat} {H:AH} {S:Sy} {hp xs cs:List Cl} {X Q:PV->AH->Prop},zL H S most hp xs->(∀ i,i<cs.length->xs[i+1]?=cs[i]?)->Xs S hp cs sides-> (∀ vs u,yO nat sides=.ok vs->xQ most nat vs=.ok u->∀ b hp' H',se hp' cs b u->hp'.length=hp.length->zL H' S most hp' xs->zf xo H H'->Q (.bool b) H')-> (∀ e,wZ most nat sides e->y9 H S X e)->zh (gr p w B) (d+12) H [.obj (.nm 8)] (cZ f) Q X
theorem VM.len (h:VM hp xs b hp' a):hp'.length=hp.length:=by
 cases a with
 |uni i v=>
  refine zg h fun c _ h=>?_;cases h with
  |same h=>rfl|bind h=>exact List.length_set ..
 |no=>rw[h.2]
theorem cJ {most:Int}{t1 t2:Tr}:Wg p w B 616 most true [t1,t2]:=by
 intro d H S hp xs cs X Q g hx hs q qe;obtain⟨c1,c2,rfl⟩:=fF hs.len;have x1:xs[1]?=some c1:=hx 0 (Nat.succ_pos _);have x2:xs[2]?=some c2:=hx 1 (Nat.succ_lt_succ (Nat.succ_pos _));have s1:=hs.at_ 0 t1 c1 rfl rfl;have s2:=hs.at_ 1 t2 c2 rfl rfl;have err:∀ e,Xj most t1 t2=.error e->wZ most true [t1,t2] e:=fun e he=>by
  rcases exc (yO true [t1,t2]) with⟨e',h1⟩|⟨vs,h1⟩
  .cases(Kg (bits:=most) h1).symm.trans he;exact .inl h1
  .rcases exc (xQ most true vs) with⟨e',h2⟩|⟨u,h2⟩
   .cases(Uj h1 h2).symm.trans he;exact .inr ⟨vs,h1,h2⟩
   .refine zB (VU h1) fun a b h3 h4 vv=>?_;subst vv;have he:=kN h3 he;have he:=kN h4 he;cases a with
    |none=>
     cases b with
     |none=>exact vA h2|some m=>exact vE he (fun _ h=>xn h) fun _ h=>xn h
    |some n=>cases b<;>exact(yt h2).elim fun v hv=>xn (hv.1.symm.trans (cQ he))
 refine rL g x1 x2 s1 s2 (fun a ha b hp' H' r g' e'=>?_) (fun e he=>qe e (err e he));rcases exc (yO true [t1,t2]) with⟨e',h1⟩|⟨vs,h1⟩
 .exact vA ((Kg h1).symm.trans ha)
 .rcases exc (xQ most true vs) with⟨e',h2⟩|⟨u,h2⟩
  .exact vA ((Uj h1 h2).symm.trans ha)
  .exact q vs u h1 h2 b hp' H' (fy h1 h2 ha s1 s2 x1 x2 r) r.len g' e'
theorem cb {most:Int}{t1 t2 t3:Tr}:Wg p w B 623 most false [t1,t2,t3]:=by
 intro d H S hp xs cs X Q g hx hs q qe;obtain⟨c1,c2,c3,rfl⟩:=pV hs.len;have x1:xs[1]?=some c1:=hx 0 (Nat.succ_pos _);have x2:xs[2]?=some c2:=hx 1 (Nat.succ_lt_succ (Nat.succ_pos _));have x3:xs[3]?=some c3:=hx 2 (Nat.succ_lt_succ (Nat.succ_lt_succ (Nat.succ_pos _)));have s1:=hs.at_ 0 t1 c1 rfl rfl;have s2:=hs.at_ 1 t2 c2 rfl rfl;have s3:=hs.at_ 2 t3 c3 rfl rfl;have err:∀ e,Xo most t1 t2 t3=.error e->wZ most false [t1,t2,t3] e:=fun e he=>by
  rcases exc (yO false [t1,t2,t3]) with⟨e',h1⟩|⟨vs,h1⟩
  .cases(Ka (bits:=most) h1).symm.trans he;exact .inl h1
  .rcases exc (xQ most false vs) with⟨e',h2⟩|⟨u,h2⟩
   .cases(Us h1 h2).symm.trans he;exact .inr ⟨vs,h1,h2⟩
   .refine jI (VQ h1) fun a b c h3 h4 h5 wj=>?_;subst wj;have he:=kN h3 he;have he:=kN h4 he;have he:=kN h5 he;cases a<;>cases b<;>cases c<;>first|exact vA h2|exact(yt h2).elim fun v hv=>xn (hv.1.symm.trans (cQ he))
 refine oh g x1 x2 x3 s1 s2 s3 (fun a ha b hp' H' r g' e'=>?_) (fun e he=>qe e (err e he));rcases exc (yO false [t1,t2,t3]) with⟨e',h1⟩|⟨vs,h1⟩
 .exact vA ((Ka h1).symm.trans ha)
 .rcases exc (xQ most false vs) with⟨e',h2⟩|⟨u,h2⟩
  .exact vA ((Us h1 h2).symm.trans ha)
  .exact q vs u h1 h2 b hp' H' (gP h1 h2 ha s1 s2 s3 x1 x2 x3 r) r.len g' e'
def zT.voc:zT->Prop|.inst=>True|.type k _=>k∈xj|.eval w=>w∈xj|.res w=>w∈xj
theorem zT.sok {S:Sy}(ok:S.Ok){e:zT}(h:e.voc):(e.ball S).1.Ok:=by cases e with|inst=>exact ok.atom (by decide+kernel)|type k c=>exact(ok.atom h).func (by decide+kernel) (by decide) (by decide)|eval k=>exact(ok.atom h).func (by decide+kernel) (by decide) (by decide)|res k=>exact(ok.atom h).func (by decide+kernel) (by decide) (by decide)
theorem zT.le (S:Sy)(e:zT):S.Le (e.ball S).1:=by cases e with|inst=>exact S.atom_le _|type k c=>exact(S.atom_le _).trans (Sy.func_le _ _ _)|eval k=>exact(S.atom_le _).trans (Sy.func_le _ _ _)|res k=>exact(S.atom_le _).trans (Sy.func_le _ _ _)
theorem dQ (h:Wq nat t=.error e):e.voc:=by
 have side:∀ {e:zT},wA t=.error e->e.voc:=fun{e} h=>by
  have hm:("integer":Str)∈xj:=by decide+kernel
  cases t with|I _=>exact xn h|V _=>exact xn h|_=>cases h;exact hm
 cases nat with
 |false=>exact side h|true=>refine(yT (r:=wA t) h).elim side fun⟨o,_,h⟩=>?_;cases o with|none=>exact xn h|some n=>exact vE h (fun _ h=>by cases h;exact(by decide+kernel:("not_less_than_zero":Str)∈xj)) fun _ h=>xn h
theorem bh {l:List Tr}:∀ {e:zT},yO nat l=.error e->e.voc:=by induction l with|nil=>exact fun h=>xn h|cons t l ih=>exact fun h=>(yT h).elim dQ fun⟨_,_,h⟩=>(yT h).elim ih fun⟨_,_,h⟩=>xn h
theorem Vg:yD.voc:=(by decide+kernel:("memory":Str)∈xj)
theorem gK (h:xQ most nat vs=.error e):e.voc:=K4 h trivial fun v e' hc=>by rw[VT hc];exact Vg
theorem wZ.voc (h:wZ most nat sides e):e.voc:=by
 rcases h with h|⟨vs,_,h⟩
 .exact bh h
 .exact gK h
abbrev HP:Id->Prop:=fun i=>yh i\/i=.nm 12\/i=.nm 15
theorem wZ.det (h:wZ most nat sides e)(h':wZ most nat sides e'):e'=e:=by
 rcases h with h|⟨vs,h,h2⟩
 .rcases h' with k|⟨us,k,k2⟩
  .rw[h] at k;cases k;rfl
  .rw[h] at k;exact vA k
 .rcases h' with k|⟨us,k,k2⟩
  .rw[h] at k;exact xn k
  .rw[h] at k;cases k;rw[h2] at k2;cases k2;rfl
theorem wZ.no (h:wZ most nat sides e)(h1:yO nat sides=.ok vs)(h2:xQ most nat vs=.ok u):False:=by
 rcases h with h|⟨us,h,h3⟩
 .rw[h] at h1;exact vA h1
 .rw[h] at h1;cases h1;rw[h2] at h3;exact xn h3
theorem QW (hS:zj H S)(sok:S.Ok)(hl:H li=some (.list (sides.map Tr.pv)))(vM:∀ n<6,li≠.nm n)(hf:∀ t∈sides,vx t=true)(hz:sides.length<=3) (Yt:(nat=true/\sides.length=2)\/(nat=false/\sides.length=3)) (wC:0<most) (xO:most<=64) (qe:∀ e,wZ most nat sides e->w_ S H Q e) (q:∀ vs u,yO nat sides=.ok vs->xQ most nat vs=.ok u->∀ H',zj H' S->zf yA H H'->Q u.pv H'):
  zh (gr p w B) (d+6) H [.obj (.nm 0),.obj li,.int most,.bool nat] (cZ 914) Q X:=
 b_ hS sok hl vM hf hz (fun e h=>qe e (.inl h)) Yt wC xO (fun vs e h1 h2=>qe e (.inr ⟨vs,h1,h2⟩)) q
theorem oX:uP WA ZP.c "side"=true/\V5 WA lK ZP "side" [none,some none,some (some 1)]=true:=by constructor<;>kernel_rfl
theorem WD (hk:keepIn (gr p w B).K (.ref f)=true)(hP:Wg p w B f most nat sides)(g:zL H S most hp xs)(bS:vm S)(wy:1<=xs.length)(uX:xs.length<=900)(kU:hp.length<=80000) (hl:H li=some (.list (sides.map Tr.pv))) (vM:∀ n<16,li≠.nm n) (Jv:∀ t∈sides,t.Ok S/\vx t=true/\t.size<=10) (Yt:(nat=true/\sides.length=2)\/(nat=false/\sides.length=3)) (wC:0<most) (q:∀ S' hp' ye H',S.Le S'->zL H' S' most hp' ye->1<=ye.length->ye.length<=max xs.length 4->hp'.length<=hp.length+60->zf HP H H'->Q (.bool true) H'):
  zh (gr p w B) (d+16) H [.raw (.ref f),.obj (.nm 8),.obj (.nm 0),.obj li,.int most,.bool nat] (cZ 919) Q X:=by
 have Yu:sides.length<=3:=by rcases Yt with h|h<;>lia+abstractProof
 refine z9 (F:=[]) rfl trivial ?_;refine VA rfl rfl (by kernel_rfl) oX.1 (by intros;rfl) (Q7 ((kc (Q0:=fun _=>True) (F:=[]) trivial ?_) (by kernel_rfl)));refine .inr ⟨li,_,rfl,hl,A22 0x1E10042010406FAC00 (List.length_map ..) Yu,qC.body (cl:=[none,some none,some (some 1)]) ⟨A22 0x1E10042010406FAC00 (List.length_map ..) Yu,fun r ys H'=>∃ (a b:List Tr) (cs hp':List Cl),sides=a++b/\r=b.map Tr.pv/\ys=cs.map Cl.pv/\Xs S hp' cs a/\yJ H' most hp' xs/\hp'.length<=hp.length+20*a.length/\zf xo H H',⟨[],sides,[],hp,rfl,rfl,rfl,⟨rfl,fun i t c h=>zJ h⟩,g.mac,by simp,.refl⟩,?_,?_⟩ rfl oX.2 (by kernel_rfl)⟩
 .intro x r ys H' zq;refine oo zq fun a b cs hp' xN hr wj hs vB yf e=>?_;clear zq;subst wj;cases b with
  |nil=>exact Kw hr|cons t b=>
   simp only[List.map_cons,List.cons.injEq] at hr;refine a2 hr fun xA zW=>?_;clear hr;subst xA zW;obtain⟨o1,o2,o3⟩:=Jv t (by rw[xN];simp);have Yn:a.length<=3:=by have:=congrArg List.length xN;simp at this;exact A32 0x78401689004046103C00 this Yu
   have LF:=g.sym.ext e fun n hn z=>by cases z;exact A01 0x9602103186 hn
   refine yU (vB.fox (p:=p) (w:=w) (B:=B)) fun i1 i2 i3 F=>?_;refine kc F (c8 bS vB LF g.ok o1 (A44 0x1512340001009C407563005E2052C10080015F90EAC2248100 o3 Yn kU yf) (A11 0xB0001003E8F2C00 o3) fun c hp2 Xg H2 z1 z2 z3=>gV ?_);have eN:H2 li=some (.list (sides.map Tr.pv)):=z3.get (vM 12 (by decide)) (e.get (vM 12 (by decide)) hl);have hsz:=z1.siz;refine⟨eN,a++[t],b,cs++[c],hp2,by rw[xN];simp,rfl,by simp,⟨by simp[hs.len],fun i u c' hu hc=>?_⟩,z2,A64 0x20925400011D12141401B10026B1034087400A890A000 (List.length_append ..) o3 yf hsz,e.trans z3⟩;by_cases hi:i<a.length
   .rw[List.getElem?_append_left hi] at hu;rw[List.getElem?_append_left (by rw[hs.len];exact hi)] at hc;exact(hs.at_ i u c' hu hc).grow (.refl S) z1.old
   .have Yp:i=a.length:=by
     have:=(xU hu).1;simp at this;exact Nat.le_antisymm (A21 0x1A14002100400 this) (A21 0x4A100400 hi)
    subst Yp;rw[List.getElem?_append_right (Nat.le_refl _),Nat.sub_self] at hu;rw[List.getElem?_append_right (by rw[hs.len];exact Nat.le_refl _),hs.len,Nat.sub_self] at hc;cases hu;obtain rfl:=yd hc;exact z1.side o1 o2
 .rintro ys H' ⟨a,b,cs,hp',xN,hr,rfl,hs,vB,yf,e⟩ la H3 Yv Yq eL;obtain rfl:b=[]:=by cases b with
   |nil=>rfl|cons _ _=>exact KI hr
  rw[List.append_nil] at xN;subst xN;have kG:=hs.len;have sA:=vB.ext eL fun _ _ _ h=>h;have yc:=(g.sym.ext e fun n hn z=>by cases z;exact A01 0x9602103186 hn).ext eL fun _ _ h=>h;have Jm:=eL.get (fun h=>h) (e.get (vM 12 (by decide)) hl);have ef:=e.trans eL.no;refine gN (QW yc g.ok Jm (fun n hn=>vM n (A11 0x9002107001 hn)) (fun t ht=>(Jv t ht).2.1) Yu Yt wC g.bits64 (fun er lX S' H4 l4 tD yn e4=>?_) (fun vs u hv hu H4 yn e4=>?_))
  .have g4:zL H4 S' most hp' xs:=⟨sA.ext e4 Xi,yn,tD,g.bits64,A33 0xD12240001009C407562005E105005FAC00 Yu kU yf,g.xlen⟩;have Jn:=e4.get (vw la) Yq;refine gV (Y1 (d:=d+12) hk g4 Jn (fun n _ h=>v7 h) wy uX (A22 0x784010804100032F2C00 kG Yu) fun ye H5 z1 z2 z3 g5 e5=>?_);have XS:Xs S' hp' cs sides:=⟨kG,fun i t c hu hc=>(hs.at_ i t c hu hc).grow ((zT.le S er).trans l4) fun _ _=>rfl⟩;refine hP (d:=d+2) g5 z1 XS (fun vs u hv hu=>(lX.no hv hu).elim) (fun e' Uy H6 h6 e6=>?_);obtain rfl:e'=er:=lX.det Uy;refine⟨qh _ _,?_⟩;rw[ZW l4];have Vo:=Zl S (lX.okd fun t ht=>(Jv t ht).2.1);refine gV (UM 14 (Kx Vo) (by decide) ?_);refine gV ?_;refine q (e'.ball S').1 hp' ye H6 (((zT.le S e').trans l4).trans (zT.le S' e')) ⟨g5.mac.ext e6 Xi,h6,zT.sok tD lX.voc,g5.bits64,g5.len,g5.xlen⟩ z2 (by lia+abstractProof) (A32 0x5448500005E2050000F3CB0A000 Yu yf) ?_;exact(((ef.mono fun _ h=>.inr (.inl h)).trans (e4.mono fun _ h=>.inl h)).trans (e5.mono fun _ h=>.inr (.inr h))).trans (e6.mono fun _ h=>.inl h)
  .have g4:zL H4 S most hp' xs:=⟨sA.ext e4 (fun n h1 h2 z=>z),yn,g.ok,g.bits64,A33 0xD12240001009C407562005E105005FAC00 Yu kU yf,g.xlen⟩;have Jn:=e4.get (fun h=>h) Yq;have fin:∀ {hp2 ye:List Cl} {H5 H6:AH},zL H6 S most hp2 ye->hp2.length=hp'.length->1<=ye.length->ye.length<=max xs.length (cs.length+1)->zf (zV (.nm 15)) H4 H5->zf xo H5 H6->Q (.bool true) H6:=fun{hp2 ye H5 H6} g6 y0 y1 y2 y3 y4=>
    q S hp2 ye H6 (.refl S) g6 y1 (by lia+abstractProof) (A43 0x7448502005E305040104000F3CB0A000 y0 Yu yf) ((((ef.mono fun _ h=>.inr (.inl h)).trans e4.no).trans (y3.mono fun _ h=>.inr (.inr h))).trans (y4.mono fun _ h=>.inr (.inl h)))
   have XS:Xs S hp' cs sides:=⟨kG,fun i t c hu hc=>hs.at_ i t c hu hc⟩;cases u with
   |holds b'=>refine gV (Y1 (d:=d+12) hk g4 Jn (fun n _ h=>v7 h) wy uX (A22 0x784010804100032F2C00 kG Yu) fun ye H5 z1 z2 z3 g5 e5=>?_);refine hP (d:=d+2) g5 z1 XS (fun qt u' kK qp b hp2 H6 m ml g6 e6=>?_) (fun e' Uy=>(Uy.no hv hu).elim);rw[hv] at kK;cases kK;rw[hu] at qp;cases qp;obtain rfl:b=b':=m;refine gV (UM 0 rfl (by decide) ?_);exact gV (fin g6 ml z2 z3 e5 e6)
   |value v k=>refine gV (Y1 (d:=d+12) hk g4 Jn (fun n _ h=>v7 h) wy uX (A22 0x784010804100032F2C00 kG Yu) fun ye H5 z1 z2 z3 g5 e5=>?_);refine hP (d:=d+2) g5 z1 XS (fun qt u' kK qp b hp2 H6 m ml g6 e6=>?_) (fun e' Uy=>(Uy.no hv hu).elim);rw[hv] at kK;cases kK;rw[hu] at qp;cases qp;refine a2 m fun xA zz=>?_;refine yE zz fun c n hc LR=>?_;clear m;subst xA;refine yU (g6.mac.fox (p:=p) (w:=w) (B:=B)) fun i1 i2 i3 F=>?_;have Ir:=e6.get (by unfold xo zV;simp) (e5.get (by unfold zV;simp) Jn);have v9:=(xU hc).1;refine zd F (UM 0 rfl (by decide) ?_);refine zd F ?_;refine uj (p:=c.pv) Ir (A33 0x1E2004411042008408FAC00 v9 kG Yu) (w9 hc) (zd F (xJ g6.mac.st g6.len LR (zd F (UM 0 rfl (by decide) ?_))));exact gV (fin g6 ml z2 z3 e5 e6)
def kD (e:zT):Prop:=WO e/\e.voc
theorem YB:kD yD:=⟨J4,Vg⟩
theorem ai:kD .inst:=⟨KU,trivial⟩
theorem jH (a n:Int):kD (k9 a n):=by refine⟨fun k c h=>?_,(by decide+kernel:("evaluable":Str)∈xj)⟩;cases h;rfl
theorem Wz (hk:k∈xj)(n:Int):kD (.type k (XA n)):=by refine⟨fun k c h=>?_,hk⟩;cases h;rfl
theorem bp (hk:k∈xj):kD (.eval k):=⟨fun k c h=>(by cases h),hk⟩
theorem V7 (h:y7 b v=.error e):kD e:=by rw[VT h];exact YB
theorem b7 (h:V8 op v=.error e):kD e:=by cases op<;>first|exact xn h|exact vE h (fun _ h=>by cases h;exact Wz (by decide+kernel) _) fun _ h=>xn h
theorem Z1 (h:VH op a b=.error e):kD e:=vE h (fun _ h=>by cases h;exact bp (by decide+kernel)) fun _ h=>by cases op<;>exact xn h
theorem bu (h:YZ op a b bits=.error e):kD e:=by
 cases op<;>first|exact xn h|exact Z1 (op:=.idiv) h|exact Z1 (op:=.rem) h|exact Z1 (op:=.mod) h|skip
 .exact vE h (fun _ h=>xn h) fun _ h=>vE h (fun _ h=>vE h (fun _ h=>xn h) fun _ h=>xn h) fun _ h=>vE h (fun _ h=>by cases h;exact Wz (by decide+kernel) _) fun _ h=>vE h (fun _ h=>xn h) fun _ h=>vE h (fun _ h=>xn h) fun _ h=>vE h (fun _ h=>by cases h;exact YB) fun _ h=>xn h
 .exact vE h (fun _ h=>xn h) fun _ h=>vE h (fun _ h=>xn h) fun _ h=>vE h (fun _ h=>by cases h;exact YB) fun _ h=>xn h
theorem uv {bits:Int}{t:Tr}:∀ {e:zT},ev bits t=.error e->kD e:=by induction t with|V _=>intro e h;cases h;exact ai|A _=>intro e h;cases h;exact jH _ _|I _=>exact fun h=>xn h|U f a op t ih=>exact fun h=>vE h (fun _ h=>(yT h).elim ih fun⟨x,_,h⟩=>(yT h).elim b7 fun⟨y,_,h⟩=>V7 h) fun _ h=>by cases h;exact jH _ _|B f a op l r il ir=>exact fun h=>vE h (fun _ h=>(yT h).elim il fun⟨x,_,h⟩=>(yT h).elim ir fun⟨y,_,h⟩=>(yT h).elim bu fun⟨z,_,h⟩=>V7 h) fun _ h=>by cases h;exact jH _ _
def Tr.vin (P:Int->Prop):Tr->Prop|.V k=>P k|.U _ _ _ t=>t.vin P|.B _ _ _ l r=>l.vin P/\r.vin P|_=>True
theorem Tr.V3.vin {t:Tr}:t.V3->t.vin fun k=>k=0\/k=1\/k=2:=by induction t with|V _=>exact id|A _=>exact fun _=>trivial|I _=>exact fun _=>trivial|U _ _ _ t ih=>exact ih|B _ _ _ l r il ir=>exact fun h=>⟨il h.1,ir h.2⟩
theorem Tr.subst_vin (h:∀ k,P k->(σ k).vin P'){t:Tr}:t.vin P->(t.subst σ).vin P':=by induction t with|V k=>exact h k|A _=>exact fun _=>trivial|I _=>exact fun _=>trivial|U _ _ _ t ih=>exact ih|B _ _ _ l r il ir=>exact fun h=>⟨il h.1,ir h.2⟩
theorem Tr.B_eq (p:l=l')(q:r=r'):Tr.B f a op l r=Tr.B f a op l' r':=by rw[p,q]
theorem Tr.subst_subst (σ τ:Int->Tr)(t:Tr):(t.subst σ).subst τ=t.subst fun k=>(σ k).subst τ:=by induction t with|U f a op t ih=>exact congrArg (Tr.U f a op) ih|B f a op l r il ir=>exact Tr.B_eq il ir|_=>rfl
theorem Tr.subst_cong (h:∀ k,P k->σ k=τ k){t:Tr}:t.vin P->t.subst σ=t.subst τ:=by induction t with|V k=>exact h k|A _=>exact fun _=>rfl|I _=>exact fun _=>rfl|U f a op t ih=>exact fun z=>congrArg (Tr.U f a op) (ih z)|B f a op l r il ir=>exact fun z=>Tr.B_eq (il z.1) (ir z.2)
theorem Tr.subst_ok (h:∀ k,(σ k).Ok S){t:Tr}:t.Ok S->(t.subst σ).Ok S:=by induction t with|V k=>exact fun _=>h k|A _=>exact fun _=>trivial|I _=>exact id|U f a op t ih=>exact fun z=>⟨z.1,z.2.1,ih z.2.2⟩|B f a op l r il ir=>exact fun z=>⟨z.1,z.2.1,il z.2.2.1,ir z.2.2.2⟩
theorem Tr.subst_size (hM:1<=M)(h:∀ k,(σ k).size<=M)(t:Tr):(t.subst σ).size<=t.size*M:=by have l1:1<=1*M:=Nat.le_trans hM (Nat.le_of_eq (Nat.one_mul M).symm);have l2 {x y z:Nat} (p:x<=y) (q:y=z*M):x+2<=(z+2)*M:=Nat.le_trans (Nat.add_le_add (Nat.le_trans p (Nat.le_of_eq q)) (Nat.mul_le_mul_left 2 hM)) (Nat.le_of_eq (Nat.add_mul z 2 M).symm);induction t with|V k=>exact Nat.le_trans (h k) (Nat.le_of_eq (Nat.one_mul M).symm)|A _=>exact l1|I _=>exact l1|U f a op t ih=>exact l2 ih rfl|B f a op l r il ir=>exact l2 (Nat.add_le_add il ir) (Nat.add_mul ..).symm
theorem Tr.subst_leaf (h:∀ k,(σ k).size=1)(t:Tr):(t.subst σ).size=t.size:=by induction t with|V k=>exact h k|A _=>rfl|I _=>rfl|U f a op t ih=>exact congrArg (·+2) ih|B f a op l r il ir=>exact congrArg (·+2) (congr (congrArg (·+·) il) ir)
theorem Tr.dep_size (t:Tr):t.dep<=t.size:=by induction t with|U f a op t ih=>exact Nat.le_succ_of_le (Nat.succ_le_succ ih)|B f a op l r il ir=>exact Nat.le_succ_of_le (Nat.succ_le_succ (Nat.max_le.mpr ⟨Nat.le_trans il (Nat.le_add_right ..),Nat.le_trans ir (Nat.le_add_left ..)⟩))|_=>exact Nat.zero_le _
theorem Tr.subst_dep (h:∀ k,(σ k).dep<=M)(t:Tr):(t.subst σ).dep<=t.dep+M:=by induction t with|V k=>exact Nat.le_trans (h k) (Nat.le_add_left ..)|A _=>exact Nat.zero_le _|I _=>exact Nat.zero_le _|U f a op t ih=>exact Nat.le_trans (Nat.succ_le_succ ih) (Nat.le_of_eq (Nat.succ_add ..).symm)|B f a op l r il ir=>exact Nat.le_trans (Nat.succ_le_succ (Nat.max_le.mpr ⟨Nat.le_trans il (Nat.add_le_add_right (Nat.le_max_left ..) _),Nat.le_trans ir (Nat.add_le_add_right (Nat.le_max_right ..) _)⟩)) (Nat.le_of_eq (Nat.succ_add ..).symm)
theorem Tr.subst_peak (h:∀ k,P k->(σ k).peak<=M){t:Tr}:t.vin P->(t.subst σ).peak<=t.arsum+M:=by induction t with|V k=>exact fun z=>Nat.le_trans (h k z) (Nat.le_add_left ..)|A _=>exact fun _=>Nat.zero_le _|I _=>exact fun _=>Nat.zero_le _|U f a op t ih=>exact fun z=>Nat.le_trans (Nat.add_le_add_left (ih z) 1) (Nat.le_of_eq (Nat.add_assoc ..).symm)|B f a op l r il ir=>exact fun z=>Nat.le_trans (Nat.add_le_add_left (Nat.max_le.mpr ⟨Nat.le_trans (il z.1) (Nat.add_le_add_right (Nat.le_add_right ..) _),Nat.le_trans (ir z.2) (Nat.add_le_add_right (Nat.le_add_left ..) _)⟩) 2) (Nat.le_of_eq ((Nat.add_assoc 2 _ M).symm.trans (congrArg (·+M) (Nat.add_assoc ..).symm)))
theorem x_.substP (UK:∀ k x,P k->yG tab k=some x->HT hp ⟨0,(x:Nat)⟩ (σ k)):∀ {t:Tr} {c:Cl},t.vin P->x_ hp tab c t->HT hp c (t.subst σ)|.V k,c,z,⟨x,r,n,m,h1,h2,h3⟩=>(UK k x z h1).same h3 h2|.A a,_,_,x=>x|.I a,_,_,x=>x|.U f a op t,_,z,⟨x,n,e,h1,h2,h3,h4⟩=>⟨x,n,e,h1,h2,h3,x_.substP UK (t:=t) z h4⟩|.B f a op l s,_,z,⟨x,n,e1,e2,h1,h2,h3⟩=>⟨x,n,e1,e2,h1,x_.substP UK z.1 h2,x_.substP UK z.2 h3⟩
theorem RT.monoV (h:∀ c k,V k->P c k->P' c k):∀ {c:Cl} {t:Tr},t.vin V->RT hp P c t->RT hp P' c t|_,.V _,z,x=>h _ _ z x|_,.A _,_,x=>x|_,.I _,_,x=>x|_,.U _ _ _ t,z,⟨x,n,e,h1,h2,h3,h4⟩=>⟨x,n,e,h1,h2,h3,RT.monoV h (t:=t) z h4⟩|_,.B _ _ _ _ _,z,⟨x,n,e1,e2,h1,h2,h3⟩=>⟨x,n,e1,e2,h1,RT.monoV h z.1 h2,RT.monoV h z.2 h3⟩
theorem x_.same (h:zP hp c r n)(h':zP hp c' r m)(x:x_ hp tab c t):x_ hp tab c' t:=
 RT.same h h' (fun k ⟨x,r',n',m',z1,z2,z3⟩=>by have:=z2.det h;subst this;exact⟨x,r',m,m',z1,h',z3⟩) x
theorem x_.grow (g:∀ y<hp.length,hp'[y]?=hp[y]?)(l:wQ tab tab')(h:x_ hp tab c t):x_ hp' tab' c t:=
 RT.grow g (fun _ _ x=>W7.grow g l x) h
structure Yk (hp:List Cl)(tab:List (Int×Nat))(vl:List (Int×Tr))(D:Int->Prop):Prop where
 tok:qL hp tab
 has:∀ k,D k->∃ x,yG tab k=some x
 root:∀ k x,yG tab k=some x->∃ r n,zP hp ⟨0,(x:Nat)⟩ r n
 done:∀ k x t,D k->yG tab k=some x->wB vl k=some t->x_ hp tab ⟨0,(x:Nat)⟩ t
 free:∀ k x,¬D k->yG tab k=some x->∃ r n:Nat,zP hp ⟨0,(x:Nat)⟩ ⟨0,r⟩ n/\(k≠2->r=x)/\∀ j z,¬D j->j≠2->j≠k->yG tab j=some z->r≠z
theorem Yk.put (b:Yk hp tab vl D)(r:q7 hp tab t c hp' tab'):Yk hp' tab' vl D:=by
 have old:∀ k x,D k->yG tab' k=some x->yG tab k=some x:=fun k x hD h=>by refine zA (b.has k hD) fun x' hx=>?_;have:=r.le k x' hx;rw[h] at this;cases this;exact hx
 refine⟨r.tok,fun k hD=>?_,fun k x h=>?_,fun k x t hD h hv=>?_,fun k x hD h=>?_⟩
 .refine zA (b.has k hD) fun x hx=>?_;exact⟨x,r.le k x hx⟩
 .rcases r.new k x h with z|⟨z1,z2⟩
  .refine vg (b.root k x z) fun e n z=>?_;exact⟨e,n,z.grow r.old⟩
  .exact⟨_,0,.self z2⟩
 .exact(b.done k x t hD (old k x hD h) hv).grow r.old r.le
 .rcases r.new k x h with z|⟨z1,z2⟩
  .refine zB (b.free k x hD z) fun e n y1 y2 y3=>?_;have el:=(xU y1.root).1;refine⟨e,n,y1.grow r.old,y2,fun j v hj h2 hk hv=>?_⟩;rcases r.new j v hv with q|⟨q1,q2⟩
   .exact y3 j v hj h2 hk q
   .lia
  .exact⟨x,0,.self z2,fun _=>rfl,fun j v hj h2 hk hv e=>hk (r.tok.inj j k x (by rw[e];exact hv) h)⟩
theorem Yk.gt (b:Yk hp tab vl D)(h:PT hp tab c t):x_ hp tab c t:=PT.gt b.root h
theorem Yk.step (b:Yk hp tab vl D)(hD:¬D k)(hx:yG tab k=some x)(hv:wB vl k=some t)(ht:t.vin fun j=>j=2)(h2:k=2->∃ n,t=.I n)(lP:k≠2->¬D 2)(hc:x_ hp tab c t)(ok:t.Ok S)(hz:t.size<=500): ∃ (y n1 n2:Nat) (r2:Cl),zP hp ⟨0,(x:Nat)⟩ ⟨0,y⟩ n1/\zP hp c r2 n2/\((∃ z:Nat,r2=⟨0,z⟩/\z≠y)\/(r2.t≠0/\r2.t≠1/\OT hp y r2 t/\t.Ok S/\t.size<=500))/\ ∀ hp',(hp'=hp.set y r2\/∃ z:Nat,r2=⟨0,z⟩/\z≠y/\hp'=hp.set z ⟨0,y⟩)->Yk hp' tab vl (fun j=>D j\/j=k)/\hp'.length=hp.length/\∀ c' t',x_ hp tab c' t'->x_ hp' tab c' t':=by
 refine zB (b.free k x hD hx) fun y n1 hy Gq eX=>?_;refine vg (x_.der hc) fun r2 n2 hr=>?_;have QE:=hy.root;have bJ:∀ j v e n,¬D j->j≠k->yG tab j=some v->zP hp ⟨0,(v:Nat)⟩ ⟨0,(e:Nat)⟩ n->e≠y:=fun j v e n hj l9 Ge sJ=>by
  refine zB (b.free j v hj Ge) fun e' n' z1 z2 z3=>?_;have:=z1.det sJ;cases Yh this;by_cases Vk:k=2
  .have:=z2 (by lia);subst this;exact fun q=>eX j e hj (by lia) l9 Ge q.symm
  .have:=Gq Vk;subst this;exact z3 k y hD Vk (fun q=>l9 q.symm) hx
 have Vp:∀ z:Nat,r2=⟨0,z⟩->k≠2/\∃ x2,yG tab 2=some x2/\∃ m,zP hp ⟨0,(x2:Nat)⟩ ⟨0,z⟩ m:=fun z e=>by
  subst e;cases t with
  |V j=>have j2:j=2:=ht;subst j2;refine aG hc fun x2 r n m q1 q2 q3=>?_;have:=q2.det hr;subst this;exact⟨fun q=>(by obtain⟨n,q⟩:=h2 q;cases q),x2,q1,m,q3⟩|A a=>obtain⟨n,q⟩:=hc;exact absurd (q.det hr) fun q=>by cases q
  |I a=>obtain⟨n,q⟩:=hc;exact absurd (q.det hr) fun q=>by cases q
  |U f a op t=>obtain⟨_,n,_,q,_⟩:=hc;exact absurd (q.det hr) fun q=>by cases q
  |B f a op l r=>
   obtain⟨_,n,_,_,q|q,_⟩:=hc
   .exact absurd (q.1.det hr) fun q=>by cases q
   .exact absurd (q.2.2.1.det hr) fun q=>by cases q
 have wJ:∀ z:Nat,r2=⟨0,z⟩->z≠y:=fun z e=>by refine a2 (Vp z e) fun k2 zz=>?_;refine zg zz fun x2 q1 zz=>?_;refine zA zz fun m q2=>?_;exact bJ 2 x2 z m (lP k2) (fun q=>k2 q.symm) q1 q2
 have Xe:r2≠⟨0,y⟩:=fun e=>wJ y e rfl;refine⟨y,n1,n2,r2,hy,hr,?_,?_⟩
 .rcases hr.end_ with q|⟨z,q⟩
  .refine .inr ⟨q.1,q.2,?_,ok,hz⟩;by_cases k2:k=2
   .refine zA (h2 k2) fun n zW=>?_;subst zW;refine zA hc fun n' q'=>?_;have:=q'.det hr;subst this;exact⟨_,hr.self_⟩
   refine RT.same (P:=rq hp y) hr hr.self_ (fun j hj=>?_) (RT.monoV (V:=fun j=>j=2) (fun c' j hj hg=>?_) ht hc)
   .refine yE hj fun n z w1 w2=>?_;have:=w1.det hr;subst this;exact absurd rfl q.1
   .subst hj;refine aG hg fun x2 r n m q1 q2 q3=>?_;refine zB (b.free 2 x2 (lP k2) q1) fun e n' w1 w2 w3=>?_;have:=q3.det w1;subst this;exact⟨n,e,q2,bJ 2 x2 e n' (lP k2) (fun q=>k2 q.symm) q1 w1⟩
  .exact .inl ⟨z,q,wJ z q⟩
 .rintro hp' (rfl|⟨z,rfl,QF,rfl⟩)
  .have hd:∃ n,zP (hp.set y r2) r2 r2 n:=by
    rcases hr.end_ with q|⟨z,rfl⟩
    .exact⟨0,.stop q.1 q.2⟩
    .exact⟨0,.self (by rw[List.getElem?_set_ne (fun q=>wJ z rfl q.symm)];exact hr.root)⟩
   refine zA hd fun kd hd=>?_;have gb:∀ c' t',x_ hp tab c' t'->x_ (hp.set y r2) tab c' t':=fun c' t' h=>x_.bind QE Xe hd h;refine⟨⟨⟨fun j v h=>by rw[List.length_set];exact b.tok.lt j v h,b.tok.inj⟩,fun j hj=>?_,fun j v h=>?_,fun j v t' hj h kK=>?_,fun j v hj h=>?_⟩,List.length_set ..,gb⟩
   .rcases hj with hj|rfl
    .exact b.has j hj
    .exact⟨x,hx⟩
   .refine vg (b.root j v h) fun r n q=>?_;refine zA (zP.bind QE Xe hd q) fun m q=>?_;exact⟨_,m,q⟩
   .rcases hj with hj|rfl
    .exact gb _ _ (b.done j v t' hj h kK)
    .rw[hv] at kK;obtain rfl:=yd kK;rw[hx] at h;obtain rfl:=yd h;refine zA (zP.bind QE Xe hd hr) fun m1 q1=>?_;refine zA (zP.bind QE Xe hd hy) fun m2 q2=>?_;rw[uq Xe] at q1;rw[jg] at q2;exact x_.same q1 q2 (gb _ _ hc)
   .have eJ:¬D j:=fun q=>hj (.inl q);have Gd:j≠k:=fun q=>hj (.inr q);refine zB (b.free j v eJ h) fun e n w1 w2 w3=>?_;have ey:=bJ j v e n eJ Gd h w1;refine zA (zP.bind QE Xe hd w1) fun m q=>?_;rw[uq (fun q=>ey (Yh q))] at q;exact⟨e,m,q,w2,fun i u hi i2 ij hu=>w3 i u (fun q=>hi (.inl q)) i2 ij hu⟩
  .refine a2 (Vp z rfl) fun k2 zz=>?_;refine zg zz fun x2 q1 zz=>?_;refine zA zz fun m2 q2=>?_;have tu:=Gq k2;subst tu;have eY:=hr.root;have JB:(⟨0,(y:Nat)⟩:Cl)≠⟨0,z⟩:=fun q=>QF (Yh q).symm;have hd:zP (hp.set z ⟨0,(y:Nat)⟩) ⟨0,(y:Nat)⟩ ⟨0,(y:Nat)⟩ 0:=.self (by rw[List.getElem?_set_ne QF];exact QE);have gb:∀ c' t',x_ hp tab c' t'->x_ (hp.set z ⟨0,(y:Nat)⟩) tab c' t':=fun c' t' h=>x_.bind eY JB hd h;refine⟨⟨⟨fun j v h=>by rw[List.length_set];exact b.tok.lt j v h,b.tok.inj⟩,fun j hj=>?_,fun j v h=>?_,fun j v t' hj h kK=>?_,fun j v hj h=>?_⟩,List.length_set ..,gb⟩
   .rcases hj with hj|rfl
    .exact b.has j hj
    .exact⟨y,hx⟩
   .refine vg (b.root j v h) fun r n q=>?_;refine zA (zP.bind eY JB hd q) fun m q=>?_;exact⟨_,m,q⟩
   .rcases hj with hj|rfl
    .exact gb _ _ (b.done j v t' hj h kK)
    .rw[hv] at kK;obtain rfl:=yd kK;rw[hx] at h;obtain rfl:=yd h;refine zA (zP.bind eY JB hd hr) fun m1 w1=>?_;refine zA (zP.bind eY JB hd hy) fun m2 w2=>?_;rw[jg] at w1;rw[uq JB] at w2;exact x_.same w1 w2 (gb _ _ hc)
   .have eJ:¬D j:=fun q=>hj (.inl q);have Gd:j≠k:=fun q=>hj (.inr q);refine zB (b.free j v eJ h) fun e n w1 w2 w3=>?_;refine zA (zP.bind eY JB hd w1) fun m q=>?_;by_cases j2:j=2
    .subst j2;rw[q1] at h;obtain rfl:=yd h;have:=w1.det q2;cases Yh this;rw[jg] at q;exact⟨y,m,q,fun q=>absurd rfl q,fun i u hi i2 ij hu e=>hi (.inr (b.tok.inj i k y (by rw[e];exact hu) hx))⟩
    .have ev:=w2 j2;subst ev;have ez:e≠z:=fun q=>by
      refine zB (b.free 2 x2 (lP k2) q1) fun e' n' y1 y2 y3=>?_;have:=y1.det q2;cases Yh this;exact y3 j e eJ j2 j2 h q.symm
     rw[uq (fun q=>ez (Yh q))] at q;exact⟨e,m,q,w2,fun i u hi i2 ij hu=>w3 i u (fun q=>hi (.inl q)) i2 ij hu⟩
noncomputable def ko (vl:List (Int×Tr))(t:Tr):Tr:=(t.full vl).full vl
theorem X1 (vl:List (Int×Tr))(t:Tr):ko vl t=t.subst fun k=>(yI vl k).subst (yI vl):=Tr.subst_subst _ _ t
structure Kp (vl:List (Int×Tr)):Prop where
 v2:∀ k t,wB vl k=some t->t.vin fun j=>j=2
 leaf2:∀ t,wB vl 2=some t->∃ n,t=.I n
 size:∀ k t,wB vl k=some t->t.size<=10
theorem Yk.all (b:Yk hp tab vl D)(V:Kp vl)(h1:∀ k t,wB vl k=some t->D k)(h2:∀ k,D k->∃ t,wB vl k=some t)(h3:t.vin fun k=>k=0\/k=1\/k=2)(h:x_ hp tab c t):HT hp c (ko vl t):=by
 rw[X1];have two:∀ x,yG tab 2=some x->HT hp ⟨0,(x:Nat)⟩ (yI vl 2):=fun x hx=>by
  unfold yI;cases hv:wB vl 2 with
  |none=>obtain⟨r,n,q,_⟩:=b.free 2 x (fun q=>by obtain⟨t,q⟩:=h2 2 q;rw[hv] at q;cases q) hx;exact⟨n,r,q⟩
  |some t=>refine zA (V.leaf2 t hv) fun n zW=>?_;subst zW;exact b.done 2 x _ (h1 2 _ hv) hx hv
 refine x_.substP (P:=fun k=>k=0\/k=1\/k=2) (fun k x _ hx=>?_) h3 h;show HT hp ⟨0,(x:Nat)⟩ ((yI vl k).subst (yI vl));cases hv:wB vl k with
 |none=>
  have hk:yI vl k=.V k:=by unfold yI;rw[hv];rfl
  rw[hk];show HT hp _ (yI vl k);rw[hk];obtain⟨r,n,q,_⟩:=b.free k x (fun q=>by obtain⟨t,q⟩:=h2 k q;rw[hv] at q;cases q) hx;exact⟨n,r,q⟩
 |some t=>
  have hk:yI vl k=t:=by unfold yI;rw[hv];rfl
  rw[hk];exact x_.substP (P:=fun j=>j=2) (fun j x hj hx=>by subst hj;exact two x hx) (V.v2 k t hv) (b.done k x t (h1 k t hv) hx hv)
end
section
section
variable {x:Cx} {ρ:Lc} {H:AH} {i q q':Nat} {b:Int} {sp xp:Pos} {li:Id} {l:List PV}
theorem pJ (hb:0<=b)(h1:ρ[i]?=some (some (.obj li)))(hl:H li=some (.list l))(hz:l.length<=10000000) (k:∀ a H',H (.an a)=none->H' (.an a)=some (.list (l.take b.toNat))->zf yA H H'->Q (.obj (.an a)) H') (w1:autoParam ((RE.loc i q).wf x.T x.s=true) ta._auto_1):
  WE x ρ H (.raw (.Subscript (RE.ast x.T x.s (.loc i q)) (.Slice none (some (RE.ast x.T x.s (.int b q'))) none sp) xp)) Q:=fun _=>
 rG hb (kC h1 (Q:=fun o HZ=>∃ i l,o=.obj i/\HZ i=some (.list l)/\l.length<=10000000/\∀ a,HZ (.an a)=none->Q (.obj (.an a)) (HZ.upd (.an a) (.list (l.take b.toNat)))) ⟨li,l,rfl,hl,hz,fun a n=>k a _ n (AH.upd_same _ _ _) (zf.new n)⟩ w1)
end
variable {p:Program} {w:World} {B:Heap} {H:AH} {d:Nat} {X Q:PV->AH->Prop}
def uN (p:Program)(w:World)(B:Heap)(n d:Nat)(ρ:Lc)(H:AH)(Q X:PV->AH->Prop):Prop:=WS ⟨gr p w B,tx,d,yY,uf Q,X⟩ ρ H (Wr n bj) (uw ⟨gr p w B,tx,d,yY,uf Q,X⟩ [])
theorem X6 (hF:Fa (gr p w B) tx H F)(h:run ⟨gr p w B,tx,d,yY,uf Q,X⟩ H F 1000 ρ [] [] (.S (Wr n bj))):uN p w B n d ρ H Q X:=vr kE hF _ _ _ _ _ h
theorem zL.to (g:zL H S bits hp xs)(e:zf N H H')(hn:∀ n,8<=n->n<=15->¬N (.nm n))(hS:zj H' S')(ok:S'.Ok):zL H' S' bits hp xs:=⟨g.mac.ext e hn,hS,ok,g.bits64,g.len,g.xlen⟩
theorem dz (n:Nat)(h1:8<=n)(_:n<=15):¬xq (.nm n):=aw h1
theorem ow:uP WX yY.c "_"=true/\V5 WX iX yY "_" [none,some none,none,some (some 2),some (some 3),some (some 23)]=true:=by constructor<;>kernel_rfl
theorem i8:keepIn (KK P) (.ref 616)=true/\keepIn (KK P) (.ref 623)=true:=by constructor<;>kernel_rfl
theorem AO (hh:yu H)(g:zL H S most hp xs)(bS:vm S)(h8:8<=most)(qN:most<=40)(wy:1<=xs.length)(uX:xs.length<=100)(kU:hp.length<=5000)(q:∀ H',Q (.bool true) H'):
  uN p w B 27 (d+20) [x0,x1,some (.obj (.nm 6)),some (.obj (.nm 0)),some (.int most),x5,x6,x7,some (.obj (.nm 8)),x9,vN,uk,xW,tF,tG,kX,kY,jP,qP,XX,ZF,ZG,ZH,kZ,k6] H Q X:=by
 have bH:((2:Int)^most.toNat).natAbs<=2^50:=by rw[Int.natAbs_pow];exact Nat.pow_le_pow_right (by decide) (by lia)
 refine X6 (F:=[]) trivial (jV (Int.lt_of_lt_of_le (by decide) h8) (by decide) (by decide) (by decide) (by rw[show Builtin.Int.intBits 2=2 from rfl];exact tw qN (by decide)) ?_);generalize (2:Int)^most.toNat=near at bH|-;refine gV ?_;refine VA rfl rfl (by kernel_rfl) ow.1 (by intros;rfl) (J7 (Q0:=fun _=>True) (by kernel_rfl) (kc (F:=[]) trivial ⟨3,rfl,by decide,by decide,qC.body (cl:=[none,some none,none,some (some 2),some (some 3),some (some 23)]) ⟨by decide+kernel,fun r ys H'=>∃ (a:List Tr) (S':Sy),ys=a.map Tr.pv/\r.length+a.length=3/\(∀ t∈a,t.Ok S'/\vx t=true/\t.size<=10)/\S.Le S'/\S'.Ok/\zj H' S'/\yu H'/\zf xq H H',⟨[],S,rfl,by decide+kernel,fun t ht=>(wg ht),.refl S,g.ok,g.sym,hh,.refl⟩,?_,?_⟩ rfl ow.2 (by kernel_rfl)⟩))
 .intro x r ys H' zq;refine GO zq fun a S' zm hr ht le sok hS Qy e=>?_;clear zq;subst zm;refine kc (F:=[]) trivial (oZ Qy hS sok bH fun t S2 H2 I=>gV ?_);refine⟨trivial,a++[t],S2,by simp,by simp at hr|-;exact A21 0x785A04204103DA140102 hr,fun u hu=>?_,le.trans I.le,I.sok,I.sym,I.hand,e.trans I.ext⟩;rcases Zo hu with hu|hu
  .refine a3 (ht u hu) fun z1 z2 z3=>?_;exact⟨z1.le I.le,z2,z3⟩
  .rw[List.mem_singleton] at hu;subst hu;exact⟨I.ok,I.form,I.size⟩
 .rintro ys H' ⟨a,S',rfl,hr,ht,le,sok,hS,Qy,e⟩ la H1 Yv Yq eL;obtain⟨t1,t2,t3,rfl⟩:=pV (by simpa using hr);have zG:=hS.ext eL fun _ _ h=>h;have g1:=g.to (e.trans eL.no) dz zG sok;refine gN (pJ (by decide) rfl Yq (by simp) fun lb H2 GA s8 eM=>?_);have zN:=zG.ext eM fun _ _ h=>h;have g2:=g1.to eM (fun _ _ _ h=>h) zN sok;have Ip:=eM.get (fun h=>h) Yq;refine gV (WD i8.1 cJ g2 (bS.le le) wy (A11 0xC9E5800100384F2C00 uX) (A11 0x9C479600040013880EAC00 kU) (sides:=[t1,t2]) s8 (fun n _ h=>v7 h) (fun t h=>ht t (by simp at h|-;rcases h with h|h<;>simp[h])) (.inl ⟨rfl,rfl⟩) (Int.lt_of_lt_of_le (by decide) h8) fun S3 te NO H3 l3 g3 y1 y2 y3 e3=>?_);have Iq:=e3.get (by rintro(z|z|z);exact vw _ z;cases z;cases z) Ip;refine gV (WD i8.2 cb g3 ((bS.le le).le l3) y1 (by lia) (A22 0x79E585000049C479610040013880EAC00 kU y3) (sides:=[t1,t2,t3]) Iq (fun n _ h=>v7 h) (fun t h=>?_) (.inr ⟨rfl,rfl⟩) (Int.lt_of_lt_of_le (by decide) h8) fun S4 Me NP H4 l4 g4 y4 y5 y6 e4=>gV ?_)
  .refine a3 (ht t h) fun z1 z2 z3=>?_;exact⟨z1.le l3,z2,z3⟩
  exact q H4
end
section
variable {p:Program} {w:World} {B:Heap} {H:AH} {d:Nat} {X Q:PV->AH->Prop}
def vT (S:Sy)(pv:PV):Except zT Int->Prop|.ok x=>pv=.tup [.str "value",.int x]|.error e=>pv=ui (e.ball S).2/\(e.ball S).1.Le S
theorem zT.self {S S':Sy}{e:zT}(h:(e.ball S).1.Le S'):(e.ball S').1=S':=by cases e with|inst=>exact congrArg Prod.fst (Sy.atom_again (h:((S.atom _).1).Le S'))|type k c=>have z1:(S.atom k).1.Le S':=((Sy.func_le _ _ _)).trans h;show((S'.atom k).1.func _ _).1=S';rw[Sy.atom_again z1];exact congrArg Prod.fst (Sy.func_again h)|eval k=>have z1:(S.atom k).1.Le S':=((Sy.func_le _ _ _)).trans h;show((S'.atom k).1.func _ _).1=S';rw[Sy.atom_again z1];exact congrArg Prod.fst (Sy.func_again h)|res k=>have z1:(S.atom k).1.Le S':=((Sy.func_le _ _ _)).trans h;show((S'.atom k).1.func _ _).1=S';rw[Sy.atom_again z1];exact congrArg Prod.fst (Sy.func_again h)
theorem vT.le {S S':Sy}{pv:PV}{r:Except zT Int}(h:vT S pv r)(l:S.Le S'):vT S' pv r:=by cases r with|ok x=>exact h|error e=>refine a2 h fun h1 h2=>?_;clear h;have h3:=h2.trans l;exact⟨by rw[ZW h3];exact h1,by rw[zT.self h3];exact .refl S'⟩
theorem vT.new (S:Sy)(e:zT):vT (e.ball S).1 (ui (e.ball S).2) (.error e):=⟨by rw[ZW (.refl _)],by rw[zT.self (.refl _)];exact .refl _⟩
theorem dF (a:Addr):¬(yh (.an a)\/Id.an a=.nm 15):=by
 rintro(z|z)
 .exact vw _ z
 .exact v7 z
def Qb (p:Program)(w:World)(B:Heap)(f:Addr)(op:Int->Int->Bool):Prop:=∀ {d:Nat} {H:AH} {S:Sy} {bits:Int} {hp xs:List Cl} {c1 c2:Cl} {t1 t2:Tr} {X Q:PV->AH->Prop},zL H S bits hp xs->xs[1]?=some c1->xs[2]?=some c2->z8 S hp c1 t1->z8 S hp c2 t2-> (∀ x y,ev bits t1=.ok x->ev bits t2=.ok y->∀ H',zL H' S bits hp xs->zf yA H H'->Q (.bool (op x y)) H')->(∀ e,(ev bits t1).bind (fun _=>ev bits t2)=.error e->y9 H S X e)->zh (gr p w B) (d+12) H [.obj (.nm 8)] (cZ f) Q X
theorem z8.le (h:z8 S hp c t)(l:S.Le S'):z8 S' hp c t:=⟨h.at_,h.ok.le l,h.size,h.peak⟩
abbrev Lk:Id->Prop:=fun i=>yh i\/i=.nm 15
theorem rA (n:Nat)(h1:6<=n)(h2:n<=14):¬Lk (.nm n):=fun z=>z.elim (UZ h1) fun z=>by cases z;exact absurd h2 (by decide)
theorem CU {f:Addr}{op:Int->Int->Bool}{S:Sy}{most:Int}{hp xs:List Cl}{cl cr:Cl}{t1 t2:Tr}{li:Id}(hk:keepIn (gr p w B).K (.ref f)=true)(hf:Qb p w B f op)(g:zL H S most hp xs)(wy:1<=xs.length)(uX:xs.length<=50)(T1:z8 S hp cl t1)(T2:z8 S hp cr t2) (hl:H li=some (.list [cl.pv,cr.pv])) (vM:∀ n<16,li≠.nm n) (q:∀ S' ye H',S.Le S'->zL H' S' most hp ye->1<=ye.length->ye.length<=50->zf Lk H H'->∀ pv,(∀ x y,ev most t1=.ok x->ev most t2=.ok y->pv=.tup [.str "holds",.bool (op x y)])->(∀ e,(ev most t1).bind (fun _=>ev most t2)=.error e->pv=ui (e.ball S).2)->Q pv H'):
  zh (gr p w B) (d+13) H [.raw (.ref f),.obj (.nm 8),.obj li] (cZ 902) Q X:=by
 refine Y1 (d:=d+10) (cs:=[cl,cr]) hk g hl vM wy (A11 0x65E5800100384F2C00 uX) (by simp) fun ye H1 z1 z2 z3 g1 e1=>?_;have x1:ye[1]?=some cl:=z1 0 (by simp);have x2:ye[2]?=some cr:=z1 1 (by simp);have fq:ye.length<=50:=Nat.le_trans z3 (by simp;lia);have vL:zf Lk H H1:=e1.mono fun _ h=>.inr h;refine hf g1 x1 x2 T1 T2 (fun x y hx hy H2 g2 e2=>?_) (fun e he H2 h2 e2=>?_)
 .exact q S ye H2 (.refl S) g2 z2 fq (vL.trans e2.no) _ (fun x' y' mn Gp=>by rw[hx] at mn;rw[hy] at Gp;cases mn;cases Gp;rfl) (fun e he=>by rw[hx] at he;simp only[Except.bind] at he;rw[hy] at he;cases he)
 .have eo:kD e:=by
   rcases yT he with h|⟨_,_,h⟩<;>exact uv h
  refine⟨qh _ _,q (e.ball S).1 ye H2 (zT.le S e) ⟨g1.mac.ext e2 Xi,h2,zT.sok g.ok eo.2,g.bits64,g.len,g1.xlen⟩ z2 fq (vL.trans (e2.mono fun _ h=>.inl h)) _ (fun x y hx hy=>?_) (fun e' Uy=>?_)⟩
  .rw[hx] at he;simp only[Except.bind] at he;rw[hy] at he;exact xn he
  .rw[he] at Uy;cases Uy;rfl
noncomputable def K0:List (Addr×(Int->Int->Bool)):=[(560,fun x y=>x==y),(567,fun x y=>x !=y),(574,fun x y=>decide (x<y)),(581,fun x y=>decide (y<x)),(588,fun x y=>decide (x<=y)),(595,fun x y=>decide (y<=x))]
theorem cx:∀ x∈K0,keepIn (gr p w B).K (.ref x.1)=true/\Qb p w B x.1 x.2:=by
 intro x hx;simp only[K0,List.mem_cons,List.not_mem_nil,or_false] at hx;rcases hx with rfl|rfl|rfl|rfl|rfl|rfl
 .exact⟨by kernel_rfl,fun g h1 h2 T1 T2 q qe=>f3 g h1 h2 T1 T2 q qe⟩
 .exact⟨by kernel_rfl,fun g h1 h2 T1 T2 q qe=>fH g h1 h2 T1 T2 q qe⟩
 .exact⟨by kernel_rfl,fun g h1 h2 T1 T2 q qe=>gC g h1 h2 T1 T2 q qe⟩
 .exact⟨by kernel_rfl,fun g h1 h2 T1 T2 q qe=>gn g h1 h2 T1 T2 q qe⟩
 .exact⟨by kernel_rfl,fun g h1 h2 T1 T2 q qe=>gA g h1 h2 T1 T2 q qe⟩
 .exact⟨by kernel_rfl,fun g h1 h2 T1 T2 q qe=>fs g h1 h2 T1 T2 q qe⟩
noncomputable def BD (a b:Int)(x:Addr×(Int->Int->Bool)):PV:=.tup [.raw (.ref x.1),.bool (x.2 a b)]
theorem nV (hi:H i=some (.list l))(hj:H j=some (.list m))(wJ:i≠j)(hz:(l++m).length<=1000)(q:∀ H',H' i=some (.list (l++m))->zf (zV i) H H'->Q (.obj i) H'):zh g d H [.obj i,.obj j] (t2 (inplaceOp .Add)) Q X:=mI hi hj wJ (by simp at hz|-;exact A21 0x1F479610200101BEB08100 hz) (q _ (AH.upd_same _ _ _) zf.one)
inductive FA (H3:AH)(S:Sy)(most:Int)(hp:List Cl)(cl cr:Cl)(pl pr:PV)(a b:Int)(la:Addr)(x0 x1 x5 x6 x7 x9 xW kX kY jP qP kZ k6:Option PV)(l:List (Addr×(Int->Int->Bool)))(H':AH):Lc->Prop
 |mk (S':Sy) (ye:List Cl) (y1 y2:Option PV) (hm:∀ x∈l,x∈K0) (le:S.Le S') (g:zL H' S' most hp ye) (z1:1<=ye.length) (z2:ye.length<=50) (e:zf Lk H3 H'):FA H3 S most hp cl cr pl pr a b la x0 x1 x5 x6 x7 x9 xW kX kY jP qP kZ k6 l H' [x0,x1,some (.obj (.nm 6)),some (.obj (.nm 0)),some (.int most),x5,x6,x7,some (.obj (.nm 8)),x9,some cl.pv,some cr.pv,xW,some pl,some pr,kX,kY,jP,qP,some (.tup [.int a,.int b]),some (.obj (.an la)),y1,y2,kZ,k6]
theorem pT {S:Sy}{most:Int}{hp xs:List Cl}{cl cr:Cl}{t1 t2:Tr}{a b:Int}{pl pr:PV}{x0 x1 x5 x6 x7 x9 xW kX kY jP qP ZF ZG ZH kZ k6:Option PV}(hh:yu H)(g:zL H S most hp xs)(bS:vm S)(h8:8<=most)(qN:most<=40)(wy:1<=xs.length)(uX:xs.length<=50)(kU:hp.length<=5000) (T1:z8 S hp cl t1) (T2:z8 S hp cr t2) (r1:vT S pl (ev most t1)) (r2:vT S pr (ev most t2)) (xN:∀ x y,ev most t1=.ok x->ev most t2=.ok y->a=x/\b=y) (q:∀ H',Q (.bool true) H'):
  uN p w B 24 (d+20) [x0,x1,some (.obj (.nm 6)),some (.obj (.nm 0)),some (.int most),x5,x6,x7,some (.obj (.nm 8)),x9,some cl.pv,some cr.pv,xW,some pl,some pr,kX,kY,jP,qP,some (.tup [.int a,.int b]),ZF,ZG,ZH,kZ,k6] H Q X:=by
 refine X6 (F:=[]) trivial (yo fun la H1 Yv Yq e1=>?_);refine gV (yo fun lb H2 GA s8 e2=>?_);refine gV (nV (e2.get (fun h=>h) Yq) s8 (fun z=>by cases z;rw[GA] at Yq;cases Yq) (by simp) fun H3 h3 Lq=>?_);have e3:zf yA H H3:=((e1.trans e2).no.trans Lq.onR:zf (uH yA (zV (.an la))) H H3).drop Yv;have h3:H3 (.an la)=some (.list (K0.map (BD a b))):=h3;refine gN (Xh h3 (by simp[K0]) (fun l zO H'=>FA H3 S most hp cl cr pl pr a b la x0 x1 x5 x6 x7 x9 xW kX kY jP qP kZ k6 l H' zO) ⟨S,xs,_,_,fun x hx=>hx,.refl S,g.ext e3,wy,uX,.refl⟩ ?_ ?_)
 .rintro z l zO H' ⟨S',ye,M9,Nb,hm,le,g',y1,y2,e'⟩ K ZC
  .obtain⟨fz,oz⟩:=z;refine a2 (cx (p:=p) (w:=w) (B:=B) (fz,oz) (hm _ (.head _))) fun hk hf=>?_;have Yw:=r1.le le;have fl:=r2.le le;have sg:=T1.le le;have sh:=T2.le le;have fin:∀ {S2:Sy} {Yx:List Cl} {H2:AH} {z1 z2:Option PV},S'.Le S2->zL H2 S2 most hp Yx->1<=Yx.length->Yx.length<=50->zf Lk H' H2->
     K (.next [x0,x1,some (.obj (.nm 6)),some (.obj (.nm 0)),some (.int most),x5,x6,x7,some (.obj (.nm 8)),x9,some cl.pv,some cr.pv,xW,some pl,some pr,kX,kY,jP,qP,some (.tup [.int a,.int b]),some (.obj (.an la)),z1,z2,kZ,k6] H2):=
    fun l2 g2 q1 q2 e2=>ZC ⟨(e'.trans e2).get (dF la) h3,_,_,_,_,fun x hx=>hm x (.tail _ hx),le.trans l2,g2,q1,q2,e'.trans e2⟩
   have ask:∀ {Q2:PV->AH->Prop} {H1:AH} {li:Addr},zf yA H' H1->H1 (.an li)=some (.list [cl.pv,cr.pv])->
     (∀ S2 Yx H2,S'.Le S2->zL H2 S2 most hp Yx->1<=Yx.length->Yx.length<=50->zf Lk H' H2->∀ pv,(∀ x y,ev most t1=.ok x->ev most t2=.ok y->pv=.tup [.str "holds",.bool (oz x y)])->(∀ e,(ev most t1).bind (fun _=>ev most t2)=.error e->pv=ui (e.ball S').2)->Q2 pv H2)->
     zh (gr p w B) (d+20) H1 [.raw (.ref fz),.obj (.nm 8),.obj (.an li)] (cZ 902) Q2 X:=fun eL hl hq=>
    CU hk hf (g'.ext eL) y1 y2 sg sh hl (fun n _ h=>v7 h) fun S2 Yx H2 l2 g2 q1 q2 e2 pv a1 a2=>hq S2 Yx H2 l2 g2 q1 q2 (eL.no.trans e2) pv a1 a2
   cases E1:ev most t1 with
   |error e=>rw[E1] at Yw;refine a2 Yw fun xA hb=>?_;clear Yw;subst xA;have Vo:=Zl S' (uv E1).1;refine w8 (F:=[]) trivial (yo fun li H1 GB vM eL=>?_);refine gV (ask eL vM fun S2 Yx H2 l2 g2 q1 q2 e2 pv a1 a2=>?_);obtain rfl:=a2 e (by rw[E1];rfl);refine gV (qj 14 (Kx Vo) (by decide) ?_);refine gV ?_;exact fin l2 g2 q1 q2 e2
   |ok x=>
    rw[E1] at Yw;obtain rfl:=Yw;cases E2:ev most t2 with
    |error e=>rw[E2] at fl;refine a2 fl fun xA hb=>?_;clear fl;subst xA;have Vo:=Zl S' (uv E2).1;refine w8 (F:=[]) trivial (yo fun li H1 GB vM eL=>?_);refine gV (ask eL vM fun S2 Yx H2 l2 g2 q1 q2 e2 pv a1 a2=>?_);obtain rfl:=a2 e (by rw[E1];exact E2);refine gV (qj 14 (Kx Vo) (by decide) ?_);refine gV ?_;exact fin l2 g2 q1 q2 e2
    |ok y=>rw[E2] at fl;obtain rfl:=fl;refine a2 (xN x y E1 E2) fun xA zW=>?_;subst xA zW;refine w8 (F:=[]) trivial (yo fun li H1 GB vM eL=>?_);refine gV (ask eL vM fun S2 Yx H2 l2 g2 q1 q2 e2 pv a1 a2=>?_);obtain rfl:=a1 _ _ E1 E2;refine gV (qj 0 rfl (by decide) ?_);refine gV ?_;exact fin l2 g2 q1 q2 e2
 .rintro zO H' ⟨S',ye,M9,Nb,hm,le,g',y1,y2,e'⟩;have ZA:=(hh.ext e3 (fun h=>h) fun h=>h).ext e' (rA 6 (by decide) (by decide)) (rA 7 (by decide) (by decide));exact AO ZA g' (bS.le le) h8 qN y1 (A11 0x65E5800100064F2C00 y2) kU q
theorem pO {S:Sy}{most:Int}{hp xs:List Cl}{cl cr:Cl}{t1 t2:Tr}{pl pr:PV}{x0 x1 x5 x6 x7 x9 xW kX kY jP qP XX ZF ZG ZH kZ k6:Option PV}(hh:yu H)(g:zL H S most hp xs)(bS:vm S)(h8:8<=most)(qN:most<=40)(wy:1<=xs.length)(uX:xs.length<=50)(kU:hp.length<=5000) (T1:z8 S hp cl t1) (T2:z8 S hp cr t2) (r1:vT S pl (ev most t1)) (r2:vT S pr (ev most t2)) (q:∀ H',Q (.bool true) H'):
  uN p w B 23 (d+20) [x0,x1,some (.obj (.nm 6)),some (.obj (.nm 0)),some (.int most),x5,x6,x7,some (.obj (.nm 8)),x9,some cl.pv,some cr.pv,xW,some pl,some pr,kX,kY,jP,qP,XX,ZF,ZG,ZH,kZ,k6] H Q X:=by
 have next:∀ {a b:Int},(∀ x y,ev most t1=.ok x->ev most t2=.ok y->a=x/\b=y)->uN p w B 24 (d+20) [x0,x1,some (.obj (.nm 6)),some (.obj (.nm 0)),some (.int most),x5,x6,x7,some (.obj (.nm 8)),x9,some cl.pv,some cr.pv,xW,some pl,some pr,kX,kY,jP,qP,some (.tup [.int a,.int b]),ZF,ZG,ZH,kZ,k6] H Q X:=
  fun xN=>pT hh g bS h8 qN wy uX kU T1 T2 r1 r2 xN q
 cases h1:ev most t1 with
 |error e=>rw[h1] at r1;refine a2 r1 fun xA hb=>?_;clear r1;subst xA;exact xC (Ze (F:=[]) trivial (next (a:=0) (b:=0) (fun x y z=>by rw[h1] at z;cases z)))|ok x=>
  rw[h1] at r1;obtain rfl:=r1;cases h2:ev most t2 with
  |error e=>rw[h2] at r2;refine a2 r2 fun xA hb=>?_;clear r2;subst xA;exact xC (Ze (F:=[]) trivial (next (a:=0) (b:=0) (fun x y _ z=>by rw[h2] at z;cases z)))|ok y=>rw[h2] at r2;obtain rfl:=r2;exact xC (Ze (F:=[]) trivial (next (a:=x) (b:=y) (fun x' y' z1 z2=>by rw[h1] at z1;rw[h2] at z2;cases z1;cases z2;exact⟨rfl,rfl⟩)))
theorem nI {S:Sy}{bits:Int}{hp xs:List Cl}{c1 c2 r1:Cl}{t2:Tr}{n1:Nat}(g:zL H S bits hp xs)(h1:xs[1]?=some c1)(h2:xs[2]?=some c2)(wc:zP hp c1 r1 n1)(Jx:r1.t=0\/r1.t=5)(vI:z8 S hp c2 t2) (q:∀ x,ev bits t2=.ok x->∀ b hp' H',ZX hp c1 x b hp'->zL H' S bits hp' xs->zf xo H H'->Q (.bool b) H') (qe:∀ e,ev bits t2=.error e->y9 H S X e):zh (gr p w B) (d+13) H [.obj (.nm 8)] (cZ 926) Q X:=by refine yU (g.mac.fox (p:=p) (w:=w) (B:=B)) fun i1 i2 i3 F=>?_;exact z9 rfl F (c7 g h1 h2 wc Jx vI (fun x hx b hp' H' u g' e=>gV (q x hx b hp' H' u g' e)) (fun e he=>qe e he))
abbrev lz:Id->Prop:=fun i=>yh i\/i=.nm 15\/i=.nm 12
theorem US (n:Nat)(h1:6<=n)(h2:n<=11):¬lz (.nm n):=fun z=>z.elim (UZ h1) fun z=>by rcases z with z|z<;>cases z<;>exact absurd h2 (by decide)
theorem ft {S:Sy}{most:Int}{hp xs:List Cl}{cs cl r1:Cl}{t1:Tr}{li:Id}{n1:Nat}(g:zL H S most hp xs)(wy:1<=xs.length)(uX:xs.length<=50)(wc:zP hp cs r1 n1)(Jx:r1.t=0\/r1.t=5)(T1:z8 S hp cl t1) (hl:H li=some (.list [cs.pv,cl.pv])) (vM:∀ n<16,li≠.nm n) (q:∀ x,ev most t1=.ok x->∀ b hp' ye H',ZX hp cs x b hp'->zL H' S most hp' ye->1<=ye.length->ye.length<=50->zf lz H H'->Q (.tup [.str "holds",.bool b]) H') (qe:∀ e,ev most t1=.error e->∀ ye H',zL H' (e.ball S).1 most hp ye->1<=ye.length->ye.length<=50->zf lz H H'->Q (ui (e.ball S).2) H'):
  zh (gr p w B) (d+14) H [.raw (.ref 926),.obj (.nm 8),.obj li] (cZ 902) Q X:=by
 refine Y1 (d:=d+11) (cs:=[cs,cl]) (by kernel_rfl) g hl vM wy (A11 0x65E5800100384F2C00 uX) (by simp) fun ye H1 z1 z2 z3 g1 e1=>?_;have x1:ye[1]?=some cs:=z1 0 (by simp);have x2:ye[2]?=some cl:=z1 1 (by simp);have fq:ye.length<=50:=Nat.le_trans z3 (by simp;lia);have vL:zf lz H H1:=e1.mono fun _ h=>.inr (.inl h);refine nI g1 x1 x2 wc Jx T1 (fun x hx b hp' H2 u g2 e2=>?_) (fun e he H2 h2 e2=>?_)
 .exact q x hx b hp' ye H2 u g2 z2 fq (vL.trans (e2.mono fun _ h=>.inr (.inr h)))
 .exact⟨qh _ _,qe e he ye H2 ⟨g1.mac.ext e2 Xi,h2,zT.sok g.ok (uv he).2,g.bits64,g.len,g1.xlen⟩ z2 fq (vL.trans (e2.mono fun _ h=>.inl h))⟩
theorem HT.ot (old:∀ z<hp.length,xP[z]?=hp[z]?)(hy:hp.length<=y)(h:HT hp c t):OT xP y c t:=
 RT.grow old (fun c k ⟨n,x,h⟩=>⟨n,x,h.grow old,fun e=>by have:=(xU h.root).1;exact A33 0x10401100610802103186 this e hy⟩) h
theorem z8.grow (T:z8 S hp c t)(old:∀ z<hp.length,xP[z]?=hp[z]?)(hl:hp.length<=xP.length):z8 S xP c t:=⟨RT.grow old (fun c k ⟨n,x,h⟩=>⟨n,x,h.grow old⟩) T.at_,T.ok,T.size,Nat.le_trans T.peak hl⟩
theorem z8.bindNew {S:Sy}{hp xP:List Cl}{c:Cl}{t:Tr}{y:Nat}{v:Int}(T:z8 S hp c t)(old:∀ z<hp.length,xP[z]?=hp[z]?)(hl:hp.length<=xP.length)(hy:hp.length<=y)(h1:xP[y]?=some ⟨0,y⟩):z8 S (xP.set y ⟨5,v⟩) c t:=by
 have o:=T.at_.ot old hy;have hv:(⟨5,v⟩:Cl)≠⟨0,y⟩:=fun z=>by cases z
 have hd:zP (xP.set y ⟨5,v⟩) ⟨5,v⟩ ⟨5,v⟩ 0:=.stop (by decide:(5:Int)≠0) (by decide:(5:Int)≠1);refine⟨RT.bind (P:=rq xP y) h1 hv hd (fun c j ⟨n,z,h,hz⟩=>?_) (fun j ⟨n,z,h,hz⟩=>?_) o,T.ok,T.size,by rw[List.length_set];exact Nat.le_trans T.peak hl⟩
 .refine zA (zP.bind h1 hv hd h) fun m q=>?_;rw[uq (fun e=>hz (Yh e))] at q;exact⟨m,z,q⟩
 .have:=h.det (.self h1);exact absurd (Yh this) hz
theorem ou {S:Sy}{most kd:Int}{hp xs:List Cl}{cl cr cs r:Cl}{t1 t2:Tr}{pl pr:PV}{n1:Nat}{x0 x1 x5 x6 x7 x9 xW kX kY XX ZF ZG ZH kZ k6:Option PV}(hh:yu H)(g:zL H S most hp xs)(bS:vm S)(h8:8<=most)(qN:most<=40)(wy:1<=xs.length)(uX:xs.length<=50)(kU:hp.length<=5000) (T1:z8 S hp cl t1) (T2:z8 S hp cr t2) (r1:vT S pl (ev most t1)) (r2:vT S pr (ev most t2)) (ZC:0<=kd) (sT:kd<4) (hd:zP hp cs r n1) (hr:r.t=0\/r.t=5) (hs:∀ x,ev most t1=.ok x->(kd<2/\r.t=0)\/(2<=kd/\r=⟨5,x+kd-2⟩/\cs=r)) (hb:∀ (y:Nat) (v:Int),r=⟨0,y⟩->z8 S (hp.set y ⟨5,v⟩) cl t1/\z8 S (hp.set y ⟨5,v⟩) cr t2) (q:∀ H',Q (.bool true) H'):
  uN p w B 21 (d+20) [x0,x1,some (.obj (.nm 6)),some (.obj (.nm 0)),some (.int most),x5,x6,x7,some (.obj (.nm 8)),x9,some cl.pv,some cr.pv,xW,some pl,some pr,kX,kY,some cs.pv,some (.int kd),XX,ZF,ZG,ZH,kZ,k6] H Q X:=by
 have fin:∀ {S':Sy} {hp' ye:List Cl} {H':AH} {tH M_ Na:Option PV},S.Le S'->zL H' S' most hp' ye->yu H'->1<=ye.length->ye.length<=50->hp'.length=hp.length->z8 S' hp' cl t1->z8 S' hp' cr t2->uN p w B 23 (d+20) [x0,x1,some (.obj (.nm 6)),some (.obj (.nm 0)),some (.int most),x5,x6,x7,some (.obj (.nm 8)),x9,some cl.pv,some cr.pv,xW,some pl,some pr,tH,kY,M_,Na,XX,ZF,ZG,ZH,kZ,k6] H' Q X:=
  fun l g' Qy y1 y2 y3 U1 U2=>pO Qy g' (bS.le l) h8 qN y1 y2 (A22 0x2711E584010804101388F2C00 y3 kU) U1 U2 (r1.le l) (r2.le l) q
 refine X6 (F:=[]) trivial (yo fun la H1 Yv Yq e1=>?_);have g1:=g.ext e1;have jB:=hh.ext e1 (fun h=>h) fun h=>h;refine gV (ft g1 wy uX hd hr T1 Yq (fun n _ h=>v7 h) (fun x hx b hp' ye H2 u g2 y1 y2 e2=>?_) (fun e he ye H2 g2 y1 y2 e2=>?_))
 .have uJ:=jB.ext e2 (US 6 (by decide) (by decide)) (US 7 (by decide) (by decide));rw[hx] at r1;obtain rfl:=r1;have met:b=decide (kd<3)/\hp'.length=hp.length/\z8 S hp' cl t1/\z8 S hp' cr t2/\(kd<3->∃ n,zP hp' cs ⟨5,x⟩ n):=by
   rcases hs x hx with⟨z1,z2⟩|⟨z1,rfl,rfl⟩
   .cases u with
    |same h=>have:=h.det hd;subst this;cases z2|@bind y n h=>have:=h.det hd;subst this;have hy:=h.root;have QD:=(xU hy).1;obtain⟨m,w⟩:=zP.bind (v:=⟨5,x⟩) hy (by intro z;cases z) (.stop (by decide:(5:Int)≠0) (by decide:(5:Int)≠1)) h;rw[jg] at w;refine a2 (hb y x rfl) fun b1 b2=>?_;exact⟨(decide_eq_true (Int.lt_of_lt_of_le z1 (by decide))).symm,List.length_set ..,b1,b2,fun _=>⟨m,w⟩⟩
   .have st:zP hp ⟨5,x+kd-2⟩ ⟨5,x+kd-2⟩ 0:=.stop (by decide:(5:Int)≠0) (by decide:(5:Int)≠1);cases u with
    |same h=>
     have:=congrArg Cl.x (h.det st);simp only at this;subst this;refine⟨?_,rfl,T1,T2,fun hk=>?_⟩
     .by_cases hk:kd<3
      .rw[decide_eq_true hk,show x+kd-2=x by lia];simp
      .rw[decide_eq_false hk];simp;lia
     .rw[show x+kd-2=x by lia];exact⟨0,.stop (by decide:(5:Int)≠0) (by decide:(5:Int)≠1)⟩
    |@bind y n h=>exact absurd (h.det st) fun z=>by cases z
  refine a5 met fun xA Vl U1 U2 sL=>?_;clear met;subst xA;refine yU (g2.mac.fox (p:=p) (w:=w) (B:=B)) fun j1 j2 j3 F2=>?_;refine xC (wq F2 (i5 0 rfl rfl (by decide) ?_));rw[show ZR [.str "holds",.bool (decide (kd<3))] [.str "holds",.bool (decide (kd<3))]=true from js 0 _ rfl];refine zd F2 ?_;by_cases hk:kd<3
  .refine zA (sL hk) fun n sL=>?_;refine wb hk (xJ g2.mac.st g2.len sL (zd F2 (qj 0 rfl (by decide) ?_)));refine gV ?_;exact fin (.refl S) g2 uJ y1 y2 Vl U1 U2
  .refine yZ hk ?_;exact fin (.refl S) g2 uJ y1 y2 Vl U1 U2
 .have uJ:=jB.ext e2 (US 6 (by decide) (by decide)) (US 7 (by decide) (by decide));rw[he] at r1;refine a2 r1 fun xA LK=>?_;clear r1;subst xA;have Vo:=Zl S (uv he).1;have l:=zT.le S e;refine xC (wq (F:=[]) trivial (qj 14 (Kx Vo) (by decide) ?_));refine gV ?_;exact fin l g2 uJ y1 y2 rfl (T1.le l) (T2.le l)
theorem tX {S:Sy}{most:Int}{hp xs:List Cl}{cl cr:Cl}{t1 t2:Tr}{pl pr:PV}{x0 x1 x5 x6 x7 x9 xW kX kY jP qP XX ZF ZG ZH kZ k6:Option PV}(hh:yu H)(g:zL H S most hp xs)(bS:vm S)(h8:8<=most)(qN:most<=40)(wy:1<=xs.length)(uX:xs.length<=50)(kU:hp.length<=4000) (T1:z8 S hp cl t1) (T2:z8 S hp cr t2) (r1:vT S pl (ev most t1)) (r2:vT S pr (ev most t2)) (q:∀ H',Q (.bool true) H'):
  uN p w B 18 (d+20) [x0,x1,some (.obj (.nm 6)),some (.obj (.nm 0)),some (.int most),x5,x6,x7,some (.obj (.nm 8)),x9,some cl.pv,some cr.pv,xW,some pl,some pr,kX,kY,jP,qP,XX,ZF,ZG,ZH,kZ,k6] H Q X:=by
 refine yU (g.mac.fox (p:=p) (w:=w) (B:=B)) fun i1 i2 i3 F=>?_;refine X6 F (c8 (t:=.V 0) bS g.mac g.sym g.ok trivial (A11 0x7D079600040015F90EADA248100 kU) (by decide) fun c xP vY H1 z1 z2 z3=>?_);have jB:=hh.ext z3 (by unfold xo zV;simp) (by unfold xo zV;simp);have zG:=g.sym.ext z3 fun n hn z=>by cases z;exact A01 0x9602103186 hn
 refine gV (w0 jB (by decide) fun kd H2 k1 k2 uJ e2=>?_);have zN:=zG.pick e2;have g2:zL H2 S most xP xs:=⟨z2.ext e2 (fun n h1 h2 z=>by cases z;exact A01 0x9500103186 h1),zN,g.ok,g.bits64,by have:xP.length<=hp.length+2*1:=z1.siz;exact A22 0x705000047D0796100405FAC00 kU this,g.xlen⟩;have Fq:xP.length<=4010:=by have:xP.length<=hp.length+2*1:=z1.siz;exact A22 0x1C1400011F41E5840100FAAF2C00 kU this
 have l7:hp.length<=xP.length:=by have:=z1.lo;exact A31 0x220200100400 this
 obtain⟨y,tu,MB⟩:∃ y:Nat,yG vY 0=some y/\c=⟨0,y⟩:=z1.at_;subst MB;obtain⟨QD,eX⟩:hp.length<=y/\xP[y]?=some ⟨0,y⟩:=by
  rcases z1.new 0 y tu with z|z
  .exact zJ z
  .exact z
 have sg:=T1.grow z1.old l7;have sh:=T2.grow z1.old l7;have fin:∀ {cs r:Cl} {n1:Nat},zP xP cs r n1->(r.t=0\/r.t=5)->(∀ x,ev most t1=.ok x->(kd<2/\r.t=0)\/(2<=kd/\r=⟨5,x+kd-2⟩/\cs=r))->(r.t=0->r=⟨0,(y:Nat)⟩)->uN p w B 21 (d+20) [x0,x1,some (.obj (.nm 6)),some (.obj (.nm 0)),some (.int most),x5,x6,x7,some (.obj (.nm 8)),x9,some cl.pv,some cr.pv,xW,some pl,some pr,kX,kY,some cs.pv,some (.int kd),XX,ZF,ZG,ZH,kZ,k6] H2 Q X:=fun hd hr hs h0=>
  ou uJ g2 bS h8 qN wy uX (A11 0x1F55E5800101388F2C00 Fq) sg sh r1 r2 k1 k2 hd hr hs (fun y' v e=>by
   have:=h0 (by rw[e]);rw[e] at this;have:=congrArg Cl.x this;simp only at this;have ey:y'=y:=by lia
   subst ey;exact⟨T1.bindNew z1.old l7 QD eX,T2.bindNew z1.old l7 QD eX⟩) q
 have h5:∀ v:Int,zP xP ⟨5,v⟩ ⟨5,v⟩ 0:=fun v=>.stop (by decide:(5:Int)≠0) (by decide:(5:Int)≠1);refine xC (wq (F:=[]) trivial ?_);by_cases hk:1<kd
 .refine wb hk ?_;cases h1:ev most t1 with
  |error e=>rw[h1] at r1;refine a2 r1 fun xA hb=>?_;clear r1;subst xA;exact fin (h5 5) (.inr rfl) (fun x hx=>by rw[h1] at hx;cases hx) (fun z=>by cases z)|ok x=>rw[h1] at r1;obtain rfl:=r1;exact fin (h5 (x+kd-2)) (.inr rfl) (fun x' hx=>by rw[h1] at hx;cases hx;exact .inr ⟨by lia,rfl,rfl⟩) (fun z=>by cases z)
 .refine yZ hk ?_;exact fin (.self eX) (.inl rfl) (fun x' hx=>.inl ⟨by lia,rfl⟩) (fun _=>rfl)
end
section
section
variable {p:Program} {w:World} {B:Heap} {d:Nat} {s:Sc} {Q Q0:xM->Prop} {X:PV->AH->Prop} {ρ:Lc} {H:AH} {n i:Nat} {e:RE} {tp p0 p1 p2 p3 p4 p5 p6 p7 pos Jw:Pos} {k1 k2:Nat}
theorem rH (hg:s.c.names.lookup ("PrologError":Str)=some .globalImplicit)(hk:s.kd n=some .local)(hi:s.kd i=some .local)(hd:(s.nm n==("__debug__":Str))=false)(wJ:s.nm n≠s.nm i)(hr:ρ[n]?=some none)(hw:(e.wf tx s&&e.plain)=true) (h:WE ⟨gr p w B,tx,d,s,Q0,fun ball HZ=>(∀ v,ball≠.raw v)/\Q (.next (ρ.set i (some (.tup [.str "error",ball]))) HZ)⟩ ρ H e fun v HZ=>Q (.next (ρ.set i (some v)) HZ)):
  W1 ⟨gr p w B,tx,d,s,Q0,X⟩ ρ H (.raw (.Try [.Assign [.Name (s.nm i) p6] (RE.ast tx s e) p0] [.ExceptHandler (some (.Name "PrologError" tp)) (some (s.nm n)) [.Assign [.Name (s.nm i) p7] (.Tuple [.Constant (.str "error") k1 p1,.Attribute (.Name (s.nm n) p2) "ball" p3] k2 p4) p5] Jw] [] [] pos)) Q:=fun _=>by
 refine a2 (yP hw) fun w1 w2=>?_;refine bY Qo hg (s.look hk) (s.look hi) hd wJ (JY (by rw[hk];rfl) hr) ?_ (fun env=>u9 w2 _ _ _);intro A env zb za θ st Qc Ec C EI I L hQ hX;exact h w1 A env zb za θ st Qc Ec C EI I L (fun v a θZ HZ hZ tkZ q=>hQ v a θZ HZ hZ tkZ ⟨_,v5 hi,q⟩) (fun e ball θZ HZ hZ tkZ q=>hX e ball θZ HZ hZ tkZ ⟨q.1,_,v5 hi,q.2⟩)
end
variable {p:Program} {w:World} {B:Heap} {H:AH} {d:Nat} {X Q:PV->AH->Prop}
theorem yu.symN (h:yu H)(e:zf yA H H'):yu H':=h.ext e (fun h=>h) fun h=>h
theorem XO (hS:zj H S)(ok:S.Ok)(ht:t.Ok S)(hz:t.size<=500)(hb:bits<=64) (q:∀ S' pv H',S.Le S'->S'.Ok->zj H' S'->vT S' pv (ev bits t)->zf yh H H'->Q pv H'):
  zh (gr p w B) (d+11) H [.obj (.nm 0),t.pv,.int bits] (cZ 895) Q X:=by
 refine aa hS ok ht hz hb (fun x hx H' h e=>?_) (fun e he H' h e'=>?_)
 .exact q S _ H' (.refl S) ok h (by rw[hx];exact rfl) e.no
 .exact q (e.ball S).1 _ H' (zT.le S e) (zT.sok ok (uv he).2) h (by rw[he];exact vT.new S e) e'
theorem Ag (hh:yu H)(g:zL H S most hp xs)(bS:vm S)(h8:8<=most)(qN:most<=40)(wy:1<=xs.length)(uX:xs.length<=50)(kU:hp.length<=4000) (hv:H vi=some (.dictI (wH vl))) (eV:∀ n<16,vi≠.nm n) (T1:z8 S hp cl (ko vl one)) (T2:z8 S hp cr (ko vl two)) (d1:one.dep<=32) (d2:two.dep<=32) (d3:(one.full vl).dep<=32) (d4:(two.full vl).dep<=32) (q:∀ H',Q (.bool true) H'):
  uN p w B 14 (d+40) [x0,x1,some (.obj (.nm 6)),some (.obj (.nm 0)),some (.int most),some one.pv,some two.pv,some (.obj vi),some (.obj (.nm 8)),x9,some cl.pv,some cr.pv,xW,tF,tG,kX,none,jP,qP,XX,ZF,ZG,ZH,kZ,k6] H Q X:=by
 have Ft:¬yh vi:=by rintro(z|z|z|z)<;>exact eV _ (by decide) z
 refine X6 (F:=[]) trivial (((YC (vl:=vl) (vi:=vi) 32) (one) (d:=d+6) d1 hv fun H1 e1=>?_).up (by show 32+(d+6)+1<=d+40;exact A10 0x28F2C086C8080041E5A100));refine gV (((YC (vl:=vl) (vi:=vi) 32) (one.full vl) (d:=d+6) d3 (e1.get (fun h=>h) hv) fun H2 e2=>?_).up (by show 32+(d+6)+1<=d+40;exact A10 0x28F2C086C8080041E5A100));have Qr:=e1.trans e2;have g2:=g.ext Qr;refine gV (XO (t:=ko vl one) g2.sym g.ok T1.ok T1.size g.bits64 fun S3 pl H3 l3 MT yc r1 e3=>?_);have ec:=Qr.no.trans e3;have QC:=ec.get Ft hv;refine gV (((YC (vl:=vl) (vi:=vi) 32) (two) (d:=d+6) d2 QC fun H4 e4=>?_).up (by show 32+(d+6)+1<=d+40;exact A10 0x28F2C086C8080041E5A100));refine gV (((YC (vl:=vl) (vi:=vi) 32) (two.full vl) (d:=d+6) d4 (e4.get (fun h=>h) QC) fun H5 e5=>?_).up (by show 32+(d+6)+1<=d+40;exact A10 0x28F2C086C8080041E5A100));have FN:=e4.trans e5;refine gV (XO (t:=ko vl two) (yc.ext FN fun _ _ h=>h) MT (T2.ok.le l3) T2.size g.bits64 fun S6 pr H6 l6 GG v8 r2 e6=>?_);have FL:=(ec.trans FN.no).trans e6;have l8:=hh.sym FL;have g6:zL H6 S6 most hp xs:=g.to FL Xi v8 GG;have U1:=T1.le (l3.trans l6);have U2:=T2.le (l3.trans l6);have Yw:=r1.le l6;have Ll:=bS.le (l3.trans l6);have fin:∀ {S':Sy} {H':AH} {tH:Option PV},S6.Le S'->zL H' S' most hp xs->yu H'->uN p w B 18 (d+40) [x0,x1,some (.obj (.nm 6)),some (.obj (.nm 0)),some (.int most),some one.pv,some two.pv,some (.obj vi),some (.obj (.nm 8)),x9,some cl.pv,some cr.pv,xW,some pl,some pr,tH,none,jP,qP,XX,ZF,ZG,ZH,kZ,k6] H' Q X:=fun l g' Qy=>tX (d:=d+20) Qy g' (Ll.le l) h8 qN wy uX kU (U1.le l) (U2.le l) (Yw.le l) (r2.le l) q;refine gV (rH rfl rfl rfl rfl (by decide+kernel) rfl (by kernel_rfl) (kc (F:=[]) trivial (Wx g6.mac g6.sym g6.ok U1.ok U1.size g6.bits64 U1.at_ U1.peak g6.len (fun x hx H7 h7 e7=>?_) (fun e he H7 h7 e7=>?_))))
 .rw[hx] at Yw;obtain rfl:=Yw;refine gV ?_;refine xC (wq (F:=[]) trivial (qj 0 rfl (by decide) ?_));refine gV ?_;exact fin (.refl S6) (g6.ext e7) (l8.symN e7)
 .refine⟨qh _ _,?_⟩;rw[he] at Yw;refine a2 Yw fun xA LK=>?_;clear Yw;subst xA;have Vo:=Zl S6 (uv he).1;have l:=zT.le S6 e;refine xC (wq (F:=[]) trivial (qj 14 (Kx Vo) (by decide) ?_));refine gV ?_;exact fin l (g6.to e7 Xi h7 (zT.sok GG (uv he).2)) (l8.sym e7)
end
section
theorem kq.mono (h:kq g d H ps f mk Q X)(k:∀ b H',Q b H'->Q' b H'):kq g d H ps f mk Q' X:=by intro A za θ s vs R C I Rv hQ hX;exact h A za θ s vs R C I Rv (fun v b zl H' h' tk q G r=>hQ v b zl H' h' tk (k b H' q) G r) hX
section
variable {p:Program} {w:World} {B:Heap} {d:Nat} {s:Sc} {Q Q0:xM->Prop} {X:PV->AH->Prop} {ρ:Lc} {H:AH} {i j ic iv q1 q2 q3:Nat} {py np kp cp sp:Pos} {k y:Str} {f:Value} {a0 pv:PV}
theorem hU (hg:tx.gT[j]?=some (y,.raw f))(hf:keepIn (KK w.params) f=true)(hk:s.kd i=some .local)(h1:ρ[ic]?=some (some a0))(h2:ρ[iv]?=some (some pv))(hw:(ZO tx s j&&(RE.k (.cel ic q1) (.k (.lst .n q2) .n)).wfs tx s&&(RE.loc iv q3).wf tx s)=true) (h:∀ la HZ,H (.an la)=none->HZ (.an la)=some (.list [])->zf yA H HZ->kq (gr p w B) d HZ [a0,.obj (.an la),pv] f (gH k) (fun v H2_=>Q (.next (ρ.set i (some v)) H2_)) X):
  W1 ⟨gr p w B,tx,d,s,Q0,X⟩ ρ H (.raw (.Assign [.Name (s.nm i) py] (RE.ast tx s (.raw (.Call (.Name (XB tx.gT j) np) (RE.asts tx s (.k (.cel ic q1) (.k (.lst .n q2) .n))) [⟨some k,RE.ast tx s (.loc iv q3),kp⟩] cp))) sp)) Q:=fun _=>by
 simp only[Bool.and_eq_true] at hw;refine a2 hw fun wd w3=>?_;clear hw;obtain⟨w1,w2⟩:=wd;refine wU (ja w1) fun z e1 e2 e3=>?_;rw[hg] at e1;obtain rfl:=yd e1;rw[e2];refine Z4 (s.look hk) ?_;refine fN (wW w2) (by intro _;rfl) ?_;refine kE.glo _ _ _ hg _ _ _ _ _ _ _ e3 ⟨f,rfl,hf,?_⟩;refine Z9 (x:=⟨gr p w B,tx,d,s,Q0,X⟩) (Ko h1 (Z9 (dm (UL ⟨by decide,yo fun la HZ n g e=>UL ?_⟩)))) w2;refine kC (x:=⟨gr p w B,tx,d,s,Q0,X⟩) h2 ⟨_,_,rfl,?_⟩ w3;exact kq.mono (h la HZ n g e) fun v H2_ q=>⟨_,v5 hk,q⟩
end
variable {p:Program} {w:World} {B:Heap} {H:AH} {d:Nat} {X Q:PV->AH->Prop}
structure ve (S:Sy)(vl:List (Int×Tr)):Prop where
 ord:(vl.map (·.1)).Pairwise (·<·)
 key:∀ x∈vl,x.1=0\/x.1=1\/x.1=2
 ok:∀ x∈vl,x.2.Ok S
 v2:∀ x∈vl,x.2.vin fun j=>j=2
 leaf2:∀ x∈vl,x.1=2->∃ n,x.2=.I n
 size:∀ x∈vl,x.2.size<=10
 len:vl.length<=3
theorem vP (h:wB vl k=some t):(k,t)∈vl:=by
 unfold wB at h;cases q:vl.find? fun x=>decide (x.1=k) with
 |none=>rw[q] at h;exact zJ h|some x=>rw[q] at h;have h1:=List.mem_of_find?_eq_some q;have h2:=List.find?_some q;simp only[decide_eq_true_eq] at h2;obtain rfl:=yd h;obtain⟨a,b⟩:=x;simp only at h2;subst h2;exact h1
theorem JP (h:((a++(k,t)::b).map (·.1)).Pairwise (·<·)):wB (a++(k,t)::b) k=some t/\(∀ x∈a,x.1<k):=by
 have lt:∀ x∈a,x.1<k:=fun x hx=>by rw[List.map_append,List.pairwise_append] at h;exact h.2.2 x.1 (List.mem_map_of_mem hx) k (by simp)
 refine⟨?_,lt⟩;unfold wB;rw[List.find?_append];have:a.find? (fun x=>decide (x.1=k))=none:=List.find?_eq_none.mpr fun x hx z=>Int.ne_of_lt (lt x hx) (of_decide_eq_true z);rw[this];simp
theorem ve.valsOk (V:ve S vl):Kp vl:=⟨fun k t h=>V.v2 _ (vP h),fun t h=>V.leaf2 _ (vP h) rfl,fun k t h=>V.size _ (vP h)⟩
noncomputable def jG (vl:List (Int×Tr)):Nat:=(vl.map fun x=>x.2.arsum).sum
theorem gM (h:x∈vl):x.2.arsum<=jG vl:=by
 induction vl with
 |nil=>exact wg h|cons y r ih=>
  show _<=y.2.arsum+jG r;rcases kS h with rfl|h
  .exact Nat.le_add_right ..
  .exact Nat.le_trans (ih h) (Nat.le_add_left ..)
theorem gR (a:List (Int×Tr))(x:Int×Tr):jG (a++[x])=jG a+x.2.arsum:=by simp[jG]
theorem QT (V:Kp vl):(yI vl 2).peak=0/\(yI vl 2).size=1/\(yI vl 2).dep=0:=by
 unfold yI;cases h:wB vl 2 with
 |none=>exact⟨rfl,rfl,rfl⟩|some t=>obtain⟨n,rfl⟩:=V.leaf2 t h;exact⟨rfl,rfl,rfl⟩
theorem ve.sub_ok (V:ve S vl)(k:Int):(yI vl k).Ok S:=by unfold yI;cases h:wB vl k with|none=>trivial|some t=>exact V.ok _ (vP h)
theorem ve.sub_size (V:ve S vl)(k:Int):(yI vl k).size<=10:=by unfold yI;cases h:wB vl k with|none=>exact(by decide:1<=10)|some t=>exact V.size _ (vP h)
theorem ve.twice (V:ve S vl)(k:Int):((yI vl k).subst (yI vl)).size<=10/\((yI vl k).subst (yI vl)).peak<=jG vl:=by
 refine a3 (QT V.valsOk) fun p1 p2 p3=>?_;cases h:wB vl k with
 |none=>
  have e:yI vl k=.V k:=by unfold yI;rw[h];rfl
  rw[e];show(yI vl k).size<=10/\(yI vl k).peak<=jG vl;rw[e];exact⟨(by decide:1<=10),Nat.zero_le _⟩
 |some t=>
  have hm:=vP h;have e:yI vl k=t:=by unfold yI;rw[h];rfl
  rw[e];have hv:t.vin fun j=>j=2:=V.v2 _ hm;refine⟨?_,?_⟩
  .have e2:t.subst (yI vl)=t.subst (fun _=>yI vl 2):=Tr.subst_cong (P:=fun j=>j=2) (fun j hj=>by rw[hj]) hv;rw[e2,Tr.subst_leaf (fun _=>p2)];exact V.size _ hm
  .have:=Tr.subst_peak (σ:=yI vl) (M:=0) (P:=fun j=>j=2) (fun j hj=>by subst hj;exact A11 0x6004103000 p1) hv;have h2:t.arsum<=jG vl:=gM hm;exact A32 0x22005824000100400 this h2
theorem ve.treeAt (V:ve S vl)(h:HT hp c (ko vl t))(ok:t.Ok S)(hz:t.size<=22)(hv:t.V3)(yQ:t.arsum+jG vl<=hp.length):z8 S hp c (ko vl t):=by
 refine⟨h,?_,?_,?_⟩
 .exact Tr.subst_ok V.sub_ok (Tr.subst_ok V.sub_ok ok)
 .rw[X1];have:=Tr.subst_size (σ:=fun k=>(yI vl k).subst (yI vl)) (M:=10) (by decide) (fun k=>(V.twice k).1) t;exact A22 0x282A000365840A001F4F2C00 hz this
 .rw[X1];have:=Tr.subst_peak (σ:=fun k=>(yI vl k).subst (yI vl)) (M:=jG vl) (fun k _=>(V.twice k).2) hv.vin;exact A42 0x18900004231200100400 yQ this
theorem ve.dep {S:Sy}{vl:List (Int×Tr)}(V:ve S vl){t:Tr}(hz:t.size<=22):t.dep<=32/\(t.full vl).dep<=32:=by have h1:=t.dep_size;have h2:=Tr.subst_dep (σ:=yI vl) (M:=10) (fun k=>Nat.le_trans (Tr.dep_size _) (V.sub_size k)) t;exact⟨A22 0x1000365840100020F2C00 hz h1,by show(t.subst (yI vl)).dep<=32;exact A33 0x4400D848000365840100020F2C00 hz h2 h1⟩
theorem g_ (h:∃ x∈vl,x.1=k):∃ t,wB vl k=some t:=by refine zg h fun x hx e=>?_;clear h;unfold wB;cases q:vl.find? fun x=>decide (x.1=k) with|none=>exact absurd (List.find?_eq_none.mp q x hx) (by simp[e])|some y=>exact⟨y.2,rfl⟩
theorem yJ.goN (x:yJ H bits hp xs)(h:ym H' hp')(e:zf N H H')(hN:∀ n,n≠12->¬N (.nm n)):yJ H' bits hp' xs:=by refine yU x.ns fun i j k hn=>?_;exact⟨e.get (hN 8 (by decide)) x.inst,⟨i,j,k,e.get (hN 9 (by decide)) hn⟩,e.get (hN 15 (by decide)) x.x,h⟩
abbrev qU (a:Addr):Id->Prop:=fun i=>i=.nm 12\/i=.an a
theorem kA (a:Addr)(n:Nat)(h:n≠12):¬qU a (.nm n):=by rintro(z|z)<;>cases z;exact h rfl
theorem zj.tabN (h:zj H S)(e:zf (qU a) H H'):zj H' S:=h.ext e fun n hn=>kA a n (Nat.ne_of_lt (Nat.lt_trans hn (by decide)))
inductive Fz (H6:AH)(most:Int)(one two:Tr)(vl:List (Int×Tr))(vi:Id)(ta:Addr)(cl cr:Cl)(x0 x1:Option PV)(b:List (Int×Tr))(H':AH):Lc->Prop
 |mk (a:List (Int×Tr)) (hp:List Cl) (tab:List (Int×Nat)) (y:Option PV) (xN:vl=a++b) (bd:Yk hp tab vl (fun k=>∃ x∈a,x.1=k)) (G1:x_ hp tab cl one) (G2:x_ hp tab cr two) (M:yJ H' most hp [⟨5,0⟩]) (ht:H' (.an ta)=some (.dictI (wG tab)))
  (l1:hp.length<=88+22*a.length) (l2:tab.length<=44+11*a.length) (l3:one.arsum+two.arsum+jG a<=hp.length) (e:zf (qU ta) H6 H'):Fz H6 most one two vl vi ta cl cr x0 x1 b H' [x0,x1,some (.obj (.nm 6)),some (.obj (.nm 0)),some (.int most),some one.pv,some two.pv,some (.obj vi),some (.obj (.nm 8)),some (.obj (.an ta)),some cl.pv,some cr.pv,y,none,none,none,none,none,none,none,none,none,none,none,none]
theorem Dq (GX:(gr p w B).K.In B){S:Sy}{most:Int}{one two:Tr}{vl:List (Int×Tr)}{vi:Id}{x0 x1:Option PV}(hh:yu H)(hS:zj H S)(ok:S.Ok)(bS:vm S)(h8:8<=most)(qN:most<=40)(hv:H vi=some (.dictI (wH vl)))(eV:∀ n<16,vi≠.nm n)(V:ve S vl) (o1:one.Ok S) (o2:two.Ok S) (s1:one.size<=22) (s2:two.size<=22) (v1:one.V3) (v2:two.V3) (Vm:∀ n,8<=n->n<16->H (.nm n)=none) (q:∀ H',Q (.bool true) H'):
  uN p w B 9 (d+40) [x0,x1,some (.obj (.nm 6)),some (.obj (.nm 0)),some (.int most),some one.pv,some two.pv,some (.obj vi),none,none,none,none,none,none,none,none,none,none,none,none,none,none,none,none,none] H Q X:=by
 refine X6 (F:=[]) trivial (hU (f:=.ref 858) rfl (by kernel_rfl) rfl rfl rfl (by kernel_rfl) fun la H1 Yv Yq e1=>fW GX (bits:=most) (i:=.an la) (fun n a b=>(e1 (.nm n) (fun h=>h) (.inr ⟨n,rfl⟩)).trans (Vm n a b)) fun H2 M2 e2=>?_);have zN:=(hS.ext e1 fun _ _ h=>h).ext e2 fun n hn z=>by obtain⟨m,z1,z2,z3⟩:=z;cases z3;exact A12 0x900210500103186 z1 hn
 have uJ:=(hh.symN e1).ext e2 (fun z=>by obtain⟨m,z1,z2,z3⟩:=z;cases z3;exact A01 0x9500103186 z1) (fun z=>by obtain⟨m,z1,z2,z3⟩:=z;cases z3;exact A01 0x9D00103186 z1);have Vp:H2 vi=some (.dictI (wH vl)):=e2.get (fun z=>by obtain⟨m,z1,z2,z3⟩:=z;exact eV m z2 z3) (e1.get (fun h=>h) hv);clear Vm hh hS hv;refine gN (.I (jS fun ta H3 MQ Mp e3=>?_));have Mv:vi≠.an ta:=fun z=>by rw[z] at Vp;rw[MQ] at Vp;exact zJ Vp
 have yc:=zN.ext e3 fun _ _ h=>h;have ZA:=uJ.symN e3;have QC:=e3.get (fun h=>h) Vp;have M3:=M2.ext e3 fun _ _ _ h=>h;have fp:¬qU ta vi:=by
  rintro(z|z)
  .exact eV 12 (by decide) z
  .exact Mv z
 refine yU (M3.fox (p:=p) (w:=w) (B:=B)) fun i1 i2 i3 F3=>?_;refine zd F3 (jo (tab:=[]) (ti:=.an ta) bS yc ok M3.st (fun n _ h=>v7 h) Mp (Y4 _) o1 (A11 0x59600080015F90EAC024B100 s1) (A11 0x596000400FA3CB03100 s1) fun cl Me II H4 r4 M0 Mn e4=>?_);have e4:zf (qU ta) H3 H4:=e4;have M4:=M3.goN M0 e4 (kA ta);have yn:=yc.tabN e4;have tq:=e4.get fp QC;have z4:=r4.siz;have y4:=r4.tlen;have w4:=r4.lo;simp only[List.length_nil] at z4 y4 w4;refine yU (M4.fox (p:=p) (w:=w) (B:=B)) fun i1 i2 i3 F4=>?_;refine zd F4 (jo (tab:=II) (ti:=.an ta) bS yn ok M4.st (fun n _ h=>v7 h) Mn r4.tok o2 (A33 0xB2C2015962008424B1000040015F90EAC2248100 z4 s1 s2) (A33 0x2CB08036588011310000400FA3CB08100 y4 s1 s2) fun cr tf iS H5 r5 M7 Gm e5=>?_);have e5:zf (qU ta) H4 H5:=e5;have M5:=M4.goN M7 e5 (kA ta);have xf:=yn.tabN e5;have mj:=e5.get fp tq;have Jk:=(ZA.ext e4 (kA ta 6 (by decide)) (kA ta 7 (by decide))).ext e5 (kA ta 6 (by decide)) (kA ta 7 (by decide));have z5:=r5.siz;have y5:=r5.tlen;have w5:=r5.lo;have b0:Yk [] [] vl (fun k=>∃ x∈([]:List (Int×Tr)),x.1=k):=⟨Y4 _,fun k ⟨x,hx,_⟩=>(wg hx),fun _ _ h=>(zJ h),fun _ _ _ ⟨x,hx,_⟩=>(wg hx),fun _ _ _ h=>(zJ h)⟩;have b5:=(b0.put r4).put r5;have G1:x_ tf iS cl one:=((b0.put r4).gt r4.at_).grow r5.old r5.le;have G2:x_ tf iS cr two:=b5.gt r5.at_;refine gV (dI mj (by simp[wH];have:=V.len;exact A11 0x780010003CF2C01 this) (by rw[show(wH vl).map (·.1)=vl.map (·.1) from by simp[wH]];exact V.ord.imp fun h=>Int.le_of_lt h) (yo fun sa H6 GD h6 e6=>?_));have h6:H6 (.an sa)=some (.list (vl.map fun x=>.int x.1)):=by rw[h6];exact congrArg (fun l=>some (MO.list l)) (List.map_map ..)
 have Ml:(Id.an sa)≠.an ta:=fun z=>by rw[z,Gm] at GD;exact qE GD
 have MX:¬qU ta (.an sa):=by
  rintro(z|z)
  .exact v7 z
  .exact Ml z
 have M6:=M5.ext e6 fun _ _ _ h=>h;have v8:=xf.ext e6 fun _ _ h=>h;have Gn:=e6.get (fun h=>h) mj;have l8:=Jk.symN e6;have Mo:=e6.get (fun h=>h) Gm;have IE:∀ {a b:List (Int×Tr)} {k:Int} {t:Tr},vl=a++(k,t)::b->k≠2->¬∃ x∈a,x.1=2:=fun{a b k t} xN hk ⟨x,hx,h2⟩=>by have h1:=(JP (a:=a) (b:=b) (k:=k) (t:=t) (by rw[<-xN];exact V.ord)).2 x hx;have h3:=V.key (k,t) (by rw[xN];simp);rcases h3 with z|z|z<;>first|exact hk z|(rw[h2,show k=_ from z] at h1;exact absurd h1 (by decide))
 refine gV (Xh h6 (by have:=V.len;exact A11 0x1E000406FAC00 this) (fun b zO H'=>Fz H6 most one two vl vi ta cl cr x0 x1 b H' zO) ⟨[],tf,iS,_,rfl,b5,G1,G2,M6,Mo,A44 0x6248500006CB18056588021092C40401032C900B1E5A000 z4 s1 s2 z5,A44 0x6140001B2C600D9620044C40401031690059E5A000 y4 s1 s2 y5,by simp[jG];exact A42 0x411A001181880040208100 w4 w5,.refl⟩ ?_ ?_)
 .rintro⟨k,t⟩ b zO H' ⟨a,hp,tab,y,xN,bd,G1,G2,M,ht,l1,l2,l3,e⟩ K hk
  .have hm:(k,t)∈vl:=by rw[xN];simp
   obtain⟨tr,Jp⟩:=JP (a:=a) (b:=b) (k:=k) (t:=t) (by rw[<-xN];exact V.ord);rw[<-xN] at tr;have Yn:a.length<=2:=by have:=V.len;rw[xN] at this;simp at this;exact A21 0x7B4280200103800 this
   have tz:t.size<=10:=V.size _ hm;have xk:=v8.tabN e;have kK:=e.get fp Gn;refine yU (M.fox (p:=p) (w:=w) (B:=B)) fun i1 i2 i3 F=>?_;refine w8 F (jo (t:=.V k) (tab:=tab) (ti:=.an ta) bS xk ok M.st (fun n _ h=>v7 h) ht bd.tok trivial (A22 0x1C10583648058F2D000040015F90EADA248100 l1 Yn) (A22 0x1C102C2B4802CF2D0000400FA3CB68100 l2 Yn) fun c1 xP vY H1 r1 MY wD e1=>?_);have e1:zf (qU ta) H' H1:=e1;have M1:=M.goN MY e1 (kA ta);have zG:=xk.tabN e1;have Jz:=e1.get fp kK;have z1:=r1.siz;have y1:=r1.tlen;have w1:=r1.lo;refine yU (M1.fox (p:=p) (w:=w) (B:=B)) fun i1 i2 i3 F1=>?_;refine zd F1 (Vc Jz (v:=t.pv) (by rw[Uh,tr];rfl) ?_);refine zd F1 (jo (t:=t) (tab:=vY) (ti:=.an ta) bS zG ok M1.st (fun n _ h=>v7 h) wD r1.tok (V.ok _ hm) (A44 0x1A248900005C305AC10087648058F2D020040015F90EAC2248100 l1 tz Yn z1) (A44 0x68900005C302EC10046B4802CF2D0200400FA3CB08100 l2 tz Yn y1) fun c2 hp2 Xg H2 r2 MZ vI e2=>?_);have e2:zf (qU ta) H1 H2:=e2;have M2:=M1.goN MZ e2 (kA ta);have zN:=zG.tabN e2;have z2:=r2.siz;have y2:=r2.tlen;have w2:=r2.lo;have FI:=(bd.put r1).put r2;obtain⟨x,hx,rfl⟩:∃ x:Nat,yG vY k=some x/\c1=⟨0,x⟩:=r1.at_;obtain⟨y,n1,n2,rr,q1,q2,q3,q4⟩:=FI.step (k:=k) (x:=x) (t:=t) (c:=c2) (fun⟨x,hx,hk⟩=>Int.ne_of_lt (Jp x hx) hk) (r2.le k x hx) tr (V.v2 _ hm) (fun hk=>V.leaf2 _ hm hk) (IE xN) (FI.gt r2.at_) (V.ok _ hm) (A11 0xB0001001F4F2C00 tz);refine gV (K6 (t:=t) M2 zN ok (A55 0x6249100005A248504005C205AC30085648058F2D0100405FAC00 l1 tz Yn z1 z2) q1 q2 q3 fun te H3 u1 M3 e3=>?_);refine a3 (q4 te u1) fun Ln q5 q6=>?_;have Mm:=e3.get (by intro z;cases z) vI;have ec:zf (qU ta) H6 H3:=((e.trans e1).trans e2).trans (e3.mono fun _ h=>.inl h);refine gV (hk ⟨ec.get MX h6,a++[(k,t)],te,Xg,_,by rw[xN];simp,?_,q6 _ _ ((G1.grow r1.old r1.le).grow r2.old r2.le),q6 _ _ ((G2.grow r1.old r1.le).grow r2.old r2.le),M3,Mm,A76 0x2892640C016892441801B140215920163CB41001180416B10240476006C900B1E5A000 (List.length_append ..) q5 l1 tz z1 z2,A65 0x21500005A341401B100112D200B3CB40C016B1024046B005690059E5A000 (List.length_append ..) l2 tz y1 y2,by rw[gR];simp only;lia,ec⟩);have:(fun j=>(∃ x∈a,x.1=j)\/j=k)=(fun j=>∃ x∈a++[(k,t)],x.1=j):=by
    funext j;apply propext;constructor
    .rintro(⟨x,hx,hj⟩|rfl)
     .exact⟨x,List.mem_append.mpr (.inl hx),hj⟩
     .exact⟨(j,t),by simp,rfl⟩
    .intro zq;refine zg zq fun x hx hj=>?_;clear zq;rcases Zo hx with hx|hx
     .exact .inl ⟨x,hx,hj⟩
     .rw[List.mem_singleton] at hx;subst hx;exact .inr hj.symm
   rw[<-this];exact Ln
 .rintro zO H' ⟨a,hp,tab,y,xN,bd,G1,G2,M,ht,l1,l2,l3,e⟩;rw[List.append_nil] at xN;subst xN;have Yn:=V.len;have all:∀ {c:Cl} {t:Tr},t.V3->x_ hp tab c t->HT hp c (ko vl t):=fun hv h=>bd.all V.valsOk (fun k t h=>⟨_,vP h,rfl⟩) (fun k h=>g_ h) hv.vin h;have T1:z8 S hp cl (ko vl one):=V.treeAt (all v1 G1) o1 s1 v1 (A41 0x41181080040208100 l3);have T2:z8 S hp cr (ko vl two):=V.treeAt (all v2 G2) o2 s2 v2 (A41 0x4100D080040208100 l3);exact Ag (l8.ext e (kA ta 6 (by decide)) (kA ta 7 (by decide))) ⟨M,v8.tabN e,ok,Int.le_trans qN (by decide),A22 0x1E10583648058F2D0000405FAC00 l1 Yn,by simp⟩ bS h8 qN (by simp) (by simp) (A22 0x784160D920163CB4000100FA0F2C00 l1 Yn) (e.get fp Gn) eV T1 T2 (V.dep s1).1 (V.dep s2).1 (V.dep s1).2 (V.dep s2).2 q
end
section
section
variable {x:Cx} {ρ:Lc} {H:AH} {k k':Int} {q q' n i:Nat} {e e':RE} {dp py sp:Pos}
theorem yW.mono (h:yW H mo Q)(k:∀ v HZ,Q v HZ->Q' v HZ):yW H mo Q':=by cases h with|an h=>exact .an fun a n=>k _ _ (h a n)|nm n a h=>exact .nm n a (k _ _ h)
theorem pg (hn:H (.nm n)=none)(q:∀ H',H' (.nm n)=some mo->zf (zV (.nm n)) H H'->Q (.obj (.nm n)) H'):yW H mo Q:=.nm n hn (q _ (AH.upd_same _ _ _) zf.one)
theorem mW (hk:k≠k')(hw:(e.wf x.T x.s&&e'.wf x.T x.s)=true)(h:WE x ρ H e fun v HZ=>WE x ρ HZ e' fun v' H2_=>yW H2_ (.dictI [(k,v),(k',v')]) Q):
  WE x ρ H (.raw (.Dict [some (RE.ast x.T x.s (.int k q)),some (RE.ast x.T x.s (.int k' q'))] [RE.ast x.T x.s e,RE.ast x.T x.s e'] dp)) Q:=fun _=>by
 refine a2 (yP hw) fun w1 w2=>?_;exact mS hk ((h w1).mono fun v HZ k=>k w2)
theorem nG (hk:x.s.kd i=some .local)(hw:e.wf x.T x.s=true)(h:WE x ρ H e fun v HZ=>yW HZ (.dictI [(k,v)]) fun o H2_=>Q (.next (ρ.set i (some o)) H2_)):
  W1 x ρ H (.raw (.Assign [.Name (x.s.nm i) py] (RE.ast x.T x.s (.raw (.Dict [some (RE.ast x.T x.s (.int k q))] [RE.ast x.T x.s e] dp))) sp)) Q:=fun _=>
 Z4 (x.s.look hk) (m_ ((h hw).mono fun v HZ N=>N.mono fun o H2_ q=>⟨_,v5 hk,q⟩))
end
variable {p:Program} {w:World} {B:Heap} {H:AH} {d:Nat} {X Q:PV->AH->Prop}
theorem zf.none (e:zf N H H')(hN:¬N (.nm n))(h:H (.nm n)=none):H' (.nm n)=none:=(e (.nm n) hN (.inr ⟨n,rfl⟩)).trans h
structure Kj (H:AH)(S:Sy)(most:Int)(one two:Tr):Prop where
 hand:yu H
 sym:zj H S
 ok:S.Ok
 base:vm S
 m8:8<=most
 m40:most<=40
 o1:one.Ok S
 o2:two.Ok S
 s1:one.size<=22
 s2:two.size<=22
 v1:one.V3
 v2:two.V3
 none:∀ n,8<=n->n<16->H (.nm n)=none
theorem Kj.ext (P:Kj H S most one two)(e:zf N H H')(hN:∀ n,8<=n->n<16->¬N (.nm n))(l:S.Le S')(ok:S'.Ok)(hS:zj H' S')(hh:yu H'):Kj H' S' most one two:=⟨hh,hS,ok,P.base.le l,P.m8,P.m40,P.o1.le l,P.o2.le l,P.s1,P.s2,P.v1,P.v2,fun n a b=>zf.none e (hN n a b) (P.none n a b)⟩
theorem Ue (h:∀ x∈vl,x.1≠k):X8 (wH vl) k t.pv=wH (vl++[(k,t)]):=by
 unfold X8;rw[if_neg]
 .simp[wH]
 .intro z;refine zg (List.any_eq_true.mp z) fun x hx hk=>?_;unfold wH at hx;refine zg (List.mem_map.mp hx) fun y hy zm=>?_;subst zm;exact h y hy (by simpa using hk)
theorem ve.le (V:ve S vl)(l:S.Le S'):ve S' vl:=⟨V.ord,V.key,fun x hx=>(V.ok x hx).le l,V.v2,V.leaf2,V.size,V.len⟩
theorem ve.add (V:ve S vl)(hk:∀ x∈vl,x.1<k)(s6:k=1\/k=2)(ok:t.Ok S)(v2:t.vin fun j=>j=2)(l2:k=2->∃ n,t=.I n)(hz:t.size<=10)(len:vl.length<=2):ve S (vl++[(k,t)]):=by
 have go:∀ {P:Int×Tr->Prop},(∀ x∈vl,P x)->P (k,t)->∀ x∈vl++[(k,t)],P x:=fun h1 h2 x hx=>by
  rcases Zo hx with hx|hx
  .exact h1 x hx
  .rw[List.mem_singleton] at hx;subst hx;exact h2
 refine⟨?_,go V.key (.inr s6),go V.ok ok,go V.v2 v2,go V.leaf2 l2,go V.size hz,A22 0x704016B1014004103C00 (List.length_append ..) len⟩;rw[List.map_append,List.pairwise_append];refine⟨V.ord,by simp,fun a ha b hb=>?_⟩;simp only[List.map_cons,List.map_nil,List.mem_singleton] at hb;subst hb;refine zg (List.mem_map.mp ha) fun x hx zm=>?_;subst zm;exact hk x hx
theorem dG (GX:(gr p w B).K.In B)(P:Kj H S most one two)(hv:H (.an va)=some (.dictI (wH vl)))(V:ve S vl)(hk:∀ x∈vl,x.1<2)(len:vl.length<=2)(q:∀ H',Q (.bool true) H'):
  uN p w B 8 (d+40) [x0,x1,some (.obj (.nm 6)),some (.obj (.nm 0)),some (.int most),some one.pv,some two.pv,some (.obj (.an va)),none,none,none,none,none,none,none,none,none,none,none,none,none,none,none,none,none] H Q X:=by
 have end_:∀ {vl:List (Int×Tr)} {H:AH},Kj H S most one two->ve S vl->H (.an va)=some (.dictI (wH vl))->uN p w B 9 (d+40) [x0,x1,some (.obj (.nm 6)),some (.obj (.nm 0)),some (.int most),some one.pv,some two.pv,some (.obj (.an va)),none,none,none,none,none,none,none,none,none,none,none,none,none,none,none,none,none] H Q X:=fun P V hv=>Dq GX P.hand P.sym P.ok P.base P.m8 P.m40 hv (fun n _ h=>v7 h) V P.o1 P.o2 P.s1 P.s2 P.v1 P.v2 P.none q;refine xC (wq (F:=[]) trivial (w0 P.hand (by decide) fun kd H1 k1 k2 jB e1=>gV ?_));have P1:=P.ext e1 (fun n a b z=>by cases z;exact A01 0x9500103186 a) (.refl S) P.ok (P.sym.pick e1) jB;have Jz:=e1.get (by unfold XF zV;simp) hv;by_cases ZC:0<kd
 .refine wb ZC (Xp Jz (by simp[wH];exact A11 0x1C000406FAC00 len) fun H2 g2 e2=>gN ?_);rw[show PV.tup [.str "i",.int 2]=(Tr.I 2).pv from rfl,Ue (fun x hx=>Int.ne_of_lt (hk x hx))] at g2;have P2:=P1.ext e2 (fun n a b z=>xh z) (.refl S) P.ok (P1.sym.ext e2 fun n hn z=>xh z) (P1.hand.ext e2 (by unfold zV;simp) (by unfold zV;simp));exact end_ P2 (V.add (k:=2) (t:=.I 2) hk (.inr rfl) (show Sm 2 by unfold Sm;decide) trivial (fun _=>⟨2,rfl⟩) (by decide:1<=10) len) g2
 .refine yZ ZC ?_;exact end_ P1 V Jz
noncomputable def km:List (Int×Tr):=[(0,.I 3),(1,.I (-2))]
theorem b9 {t:Tr}(hv:t.V3):(t.full km).vin (fun j=>j=2)/\(t.full km).size=t.size:=by
 have h0:yI km 0=.I 3:=rfl;have h1:yI km 1=.I (-2):=rfl;have h2:yI km 2=.V 2:=rfl;have hs:∀ k,(yI km k).size=1:=fun k=>by
  unfold yI;cases h:wB km k with
  |none=>rfl|some t=>have:=vP h;simp only[km,List.mem_cons,List.not_mem_nil,or_false] at this;rcases this with h|h<;>cases h<;>rfl
 refine⟨Tr.subst_vin (P:=fun k=>k=0\/k=1\/k=2) (fun k hk=>?_) hv.vin,Tr.subst_leaf hs t⟩;rcases hk with rfl|rfl|rfl
 .rw[h0];trivial
 .rw[h1];trivial
 .rw[h2];exact(rfl:(2:Int)=2)
theorem mA {S:Sy}{t:Tr}(h:t.Ok S):(t.full km).Ok S:=Tr.subst_ok (fun k=>by
 unfold yI;cases h:wB km k with
 |none=>trivial|some t=>
  have:=vP h;simp only[km,List.mem_cons,List.not_mem_nil,or_false] at this;rcases this with h|h<;>cases h
  .exact(show Sm 3 by unfold Sm;decide)
  .exact(show Sm (-2) by unfold Sm;decide)) h
theorem Kq {α:Type u}{P:α->Prop}{a:α}(h:P a):∀ x∈[a],P x:=fun _ hx=>List.mem_singleton.mp hx▸h
theorem pX (GX:(gr p w B).K.In B)(P:Kj H S most one two)(hn:Sm n)(hv:H (.an va)=some (.dictI (wH [(0,.I n)])))(q:∀ H',Q (.bool true) H'):
  uN p w B 7 (d+40) [x0,x1,some (.obj (.nm 6)),some (.obj (.nm 0)),some (.int most),some one.pv,some two.pv,some (.obj (.an va)),none,none,none,none,none,none,none,none,none,none,none,none,none,none,none,none,none] H Q X:=by
 have V0:ve S [(0,.I n)]:=⟨by simp,Kq (.inl rfl),Kq hn,Kq trivial,Kq (fun h=>nomatch h),Kq (show 1<=10 by decide),Nat.succ_pos _⟩;refine xC (wq (F:=[]) trivial (w0 P.hand (by decide) fun kd H1 k1 k2 jB e1=>gV ?_));have P1:=P.ext e1 (fun n a b z=>by cases z;exact A01 0x9500103186 a) (.refl S) P.ok (P.sym.pick e1) jB;have Jz:=e1.get (by unfold XF zV;simp) hv;by_cases ZC:kd=0
 .obtain⟨ks,i,cur,Zb,Y8,wc,hd2,Qw,sH⟩:=id jB;refine qa (beq_iff_eq.mpr ZC) (vV (n:=4) Qw (by simp) (by simp) fun H2 g2 e2=>?_);have uJ:yu H2:=.put wc hd2 sH e2 g2;have P2:=P1.ext e2 (fun n a b z=>by cases z;exact A01 0x9500103186 a) (.refl S) P1.ok (P1.sym.pick e2) uJ;have Vp:=e2.get (by unfold zV;simp) Jz;have wt:jc p w B 2:=KV 2;refine gN ((wt (d:=d+35) P2.hand P2.sym P2.ok P2.base fun t S3 H3 I=>?_).up (by show 2+(d+35)+3<=d+40;exact A10 0x28F2C0878023F2C0872100));have P3:=P2.ext I.ext (fun n a _=>aw a) I.le I.sok I.sym I.hand;have QC:=I.ext.get (by rintro(z|z);exact vw _ z;cases z) Vp;have tz:=I.size;have tz:t.size<=2*(2*1+2)+2:=tz;refine zd (F:=[]) ?_ ?_
  .exact trivial
  refine mW ?_ ?_ ?_
  .decide
  .kernel_rfl
  refine kc (F:=[]) ?_ ?_
  .exact trivial
  refine kc (F:=[]) ?_ ?_
  .exact trivial
  refine jS fun vb H4 NM sF e4=>?_;have sF:H4 (.an vb)=some (.dictI (wH km)):=sF;have P4:=P3.ext e4 (fun n a b z=>z) (.refl _) P3.ok (P3.sym.ext e4 fun _ _ z=>z) (P3.hand.symN e4);have tq:=e4.get (fun z=>z) QC;refine gV (((YC (vl:=km) (vi:=.an vb) 10) t (d:=d+29) (by have:=t.dep_size;exact A22 0x8001739A24A0494040105800 tz this) sF fun H5 e5=>?_).up (by show 10+(d+29)+1<=d+40;exact A10 0x28F2C086801DF2C08B2100));have P5:=P4.ext e5 (fun n a b z=>z) (.refl _) P4.ok (P4.sym.ext e5 fun _ _ z=>z) (P4.hand.symN e5);have mj:=e5.get (fun z=>z) tq;refine gV (Xp mj (by simp[wH]) fun H6 g6 e6=>gN ?_);rw[Ue (by simp)] at g6;have P6:=P5.ext e6 (fun n a b z=>xh z) (.refl _) P5.ok (P5.sym.ext e6 fun n hn z=>xh z) (P5.hand.ext e6 (by unfold zV;simp) (by unfold zV;simp));refine a2 (b9 I.v3) fun f1 f2=>?_;have V6:ve S3 ([(0,.I n)]++[(1,t.full km)]):=(V0.le I.le).add (by simp) (.inl rfl) (mA I.ok) f1 (fun h=>by cases h) (A22 0x739A24A049404010804105800 f2 tz) (by simp);exact dG GX P6 g6 V6 (by simp) (by simp) q
 .refine jE (beq_eq_false_iff_ne.mpr ZC) ?_;exact dG GX P1 Jz V0 (by simp) (by simp) q
end
section
section
variable {x:Cx} {ρ:Lc} {H:AH} {b:Int} {q q' n i j:Nat} {py sp xp ap:Pos} {a:Addr} {its:Array Value} {ks:List Int}
theorem cC (hb:0<=b)(hB:x.g.B.IsList a its)(hI:IntsAre its.toList ks)(hz:its.size<=10000000)(hk:x.s.kd i=some .local)(h0:ρ[j]?=some (some (.raw (.ref a))))(hw:(RE.loc j q).wf x.T x.s=true)(hn:H (.nm n)=none) (h:∀ H',H' (.nm n)=some (.list ((ks.take b.toNat).map .int))->zf (zV (.nm n)) H H'->Q (.next (ρ.set i (some (.obj (.nm n)))) H')):
  W1 x ρ H (.raw (.Assign [.Name (x.s.nm i) py] (RE.ast x.T x.s (.raw (.Subscript (RE.ast x.T x.s (.loc j q)) (.Slice none (some (RE.ast x.T x.s (.int b q'))) none sp) xp))) ap)) Q:=fun _=>
 Z4 (x.s.look hk) (cE hb hB hI hz (kC h0 (Q:=fun o HZ=>o=.raw (.ref a)/\yW HZ (.list ((ks.take b.toNat).map .int)) _) ⟨rfl,pg hn fun H' g e=>⟨_,v5 hk,h H' g e⟩⟩ hw))
end
variable {p:Program} {w:World} {B:Heap} {H:AH} {d:Nat} {X Q:PV->AH->Prop}
theorem rj (GX:(gr p w B).K.In B)(hB:B.IsList sa its)(hI:IntsAre its.toList ks)(hz:its.size<=10000000)(Vm:∀ n,H (.nm n)=none)(q:∀ H',Q (.bool true) H'):
  uN p w B 0 (d+40) [some (.raw (.ref sa)),none,none,none,none,none,none,none,none,none,none,none,none,none,none,none,none,none,none,none,none,none,none,none,none] H Q X:=by
 refine X6 (F:=[]) ?_ ?_
 .exact trivial
 refine cC (n:=7) ?_ hB hI hz ?_ ?_ ?_ (Vm 7) fun H1 h7 e1=>?_
 .decide
 .rfl
 .rfl
 .kernel_rfl
 have Qv:(ks.take (63:Int).toNat).length<=63:=by rw[List.length_take];exact Nat.min_le_left _ _
 generalize ks.take (63:Int).toNat=cs at Qv h7;have n1:∀ n,n≠7->H1 (.nm n)=none:=fun n hn=>zf.none e1 (fun z=>by cases z;exact hn rfl) (Vm n);refine gN (Dn h7 (gV (ZL (by decide) (gV (W0 (.inr (by decide)) (gV (pg (n:=6) (n1 6 (by decide)) fun H2 h6 e2=>?_)))))));have uJ:yu H2:=yu.put (i:=0) (Nat.zero_le _) Qv h7 e2 h6;have n2:∀ n,n≠7->n≠6->H2 (.nm n)=none:=fun n h7 h6=>zf.none e2 (fun z=>by cases z;exact h6 rfl) (n1 n h7);refine gV (cw (fun n hn=>n2 n (by lia) (by lia)) fun H3 yc e3=>?_);have ZA:=uJ.ext e3 (fun⟨n,hn,z⟩=>by cases z;exact A01 0x9482103186 hn) (fun⟨n,hn,z⟩=>by cases z;exact A01 0x94C2103186 hn);have n3:∀ n,8<=n->H3 (.nm n)=none:=fun n hn=>zf.none e3 (fun⟨m,hm,z⟩=>by cases z;exact A12 0x900210500103186 hn hm) (n2 n (by lia) (by lia));refine gV (w0 ZA (by decide) fun k4 H4 NH NI Yo e4=>?_);have yn:=yc.pick e4;have n4:∀ n,8<=n->H4 (.nm n)=none:=fun n hn=>zf.none e4 (fun z=>by cases z;exact A01 0x9500103186 hn) (n3 n hn);have w3:jc p w B 3:=KV 3;have w2:jc p w B 2:=KV 2;refine gV ((w3 (d:=d+34) Yo yn nQ Wb fun one S5 H5 I5=>?_).up (by show 3+(d+34)+3<=d+40;exact A10 0x28F2C0878022F2C087A100));have n5:∀ n,8<=n->H5 (.nm n)=none:=fun n hn=>zf.none I5.ext (aw hn) (n4 n hn);refine gV ((w2 (d:=d+35) I5.hand I5.sym I5.sok (Wb.le I5.le) fun two S6 H6 I6=>?_).up (by show 2+(d+35)+3<=d+40;exact A10 0x28F2C0878023F2C0872100));have n6:∀ n,8<=n->H6 (.nm n)=none:=fun n hn=>zf.none I6.ext (aw hn) (n5 n hn);have P6:Kj H6 S6 (8+k4) one two:=⟨I6.hand,I6.sym,I6.sok,(Wb.le I5.le).le I6.le,by lia,by lia,I5.ok.le I6.le,I6.ok,by have:_<=2*(2*(2*1+2)+2)+2:=I5.size;exact A11 0xE739A24A0494092800020B2C00 this,by have:_<=2*(2*1+2)+2:=I6.size;exact A11 0xE734494092800020B2C00 this,I5.v3,I6.v3,fun n a b=>n6 n a⟩;refine zd (F:=[]) ?_ ?_
 .exact trivial
 refine nG ?_ ?_ ?_
 .rfl
 .kernel_rfl
 refine kc (F:=[]) ?_ ?_
 .exact trivial
 refine w0 P6.hand (by decide) fun k7 H7 NJ NK LU e7=>?_;refine zd (F:=[]) ?_ ?_
 .exact trivial
 refine jS fun va H8 NL h8 e8=>?_;have P7:=P6.ext e7 (fun n a b z=>by cases z;exact A01 0x9500103186 a) (.refl _) P6.ok (P6.sym.pick e7) LU;have P8:=P7.ext e8 (fun n a b z=>z) (.refl _) P7.ok (P7.sym.ext e8 fun _ _ z=>z) (P7.hand.symN e8);have h8:H8 (.an va)=some (.dictI (wH [(0,.I (k7-9))])):=h8;exact pX GX P8 (show Sm _ by unfold Sm;lia) h8 q
end
theorem Aw {p:Program}{w:World}{s:Shared}{d:Nat}{f:Addr}{r:FR}{ps:List PV}{Q:PV->AH->Prop}{A:Around}{θ:Nm}{H:AH}{vs:List Value}{Rc:Result->Shared->Prop}(hr:ux fT f=some r) (d8:(gr p w s.heap).Ok) (Ch:A.handled=none) (Cd:A.depth+4*(d+1)<=890) (Cu:A.units+60*(d+1)<=9800) (Cf:A.frames=some []) (I:HI (gr p w s.heap) θ H (zE []) s.heap) (R:yb θ s.heap ps vs) (hQ:∀ v y zl H' h' tk,Q y H'->Go (gr p w s.heap) (zE []) yB θ H s.heap zl H' h'->Rd zl h' y v->Rc (.ok (.ret v)) {s with heap:=h',toks:=tk}) (h:K1 r ps fun ρ=>WS ⟨gr p w s.heap,tx,d,r.s,uf Q,fun _ _=>False⟩ ρ H r.b (uw ⟨gr p w s.heap,tx,d,r.s,uf Q,fun _ _=>False⟩ [])) (hb:autoParam (jX ps fun vs=>bindArgs r.fd ⟨vs,[]⟩=pure ((r.args.map (·.arg)).zip vs)) fnRK._auto_1) (hd:autoParam (r.df.isEmpty=true) ta._auto_1):codeAny (model p w) A (.call (.ref f) ⟨vs,[]⟩) Rc s:=by have ok:=qg (aB w.params) _ (k_ hr);obtain⟨_,ok⟩:=yP ok;dsimp only at ok;rw[hd] at ok;obtain⟨ok,LQ⟩:=yP (show(WI (KK w.params) r&&r.dV==.none)=true from ok);unfold WI at ok;simp only[Bool.and_eq_true,List.all_eq_true,Bool.or_eq_true,beq_iff_eq,bne_iff_ne,ne_eq,Bool.not_eq_true',decide_eq_true_eq] at ok;obtain⟨⟨⟨⟨⟨⟨⟨⟨o1,o2⟩,o3⟩,o4⟩,o5⟩,o6⟩,o7⟩,o9⟩,fe⟩:=ok;have o7:=Nat.eq_of_beq_eq_true o7;unfold K1 at h;cases e:Nat.beq ps.length r.ps.length with|false=>rw[e] at h;exact h.elim|true=>rw[e] at h;have yf:r.args.length=ps.length:=o7.trans (Nat.eq_of_beq_eq_true e).symm;have hK:=QS (P:=w.params) hr;refine mx (g:=gr p w s.heap) hK o9 hb (by simpa using yf) o1 (fun x hx=>(o2 x hx)) (fun x hx=>o3 x hx) o4 o5 o6 d8 Ch Cd Cu Cf I R hQ ?_;exact Ki (T:=tx) rfl rfl fe (X3 yf) (WW h)
theorem iB {p:Program}{w:World}{s:Shared}(ok:(gr p w s.heap).Ok){A:Around}(Ch:A.handled=none)(Cd:A.depth+300<=890)(Cu:A.units+4000<=9800)(Cf:A.frames=some [])
  {sa:Addr} {its:Array Value} {ks:List Int} (hB:s.heap.IsList sa its) (hI:IntsAre its.toList ks) (hz:its.size<=10000000) {R:Result->Shared->Prop}
  (h:∀ h' tk,(∀ b o,s.heap.get? b=some o->h'.get? b=some o)->R (.ok (.ret (.bool true))) {s with heap:=h',toks:=tk}):
  codeAny (model p w) A (.call (.ref 931) ⟨[.ref sa],[]⟩) R s:=by
 have GX:=ok.X;have I:HI (gr p w s.heap) (fun _=>none) (fun _=>none) (zE []) s.heap:=by exact⟨fun b o e=>e,fun i mo e=>(by cases e),fun i j a h=>(by cases h),fun k h=>(by cases h),fun b hb=>(by cases hb)⟩
 refine Aw (d:=40) (ps:=[.raw (.ref sa)]) (Q:=fun p _=>p=.bool true) rfl ok Ch (A11 0x6F5E5812CF2C0800400DEBCB68028F2D0448100 Cd) (A11 0x2648F2C7D07960400204C91E5B401479680079E48100 Cu) Cf I ?_ ?_ ?_
 .exact⟨_,_,rfl,rfl,rfl⟩
 .intro v p zl H' h' tk q G r;subst q;cases uV r;exact h h' tk fun b o e=>G.inv.stays b o e
 .exact rj (d:=0) GX hB hI hz (fun n=>rfl) (fun H'=>rfl)
end Mine.Internal
open PySem PySem.W PySem.Calls PyProof.Rows PySem.Spec PySem.SeqAt Mine.Internal
theorem PySem.Challenge.cw_no0201_01_holds : PySem.Challenge.rw_no0201_01.Holds := by
 refine Fm ?_;intro w sX s1_ mg mb G Y fa o pm cd doc dV kV ho xi Jg hD Gg hg args vals as Iz Iu Mj mm Ma;have KX:(KK w.params).In s1_.heap:=Y;refine Ground.open G ?_;intro T _ _ _ _;have s_:mg "law"=some (.ref fa):=Gg;have Ik:mg "law"=some (.ref 931):=mg_of KX T.g (by kernel_rfl);rw[Ik] at s_;cases s_;clear xi Jg hD Gg ho;have sr:=T.seer (by decide+kernel);have ok:(gr PySem.Challenge.rw_no0201_01.row.prog w s1_.heap).Ok:=⟨KX,⟨_,_,_,_,_,T⟩,sr,rfl,let⟨_,⟨o,_,_,e,_⟩,_⟩:=sr.mods;⟨o,e⟩⟩
 wrow_args Iz Iu Mj mm Ma
 refine enter_call ?_
 rename IntsAre _ _=>hI
 rename (Heap.IsList _ _ _)=>hL
 rename (¬_<_)=>h63
 have yf:=hI.length;refine iB ok rfl (by decide) (by decide) rfl hL hI (by simp at yf|-;lia) fun h' tk keep=>?_;refine GoodW.toG ⟨.inl ⟨_,.bool true,[],rfl,?_,.bool true,?_,fun _=>⟨.nil,fun _ h=>nomatch h⟩⟩,keep,rfl,hg⟩
 .exact raisesW_false (by wrow_none_raised)
 .exact postW_of (by wrow_shape) (by wtm_val) (by w_fin)
