import PyProof.Rows.All
import Wide.All
import OpenK.AllK
import Wide.FinOn
import Lean
import PySem.Challenge.RW_pq0077_01
set_option Elab.async false
set_option maxRecDepth 100000
set_option linter.all false
set_option genSizeOf false
set_option tactic.hygienic false
namespace Mine.Tactic
section
section
open Nat.Internal.Linear (Expr Context ExprCnstr PolyCnstr)
noncomputable def cn(z:Context)(k:Nat)(l r:Expr):Prop:=match k with
 |0=>l.denote z≤r.denote z
 |1=>l.denote z=r.denote z
 |2=>r.denote z=l.denote z
 |3=>¬r.denote z<l.denote z
 |_=>¬r.denote z≤l.denote z
noncomputable def hy(z:Context)(G:Prop):List (Nat×Nat×Expr×Expr)->Prop
 |[]=>G
 |c::C=>cn z c.1 c.2.2.1 c.2.2.2->hy z G C
noncomputable def sm(f:Expr×Expr->Expr):List (Nat×Nat×Expr×Expr)->Expr
 |[]=>.num 0
 |c::C=>.add (.mulL c.2.1 (f c.2.2)) (sm f C)
theorem Pk{z:Context}{k:Nat}{l r:Expr}(h:cn z k l r):l.denote z≤r.denote z:=by
 match k,h with
 |0,h=>exact h
 |1,h=>exact Nat.le_of_eq h
 |2,h=>exact Nat.le_of_eq h.symm
 |3,h=>exact Nat.le_of_not_lt h
 |_+4,h=>exact Nat.le_of_lt (Nat.lt_of_not_le h)
theorem De{z:Context}{G:Prop}:∀(C:List (Nat×Nat×Expr×Expr)),((sm (·.1) C).denote z≤(sm (·.2) C).denote z->G)->hy z G C
 |[],h=>h (Nat.le_refl _)
 |c::C,h=>λq=>De C λp=>h (Nat.add_le_add (Nat.mul_le_mul_left _ (Pk q)) p)
theorem ai(z:Context)(C:List (Nat×Nat×Expr×Expr))(l r:Expr)(h:(ExprCnstr.toNormPoly ⟨false,.add (sm (·.1) C) (.add r (.num 1)),.add (sm (·.2) C) l⟩).isUnsat=true):hy z (l.denote z≤r.denote z) C:=
 De C λp=>Nat.le_of_not_lt λg=>(ExprCnstr.eq_false_of_isUnsat z _ h).mp (Nat.add_le_add p g)
theorem iB(z:Context)(C:List (Nat×Nat×Expr×Expr))(h:(ExprCnstr.toNormPoly ⟨false,sm (·.1) C,sm (·.2) C⟩).isUnsat=true):hy z False C:=
 De C λp=>(ExprCnstr.eq_false_of_isUnsat z _ h).mp p
end
theorem sbA(a b:Nat):a≤a-b+b:=by omega
section
open Int.Internal.Linear (Expr Context)
noncomputable def cnI(z:Context)(k:Nat)(l r:Expr):Prop:=match k with
 |0=>l.denote z≤r.denote z
 |1=>l.denote z=r.denote z
 |2=>r.denote z=l.denote z
 |3=>¬r.denote z<l.denote z
 |_=>¬r.denote z≤l.denote z
noncomputable def Ub(z:Context)(G:Prop):List (Nat×Nat×Expr×Expr)->Prop
 |[]=>G
 |c::C=>cnI z c.1 c.2.2.1 c.2.2.2->Ub z G C
noncomputable def Lz(f:Expr×Expr->Expr):List (Nat×Nat×Expr×Expr)->Expr
 |[]=>.num 0
 |c::C=>.add (.mulL c.2.1 (f c.2.2)) (Lz f C)
theorem LA{z:Context}{k:Nat}{l r:Expr}(h:cnI z k l r):l.denote z≤r.denote z:=by
 match k,h with
 |0,h=>exact h
 |1,h=>exact Int.le_of_eq h
 |2,h=>exact Int.le_of_eq h.symm
 |3,h=>exact Int.not_lt.mp h
 |_+4,h=>exact Int.le_of_lt (Int.not_le.mp h)
theorem xF{z:Context}{G:Prop}:∀(C:List (Nat×Nat×Expr×Expr)),((Lz (·.1) C).denote z≤(Lz (·.2) C).denote z->G)->Ub z G C
 |[],h=>h (Int.le_refl _)
 |c::C,h=>λq=>xF C λp=>h (Int.add_le_add (Int.mul_le_mul_of_nonneg_left (LA q) (Int.natCast_nonneg _)) p)
theorem aD(z:Context)(C:List (Nat×Nat×Expr×Expr))(l r:Expr)(h:(Expr.norm (.sub (.add (Lz (·.1) C) (.add r (.num 1))) (.add (Lz (·.2) C) l))).isUnsatLe=true):Ub z (l.denote z≤r.denote z) C:=
 xF C λp=>Int.not_lt.mp λg=>(Int.Internal.Linear.le_eq_false z _ _ h).mp (Int.add_le_add p g)
theorem vz(z:Context)(C:List (Nat×Nat×Expr×Expr))(h:(Expr.norm (.sub (Lz (·.1) C) (Lz (·.2) C))).isUnsatLe=true):Ub z False C:=
 xF C λp=>(Int.Internal.Linear.le_eq_false z _ _ h).mp p
end
namespace L
open Lean (RArray)
section
variable {α:Type}
noncomputable abbrev c1(a:α):RArray α:=.leaf a
noncomputable abbrev c2(a b:α):RArray α:=.branch 1 (c1 a) (c1 b)
noncomputable abbrev c3(a b c:α):RArray α:=.branch 1 (c1 a) (.branch 2 (c1 b) (c1 c))
noncomputable abbrev c4(a b c d:α):RArray α:=.branch 2 (c2 a b) (.branch 3 (c1 c) (c1 d))
noncomputable abbrev c5(a b c d e:α):RArray α:=.branch 2 (c2 a b) (.branch 3 (c1 c) (.branch 4 (c1 d) (c1 e)))
noncomputable abbrev c6(a b c d e f:α):RArray α:=.branch 3 (c3 a b c) (.branch 4 (c1 d) (.branch 5 (c1 e) (c1 f)))
noncomputable abbrev c7(a b c d e f g:α):RArray α:=.branch 3 (c3 a b c) (.branch 5 (.branch 4 (c1 d) (c1 e)) (.branch 6 (c1 f) (c1 g)))
end
section
open Nat.Internal.Linear (Expr)
noncomputable abbrev n(k:Nat):Expr:=.num k
noncomputable abbrev v0:Expr:=.var 0
noncomputable abbrev v1:Expr:=.var 1
noncomputable abbrev v2:Expr:=.var 2
noncomputable abbrev v3:Expr:=.var 3
noncomputable abbrev v4:Expr:=.var 4
noncomputable abbrev v5:Expr:=.var 5
noncomputable abbrev v6:Expr:=.var 6
noncomputable abbrev P(a b:Expr):Expr:=.add a b
noncomputable abbrev S(a:Expr):Expr:=.add a (.num 1)
noncomputable abbrev M(k:Nat)(a:Expr):Expr:=.mulL k a
noncomputable abbrev A(a b:Expr):Nat×Nat×Expr×Expr:=(0,1,a,b)
noncomputable abbrev B(a b:Expr):Nat×Nat×Expr×Expr:=(1,1,a,b)
noncomputable abbrev C(a b:Expr):Nat×Nat×Expr×Expr:=(2,1,a,b)
end
section
open Int.Internal.Linear (Expr)
noncomputable abbrev i(k:Int):Expr:=.num k
noncomputable abbrev w0:Expr:=.var 0
noncomputable abbrev w1:Expr:=.var 1
noncomputable abbrev w2:Expr:=.var 2
noncomputable abbrev w3:Expr:=.var 3
noncomputable abbrev w4:Expr:=.var 4
noncomputable abbrev Q(a b:Expr):Expr:=.add a b
noncomputable abbrev T(a:Expr):Expr:=.add a (.num 1)
noncomputable abbrev K(k:Int)(a:Expr):Expr:=.mulL k a
noncomputable abbrev E(a b:Expr):Nat×Nat×Expr×Expr:=(0,1,a,b)
noncomputable abbrev F(a b:Expr):Nat×Nat×Expr×Expr:=(1,1,a,b)
noncomputable abbrev G(a b:Expr):Nat×Nat×Expr×Expr:=(2,1,a,b)
end
end L
section
open L
theorem Vs{a:Nat}:a≤900->a+1≤16777216+1:=ai (c1 a) [A v0 (n 900)] (S v0) (S (n 16777216)) rfl
theorem Vt{a:Nat}:a≤63->¬(63<((a:Nat):Int)):=λh0=>λz=>vz (c1 ((a:Nat):Int)) [E (T (i 63)) w0,E w0 (i 63)] rfl z (Int.ofNat_le.mpr h0)
theorem Vu{a:Nat}:¬(a≤63)->63<((a:Nat):Int):=λh0=>aD (c1 ((a:Nat):Int)) [E (T (i 63)) w0] (T (i 63)) w0 rfl (Int.ofNat_lt.mpr (Nat.lt_of_not_le h0))
theorem LB{a b c:Nat}:a+(b+1)<c->a<c:=ai (c3 a b c) [A (S (P v0 (S v1))) v2] (S v0) v2 rfl
theorem Hq{a b c:Nat}:a+(b+1)<c->a+1+b<c:=ai (c3 a b c) [A (S (P v0 (S v1))) v2] (S (P (S v0) v1)) v2 rfl
theorem Vv{a b:Nat}:a≤b->¬(a<b)->a=b:=λh0 h1=>Nat.le_antisymm (ai (c2 a b) [A v0 v1] v0 v1 rfl h0) (ai (c2 b a) [(3,1,v0,v1)] v0 v1 rfl h1)
theorem Vw{a b c:Nat}:a+2*b≤900->c≤b->a+2*c≤900:=ai (c3 a b c) [A (P v0 (M 2 v1)) (n 900),(0,2,v2,v1)] (P v0 (M 2 v2)) (n 900) rfl
theorem Vx{a b c:Nat}:a+8*b≤8000->c≤b->a+8*c≤8000:=ai (c3 a b c) [A (P v0 (M 8 v1)) (n 8000),(0,8,v2,v1)] (P v0 (M 8 v2)) (n 8000) rfl
theorem Pl{a b:Nat}:a+2*(b+1)≤900->a+1+2*b≤900:=ai (c2 a b) [A (P v0 (M 2 (S v1))) (n 900)] (P (S v0) (M 2 v1)) (n 900) rfl
theorem Vy{a b:Nat}:a+8*(b+1)≤8000->a+3+8*b≤8000:=ai (c2 a b) [A (P v0 (M 8 (S v1))) (n 8000)] (P (P v0 (n 3)) (M 8 v1)) (n 8000) rfl
theorem Vz{a b:Nat}:a+2*(b+1)≤900->a<1000:=ai (c2 a b) [A (P v0 (M 2 (S v1))) (n 900)] (S v0) (n 1000) rfl
theorem VA{a b:Nat}:a+8*(b+1)≤8000->a+1+8*b≤8000:=ai (c2 a b) [A (P v0 (M 8 (S v1))) (n 8000)] (P (S v0) (M 8 v1)) (n 8000) rfl
theorem VB{a b:Nat}:a+8*b≤8000->a+1+8<9900:=ai (c2 a b) [A (P v0 (M 8 v1)) (n 8000)] (S (P (S v0) (n 8))) (n 9900) rfl
theorem VC{a b:Nat}:a<b->b-a=b-(a+1)+1:=λh0=>Nat.le_antisymm (ai (c4 (b-a) a b (b-(a+1))) [B (P v0 v1) v2,C v2 (P v3 (S v1))] v0 (S v3) rfl (Nat.sub_add_cancel (ai (c2 a b) [A (S v0) v1] v0 v1 rfl h0)) (Nat.sub_add_cancel (ai (c2 a b) [A (S v0) v1] (S v0) v1 rfl h0))) (ai (c4 b (b-a) a (b-(a+1))) [C v0 (P v1 v2),B (P v3 (S v2)) v0] (S v3) v1 rfl (Nat.sub_add_cancel (ai (c2 a b) [A (S v0) v1] v0 v1 rfl h0)) (Nat.sub_add_cancel (ai (c2 a b) [A (S v0) v1] (S v0) v1 rfl h0)))
theorem LC{a:Nat}:a<64->a≤16777216:=ai (c1 a) [A (S v0) (n 64)] v0 (n 16777216) rfl
theorem VD{a b:Nat}:a<2->a=b->b≤16777216+1:=ai (c2 a b) [A (S v0) (n 2),C v1 v0] v1 (S (n 16777216)) rfl
theorem VE{a b c:Nat}:a<2->b<a->c<b->False:=iB (c3 a b c) [A (S v0) (n 2),A (S v1) v0,A (S v2) v1] rfl
theorem VF{a:Nat}:a<64->a≤16777216+1:=ai (c1 a) [A (S v0) (n 64)] v0 (S (n 16777216)) rfl
theorem VG{a b c:Nat}:a+b+2<c->a+1+1+b<c:=ai (c3 a b c) [A (S (P (P v0 v1) (n 2))) v2] (S (P (S (S v0)) v1)) v2 rfl
theorem VH{a b c:Nat}:a-b≤0->b≤c->a≤c:=λh0 h1=>ai (c4 (a-b) b c a) [A v0 (n 0),A v1 v2,A v3 (P v0 v1)] v3 v2 rfl h0 h1 (sbA a b)
theorem VJ{a b c:Nat}:a≤b->¬(a<c)->c≤b:=ai (c3 a b c) [A v0 v1,(3,1,v2,v0)] v2 v1 rfl
theorem VK{a b c:Nat}:a<0->b<c:=λh0=>(iB (c1 a) [A (S v0) (n 0)] rfl h0).elim
theorem VL{a b c d:Nat}:a<b->b≤a->c≤d:=λh0 h1=>(iB (c2 a b) [A (S v0) v1,A v1 v0] rfl h0 h1).elim
theorem VN{a b c d:Nat}:a<b->b<a+1->c=d+1:=λh0 h1=>(iB (c2 a b) [A (S v0) v1,A (S v1) (S v0)] rfl h0 h1).elim
theorem VO{a b c d:Nat}:a=b->c=b->¬(d<a)->c≤d:=ai (c4 b a c d) [C v0 v1,B v2 v0,(3,1,v1,v3)] v2 v3 rfl
theorem VP{a b c:Nat}:a=b->b≤c->a≤c:=ai (c3 a b c) [B v0 v1,A v1 v2] v0 v2 rfl
theorem VQ{a b:Nat}:a=b+1->a>0:=ai (c2 b a) [C (S v0) v1] (S (n 0)) v1 rfl
theorem VR{a:Nat}:a+9-a≤9:=ai (c2 ((a+9)-a) a) [B (P v0 v1) (P v1 (n 9))] v0 (n 9) rfl (Nat.sub_add_cancel (ai (c1 a) [] v0 (P v0 (n 9)) rfl))
theorem VS{a:Nat}:a-a≤9:=ai (c2 (a-a) a) [B (P v0 v1) v1] v0 (n 9) rfl (Nat.sub_add_cancel (ai (c1 a) [] v0 v0 rfl))
theorem Pm{a b c:Nat}:a≤10->b≤10*c->a+b≤10*(c+1):=ai (c3 a b c) [A v0 (n 10),A v1 (M 10 v2)] (P v0 v1) (M 10 (S v2)) rfl
theorem VT{a b c d:Nat}:a≤10*13->b≤10*c->c≤d->a+b≤10*(13+d):=ai (c4 a b c d) [A v0 (M 10 (n 13)),A v1 (M 10 v2),(0,10,v2,v3)] (P v0 v1) (M 10 (P (n 13) v3)) rfl
theorem VU{a b c d:Nat}:a<b->b≤a->c=d:=λh0 h1=>(iB (c2 a b) [A (S v0) v1,A v1 v0] rfl h0 h1).elim
theorem VV{a b:Nat}:a+1≤b->b≤a->False:=iB (c2 a b) [A (S v0) v1,A v1 v0] rfl
theorem VW{a b:Nat}:a=7/\b≤4->b≤a:=λh0=>ai (c2 a b) [C (n 7) v0,A v1 (n 4)] v1 v0 rfl h0.1 h0.2
theorem VX{a b:Nat}:a=31/\b≤18->b≤a:=λh0=>ai (c2 a b) [C (n 31) v0,A v1 (n 18)] v1 v0 rfl h0.1 h0.2
theorem LD{a:Nat}:a<0->False:=iB (c1 a) [A (S v0) (n 0)] rfl
theorem VY{a b c:Nat}:a<b+1->b≤10*(13+c)->a≤10*(13+c):=ai (c3 a b c) [A (S v0) (S v1),A v1 (M 10 (P (n 13) v2))] v0 (M 10 (P (n 13) v2)) rfl
theorem VZ{a b:Nat}:a-b<0->False:=iB (c1 (a-b)) [A (S v0) (n 0)] rfl
theorem Pn{a b:Nat}:a<b->b≤a->False:=iB (c2 a b) [A (S v0) v1,A v1 v0] rfl
theorem Hr{a b c d e:Nat}:a<b->a=c->b=c->d=e:=λh0 h1 z=>(iB (c3 a b c) [A (S v0) v1,C v2 v0,B v1 v2] rfl h0 h1 z).elim
theorem V0{a b:Nat}:a≤b->¬(a=b)->a+1≤b:=λh0 h1=>(Nat.lt_or_gt_of_ne h1).elim (λz=>ai (c2 a b) [A (S v0) v1] (S v0) v1 rfl z) λz=>ai (c2 a b) [(0,2,v0,v1),A (S v1) v0] (S v0) v1 rfl h0 z
theorem V3{a b c:Nat}:a-b<c+1->b≤a->¬(b=a)->a-(b+1)<c:=λh0 h1 u=>(Nat.lt_or_gt_of_ne u).elim (λz=>ai (c5 (a-b) c a b (a-(b+1))) [A (S v0) (S v1),C v2 (P v0 v3),B (P v4 (S v3)) v2] (S v4) v1 rfl h0 (Nat.sub_add_cancel (ai (c2 b a) [A v0 v1] v0 v1 rfl h1)) (Nat.sub_add_cancel (ai (c2 b a) [A (S v0) v1] (S v0) v1 rfl z))) λz=>ai (c4 a b (a-(b+1)) c) [A (S v0) v1,B (P v2 (S v1)) v0] (S v2) v3 rfl z (Nat.sub_add_cancel (ai (c2 b a) [(0,2,v0,v1),A (S v1) v0] (S v0) v1 rfl h1 z))
theorem V4{a b c:Nat}:a≤10*(13+b)->a-c<10*(b+15):=λh0=>ai (c3 a b (a-c)) [A v0 (M 10 (P (n 13) v1)),A v2 v0] (S v2) (M 10 (P v1 (n 15))) rfl h0 (Nat.sub_le a c)
theorem V5{a b c d:Nat}:a-b<c+1->b≤d->d<a->a-(d+1)<c:=λh0 h1 z=>ai (c6 (a-b) c b d a (a-(d+1))) [A (S v0) (S v1),A v2 v3,C v4 (P v0 v2),B (P v5 (S v3)) v4] (S v5) v1 rfl h0 h1 (Nat.sub_add_cancel (ai (c3 b d a) [A v0 v1,A (S v1) v2] v0 v2 rfl h1 z)) (Nat.sub_add_cancel (ai (c2 d a) [A (S v0) v1] (S v0) v1 rfl z))
theorem V6{a b c:Nat}:a<b->b≤c->a<(min b c):=λh0 h1=>ai (c3 a b (min b c)) [A (S v0) v1,C v1 v2] (S v0) v2 rfl h0 (Nat.min_eq_left (ai (c2 b c) [A v0 v1] v0 v1 rfl h1))
theorem V7{a b c:Nat}:¬(a<b)->(min b c)≤a:=λh0=>ai (c3 b a (min b c)) [(3,1,v0,v1),A v2 v0] v2 v1 rfl h0 (Nat.min_le_left b c)
theorem V8{a b:Nat}:¬(a<b)->¬(a=b)->a-b=a-b-1+1:=λh0 h1=>(Nat.lt_or_gt_of_ne h1).elim (λz=>Nat.le_antisymm (ai (c2 (a-b) ((a-b)-1)) [C v0 (S v1)] v0 (S v1) rfl (Nat.sub_add_cancel (ai (c3 b a (a-b)) [(3,1,v0,v1),A (S v1) v0] (n 1) v2 rfl h0 z))) (ai (c2 ((a-b)-1) (a-b)) [B (S v0) v1] (S v0) v1 rfl (Nat.sub_add_cancel (ai (c3 b a (a-b)) [(3,1,v0,v1),A (S v1) v0] (n 1) v2 rfl h0 z)))) λz=>Nat.le_antisymm (ai (c2 (a-b) ((a-b)-1)) [C v0 (S v1)] v0 (S v1) rfl (Nat.sub_add_cancel (ai (c3 b a (a-b)) [A (S v0) v1,C v1 (P v2 v0)] (n 1) v2 rfl z (Nat.sub_add_cancel (ai (c2 b a) [(3,1,v0,v1)] v0 v1 rfl h0))))) (ai (c2 ((a-b)-1) (a-b)) [B (S v0) v1] (S v0) v1 rfl (Nat.sub_add_cancel (ai (c3 b a (a-b)) [A (S v0) v1,C v1 (P v2 v0)] (n 1) v2 rfl z (Nat.sub_add_cancel (ai (c2 b a) [(3,1,v0,v1)] v0 v1 rfl h0)))))
theorem Po{a:Nat}:a≤a+9:=ai (c1 a) [] v0 (P v0 (n 9)) rfl
theorem Pp{a:Nat}:a≤a:=ai (c1 a) [] v0 v0 rfl
theorem V9{a b c:Nat}:a<b-c+1->c≤b->a<b+1-c:=λh0 h1=>ai (c5 a (b-c) c b ((b+1)-c)) [A (S v0) (S v1),B (P v1 v2) v3,C (S v3) (P v4 v2)] (S v0) v4 rfl h0 (Nat.sub_add_cancel (ai (c2 c b) [A v0 v1] v0 v1 rfl h1)) (Nat.sub_add_cancel (ai (c2 c b) [A v0 v1] v0 (S v1) rfl h1))
theorem V'{a b:Nat}:a≤b->0<b+1-a:=λh0=>ai (c3 a b ((b+1)-a)) [A v0 v1,C (S v1) (P v2 v0)] (S (n 0)) v2 rfl h0 (Nat.sub_add_cancel (ai (c2 a b) [A v0 v1] v0 (S v1) rfl h0))
theorem Wa{a b:Nat}:a+9≤b->a≤a+9/\a+9≤b:=λh0=>⟨ai (c1 a) [] v0 (P v0 (n 9)) rfl,ai (c2 a b) [A (P v0 (n 9)) v1] (P v0 (n 9)) v1 rfl h0⟩
theorem Wb{a b:Nat}:a≤b->a≤a/\a≤b:=λh0=>⟨ai (c1 a) [] v0 v0 rfl,ai (c2 a b) [A v0 v1] v0 v1 rfl h0⟩
theorem Wc{a b c:Nat}:a+b≤c->b>0->a+1+(b-1)≤c:=λh0 h1=>ai (c4 a b c (b-1)) [A (P v0 v1) v2,B (S v3) v1] (P (S v0) v3) v2 rfl h0 (Nat.sub_add_cancel (ai (c1 b) [A (S (n 0)) v0] (n 1) v0 rfl h1))
theorem Pq{a b c:Nat}:a≤b/\b≤c->a+(b-a)≤c:=λh0=>ai (c4 b c (b-a) a) [A v0 v1,B (P v2 v3) v0] (P v3 v2) v1 rfl h0.2 (Nat.sub_add_cancel (ai (c2 a b) [A v0 v1] v0 v1 rfl h0.1))
theorem LF{a:Nat}:0<a+1:=ai (c1 a) [] (S (n 0)) (S v0) rfl
theorem Wd{a b:Nat}:a≤b->13+a<b+15:=ai (c2 a b) [A v0 v1] (S (P (n 13) v0)) (P v1 (n 15)) rfl
theorem We{a b c:Nat}:a+(b+1)≤c->a<c+1:=ai (c3 a b c) [A (P v0 (S v1)) v2] (S v0) (S v2) rfl
theorem Pr{a b:Nat}:a<b->a=b->False:=iB (c2 a b) [A (S v0) v1,C v1 v0] rfl
theorem Wf{a b c:Nat}:a+(b+1)≤c->a+1+b≤c:=ai (c3 a b c) [A (P v0 (S v1)) v2] (P (S v0) v1) v2 rfl
theorem Wg{a:Nat}:a≤18->a≤31:=ai (c1 a) [A v0 (n 18)] v0 (n 31) rfl
theorem Wh{a:Nat}:a+1≤18->a+1≤16777216:=ai (c1 a) [A (S v0) (n 18)] (S v0) (n 16777216) rfl
theorem aeP{a b:Nat}:(a+1)*5≥b*3->a+1≤18->b=31->a=4:=λh0 h1 z=>(iB (c2 b a) [A (.mulR v0 3) (.mulR (S v1) 5),(0,5,(S v1),(n 18)),(2,3,(n 31),v0)] rfl h0 h1 z).elim
theorem Wi{a b:Nat}:a=4->b=7->a+1≤b:=ai (c2 a b) [B v0 (n 4),C (n 7) v1] (S v0) v1 rfl
theorem Wj{a b:Nat}:a=31->b=4->b+1≤a:=ai (c2 a b) [C (n 31) v0,B v1 (n 4)] (S v1) v0 rfl
theorem Wk{a:Nat}:a=4->a+1≤16777216:=ai (c1 a) [B v0 (n 4)] (S v0) (n 16777216) rfl
theorem Wl{a b:Nat}:a=7->b≤10*(13+a)->b-0<100000:=λh0 h1=>ai (c3 a b (b-0)) [(1,10,v0,(n 7)),A v1 (M 10 (P (n 13) v0)),B (P v2 (n 0)) v1] (S v2) (n 100000) rfl h0 h1 (Nat.sub_add_cancel (ai (c1 b) [] (n 0) v0 rfl))
theorem Wm{a b:Nat}:a=31->b≤10*(13+a)->b-0<100000:=λh0 h1=>ai (c3 a b (b-0)) [(1,10,v0,(n 31)),A v1 (M 10 (P (n 13) v0)),B (P v2 (n 0)) v1] (S v2) (n 100000) rfl h0 h1 (Nat.sub_add_cancel (ai (c1 b) [] (n 0) v0 rfl))
theorem Pt{a b:Nat}:a+12<b->a+8<b:=ai (c2 a b) [A (S (P v0 (n 12))) v1] (S (P v0 (n 8))) v1 rfl
theorem Wn{a b:Nat}:a=b->a≤4*b+4:=ai (c2 a b) [B v0 v1] v0 (P (M 4 v1) (n 4)) rfl
theorem Wo{a b:Nat}:a-b=0->b≤a->b=a:=λh0 h1=>Nat.le_antisymm (ai (c2 b a) [A v0 v1] v0 v1 rfl h1) (ai (c3 (a-b) a b) [B v0 (n 0),C v1 (P v0 v2)] v1 v2 rfl h0 (Nat.sub_add_cancel (ai (c2 b a) [A v0 v1] v0 v1 rfl h1)))
theorem Wq{a b:Nat}:a+20<b->a+1+12<b:=ai (c2 a b) [A (S (P v0 (n 20))) v1] (S (P (S v0) (n 12))) v1 rfl
theorem Ws{a b c:Nat}:a<b->b≤18->c≤a->c+1≤18:=ai (c3 a b c) [A (S v0) v1,A v1 (n 18),A v2 v0] (S v2) (n 18) rfl
theorem Df{a b c:Nat}:a≤b->c≤a+1->c≤b+1:=ai (c3 a b c) [A v0 v1,A v2 (S v0)] v2 (S v1) rfl
theorem Wt{a b:Nat}:a+30<b->a+1+1+20<b:=ai (c2 a b) [A (S (P v0 (n 30))) v1] (S (P (S (S v0)) (n 20))) v1 rfl
theorem Dh{a b c:Nat}:a+b+2<c->a<c:=ai (c3 a b c) [A (S (P (P v0 v1) (n 2))) v2] (S v0) v2 rfl
theorem Di{a b c:Nat}:a+b+2<c->a+1+b<c:=ai (c3 a b c) [A (S (P (P v0 v1) (n 2))) v2] (S (P (S v0) v1)) v2 rfl
theorem Wu{a:Nat}{b c:Int}:a<0->b≠c:=λh0=>λz=>iB (c1 a) [A (S v0) (n 0)] rfl h0
theorem Pu{a b c:Nat}:a<b->b=c->a<c:=ai (c3 a b c) [A (S v0) v1,B v1 v2] (S v0) v2 rfl
theorem Wv{a:Nat}:a≤1000000->a≤16777216:=ai (c1 a) [A v0 (n 1000000)] v0 (n 16777216) rfl
theorem Ww{a b:Nat}:a≤b->b+1-a=b-a+1:=λh0=>Nat.le_antisymm (ai (c4 ((b+1)-a) a b (b-a)) [B (P v0 v1) (S v2),C v2 (P v3 v1)] v0 (S v3) rfl (Nat.sub_add_cancel (ai (c2 a b) [A v0 v1] v0 (S v1) rfl h0)) (Nat.sub_add_cancel (ai (c2 a b) [A v0 v1] v0 v1 rfl h0))) (ai (c4 b ((b+1)-a) a (b-a)) [C (S v0) (P v1 v2),B (P v3 v2) v0] (S v3) v1 rfl (Nat.sub_add_cancel (ai (c2 a b) [A v0 v1] v0 (S v1) rfl h0)) (Nat.sub_add_cancel (ai (c2 a b) [A v0 v1] v0 v1 rfl h0)))
theorem Wx{a b c d:Nat}:a<b->b=c+d->¬(a<c)->a-c<d:=λh0 h1 z=>ai (c5 a b c d (a-c)) [A (S v0) v1,B v1 (P v2 v3),B (P v4 v2) v0] (S v4) v3 rfl h0 h1 (Nat.sub_add_cancel (ai (c2 c a) [(3,1,v0,v1)] v0 v1 rfl z))
theorem Wy{a b c d:Nat}:a=b+c->¬(d<a)->b+c≤d:=ai (c4 b c a d) [C (P v0 v1) v2,(3,1,v2,v3)] (P v0 v1) v3 rfl
theorem Wz{a b c:Nat}:a+b+2≤c->a≤c:=ai (c3 a b c) [A (P (P v0 v1) (n 2)) v2] v0 v2 rfl
theorem WA{a b c:Nat}:a+b+2≤c->a+1≤c:=ai (c3 a b c) [A (P (P v0 v1) (n 2)) v2] (S v0) v2 rfl
theorem WC{a b c:Nat}:a+8*b≤8000->c=9900->a+130<c:=ai (c3 a b c) [A (P v0 (M 8 v1)) (n 8000),C (n 9900) v2] (S (P v0 (n 130))) v2 rfl
theorem Bh{a b c:Nat}:a+130<b->c≤100->a+c+2<b:=ai (c3 a b c) [A (S (P v0 (n 130))) v1,A v2 (n 100)] (S (P (P v0 v2) (n 2))) v1 rfl
theorem WD{a b c:Nat}:a+130<b->c≤100->a+c<b:=ai (c3 a b c) [A (S (P v0 (n 130))) v1,A v2 (n 100)] (S (P v0 v2)) v1 rfl
theorem Pw{a b:Nat}:a+130<b->a+30<b:=ai (c2 a b) [A (S (P v0 (n 130))) v1] (S (P v0 (n 30))) v1 rfl
theorem Px{a:Nat}:a≤0->¬(a=0)->False:=λh0 h1=>(Nat.lt_or_gt_of_ne h1).elim (λz=>iB (c1 a) [A (S v0) (n 0)] rfl z) λz=>iB (c1 a) [A v0 (n 0),A (S (n 0)) v0] rfl h0 z
theorem WG{a b c:Nat}:a+1≤b+1->c≤a+1->¬(c=a+1)->c≤b:=λh0 h1 u=>(Nat.lt_or_gt_of_ne u).elim (λz=>ai (c3 a b c) [A (S v0) (S v1),A (S v2) (S v0)] v2 v1 rfl h0 z) λz=>ai (c3 a b c) [A (S v0) (S v1),(0,2,v2,(S v0)),A (S (S v0)) v2] v2 v1 rfl h0 h1 z
theorem Py{a b:Nat}:a≤b+1->¬(a=b+1)->a≤b:=λh0 h1=>(Nat.lt_or_gt_of_ne h1).elim (λz=>ai (c2 a b) [A (S v0) (S v1)] v0 v1 rfl z) λz=>ai (c2 a b) [(0,2,v0,(S v1)),A (S (S v1)) v0] v0 v1 rfl h0 z
theorem WH{a:Nat}:a≠0->a=a-1+1:=λh0=>(Nat.lt_or_gt_of_ne h0).elim (λz=>Nat.le_antisymm (ai (c2 a (a-1)) [A (S v0) (n 0)] v0 (S v1) rfl z) (ai (c2 (a-1) a) [B (S v0) v1] (S v0) v1 rfl (Nat.sub_add_cancel (ai (c1 a) [A (S v0) (n 0)] (n 1) v0 rfl z)))) λz=>Nat.le_antisymm (ai (c2 a (a-1)) [C v0 (S v1)] v0 (S v1) rfl (Nat.sub_add_cancel (ai (c1 a) [A (S (n 0)) v0] (n 1) v0 rfl z))) (ai (c2 (a-1) a) [B (S v0) v1] (S v0) v1 rfl (Nat.sub_add_cancel (ai (c1 a) [A (S (n 0)) v0] (n 1) v0 rfl z)))
theorem WJ{a b c:Nat}:a+1<b->c≤a+1->c<b:=ai (c3 a b c) [A (S (S v0)) v1,A v2 (S v0)] (S v2) v1 rfl
theorem WK{a:Nat}:a≤100->a≤16777216:=ai (c1 a) [A v0 (n 100)] v0 (n 16777216) rfl
theorem WM{a:Nat}:a≤1000->a≤16777216:=ai (c1 a) [A v0 (n 1000)] v0 (n 16777216) rfl
theorem WN{a:Nat}:a≤100->a≤16777215:=ai (c1 a) [A v0 (n 100)] v0 (n 16777215) rfl
theorem WO{a b:Nat}:a=b->b≤30->a≤30:=ai (c2 a b) [B v0 v1,A v1 (n 30)] v0 (n 30) rfl
theorem WQ{a b:Int}:0≤a/\a≤b->0≤a/\a≤b*3:=λh0=>⟨aD (c1 a) [E (i 0) w0] (i 0) w0 rfl h0.1,aD (c2 a b) [(0,2,(i 0),w0),(0,3,w0,w1)] w0 (.mulR w1 3) rfl h0.1 h0.2⟩
theorem WR{a b c d:Int}:0≤a/\a≤b->1≤c->b≤2*c->d=1+a->0≤d/\d≤c*3:=λh0 h1 u z=>⟨aD (c2 a d) [E (i 0) w0,G (Q (i 1) w0) w1] (i 0) w1 rfl h0.1 z,aD (c4 a b c d) [E w0 w1,E (i 1) w2,E w1 (K 2 w2),F w3 (Q (i 1) w0)] w3 (.mulR w2 3) rfl h0.2 h1 u z⟩
theorem t8{a:Nat}:a≤2->a≤1000:=ai (c1 a) [A v0 (n 2)] v0 (n 1000) rfl
theorem PA{a:Nat}:a≤2->1+a≤1000:=ai (c1 a) [A v0 (n 2)] (P (n 1) v0) (n 1000) rfl
theorem pO{a:Nat}:a≤2->a+1≤1000:=ai (c1 a) [A v0 (n 2)] (S v0) (n 1000) rfl
theorem WS{a:Nat}:a≤30->a≤1000:=ai (c1 a) [A v0 (n 30)] v0 (n 1000) rfl
theorem LG{a b:Nat}:a=b->b≤30->a≤1000:=ai (c2 a b) [B v0 v1,A v1 (n 30)] v0 (n 1000) rfl
theorem WT{a b c:Nat}:a=b->a≤1000->c=b->c≤1000:=ai (c3 b a c) [C v0 v1,A v1 (n 1000),B v2 v0] v2 (n 1000) rfl
theorem WU{a:Nat}:a≤30->a+1≤1000:=ai (c1 a) [A v0 (n 30)] (S v0) (n 1000) rfl
theorem sE{a:Nat}:a≤100->a≤1000:=ai (c1 a) [A v0 (n 100)] v0 (n 1000) rfl
theorem WV{a b c:Nat}:a=b->c≥a->¬(c=b)->a+1≤c:=λh0 h1 u=>(Nat.lt_or_gt_of_ne u).elim (λz=>ai (c3 b a c) [C v0 v1,(0,2,v1,v2),A (S v2) v0] (S v1) v2 rfl h0 h1 z) λz=>ai (c3 a b c) [B v0 v1,A (S v1) v2] (S v0) v2 rfl h0 z
theorem WW{a:Nat}:a≤100->a+1≤1000:=ai (c1 a) [A v0 (n 100)] (S v0) (n 1000) rfl
theorem WX{a b:Nat}:a+b≤1000->a+b≤1000000:=ai (c2 a b) [A (P v0 v1) (n 1000)] (P v0 v1) (n 1000000) rfl
theorem WY{a b c:Nat}:a<b->(min c a)<b:=λh0=>ai (c3 a b (min c a)) [A (S v0) v1,A v2 v0] (S v2) v1 rfl h0 (Nat.min_le_right c a)
theorem PB{a b c:Nat}:a<b->c<b->(max a c)<b:=λh0 h1=>Nat.max_lt.mpr ⟨ai (c2 a b) [A (S v0) v1] (S v0) v1 rfl h0,ai (c2 c b) [A (S v0) v1] (S v0) v1 rfl h1⟩
theorem WZ{a b c d:Nat}:a<b->c=b->(min d a)<c:=λh0 h1=>ai (c4 a b c (min d a)) [A (S v0) v1,C v1 v2,A v3 v0] (S v3) v2 rfl h0 h1 (Nat.min_le_right d a)
theorem W0{a b c d:Nat}:a<b->c<b->d=b->(max a c)<d:=λh0 h1 z=>Nat.max_lt.mpr ⟨ai (c3 a b d) [A (S v0) v1,C v1 v2] (S v0) v2 rfl h0 z,ai (c3 c b d) [A (S v0) v1,C v1 v2] (S v0) v2 rfl h1 z⟩
theorem Hs{a b:Nat}:a=b->b≤100->a≤1000:=ai (c2 a b) [B v0 v1,A v1 (n 100)] v0 (n 1000) rfl
theorem W3{a b:Nat}:a≤100->b≤100->a+b≤1000:=ai (c2 a b) [A v0 (n 100),A v1 (n 100)] (P v0 v1) (n 1000) rfl
theorem W4{a b c:Nat}:a<b->c=b->a<c:=ai (c3 a b c) [A (S v0) v1,C v1 v2] (S v0) v2 rfl
theorem W5{a:Nat}:a≤50->a<64:=ai (c1 a) [A v0 (n 50)] (S v0) (n 64) rfl
theorem W6{a:Nat}:a≤100->a≤1000000:=ai (c1 a) [A v0 (n 100)] v0 (n 1000000) rfl
theorem PC{a:Nat}:a≤2->a≤100:=ai (c1 a) [A v0 (n 2)] v0 (n 100) rfl
theorem W7{a:Nat}:a≤100->1+a≤1000:=ai (c1 a) [A v0 (n 100)] (P (n 1) v0) (n 1000) rfl
theorem PD{a b:Nat}:a≤18->b≤a->b≤1000:=ai (c2 a b) [A v0 (n 18),A v1 v0] v1 (n 1000) rfl
theorem PE{a b:Nat}:a≤18->b≤a->b<64:=ai (c2 a b) [A v0 (n 18),A v1 v0] (S v1) (n 64) rfl
theorem PF{a:Nat}:a≤18->a≤50:=ai (c1 a) [A v0 (n 18)] v0 (n 50) rfl
theorem PG{a:Nat}:a≤18->a≤1000:=ai (c1 a) [A v0 (n 18)] v0 (n 1000) rfl
theorem Ht{a:Nat}:a≤900->a≤1000:=ai (c1 a) [A v0 (n 900)] v0 (n 1000) rfl
theorem W8{a:Nat}:a≤900->a+1≤1000:=ai (c1 a) [A v0 (n 900)] (S v0) (n 1000) rfl
theorem PH{a b:Nat}:a≤400->b≤400->a+b≤1000:=ai (c2 a b) [A v0 (n 400),A v1 (n 400)] (P v0 v1) (n 1000) rfl
theorem LH{a b c:Nat}:a<b->b<c->a<c:=ai (c3 a b c) [A (S v0) v1,A (S v1) v2] (S v0) v2 rfl
theorem W9{a b:Nat}:a≤b->¬(a=b)->a<b:=λh0 h1=>(Nat.lt_or_gt_of_ne h1).elim (λz=>ai (c2 a b) [A (S v0) v1] (S v0) v1 rfl z) λz=>ai (c2 a b) [(0,2,v0,v1),A (S v1) v0] (S v0) v1 rfl h0 z
theorem Xa{a b c:Nat}:a<b->c≤a->c<b:=ai (c3 a b c) [A (S v0) v1,A v2 v0] (S v2) v1 rfl
theorem Xb{a b c:Nat}:a≤b->c+a≤c+b:=ai (c3 a b c) [A v0 v1] (P v2 v0) (P v2 v1) rfl
theorem Xc{a b c:Nat}:a≤b->a≤c+b:=ai (c3 a b c) [A v0 v1] v0 (P v2 v1) rfl
theorem Xd{a b c:Nat}:a≤b->a+c≤c+b:=ai (c3 a b c) [A v0 v1] (P v0 v2) (P v2 v1) rfl
theorem Xe{a b c d:Nat}:a+b≤c->d+a+b≤d+c:=ai (c4 a b c d) [A (P v0 v1) v2] (P (P v3 v0) v1) (P v3 v2) rfl
theorem Xf{a b c:Nat}:a+b+c=c+b+a:=Nat.le_antisymm (ai (c3 a b c) [] (P (P v0 v1) v2) (P (P v2 v1) v0) rfl) (ai (c3 c b a) [] (P (P v0 v1) v2) (P (P v2 v1) v0) rfl)
theorem Xg{a b c d e:Nat}:a+b=c+d->e+a+b=e+c+d:=λh0=>Nat.le_antisymm (ai (c5 a b c d e) [B (P v0 v1) (P v2 v3)] (P (P v4 v0) v1) (P (P v4 v2) v3) rfl h0) (ai (c5 c d a b e) [C (P v0 v1) (P v2 v3)] (P (P v4 v0) v1) (P (P v4 v2) v3) rfl h0)
theorem Xh{a b c d:Nat}:a<b->a=c->c=b->c≠b/\d=c:=λh0 h1 z=>⟨λu=>iB (c3 a b c) [A (S v0) v1,C v2 v0,C v1 v2] rfl h0 h1 z,(iB (c3 a b c) [A (S v0) v1,C v2 v0,C v1 v2] rfl h0 h1 z).elim⟩
theorem PJ{a b:Nat}:a<b->b=a->False:=iB (c2 a b) [A (S v0) v1,B v1 v0] rfl
theorem Xi{a b c d e f:Nat}:a+b=c+(b+d)->c+d≤e->e≤2*f->a≤2*f:=ai (c6 a b c d e f) [B (P v0 v1) (P v2 (P v1 v3)),A (P v2 v3) v4,A v4 (M 2 v5)] v0 (M 2 v5) rfl
theorem Xj{a b c d e:Nat}:a<b->b<c->d=c->d=e->a<e:=ai (c5 a b c d e) [A (S v0) v1,A (S v1) v2,C v2 v3,B v3 v4] (S v0) v4 rfl
theorem Xk{a b c d:Nat}:a+1=b->c+b=d->c+1+a=d:=λh0 h1=>Nat.le_antisymm (ai (c4 a b c d) [B (S v0) v1,B (P v2 v1) v3] (P (S v2) v0) v3 rfl h0 h1) (ai (c4 b a d c) [C v0 (S v1),C v2 (P v3 v0)] v2 (P (S v3) v1) rfl h0 h1)
theorem Xl{a b c:Nat}:a≤b+c->a+1≤b+1+c:=ai (c3 a b c) [A v0 (P v1 v2)] (S v0) (P (S v1) v2) rfl
theorem Xm{a b c d e f g:Nat}:a+1=b->c+d≤e->e≤2*f->f≤7->g+d+15*a+1≤g+15*b:=ai (c7 a b c d e f g) [(1,15,(S v0),v1),A (P v2 v3) v4,A v4 (M 2 v5),(0,2,v5,(n 7))] (S (P (P v6 v3) (M 15 v0))) (P v6 (M 15 v1)) rfl
theorem Xn{a b:Nat}:a≤7->b≤a->b≤18:=ai (c2 a b) [A v0 (n 7),A v1 v0] v1 (n 18) rfl
theorem Xo{a b c d:Nat}:a+b≤c->c≤2*d->d≤7->b≤14:=ai (c4 a b c d) [A (P v0 v1) v2,A v2 (M 2 v3),(0,2,v3,(n 7))] v1 (n 14) rfl
theorem PK{a b:Nat}:a≠b->(min a b)<(max a b):=λh0=>(Nat.lt_or_gt_of_ne h0).elim (λz=>ai (c4 a b (min a b) (max a b)) [A (S v0) v1,B v2 v0,C v1 v3] (S v2) v3 rfl z (Nat.min_eq_left (ai (c2 a b) [A (S v0) v1] v0 v1 rfl z)) (Nat.max_eq_right (ai (c2 a b) [A (S v0) v1] v0 v1 rfl z))) λz=>ai (c4 b a (min a b) (max a b)) [A (S v0) v1,B v2 v0,C v1 v3] (S v2) v3 rfl z (Nat.min_eq_right (ai (c2 b a) [A (S v0) v1] v0 v1 rfl z)) (Nat.max_eq_left (ai (c2 b a) [A (S v0) v1] v0 v1 rfl z))
theorem PL{a b:Nat}:(min a b)=(min a b):=Nat.le_antisymm (ai (c1 (min a b)) [] v0 v0 rfl) (ai (c1 (min a b)) [] v0 v0 rfl)
theorem Dj{a:Nat}:a≤7->a≤100:=ai (c1 a) [A v0 (n 7)] v0 (n 100) rfl
theorem PM{a b c:Nat}:a+b=c->c≤100->a≤900:=ai (c3 a b c) [B (P v0 v1) v2,A v2 (n 100)] v0 (n 900) rfl
theorem PO{a b c d e:Nat}:a+b=c->c≤100->d≤100->e≤a+d->e≤900:=ai (c5 a b c d e) [B (P v0 v1) v2,A v2 (n 100),A v3 (n 100),A v4 (P v0 v3)] v4 (n 900) rfl
theorem PQ{a b:Nat}:a+15*b≤300->a≤400:=ai (c2 a b) [A (P v0 (M 15 v1)) (n 300)] v0 (n 400) rfl
theorem PR{a b:Nat}:a≤100->b≤a->b≤900:=ai (c2 a b) [A v0 (n 100),A v1 v0] v1 (n 900) rfl
theorem PS{a:Nat}:a≤18->a≤100:=ai (c1 a) [A v0 (n 18)] v0 (n 100) rfl
theorem Hu{a:Nat}:a≤14->a≤400:=ai (c1 a) [A v0 (n 14)] v0 (n 400) rfl
theorem Xp{a b c:Nat}:a+(b+15*c)≤300->b≤1000:=ai (c3 a b c) [A (P v0 (P v1 (M 15 v2))) (n 300)] v1 (n 1000) rfl
theorem Xq{a b:Nat}:a=b+1->a≤1000->b≤1000000:=ai (c2 b a) [C (S v0) v1,A v1 (n 1000)] v0 (n 1000000) rfl
theorem Xr{a b:Nat}:a+b≤300->a≤900:=ai (c2 a b) [A (P v0 v1) (n 300)] v0 (n 900) rfl
theorem Xs{a b c:Nat}:a+1=b->c+b≤300->a≤300:=ai (c3 a b c) [B (S v0) v1,A (P v2 v1) (n 300)] v0 (n 300) rfl
theorem Xu{a b c:Nat}:a+1=b->c≤a->c<b:=ai (c3 a b c) [B (S v0) v1,A v2 v0] (S v2) v1 rfl
theorem Xv{a b c d e:Nat}:a+1=b->c+b≤300->d≤a->e≤c+1->e+d≤300:=ai (c5 a b c d e) [B (S v0) v1,A (P v2 v1) (n 300),A v3 v0,A v4 (S v2)] (P v4 v3) (n 300) rfl
theorem Xw{a b:Nat}:¬(a<b)->¬(a=b)->1≤a-b:=λh0 h1=>(Nat.lt_or_gt_of_ne h1).elim (λz=>ai (c3 b a (a-b)) [(3,1,v0,v1),A (S v1) v0] (n 1) v2 rfl h0 z) λz=>ai (c3 b a (a-b)) [A (S v0) v1,C v1 (P v2 v0)] (n 1) v2 rfl z (Nat.sub_add_cancel (ai (c2 b a) [(3,1,v0,v1)] v0 v1 rfl h0))
theorem Xx{a b:Nat}:a<b+1->¬(a<b)->a=b:=λh0 h1=>Nat.le_antisymm (ai (c2 a b) [A (S v0) (S v1)] v0 v1 rfl h0) (ai (c2 b a) [(3,1,v0,v1)] v0 v1 rfl h1)
theorem Xy{a b:Nat}:¬(a<b)->b≤a:=ai (c2 b a) [(3,1,v0,v1)] v0 v1 rfl
theorem Xz{a b c d e f:Nat}:a+(b+1)=c+d->e+f=a+(f+1)->e+b=c+d:=λh0 h1=>Nat.le_antisymm (ai (c6 a b c d e f) [B (P v0 (S v1)) (P v2 v3),B (P v4 v5) (P v0 (S v5))] (P v4 v1) (P v2 v3) rfl h0 h1) (ai (c6 c d a b f e) [C (P v0 v1) (P v2 (S v3)),C (P v2 (S v4)) (P v5 v4)] (P v0 v1) (P v5 v3) rfl h0 h1)
theorem XA{a b c d:Nat}:a<b->b<c->c=d->a<d:=ai (c4 a b c d) [A (S v0) v1,A (S v1) v2,B v2 v3] (S v0) v3 rfl
theorem LI{a b:Nat}:a=b->a<b+1:=ai (c2 a b) [B v0 v1] (S v0) (S v1) rfl
theorem PT{a b:Nat}:a<b+1->a≠b->a<b:=λh0 h1=>(Nat.lt_or_gt_of_ne h1).elim (λz=>ai (c2 a b) [A (S v0) v1] (S v0) v1 rfl z) λz=>ai (c2 a b) [(0,2,(S v0),(S v1)),A (S v1) v0] (S v0) v1 rfl h0 z
theorem XB{a b c:Nat}:a<b->a=b->c=b:=λh0 h1=>(iB (c2 a b) [A (S v0) v1,C v1 v0] rfl h0 h1).elim
theorem PU{a b c:Nat}:a=b+1->b≤c->a≤c+1:=ai (c3 a b c) [B v0 (S v1),A v1 v2] v0 (S v2) rfl
theorem XC{a b c d e:Nat}:a+0=b+c+d->b≤2*e->c=0->d≤2->a≤2*(e+1):=ai (c5 a b c d e) [B (P v0 (n 0)) (P (P v1 v2) v3),A v1 (M 2 v4),B v2 (n 0),A v3 (n 2)] v0 (M 2 (S v4)) rfl
theorem XD{a b:Nat}:a=b->b<a+1:=ai (c2 b a) [C v0 v1] (S v0) (S v1) rfl
theorem XE{a b c:Nat}:a+b=c->a+(b+1)=c+1:=λh0=>Nat.le_antisymm (ai (c3 a b c) [B (P v0 v1) v2] (P v0 (S v1)) (S v2) rfl h0) (ai (c3 c a b) [C v0 (P v1 v2)] (S v0) (P v1 (S v2)) rfl h0)
theorem XF{a b:Nat}:a=b->b≤6->a≤30:=ai (c2 a b) [B v0 v1,A v1 (n 6)] v0 (n 30) rfl
theorem XG{a b:Nat}:a=b->b≤30->a≤100:=ai (c2 a b) [B v0 v1,A v1 (n 30)] v0 (n 100) rfl
theorem XH{a b:Nat}:a=b->a≤30->b≤100:=ai (c2 b a) [C v0 v1,A v1 (n 30)] v0 (n 100) rfl
theorem XI{a b:Nat}:a=b->a≤30->b+1≤100:=ai (c2 b a) [C v0 v1,A v1 (n 30)] (S v0) (n 100) rfl
theorem XJ{a:Nat}:a≤2->a≤18:=ai (c1 a) [A v0 (n 2)] v0 (n 18) rfl
theorem XK{a:Nat}:a≤14->a≤100:=ai (c1 a) [A v0 (n 14)] v0 (n 100) rfl
theorem XM{a b c:Nat}:a=b->b=c+1->c≤a:=ai (c3 b a c) [C v0 v1,C (S v2) v0] v2 v1 rfl
theorem XN{a b c:Nat}:a=b->b=c+1->1≤a:=ai (c3 b a c) [C v0 v1,C (S v2) v0] (n 1) v1 rfl
theorem XO{a b c:Nat}:a=b->b=c+1->a≤c+1:=ai (c3 a b c) [B v0 v1,B v1 (S v2)] v0 (S v2) rfl
theorem XQ{a:Nat}:a<60->a+1≤64:=ai (c1 a) [A (S v0) (n 60)] (S v0) (n 64) rfl
theorem PV{a:Nat}:1≤a->((a:Nat):Int)≠0:=λh0=>λz=>vz (c1 ((a:Nat):Int)) [F w0 (i 0),E (i 1) w0] rfl z (Int.ofNat_le.mpr h0)
theorem XR{a:Nat}:1≤a->0<((a:Nat):Int):=λh0=>aD (c1 ((a:Nat):Int)) [E (i 1) w0] (T (i 0)) w0 rfl (Int.ofNat_le.mpr h0)
theorem XS{a:Int}{b:Nat}:(((Int.toNat (a+1)):Nat):Int)=a+1->a+1<((b:Nat):Int)->(Int.toNat (a+1))<b:=λh0 h1=>Int.ofNat_le.mp (aD (c3 (((Int.toNat (a+1)):Nat):Int) a ((b:Nat):Int)) [F w0 (T w1),E (T (T w1)) w2] (T w0) w2 rfl h0 h1)
theorem aeQ{a b:Nat}:a<(max a b)+1:=ai (c2 a (max a b)) [A v0 v1] (S v0) (S v1) rfl (Nat.le_max_left a b)
theorem aeR{a b:Nat}:a<(max b a)+1:=ai (c2 a (max b a)) [A v0 v1] (S v0) (S v1) rfl (Nat.le_max_right b a)
theorem XT{a b:Nat}:a+1≤b->a+1+1≤b*2:=ai (c2 a b) [(0,2,(S v0),v1)] (S (S v0)) (.mulR v1 2) rfl
theorem XU{a b:Nat}:a+1≤(max a b)+1:=ai (c2 a (max a b)) [A v0 v1] (S v0) (S v1) rfl (Nat.le_max_left a b)
theorem XW{a b:Nat}:a+1≤(max b a)+1:=ai (c2 a (max b a)) [A v0 v1] (S v0) (S v1) rfl (Nat.le_max_right b a)
theorem XX{a b c d e:Nat}:a+1≤b->b≤c->d+1≤e->e≤c->a+d+1+1≤c*2:=ai (c5 a b c d e) [A (S v0) v1,A v1 v2,A (S v3) v4,A v4 v2] (S (S (P v0 v3))) (.mulR v2 2) rfl
theorem XY{a:Nat}:a≤7->a+1≤8:=ai (c1 a) [A v0 (n 7)] (S v0) (n 8) rfl
theorem XZ{a b:Nat}:a+1+b=a+(b+1):=Nat.le_antisymm (ai (c2 a b) [] (P (S v0) v1) (P v0 (S v1)) rfl) (ai (c2 a b) [] (P v0 (S v1)) (P (S v0) v1) rfl)
theorem aeS{a b c:Nat}:a≤b->a+1≤(max b c)+1:=λh0=>ai (c3 a b (max b c)) [A v0 v1,A v1 v2] (S v0) (S v2) rfl h0 (Nat.le_max_left b c)
theorem aeT{a b c:Nat}:a≤b->a+1≤(max c b)+1:=λh0=>ai (c3 a b (max c b)) [A v0 v1,A v1 v2] (S v0) (S v2) rfl h0 (Nat.le_max_right c b)
theorem X0{a b c d:Nat}:a+(b+c)+1=d->d≤255->b≤1000:=ai (c4 a b c d) [B (S (P v0 (P v1 v2))) v3,A v3 (n 255)] v1 (n 1000) rfl
theorem X1{a b c d:Nat}:a+(b+c)+1=d->d≤255->a+1+b≤1000000:=ai (c4 a b c d) [B (S (P v0 (P v1 v2))) v3,A v3 (n 255)] (P (S v0) v1) (n 1000000) rfl
theorem X2{a b c:Nat}:a<b->b≤7->c≤a->1+c≤1000:=ai (c3 a b c) [A (S v0) v1,A v1 (n 7),A v2 v0] (P (n 1) v2) (n 1000) rfl
theorem LJ{a b:Nat}:a<b->b≤7->a≤7:=ai (c2 a b) [A (S v0) v1,A v1 (n 7)] v0 (n 7) rfl
theorem PX{a b c:Nat}:a<b->0+a+1≤c+b:=ai (c3 a b c) [A (S v0) v1] (S (P (n 0) v0)) (P v2 v1) rfl
theorem X3{a b:Nat}:a≤7->0+a+1≤b+8:=ai (c2 a b) [A v0 (n 7)] (S (P (n 0) v0)) (P v1 (n 8)) rfl
theorem X4{a b:Nat}:a=b->b≤255->a≤1000:=ai (c2 a b) [B v0 v1,A v1 (n 255)] v0 (n 1000) rfl
theorem LK{a b:Nat}:a≤b->a≤b+1:=ai (c2 a b) [A v0 v1] v0 (S v1) rfl
theorem X5{a b:Nat}:a≤b->a+1≤b+1:=ai (c2 a b) [A v0 v1] (S v0) (S v1) rfl
theorem X6{a b c d:Nat}:a≤b->c≤d->a+c≤b+d:=ai (c4 a b c d) [A v0 v1,A v2 v3] (P v0 v2) (P v1 v3) rfl
theorem X7{a b:Nat}:a<b->b≤0->False:=iB (c2 a b) [A (S v0) v1,A v1 (n 0)] rfl
theorem PY{a b c:Nat}:a<b->b≤c+1->a≤c:=ai (c3 a b c) [A (S v0) v1,A v1 (S v2)] v0 v2 rfl
theorem X8{a b c:Nat}:(max a b)+1≤c+1->a≤c:=λh0=>ai (c3 (max a b) c a) [A (S v0) (S v1),A v2 v0] v2 v1 rfl h0 (Nat.le_max_left a b)
theorem X9{a b c:Nat}:(max a b)+1≤c+1->b≤c:=λh0=>ai (c3 (max a b) c b) [A (S v0) (S v1),A v2 v0] v2 v1 rfl h0 (Nat.le_max_right a b)
theorem X'{a b:Int}:1≤a->1≤b->1≤a+b:=aD (c2 a b) [E (i 1) w0,E (i 1) w1] (i 1) (Q w0 w1) rfl
theorem Yb{a b c:Int}:1≤a->1≤b->1≤c->1≤a+(b+c):=aD (c3 a b c) [E (i 1) w0,E (i 1) w1,E (i 1) w2] (i 1) (Q w0 (Q w1 w2)) rfl
theorem Yc{a b:Int}{c:Nat}:a≤4->b≤4*((c:Nat):Int)->a+b≤4*((c+1:Nat):Int):=aD (c3 a b ((c:Nat):Int)) [E w0 (i 4),E w1 (K 4 w2)] (Q w0 w1) (K 4 (T w2)) rfl
theorem Yd{a b:Int}{c:Nat}{d:Int}{e:Nat}:a≤4->b≤4*((c:Nat):Int)->d≤4*((e:Nat):Int)->a+(b+d)≤4*((c+e+1:Nat):Int):=aD (c5 a b ((c:Nat):Int) d ((e:Nat):Int)) [E w0 (i 4),E w1 (K 4 w2),E w3 (K 4 w4)] (Q w0 (Q w1 w3)) (K 4 (T (Q w2 w4))) rfl
theorem Ye{a b c:Int}:1≤a->1≤b->c<a+(c+b):=aD (c3 a b c) [E (i 1) w0,E (i 1) w1] (T w2) (Q w0 (Q w2 w1)) rfl
theorem Yg{a b c:Int}:1≤a->1≤b->c<a+(b+c):=aD (c3 a b c) [E (i 1) w0,E (i 1) w1] (T w2) (Q w0 (Q w1 w2)) rfl
theorem Yh{a b c:Int}:a<b->c≤a->c≤b:=aD (c3 a b c) [E (T w0) w1,E w2 w0] w2 w1 rfl
theorem Yi{a b c:Int}:a<b->c≤a->c<b:=aD (c3 a b c) [E (T w0) w1,E w2 w0] (T w2) w1 rfl
theorem Yj{a:Nat}:a+1+1+1≤2->False:=iB (c1 a) [A (S (S (S v0))) (n 2)] rfl
theorem Yk{a b:Nat}:a≤b->(max a b)+1=b+1:=λh0=>Nat.le_antisymm (ai (c2 (max a b) b) [B v0 v1] (S v0) (S v1) rfl (Nat.max_eq_right (ai (c2 a b) [A v0 v1] v0 v1 rfl h0))) (ai (c2 b (max a b)) [C v0 v1] (S v0) (S v1) rfl (Nat.max_eq_right (ai (c2 a b) [A v0 v1] v0 v1 rfl h0)))
theorem Yl{a b:Nat}:a≤b->(max b a)+1=b+1:=λh0=>Nat.le_antisymm (ai (c2 (max b a) b) [B v0 v1] (S v0) (S v1) rfl (Nat.max_eq_left (ai (c2 a b) [A v0 v1] v0 v1 rfl h0))) (ai (c2 b (max b a)) [C v0 v1] (S v0) (S v1) rfl (Nat.max_eq_left (ai (c2 a b) [A v0 v1] v0 v1 rfl h0)))
theorem LL{a b:Nat}:a≤7->b≤a->b≤7:=ai (c2 a b) [A v0 (n 7),A v1 v0] v1 (n 7) rfl
theorem Ym{a b c:Nat}:a=b+1->a≤c->c≤7->b≤6:=ai (c3 b a c) [C (S v0) v1,A v1 v2,A v2 (n 7)] v0 (n 6) rfl
theorem Yn{a b:Nat}:a=b+1->a≤b->False:=iB (c2 b a) [C (S v0) v1,A v1 v0] rfl
theorem Yo{a b:Nat}:a=0->a≤b+1:=ai (c2 a b) [B v0 (n 0)] v0 (S v1) rfl
theorem Yp{a b c:Int}:a<b->b≤c->c≤a->False:=vz (c3 a b c) [E (T w0) w1,E w1 w2,E w2 w0] rfl
theorem PZ{a b:Nat}:a≤b->a≤b:=ai (c2 a b) [A v0 v1] v0 v1 rfl
theorem Yq{a b:Nat}:a<b->a<b:=ai (c2 a b) [A (S v0) v1] (S v0) v1 rfl
theorem Yr{a b:Nat}:a<b->a<b+1:=ai (c2 a b) [A (S v0) v1] (S v0) (S v1) rfl
theorem LM{a b:Nat}:a≤2->b≤a->b≤1000:=ai (c2 a b) [A v0 (n 2),A v1 v0] v1 (n 1000) rfl
theorem Ys{a b:Nat}:a≤2->b≤a->1+b≤1000:=ai (c2 a b) [A v0 (n 2),A v1 v0] (P (n 1) v1) (n 1000) rfl
theorem Yt{a:Int}{b:Nat}:1≤a->a≤4*((b:Nat):Int)->b≤255->0≤a/\a≤2000:=λh0 h1 z=>⟨aD (c1 a) [E (i 1) w0] (i 0) w0 rfl h0,aD (c2 a ((b:Nat):Int)) [E w0 (K 4 w1),(0,4,w1,(i 255))] w0 (i 2000) rfl h1 (Int.ofNat_le.mpr z)⟩
theorem Yu{a b:Nat}:((a:Nat):Int)<((b:Nat):Int)->a=b->False:=λh0 h1=>vz (c2 ((a:Nat):Int) ((b:Nat):Int)) [E (T w0) w1,G w1 w0] rfl h0 (congrArg Int.ofNat h1)
theorem Yv{a b:Nat}:a≤b->¬(((a:Nat):Int)<((b:Nat):Int))->a=b:=λh0 h1=>Nat.le_antisymm (ai (c2 a b) [A v0 v1] v0 v1 rfl h0) (Int.ofNat_le.mp (aD (c2 ((b:Nat):Int) ((a:Nat):Int)) [(3,1,w0,w1)] w0 w1 rfl h1))
theorem qH{a:Nat}:a≤7->a≤1000:=ai (c1 a) [A v0 (n 7)] v0 (n 1000) rfl
theorem Yw{a b c d:Nat}:a<b->c≤2->d+c+3*a<d+1+3*b:=ai (c4 a b c d) [(0,3,(S v0),v1),A v2 (n 2)] (S (P (P v3 v2) (M 3 v0))) (P (S v3) (M 3 v1)) rfl
theorem Yx{a b c d:Nat}:a+3*b<c+3*d->c+3*d≤100->a≤100:=ai (c4 a b c d) [A (S (P v0 (M 3 v1))) (P v2 (M 3 v3)),A (P v2 (M 3 v3)) (n 100)] v0 (n 100) rfl
theorem Yy{a b c d:Nat}:a+3*b<c+3*d->c+3*d≤100->a+3*b≤100:=ai (c4 a b c d) [A (S (P v0 (M 3 v1))) (P v2 (M 3 v3)),A (P v2 (M 3 v3)) (n 100)] (P v0 (M 3 v1)) (n 100) rfl
theorem Yz{a b:Nat}:a+3*b<a+1+3*b:=ai (c2 a b) [] (S (P v0 (M 3 v1))) (P (S v0) (M 3 v1)) rfl
theorem YA{a b:Nat}:a≤100->b≤2->a+b≤1000000:=ai (c2 a b) [A v0 (n 100),A v1 (n 2)] (P v0 v1) (n 1000000) rfl
theorem YB{a b:Nat}:a≤2->b≤7->a+3*b≤100:=ai (c2 a b) [A v0 (n 2),(0,3,v1,(n 7))] (P v0 (M 3 v1)) (n 100) rfl
theorem P0{a b:Nat}:a≤7->b≤a->b≤1000:=ai (c2 a b) [A v0 (n 7),A v1 v0] v1 (n 1000) rfl
theorem YC{a b c:Int}:a≤(min b c)->a≤b:=λh0=>aD (c3 a (min b c) b) [E w0 w1,E w1 w2] w0 w2 rfl h0 (Int.min_le_left b c)
theorem YD{a b c:Int}:a≤(min b c)->a≤c:=λh0=>aD (c3 a (min b c) c) [E w0 w1,E w1 w2] w0 w2 rfl h0 (Int.min_le_right b c)
theorem YE{a b:Int}:a≤b->(min b a)=a:=λh0=>Int.le_antisymm (aD (c2 (min b a) a) [F w0 w1] w0 w1 rfl (Int.min_eq_right (aD (c2 a b) [E w0 w1] w0 w1 rfl h0))) (aD (c2 a (min b a)) [G w0 w1] w0 w1 rfl (Int.min_eq_right (aD (c2 a b) [E w0 w1] w0 w1 rfl h0)))
theorem YF{a b c d:Int}:a≤b->c≤d->a+(c+0)≤b+(d+0):=aD (c4 a b c d) [E w0 w1,E w2 w3] (Q w0 (Q w2 (i 0))) (Q w1 (Q w3 (i 0))) rfl
theorem P7{a b:Nat}:a≤2->b≤7->b+a≤1000:=ai (c2 a b) [A v0 (n 2),A v1 (n 7)] (P v1 v0) (n 1000) rfl
theorem YG{a b:Nat}:a≤2->b≤7->b+a≤18:=ai (c2 a b) [A v0 (n 2),A v1 (n 7)] (P v1 v0) (n 18) rfl
theorem YH{a:Nat}:a≤7->a+1≤1000:=ai (c1 a) [A v0 (n 7)] (S v0) (n 1000) rfl
theorem Qa{a:Nat}:a≤40->a≤1000:=ai (c1 a) [A v0 (n 40)] v0 (n 1000) rfl
theorem Qb{a:Nat}:a≤40->a<64:=ai (c1 a) [A v0 (n 40)] (S v0) (n 64) rfl
theorem YI{a b:Nat}:((a:Nat):Int)≤((b:Nat):Int)->a≠b->a<b:=λh0 h1=>(Nat.lt_or_gt_of_ne h1).elim (λz=>ai (c2 a b) [A (S v0) v1] (S v0) v1 rfl z) λz=>Int.ofNat_le.mp (aD (c2 ((a:Nat):Int) ((b:Nat):Int)) [(0,2,w0,w1),E (T w1) w0] (T w0) w1 rfl h0 (Int.ofNat_lt.mpr z))
theorem YJ{a b c d e:Nat}:a+b≤128->b=c+d->e≤c->e≤1000:=ai (c5 a b c d e) [A (P v0 v1) (n 128),C (P v2 v3) v1,A v4 v2] v4 (n 1000) rfl
theorem YK{a b c d e:Nat}:1≤a->b=c->b=d+a->e≤d->e+1≤c:=ai (c5 a b c d e) [A (n 1) v0,B v1 v2,C (P v3 v0) v1,A v4 v3] (S v4) v2 rfl
theorem YL{a b c d e:Nat}:a<b->c=d->c=e+b->e+a+1≤d:=ai (c5 a b c d e) [A (S v0) v1,B v2 v3,C (P v4 v1) v2] (S (P v4 v0)) v3 rfl
theorem YM{a b c d:Nat}:a+1≤b->c+b≤128->d≤c+1->d+a≤128:=ai (c4 a b c d) [A (S v0) v1,A (P v2 v1) (n 128),A v3 (S v2)] (P v3 v0) (n 128) rfl
theorem YN{a b:Nat}:a+b≤128->¬(2000<((a:Nat):Int)+1):=λh0=>λz=>vz (c2 ((a:Nat):Int) ((b:Nat):Int)) [E (T (i 2000)) (T w0),E (Q w0 w1) (i 128),E (i 0) w1] rfl z (Int.ofNat_le.mpr h0) (Int.natCast_nonneg b)
theorem LN{a:Nat}:a≤7->a≤40:=ai (c1 a) [A v0 (n 7)] v0 (n 40) rfl
theorem YO{a b:Nat}:a≤2->b≤28->b+1+a≤1000000:=ai (c2 a b) [A v0 (n 2),A v1 (n 28)] (P (S v1) v0) (n 1000000) rfl
theorem YQ{a b c d:Nat}:a+4*b=c->a=d+1->c≤29->d≤1000000:=ai (c4 a b c d) [B (P v0 (M 4 v1)) v2,C (S v3) v0,A v2 (n 29)] v3 (n 1000000) rfl
theorem YR{a b c d:Nat}:a+4*b=c->a=d+1->c≤29->d≤28:=ai (c4 a b c d) [B (P v0 (M 4 v1)) v2,C (S v3) v0,A v2 (n 29)] v3 (n 28) rfl
theorem YS{a b c d:Nat}:a+4*b=c->c≤29->d≤a->d≤29:=ai (c4 a b c d) [B (P v0 (M 4 v1)) v2,A v2 (n 29),A v3 v0] v3 (n 29) rfl
theorem YT{a b c d:Nat}:a+4*b=c->c≤29->d≤a->d≤1000:=ai (c4 a b c d) [B (P v0 (M 4 v1)) v2,A v2 (n 29),A v3 v0] v3 (n 1000) rfl
theorem YU{a b c d:Nat}:a<b->c≤2->d+1+c+4*a<d+1+4*b:=ai (c4 a b c d) [(0,4,(S v0),v1),A v2 (n 2)] (S (P (P (S v3) v2) (M 4 v0))) (P (S v3) (M 4 v1)) rfl
theorem YV{a:Nat}:a≤28->a≤1000:=ai (c1 a) [A v0 (n 28)] v0 (n 1000) rfl
theorem YW{a b:Nat}:a<b->b=b-1+1:=λh0=>Nat.le_antisymm (ai (c2 b (b-1)) [C v0 (S v1)] v0 (S v1) rfl (Nat.sub_add_cancel (ai (c2 a b) [A (S v0) v1] (n 1) v1 rfl h0))) (ai (c2 (b-1) b) [B (S v0) v1] (S v0) v1 rfl (Nat.sub_add_cancel (ai (c2 a b) [A (S v0) v1] (n 1) v1 rfl h0)))
theorem YX{a b c:Nat}:a<b->b<c+1->a<c:=ai (c3 a b c) [A (S v0) v1,A (S v1) (S v2)] (S v0) v2 rfl
theorem YY{a b:Nat}:a≤255->b≤255->a+b≤1000000:=ai (c2 a b) [A v0 (n 255),A v1 (n 255)] (P v0 v1) (n 1000000) rfl
theorem YZ{a:Int}:1≤a->0≤4*a-4:=aD (c1 a) [(0,4,(i 1),w0)] (i 0) (.sub (K 4 w0) (i 4)) rfl
theorem Y0{a b:Int}:a≤2*(4*b-4)->a≤8*b:=aD (c2 a b) [E w0 (K 2 (.sub (K 4 w1) (i 4)))] w0 (K 8 w1) rfl
theorem Y1{a b:Int}:0≤a->1≤b/\b≤4->0≤b+a:=λh0 h1=>aD (c2 a b) [E (i 0) w0,E (i 1) w1] (i 0) (Q w1 w0) rfl h0 h1.1
theorem Y2{a b c:Int}:1≤a/\a≤4->b≤2*(4*c-4)->a+b+4≤4*(2*c):=λh0 h1=>aD (c3 a b c) [E w0 (i 4),E w1 (K 2 (.sub (K 4 w2) (i 4)))] (Q (Q w0 w1) (i 4)) (K 4 (K 2 w2)) rfl h0.2 h1
theorem Y3{a b:Int}:0≤a->a+4≤4*b->a+4≤4*(2*b):=aD (c2 a b) [E (i 0) w0,(0,2,(Q w0 (i 4)),(K 4 w1))] (Q w0 (i 4)) (K 4 (K 2 w1)) rfl
theorem Y4{a b c d:Int}:a+b+(c+d)=a+c+(b+d):=Int.le_antisymm (aD (c4 a b c d) [] (Q (Q w0 w1) (Q w2 w3)) (Q (Q w0 w2) (Q w1 w3)) rfl) (aD (c4 a c b d) [] (Q (Q w0 w1) (Q w2 w3)) (Q (Q w0 w2) (Q w1 w3)) rfl)
theorem Y5{a b c d:Int}:a=b+c->a=d+c->b=d:=λh0 h1=>Int.le_antisymm (aD (c4 b c a d) [G (Q w0 w1) w2,F w2 (Q w3 w1)] w0 w3 rfl h0 h1) (aD (c4 a b c d) [F w0 (Q w1 w2),G (Q w3 w2) w0] w3 w1 rfl h0 h1)
theorem Y6{a b:Nat}:((a:Nat):Int)<((b:Nat):Int)->a≤b:=λh0=>Int.ofNat_le.mp (aD (c2 ((a:Nat):Int) ((b:Nat):Int)) [E (T w0) w1] w0 w1 rfl h0)
theorem Y7{a b c:Nat}:a≤2->b≤2*c->a+b≤2*(c+1):=ai (c3 a b c) [A v0 (n 2),A v1 (M 2 v2)] (P v0 v1) (M 2 (S v2)) rfl
theorem Y8{a b c:Nat}:a=b+c->a≤7->b≤7:=ai (c3 b c a) [C (P v0 v1) v2,A v2 (n 7)] v0 (n 7) rfl
theorem Y9{a b c d:Nat}:a=b->c=b+d->c≤7->a≤1000:=ai (c4 a b d c) [B v0 v1,C (P v1 v2) v3,A v3 (n 7)] v0 (n 1000) rfl
theorem Y'{a:Nat}:a≤7->a<64:=ai (c1 a) [A v0 (n 7)] (S v0) (n 64) rfl
theorem Za{a b:Nat}:a≤6->0+a+1≤b+14:=ai (c2 a b) [A v0 (n 6)] (S (P (n 0) v0)) (P v1 (n 14)) rfl
theorem Qc{a:Nat}:a≤255->a≤1000:=ai (c1 a) [A v0 (n 255)] v0 (n 1000) rfl
theorem LO{a b:Nat}:a≤2*b->b≤7->a≤1000:=ai (c2 a b) [A v0 (M 2 v1),(0,2,v1,(n 7))] v0 (n 1000) rfl
theorem Zb{a b:Nat}:a≤2*b->b≤7->a≤18:=ai (c2 a b) [A v0 (M 2 v1),(0,2,v1,(n 7))] v0 (n 18) rfl
theorem Zc{a b c d:Int}:a=b->a≤c->c≤d->d≤b->a=d:=λh0 h1 u z=>Int.le_antisymm (aD (c3 a c d) [E w0 w1,E w1 w2] w0 w2 rfl h1 u) (aD (c3 b a d) [G w0 w1,E w2 w0] w2 w1 rfl h0 z)
theorem Zd{a b c:Int}:a=b->a=c->b=c:=λh0 h1=>Int.le_antisymm (aD (c3 b a c) [G w0 w1,F w1 w2] w0 w2 rfl h0 h1) (aD (c3 a b c) [F w0 w1,G w2 w0] w2 w1 rfl h0 h1)
theorem Ze{a b:Nat}:a=b->b≤7->a≤1000:=ai (c2 a b) [B v0 v1,A v1 (n 7)] v0 (n 1000) rfl
theorem Qd{a b:Nat}:a≤15*b->b≤6->a≤200:=ai (c2 a b) [A v0 (M 15 v1),(0,15,v1,(n 6))] v0 (n 200) rfl
theorem Qe{a b:Nat}:a≤6->b≤a->b≤800:=ai (c2 a b) [A v0 (n 6),A v1 v0] v1 (n 800) rfl
theorem Qf{a b c:Nat}:a≤15*b->c≤a+15->c≤15*(b+1):=ai (c3 a b c) [A v0 (M 15 v1),A v2 (P v0 (n 15))] v2 (M 15 (S v1)) rfl
theorem Zf{a b:Nat}:a≤6->b≤a->b≤6:=ai (c2 a b) [A v0 (n 6),A v1 v0] v1 (n 6) rfl
theorem Zg{a b:Nat}:a≤15*b->b≤7->a≤300:=ai (c2 a b) [A v0 (M 15 v1),(0,15,v1,(n 7))] v0 (n 300) rfl
theorem Zh{a b c:Nat}:a≤15*b->b≤7->c≤b->c+a≤300:=ai (c3 a b c) [A v0 (M 15 v1),(0,16,v1,(n 7)),A v2 v1] (P v2 v0) (n 300) rfl
theorem Zi{a b:Int}:a≤1000->b≤a->b≤1000:=aD (c2 a b) [E w0 (i 1000),E w1 w0] w1 (i 1000) rfl
theorem Zj{a:Int}:-1≤a->-1≤a+1:=aD (c1 a) [E (.neg (i 1)) w0] (.neg (i 1)) (T w0) rfl
theorem Zk{a b:Int}:a≤b->a+1≤b+1:=aD (c2 a b) [E w0 w1] (T w0) (T w1) rfl
theorem Zl{a:Nat}{b:Int}:((a:Nat):Int)=b->0<a->a<5->1≤b/\b≤4:=λh0 h1 z=>⟨aD (c2 ((a:Nat):Int) b) [F w0 w1,E (T (i 0)) w0] (i 1) w1 rfl h0 (Int.ofNat_lt.mpr h1),aD (c2 b ((a:Nat):Int)) [G w0 w1,E (T w1) (i 5)] w0 (i 4) rfl h0 (Int.ofNat_lt.mpr z)⟩
theorem Zm{a:Nat}:a+1+1<2->False:=iB (c1 a) [A (S (S (S v0))) (n 2)] rfl
theorem Zn{a:Int}{b:Nat}:a+((b+1:Nat):Int)≤200->a≤1000:=λh0=>aD (c2 a ((b:Nat):Int)) [E (Q w0 (T w1)) (i 200),E (i 0) w1] w0 (i 1000) rfl h0 (Int.natCast_nonneg b)
theorem Zo{a:Int}{b:Nat}:a+((b+1:Nat):Int)≤200->a+1+((b:Nat):Int)≤200:=aD (c2 a ((b:Nat):Int)) [E (Q w0 (T w1)) (i 200)] (Q (T w0) w1) (i 200) rfl
theorem Zp{a b:Nat}:a+(b+1)=2->a≤6:=ai (c2 a b) [B (P v0 (S v1)) (n 2)] v0 (n 6) rfl
theorem Zq{a b:Nat}:a<3->b=2->b+(3+a)≤7:=ai (c2 a b) [A (S v0) (n 3),B v1 (n 2)] (P v1 (P (n 3) v0)) (n 7) rfl
theorem Zr{a:Nat}:a<3->-1+1+4*((3+a:Nat):Int)≤50:=λh0=>aD (c1 ((a:Nat):Int)) [(0,4,(T w0),(i 3))] (Q (T (.neg (i 1))) (K 4 (Q (i 3) w0))) (i 50) rfl (Int.ofNat_lt.mpr h0)
theorem Zs{a:Int}{b:Nat}:a+4*((b:Nat):Int)≤50->a≤50:=λh0=>aD (c2 a ((b:Nat):Int)) [E (Q w0 (K 4 w1)) (i 50),(0,4,(i 0),w1)] w0 (i 50) rfl h0 (Int.natCast_nonneg b)
theorem Zt{a b:Nat}:a+(b+1)≤7->a≤6:=ai (c2 a b) [A (P v0 (S v1)) (n 7)] v0 (n 6) rfl
theorem Zu{a b c:Nat}:a+b=1+c->c<2->a≤1000:=ai (c3 a b c) [B (P v0 v1) (P (n 1) v2),A (S v2) (n 2)] v0 (n 1000) rfl
theorem Zv{a:Int}{b:Nat}{c:Int}{d e:Nat}:a+((b:Nat):Int)≤c+1+(1+((d:Nat):Int))->c+4*((e:Nat):Int)≤50->d<2->a≤1000:=λh0 h1 z=>aD (c5 a ((b:Nat):Int) c ((d:Nat):Int) ((e:Nat):Int)) [E (Q w0 w1) (Q (T w2) (Q (i 1) w3)),E (Q w2 (K 4 w4)) (i 50),E (T w3) (i 2),E (i 0) w1,(0,4,(i 0),w4)] w0 (i 1000) rfl h0 h1 (Int.ofNat_lt.mpr z) (Int.natCast_nonneg b) (Int.natCast_nonneg e)
theorem Zw{a b c:Nat}:a+(b+1)=1+c->a+1+b=1+c:=λh0=>Nat.le_antisymm (ai (c3 a b c) [B (P v0 (S v1)) (P (n 1) v2)] (P (S v0) v1) (P (n 1) v2) rfl h0) (ai (c3 c a b) [C (P (n 1) v0) (P v1 (S v2))] (P (n 1) v0) (P (S v1) v2) rfl h0)
theorem Zx{a:Int}{b:Nat}{c:Int}{d:Nat}:a+((b+1:Nat):Int)≤c+1+(1+((d:Nat):Int))->a+1+((b:Nat):Int)≤c+1+(1+((d:Nat):Int)):=aD (c4 a ((b:Nat):Int) c ((d:Nat):Int)) [E (Q w0 (T w1)) (Q (T w2) (Q (i 1) w3))] (Q (T w0) w1) (Q (T w2) (Q (i 1) w3)) rfl
theorem Zy{a b:Nat}:a<2->b=1+a->b≤2:=ai (c2 a b) [A (S v0) (n 2),B v1 (P (n 1) v0)] v1 (n 2) rfl
theorem Zz{a b:Nat}:a+(b+1)≤7->a+1+b≤7:=ai (c2 a b) [A (P v0 (S v1)) (n 7)] (P (S v0) v1) (n 7) rfl
theorem ZA{a b:Int}{c d:Nat}:a+((0:Nat):Int)≤b+1+(1+((c:Nat):Int))->b+4*((d+1:Nat):Int)≤50->c<2->a+4*((d:Nat):Int)≤50:=λh0 h1 z=>aD (c4 a b ((c:Nat):Int) ((d:Nat):Int)) [E (Q w0 (i 0)) (Q (T w1) (Q (i 1) w2)),E (Q w1 (K 4 (T w3))) (i 50),E (T w2) (i 2)] (Q w0 (K 4 w3)) (i 50) rfl h0 h1 (Int.ofNat_lt.mpr z)
theorem ZC{a:Nat}:a<3->0+a≤2:=ai (c1 a) [A (S v0) (n 3)] (P (n 0) v0) (n 2) rfl
theorem ZD{a:Int}{b:Nat}:a≤50->b<3->a+1+2*((b:Nat):Int)≤60:=λh0 h1=>aD (c2 a ((b:Nat):Int)) [E w0 (i 50),(0,2,(T w1),(i 3))] (Q (T w0) (K 2 w1)) (i 60) rfl h0 (Int.ofNat_lt.mpr h1)
theorem ZE{a:Int}{b:Nat}:a+2*((b:Nat):Int)≤60->a≤1000:=λh0=>aD (c2 a ((b:Nat):Int)) [E (Q w0 (K 2 w1)) (i 60),(0,2,(i 0),w1)] w0 (i 1000) rfl h0 (Int.natCast_nonneg b)
theorem ZF{a:Int}{b:Nat}:a+2*((b:Nat):Int)≤60->a+1≤1000:=λh0=>aD (c2 a ((b:Nat):Int)) [E (Q w0 (K 2 w1)) (i 60),(0,2,(i 0),w1)] (T w0) (i 1000) rfl h0 (Int.natCast_nonneg b)
theorem ZG{a b:Nat}:a+(b+1)≤2->a≤100:=ai (c2 a b) [A (P v0 (S v1)) (n 2)] v0 (n 100) rfl
theorem ZH{a b:Nat}:a+(b+1)≤2->a+1+b≤2:=ai (c2 a b) [A (P v0 (S v1)) (n 2)] (P (S v0) v1) (n 2) rfl
theorem ZI{a:Int}{b:Nat}:a+2*((b+1:Nat):Int)≤60->a+1+1+2*((b:Nat):Int)≤60:=aD (c2 a ((b:Nat):Int)) [E (Q w0 (K 2 (T w1))) (i 60)] (Q (T (T w0)) (K 2 w1)) (i 60) rfl
theorem ZJ{a b:Int}:a+2*((0:Nat):Int)≤60->b≤a->b≤100+0:=aD (c2 a b) [E (Q w0 (K 2 (i 0))) (i 60),E w1 w0] w1 (Q (i 100) (i 0)) rfl
theorem ZK{a:Nat}:a≤4->100+((a:Nat):Int)≤1000:=λh0=>aD (c1 ((a:Nat):Int)) [E w0 (i 4)] (Q (i 100) w0) (i 1000) rfl (Int.ofNat_le.mpr h0)
theorem ZL{a:Nat}:a≤63->a≤1000:=ai (c1 a) [A v0 (n 63)] v0 (n 1000) rfl
theorem ZM{a:Nat}:(min 40 a)≤100:=ai (c1 (min 40 a)) [A v0 (n 40)] v0 (n 100) rfl (Nat.min_le_left 40 a)
theorem ZN{a:Nat}:a<3->3+a≤1000000:=ai (c1 a) [A (S v0) (n 3)] (P (n 3) v0) (n 1000000) rfl
theorem ZO{a:Nat}:a<2->a<1000:=ai (c1 a) [A (S v0) (n 2)] (S v0) (n 1000) rfl
theorem ZP{a:Nat}:a<2->1+a≤1000000:=ai (c1 a) [A (S v0) (n 2)] (P (n 1) v0) (n 1000000) rfl
theorem ZQ{a:Nat}:a<3->a≤1000000:=ai (c1 a) [A (S v0) (n 3)] v0 (n 1000000) rfl
theorem Qg{a:Nat}:a=4->a≤1000:=ai (c1 a) [B v0 (n 4)] v0 (n 1000) rfl
theorem ZR{a:Nat}:a=4->100+((a:Nat):Int)+((2:Nat):Int)≤200:=λh0=>aD (c1 ((a:Nat):Int)) [F w0 (i 4)] (Q (Q (i 100) w0) (i 2)) (i 200) rfl (congrArg Int.ofNat h0)
theorem ZS{a b c:Nat}:a-b=c+1->b+c=a-1:=λh0=>(Nat.le_total a b).elim (λz=>(iB (c2 c (a-b)) [C (S v0) v1,B v1 (n 0)] rfl h0 (Nat.sub_eq_zero_of_le (ai (c2 a b) [A v0 v1] v0 v1 rfl z))).elim) λz=>Nat.le_antisymm (ai (c5 c (a-b) b a (a-1)) [C (S v0) v1,B (P v1 v2) v3,C v3 (S v4)] (P v2 v0) v4 rfl h0 (Nat.sub_add_cancel (ai (c2 b a) [A v0 v1] v0 v1 rfl z)) (Nat.sub_add_cancel (ai (c4 c (a-b) b a) [C (S v0) v1,B (P v1 v2) v3] (n 1) v3 rfl h0 (Nat.sub_add_cancel (ai (c2 b a) [A v0 v1] v0 v1 rfl z))))) (ai (c5 (a-b) c a b (a-1)) [B v0 (S v1),C v2 (P v0 v3),B (S v4) v2] v4 (P v3 v1) rfl h0 (Nat.sub_add_cancel (ai (c2 b a) [A v0 v1] v0 v1 rfl z)) (Nat.sub_add_cancel (ai (c4 c (a-b) b a) [C (S v0) v1,B (P v1 v2) v3] (n 1) v3 rfl h0 (Nat.sub_add_cancel (ai (c2 b a) [A v0 v1] v0 v1 rfl z)))))
theorem ZT{a b:Int}{c d:Nat}:a≤b->a=((c:Nat):Int)∨a=((d:Nat):Int)->b=((c:Nat):Int)∨b=((d:Nat):Int)->((c:Nat):Int)=a∨((c:Nat):Int)=b->((d:Nat):Int)=a∨((d:Nat):Int)=b->a=(((min c d):Nat):Int)/\b=(((max c d):Nat):Int):=λh0 h1 Z Y q=>⟨h1.elim (λu=>q.elim (λj=>(Nat.le_total c d).elim (λz=>Int.le_antisymm (aD (c3 a ((c:Nat):Int) (((min c d):Nat):Int)) [F w0 w1,G w1 w2] w0 w2 rfl u (congrArg Int.ofNat (Nat.min_eq_left (ai (c2 c d) [A v0 v1] v0 v1 rfl z)))) (aD (c3 ((c:Nat):Int) a (((min c d):Nat):Int)) [G w0 w1,F w2 w0] w2 w1 rfl u (congrArg Int.ofNat (Nat.min_eq_left (ai (c2 c d) [A v0 v1] v0 v1 rfl z))))) λz=>Int.le_antisymm (aD (c3 a ((d:Nat):Int) (((min c d):Nat):Int)) [G w0 w1,G w1 w2] w0 w2 rfl j (congrArg Int.ofNat (Nat.min_eq_right (ai (c2 d c) [A v0 v1] v0 v1 rfl z)))) (aD (c3 ((d:Nat):Int) a (((min c d):Nat):Int)) [F w0 w1,F w2 w0] w2 w1 rfl j (congrArg Int.ofNat (Nat.min_eq_right (ai (c2 d c) [A v0 v1] v0 v1 rfl z))))) λj=>(Nat.le_total c d).elim (λz=>Int.le_antisymm (aD (c3 a ((c:Nat):Int) (((min c d):Nat):Int)) [F w0 w1,G w1 w2] w0 w2 rfl u (congrArg Int.ofNat (Nat.min_eq_left (ai (c2 c d) [A v0 v1] v0 v1 rfl z)))) (aD (c3 ((c:Nat):Int) a (((min c d):Nat):Int)) [G w0 w1,F w2 w0] w2 w1 rfl u (congrArg Int.ofNat (Nat.min_eq_left (ai (c2 c d) [A v0 v1] v0 v1 rfl z))))) λz=>Int.le_antisymm (aD (c4 b ((d:Nat):Int) a (((min c d):Nat):Int)) [G w0 w1,E w2 w0,G w1 w3] w2 w3 rfl j h0 (congrArg Int.ofNat (Nat.min_eq_right (ai (c2 d c) [A v0 v1] v0 v1 rfl z)))) (aD (c4 ((c:Nat):Int) a ((d:Nat):Int) (((min c d):Nat):Int)) [G w0 w1,E w2 w0,F w3 w2] w3 w1 rfl u (Int.ofNat_le.mpr z) (congrArg Int.ofNat (Nat.min_eq_right (ai (c2 d c) [A v0 v1] v0 v1 rfl z))))) λu=>Y.elim (λj=>(Nat.le_total c d).elim (λz=>Int.le_antisymm (aD (c3 a ((c:Nat):Int) (((min c d):Nat):Int)) [G w0 w1,G w1 w2] w0 w2 rfl j (congrArg Int.ofNat (Nat.min_eq_left (ai (c2 c d) [A v0 v1] v0 v1 rfl z)))) (aD (c3 ((c:Nat):Int) a (((min c d):Nat):Int)) [F w0 w1,F w2 w0] w2 w1 rfl j (congrArg Int.ofNat (Nat.min_eq_left (ai (c2 c d) [A v0 v1] v0 v1 rfl z))))) λz=>Int.le_antisymm (aD (c3 a ((d:Nat):Int) (((min c d):Nat):Int)) [F w0 w1,G w1 w2] w0 w2 rfl u (congrArg Int.ofNat (Nat.min_eq_right (ai (c2 d c) [A v0 v1] v0 v1 rfl z)))) (aD (c3 ((d:Nat):Int) a (((min c d):Nat):Int)) [G w0 w1,F w2 w0] w2 w1 rfl u (congrArg Int.ofNat (Nat.min_eq_right (ai (c2 d c) [A v0 v1] v0 v1 rfl z))))) λj=>(Nat.le_total c d).elim (λz=>Int.le_antisymm (aD (c4 b ((c:Nat):Int) a (((min c d):Nat):Int)) [G w0 w1,E w2 w0,G w1 w3] w2 w3 rfl j h0 (congrArg Int.ofNat (Nat.min_eq_left (ai (c2 c d) [A v0 v1] v0 v1 rfl z)))) (aD (c4 ((d:Nat):Int) a ((c:Nat):Int) (((min c d):Nat):Int)) [G w0 w1,E w2 w0,F w3 w2] w3 w1 rfl u (Int.ofNat_le.mpr z) (congrArg Int.ofNat (Nat.min_eq_left (ai (c2 c d) [A v0 v1] v0 v1 rfl z))))) λz=>Int.le_antisymm (aD (c3 a ((d:Nat):Int) (((min c d):Nat):Int)) [F w0 w1,G w1 w2] w0 w2 rfl u (congrArg Int.ofNat (Nat.min_eq_right (ai (c2 d c) [A v0 v1] v0 v1 rfl z)))) (aD (c3 ((d:Nat):Int) a (((min c d):Nat):Int)) [G w0 w1,F w2 w0] w2 w1 rfl u (congrArg Int.ofNat (Nat.min_eq_right (ai (c2 d c) [A v0 v1] v0 v1 rfl z)))),Z.elim (λu=>q.elim (λj=>(Nat.le_total c d).elim (λz=>Int.le_antisymm (aD (c4 b ((c:Nat):Int) ((d:Nat):Int) (((max c d):Nat):Int)) [F w0 w1,E w1 w2,G w2 w3] w0 w3 rfl u (Int.ofNat_le.mpr z) (congrArg Int.ofNat (Nat.max_eq_right (ai (c2 c d) [A v0 v1] v0 v1 rfl z)))) (aD (c4 ((d:Nat):Int) a b (((max c d):Nat):Int)) [F w0 w1,E w1 w2,F w3 w0] w3 w2 rfl j h0 (congrArg Int.ofNat (Nat.max_eq_right (ai (c2 c d) [A v0 v1] v0 v1 rfl z))))) λz=>Int.le_antisymm (aD (c3 b ((c:Nat):Int) (((max c d):Nat):Int)) [F w0 w1,G w1 w2] w0 w2 rfl u (congrArg Int.ofNat (Nat.max_eq_left (ai (c2 d c) [A v0 v1] v0 v1 rfl z)))) (aD (c3 ((c:Nat):Int) b (((max c d):Nat):Int)) [G w0 w1,F w2 w0] w2 w1 rfl u (congrArg Int.ofNat (Nat.max_eq_left (ai (c2 d c) [A v0 v1] v0 v1 rfl z))))) λj=>(Nat.le_total c d).elim (λz=>Int.le_antisymm (aD (c3 b ((d:Nat):Int) (((max c d):Nat):Int)) [G w0 w1,G w1 w2] w0 w2 rfl j (congrArg Int.ofNat (Nat.max_eq_right (ai (c2 c d) [A v0 v1] v0 v1 rfl z)))) (aD (c3 ((d:Nat):Int) b (((max c d):Nat):Int)) [F w0 w1,F w2 w0] w2 w1 rfl j (congrArg Int.ofNat (Nat.max_eq_right (ai (c2 c d) [A v0 v1] v0 v1 rfl z))))) λz=>Int.le_antisymm (aD (c3 b ((c:Nat):Int) (((max c d):Nat):Int)) [F w0 w1,G w1 w2] w0 w2 rfl u (congrArg Int.ofNat (Nat.max_eq_left (ai (c2 d c) [A v0 v1] v0 v1 rfl z)))) (aD (c3 ((c:Nat):Int) b (((max c d):Nat):Int)) [G w0 w1,F w2 w0] w2 w1 rfl u (congrArg Int.ofNat (Nat.max_eq_left (ai (c2 d c) [A v0 v1] v0 v1 rfl z))))) λu=>Y.elim (λj=>(Nat.le_total c d).elim (λz=>Int.le_antisymm (aD (c3 b ((d:Nat):Int) (((max c d):Nat):Int)) [F w0 w1,G w1 w2] w0 w2 rfl u (congrArg Int.ofNat (Nat.max_eq_right (ai (c2 c d) [A v0 v1] v0 v1 rfl z)))) (aD (c3 ((d:Nat):Int) b (((max c d):Nat):Int)) [G w0 w1,F w2 w0] w2 w1 rfl u (congrArg Int.ofNat (Nat.max_eq_right (ai (c2 c d) [A v0 v1] v0 v1 rfl z))))) λz=>Int.le_antisymm (aD (c4 b ((d:Nat):Int) ((c:Nat):Int) (((max c d):Nat):Int)) [F w0 w1,E w1 w2,G w2 w3] w0 w3 rfl u (Int.ofNat_le.mpr z) (congrArg Int.ofNat (Nat.max_eq_left (ai (c2 d c) [A v0 v1] v0 v1 rfl z)))) (aD (c4 ((c:Nat):Int) a b (((max c d):Nat):Int)) [F w0 w1,E w1 w2,F w3 w0] w3 w2 rfl j h0 (congrArg Int.ofNat (Nat.max_eq_left (ai (c2 d c) [A v0 v1] v0 v1 rfl z))))) λj=>(Nat.le_total c d).elim (λz=>Int.le_antisymm (aD (c3 b ((d:Nat):Int) (((max c d):Nat):Int)) [F w0 w1,G w1 w2] w0 w2 rfl u (congrArg Int.ofNat (Nat.max_eq_right (ai (c2 c d) [A v0 v1] v0 v1 rfl z)))) (aD (c3 ((d:Nat):Int) b (((max c d):Nat):Int)) [G w0 w1,F w2 w0] w2 w1 rfl u (congrArg Int.ofNat (Nat.max_eq_right (ai (c2 c d) [A v0 v1] v0 v1 rfl z))))) λz=>Int.le_antisymm (aD (c3 b ((c:Nat):Int) (((max c d):Nat):Int)) [G w0 w1,G w1 w2] w0 w2 rfl j (congrArg Int.ofNat (Nat.max_eq_left (ai (c2 d c) [A v0 v1] v0 v1 rfl z)))) (aD (c3 ((c:Nat):Int) b (((max c d):Nat):Int)) [F w0 w1,F w2 w0] w2 w1 rfl j (congrArg Int.ofNat (Nat.max_eq_left (ai (c2 d c) [A v0 v1] v0 v1 rfl z))))⟩
theorem ZU{a b:Nat}:a<b->a*2≤a+b:=ai (c2 a b) [A (S v0) v1] (.mulR v0 2) (P v0 v1) rfl
theorem ZV{a b:Nat}:a<b->a+b<b*2:=ai (c2 a b) [A (S v0) v1] (S (P v0 v1)) (.mulR v1 2) rfl
theorem ZW{a b c d:Nat}:a≤b+1+c->d<a->d≤b+c:=ai (c4 a b c d) [A v0 (P (S v1) v2),A (S v3) v0] v3 (P v1 v2) rfl
theorem ZX{a b c d:Nat}(h:a-b≤c+1)(k:b≤d):a-(d+1)≤c:=Nat.le_trans (Nat.sub_le_sub_left (Nat.succ_le_succ k) a) (Nat.pred_le_pred h)
theorem ZY{a b c d:Nat}(h:a-b≤c+1)(k:d<a):d-b≤c:=Nat.sub_le_iff_le_add.mpr (ZW (Nat.sub_le_iff_le_add.mp h) k)
theorem Qh{a b c:Nat}(h:a<b+1-c):a≤b-c:=Nat.le_sub_of_add_le (Nat.le_of_lt_succ (Nat.add_lt_of_lt_sub h))
theorem ZZ{a b c d:Nat}(h:a<b)(k:b<c+1-d):a≤c-d:=Nat.le_trans (Nat.le_of_lt h) (Qh k)
theorem Z0{a b c:Nat}(h:a-b=c+1):a-(b+1)=c:=congrArg Nat.pred h
theorem Z1{a b:Nat}(h:¬(a=(max a b))):a=(min a b):=(Nat.le_total a b).elim (λq=>(Nat.min_eq_left q).symm) λq=>absurd (Nat.max_eq_left q).symm h
theorem Z2{a b:Nat}(h:¬(a=(max b a))):a=(min b a):=(Nat.le_total b a).elim (λq=>absurd (Nat.max_eq_right q).symm h) λq=>(Nat.min_eq_right q).symm
theorem Qi{a b:Nat}(h:a<b):a≤(a+b)/2:=(Nat.le_div_iff_mul_le (Nat.succ_pos 1)).mpr (ZU h)
theorem Qj{a b:Nat}(h:a<b):(a+b)/2<b:=(Nat.div_lt_iff_lt_mul (Nat.succ_pos 1)).mpr (ZV h)
theorem Z3{a b:Nat}(h:¬(a≥b)):a≤(a+b)/2/\(a+b)/2<b:=⟨Qi (Nat.lt_of_not_le h),Qj (Nat.lt_of_not_le h)⟩
theorem Qk{a b:Nat}(h:a<b*32):a/32<b:=(Nat.div_lt_iff_lt_mul (Nat.succ_pos 31)).mpr h
theorem Ql{a b:Nat}(h:a≠b)(e:(min a b)=(max a b)):False:=(Nat.le_total a b).elim (λq=>h ((Nat.min_eq_left q).symm.trans (e.trans (Nat.max_eq_right q)))) λq=>h ((Nat.max_eq_left q).symm.trans (e.symm.trans (Nat.min_eq_right q)))
theorem Z4{a b:Nat}:((((min a b):Nat):Int)=(((max a b):Nat):Int)↔a=b):=⟨λe=>Decidable.byContradiction λh=>Ql h (Int.ofNat.inj e),λe=>by rw[e,Nat.min_self,Nat.max_self]⟩
theorem Z5{a:Int}(h:-1≤a):(((Int.toNat (a+1)):Nat):Int)=a+1:=Int.toNat_of_nonneg (Int.add_le_add_right h 1)
theorem Z6{a:Nat}(h:a≤1000000):((a:Nat):Int)<9223372036854775808/\(a=0∨((a:Nat):Int)<9223372036854775808):=have q:=Int.lt_of_le_of_lt (Int.ofNat_le.mpr h) (by decide);⟨q,.inr q⟩
theorem Z7{a:Int}(h:a<0):-a=(((Int.natAbs a):Nat):Int):=(Int.ofNat_natAbs_of_nonpos (Int.le_of_lt h)).symm
theorem Z8{a:Int}(h:¬(a<0)):a=(((Int.natAbs a):Nat):Int):=(Int.natAbs_of_nonneg (Int.not_lt.mp h)).symm
end
end
open Array renaming getD->kG,getElem?_eq_getElem->jl,getElem?_eq_none->vr,getElem?_eq_some_iff->eY,getElem?_toList->Op,getElem_mem_toList->t4,isEmpty_iff->CF,length_toList->Ev,perm_iff_toList_perm->su,range->Og,replicate->qE,toList_extract->xA,toList_inj->C7,toList_push->jB
open Bool renaming and_eq_true->u8,and_eq_true_iff->sB,and_false->s8,eq_false_iff->Sc,false_and->s9,false_eq_true->a9,false_ne_true->wP,false_or->nz,noConfusion->Gy,not_eq_true'->gy,or_eq_false_iff->za,or_eq_true->eG,or_false->Lp
open Classical renaming axiomOfChoice->aeI,byContradiction->cJ,choose->aeG,choose_spec->aeH,propDecidable->a7,typeDecidableEq->TD
open Decidable renaming byContradiction->aey
open Eq renaming symm->zg
open Except.ok renaming inj->aem
open False renaming elim->Ps
open ForInStep renaming yield->Tk
open Function renaming comp->ag7
open HAdd renaming hAdd->qh
open Iff renaming rfl->xu
open Int renaming add_assoc->vy,add_le_add_left->nB,add_nonneg->Lo,add_zero->O7,eq_ofNat_of_zero_le->kJ,le_add_of_nonneg_right->tZ,le_def->Vi,le_of_eq->Pf,le_of_lt->kU,le_refl->bq,le_trans->SC,lt_irrefl->Od,lt_trans->Pa,mem_toNat?->Lr,min_eq_left->Kf,mul_le_mul_of_nonneg_right->qF,natCast_nonneg->bP,not_lt->jh,ofNat_le->xt,ofNat_lt->bW,pow_succ->Pd,sub_eq_iff_eq_add->mi,toNat->Hh,toNat_natCast->jV
open Int.ofNat renaming inj->Go
open List renaming all_eq_true->ut,any_cons->jT,any_eq_true->fy,any_map->Om,append_assoc->aU,append_cons->bO,append_nil->t3,append_of_mem->CL,append_toArray->iJ,cons_append->fw,drop->Vc,dropLast_concat_getLast->iH,drop_eq_getElem_cons->fB,drop_length->GA,drop_nil->u6,drop_zero->Kh,eq_nil_of_length_eq_zero->qG,ext_getElem->kv,ext_getElem?->C9,filterMap->Kl,filterMap_append->xD,filterMap_cons->bF,filterMap_cons_some->jY,filterMap_map->CJ,filter_append->oz,filter_congr->pv,filter_cons->aP,filter_cons_of_neg->vv,filter_cons_of_pos->vw,filter_sublist->Bf,find?_cons->kP,find?_eq_none->CI,find?_some->sd,findIdx?_eq_none_iff->jA,flatMap->Ou,flatMap_append->Bg,flatMap_cons->pw,foldl_append->C6,foldl_cons->kZ,foldl_map->Ki,forIn_cons->iE,forIn_nil->Kd,forall_mem_cons->FM,forall_mem_singleton->pu,getD_eq_getElem?_getD->rc,getElem?_append_left->TT,getElem?_append_right->bD,getElem?_cons_succ->kx,getElem?_eq_getElem->pi,getElem?_eq_none->aW,getElem?_eq_some_iff->ww,getElem?_map->tz,getElem?_range->iK,getElem?_set->Dc,getElem?_toArray->Ch,getElem_inj->GF,getElem_mem->IN,getElem_of_mem->dH,idxOf_append->Dd,isEmpty_iff->qi,length->d5,length_append->ci,length_cons->io,length_eq_zero_iff->cg,length_erase_of_mem->u',length_filterMap_le->fP,length_filter_le->Uf,length_map->be,length_nil->Hk,length_pos_iff->A3,length_range->zn,length_reverse->AU,length_set->cX,length_singleton->pp,length_take->qd,lookup->my,lookup_cons->wE,map->pq,map_append->lf,map_congr_left->wT,map_cons->jp,map_eq_cons_iff->b7,map_eq_nil_iff->cv,map_id->iq,map_map->li,map_nil->pj,map_reverse->GI,map_singleton->oA,mem_append->ca,mem_append_left->xz,mem_append_right->on,mem_cons->em,mem_cons_of_mem->zi,mem_cons_self->jb,mem_drop_iff_getElem->t6,mem_erase_of_ne->mA,mem_filter->bH,mem_filterMap->ou,mem_flatMap->cI,mem_iff_getElem?->xy,mem_map->lc,mem_map_of_mem->wS,mem_nil_iff->bj,mem_of_find?_eq_some->jD,mem_of_getElem?->bk,mem_of_mem_drop->zd,mem_of_mem_take->zc,mem_range->cL,mem_reverse->kq,mem_singleton->bn,nil_append->kS,nodup_append->Fk,nodup_cons->Db,nodup_range->qf,not_lt->Pb,not_mem_nil->cH,of_mem_zip->eF,pairwise_append->bZ,pairwise_iff_getElem->t5,pairwise_lt_range->kN,pairwise_map->aV,pairwise_singleton->kr,perm_append_comm->xB,perm_cons_erase->zp,perm_ext_iff_of_nodup->jc,range->pc,range'_succ->GD,range_succ->sb,range_succ_eq_map->xi,reverse_cons->C2,size_toArray->UF,sum_append->XV,sum_cons->sK,sum_nil->Oq,take->Va,take_add_one->jI,take_append_drop->lF,take_length->ku,take_of_length_le->xh,toArray->eu,zip_cons_cons->fY,zip_nil_left->C5
open List.Nodup renaming sublist->vb
open List.Pairwise renaming imp->Pe,imp_of_mem->iA
open List.Perm renaming append_left->aeB,cons->kI,of_eq->aeC,swap->A9
open List.Sublist renaming map->T3
open List.cons renaming inj->Ix,injEq->y9
open Nat renaming add_assoc->om,add_comm->fD,add_le_add->Lq,add_le_add_left->CE,add_le_add_right->fu,add_lt_add_right->mQ,add_mul->T4,add_right_cancel->Be,add_right_comm->eE,add_sub_of_le->gG,ble_eq->Vm,blt->Pg,eq_of_le_of_lt_succ->dQ,eq_of_lt_succ_of_not_lt->cF,eq_or_lt_of_le->jk,eq_sub_of_add_eq->Ba,eq_zero_of_not_pos->k7,le_add_left->FS,le_add_right->br,le_add_right_of_le->cE,le_antisymm->cZ,le_max_left->Kk,le_max_right->Hl,le_of_add_right_le->cD,le_of_ble_eq_true->ce,le_of_eq->IR,le_of_lt->Os,le_of_lt_succ->AT,le_of_not_lt->fE,le_of_sub_eq_zero->ze,le_of_succ_le->TE,le_of_succ_le_succ->kQ,le_refl->ii,le_sub_one_of_lt->di,le_succ->b8,le_succ_of_le->cp,le_total->xC,le_trans->cr,lt_add_of_pos_right->xf,lt_add_one->t7,lt_add_right->ig,lt_asymm->O',lt_irrefl->ZB,lt_of_le_of_lt->FB,lt_of_le_of_ne->bQ,lt_of_lt_of_eq->KE,lt_of_lt_of_le->xL,lt_of_sub_eq_succ->ma,lt_of_succ_le->jW,lt_of_succ_lt->gF,lt_or_ge->bG,lt_succ_of_le->SL,lt_succ_of_lt->UV,lt_succ_self->bo,lt_trans->TW,lt_trichotomy->dj,max_eq_left->sv,max_eq_right->Hi,min_eq_left->lG,min_eq_right->Hj,mod_lt->f5,ne_of_gt->gE,ne_of_lt->wn,ne_of_lt'->kb,ne_zero_of_lt->GH,not_lt->eD,not_lt_zero->fZ,not_succ_le_zero->iy,one_le_of_lt->kH,one_le_two_pow->jm,pow_le_pow_right->dk,pow_succ->pN,rec->xp,strongRecOn->iL,sub_le->oG,sub_lt_of_lt->G7,sub_lt_sub_left->CH,sub_lt_sub_right->A5,sub_one_lt_of_lt->dh,sub_self->i8,sub_succ_lt_self->AV,succ->aeE,succ_add->pL,succ_le_succ->dP,succ_lt_succ_iff->iz,succ_pos->O9,zero_add->kX,zero_le->np
open Nat.ToInt renaming of_diseq->aeF,of_le->zm
open Nat.succ renaming inj->jU
open Ne renaming symm->cG
open Option renaming bind_eq_some_iff->jZ,eq_none_iff_forall_ne_some->nA,isNone_iff_eq_none->jd,isSome_iff_exists->pt,map->bL,map_eq_some_iff->At,none->On
open Option.some renaming inj->db
open Or renaming comm->TV,elim->j4,inl->Oo
open Prod renaming ext->zj
open Prod.mk renaming inj->gZ
open PyProof.Rows renaming Assign_Tuple->aes,Call_->dm,SortKind->j8,Subscript_->Lk,add_int->Tu,callWith_type->hU,collect_list->aeA,dictOfH_noDict->U1,eq_int->TC,evalArgs_none->TU,extend_door->iF,ge_int->TB,get?_update_seq->vq,getItem_tuple->oq,gt_int->TA,isTrue_chain->aep,is_none_ne->TJ,is_none_none->TH,isnot_none_ne->TL,isnot_none_none->TK,keyKind'->U4,le_int->Tz,listUpdate_at->A7,lt_int->Tx,mod_int->Tw,mul_int->TG,ne_int->TF,neg_int->TZ,place_lt->Hg,seqEpoch_at->G8,seqObj->kW,size_push'->gH,slicePart_none->UW,slot_tuple_getitem->eP,spliced_more->TN,spliced_none->TM,sub_int->Tv,subscriptTail->bc,test_link->OY
open PyProof.Rows.F renaming entry_set_update_loop->jX,plain_set_update_loop->Oh
open PySem renaming Addr->co,Around->Da,CmpOp->Cy,Comprehension->qc,DictEntry->KM,Drawn->oC,Env->vm,Expr->lv,Flow->GW,FuncData->Vq,GenState->me,Heap->GM,InLong->U3,IntMulOk->GY,KeyKind->ph,NameKind->No,Obj->nh,Operator->UU,OsState->kL,Params->Vl,Pos->cx,Program->EQ,Result->qB,Scope->bB,Sem->sY,SetTable->AC,Shared->bv,Stmt->eX,Str->lm,Thread->Lu,Value->bm,Walks->UX,WalksS->Vb,World->KB,again->qb,argBest->Ob,argsOk->U7,arm_eval_Dict->acL,assign->hW,assignInOrder->AS,atKey->CB,atKey_none_of_get->sk,atKey_of_get->aex,backTo->Wp,backToKw->i6,behindInMarks->p9,binaryOp->i4,bootBuiltins->bp,builtinLookup_eq_fast->ba,builtinsNs->qA,cLine->cA,call->Pj,callEnvC->si,callWith->l8,codeAny->bC,codeAny_builtin->dA,codeAny_call_builtin->oI,codeAny_extend_loopS->Hb,codeAny_mono->ia,codeAny_of_tree->vt,collect->Oc,compTurn->oD,compareOp->M2,concat_meets->aew,constantsAlone->hY,denote->Lv,dictDisplay_pairs->Oa,dictSetDefault->U0,dictSetHashed->AZ,entryFor->G9,entryFor_alias->U6,entryFor_of_tree->Pc,entryOfKey->mL,eqBool->Lh,eqIsQuiet_byValue->NZ,evalPairs_cons->xx,evalPairs_nil->acM,evalPart_some->AR,firstArgMember->ic,foldedSetIterable->dF,getItem->N0,getMethod->O4,hashByValue->Hd,holding->mM,importedModules->nk,intKind->mK,intKind_is->mN,isSubtype_stop->xw,isSubtype_tuple_tuple->nv,isSubtype_type->j9,isTrue->j0,keyPart->N8,keywordEach->eL,lastMarks->Cz,layNew->C',letOwnedTupleGo->cC,letTemporaryGo->UZ,mainGlobals->aQ,mem_of_lookup->cO,method1_meetsIn->vp,methodCallForm->Vf,methodCallPos->acO,model->kt,noFill_tuple_add->O5,not_mem_keys_of_get->Ka,ofAClassStatement->sA,pickOrder->pn,plainId_quiet->cQ,pyIter->qz,pyNext->hZ,raiseAttrError->Vd,rawInt->fq,reduceHash->Li,relayAll->oH,searchCouldBeSeen->ij,seqIndex?->CA,seq_tuple_add->acJ,setAddHashed->aeD,setEpoch->U9,setNext->Of,setSearchFrom->qg,setState->U8,sizeLine->ga,sizeLine_eq->cP,size_of_entries->TP,slot_dict_getitem->N9,slot_list_getitem->N1,slot_list_setitem->Ol,standAt->iZ,starEach->Do,start->d4,storeSet->Hc,storedH->xe,swappedStores->kR,swapsWith->l5,swapsWithSole->qa,sysModules->gD,theTreesLotGoes->TO,typeLookup->fM,typeLookup_type->dz,typeNameCut->Hf,typeOf->C8,valueAt->C3,wpAny->im,wpAny_Constant_int->j3,wpAny_Dict_empty->O6,wpAny_Name->Lj,wpAny_Slice->GZ,wpAny_allTrue_And_cons->C4,wpAny_allTrue_Or_cons->fk,wpAny_allTrue_Or_nil->GX,wpAny_alloc->G6,wpAny_askSetting->cU,wpAny_assign_Name->kM,wpAny_attempt->i0,wpAny_bind->al,wpAny_call->xq,wpAny_callSpecial?_slot->aO,wpAny_call_entry->NE,wpAny_comprehension_free->AW,wpAny_dictEntries->cB,wpAny_dictEpoch->ji,wpAny_dictFind_heap->J',wpAny_dictSet_pairs->Kc,wpAny_execs_nil->vo,wpAny_field->i5,wpAny_fieldsOf->U2,wpAny_forIn_list->tX,wpAny_getItem_list->Ll,wpAny_handled->AY,wpAny_holding->wv,wpAny_isInstance->SZ,wpAny_isOneOf_keyiter->GB,wpAny_isTrue_BoolOp->pJ,wpAny_ite_split->aR,wpAny_load->j5,wpAny_loadPart->Vj,wpAny_loadPart'->vu,wpAny_mkText->sC,wpAny_mono->f8,wpAny_newList->acN,wpAny_newObj_type->WF,wpAny_newTuple->U5,wpAny_notOrdered_dict->iG,wpAny_of_eq->i7,wpAny_pure->am,wpAny_pyIter_enum->Oj,wpAny_pyIter_list->dG,wpAny_pyIter_slot->so,wpAny_pyIter_tuple->j6,wpAny_richCompare_same_room->xc,wpAny_rule->bw,wpAny_runValue->U',wpAny_seqItems->eC,wpAny_sequenceKey->N2,wpAny_setField->oE,wpAny_setField_rec->eQ,wpAny_setState_of->Oe,wpAny_specialOf->bN,wpAny_standAt->cN,wpAny_throw->oF,wpAny_truthy_bool->fv,wpAny_tupleItemsOf->gz,wpAny_typeNameOfWhole_keyiter->eN,wpAny_typeOf->dE,wpAny_updateDictKeys->G4,wpAny_updateSeq->ni,wpAny_with_toks->TX
open PySem.AutoSeq1 renaming list_extend_list_tuple_0->N5,tuple___add___tuple_tuple_0->N6,tuple___add___tuple_tuple_1->N7
open PySem.Builtin.Dict renaming mergeDict->TR,showsAll->jC,updateFrom->pM
open PySem.Builtin.Frozenset renaming slot0->Ha,updateFrom->He
open PySem.Builtin.Int renaming intBits->Vh
open PySem.Builtin.List renaming listExtendWith->gQ,listLengthHint->dR,listSameRef->eW,listSubscript?->TY
open PySem.Builtin.Range renaming rangeFitsLong->O8,rangeSize->pk,small->r7
open PySem.Builtin.Slice renaming sliceAdjust->hX,sliceApplied->OZ,slicePlaces->O0
open PySem.Builtin.SmallTypes renaming nextOf->mf
open PySem.Builtin.Str renaming occurrences->fA,subAt->Vg
open PySem.Builtin.Tuple renaming tupleExact->O3,tupleHashOf->cw,tupleIsExact->O1,tupleItemsOf->ny
open PySem.Calls renaming Name_function_global->G3,callWith_function->N4,call_len_list->acK,spliced_cons->A4,spliced_nil->CG
open PySem.Challenge renaming pw_pq0077_01->mh,rw_pq0077_01->mj
open PySem.Code renaming compLoop->Lm
open PySem.DictEntry renaming key->aev
open PySem.Expr renaming Name->cf
open PySem.F renaming args_dict_keyiterator_next_1->l9,args_list_extend_2->qD,args_tuple_add_2->sj,args_tuple_iterator_next_1->mP,called_set->dU,entry_dict_keyiterator_next->mz,entry_list_extend->r6,entry_tuple_add->sZ,entry_tuple_iterator_next->nj,plainAttrs_dict->dq,plainAttrs_list->a8,plain_extend_loop->fe,slot_dict_items->s7,slot_dict_iter->j7,slot_dict_keyiterator_next->aZ,slot_dict_pop->u7,slot_dict_setdefault->pK,slot_dict_update->sq,slot_list_extend->bM,slot_list_getattribute->du,slot_set_iter->u9,slot_tuple_add->tY,slot_tuple_getattribute->da,slot_tuple_iterator_next->cV,type_list_extend->fC
open PySem.Heap renaming DictOfH->d9,ExtBut->jH,SameBut->Pv,get?->GG,get?_none_of_le->Re,get?_push_ne->jJ,get?_push_of_some->dL,get?_push_size->g3,get?_update_ne->A8,get?_update_other->KF,get?_update_self->Tl,lt_size->ss,size_push->gw,size_update->hV
open PySem.Heap.DictOf renaming new->xd
open PySem.Heap.DictOfH renaming new->TQ,typeIs->eM
open PySem.Heap.IsList renaming typeIs->Ve
open PySem.Heap.IsSliceOf renaming new->kp
open PySem.Heap.Ns renaming agree->Gz
open PySem.Heap.SameBut renaming refl->lH,update->TI
open PySem.HeapKind renaming keeps->CD,pyHash->ag0
open PySem.IntMulOk renaming of_right->ahc
open PySem.MeetsSeq.EqGives renaming int->Kj
open PySem.Moved renaming eq_with->Kg,trans->Oi
open PySem.NameKind renaming cell->l6,free->gC
open PySem.Obj renaming cls_mapFields->GC,data_mapDict->G5,data_mapDictKeys->AX,data_mapFields->jj,isFreed_of_dict->CC,isFreed_of_fields->zb,mapDictKeys->J9,mapFields->N',mapSeq->bf,putName->T5
open PySem.SetTable renaming advance->ag3,below->bu,fill->r9,fits->ja,freeSlot->ag8,fresh->CK,gaveWay->ag5,grown->eO,orStandIn->ag9,put->ag6,relaid->Bb,sameMemory->ag4,slot->r8,tooFull->zh
open PySem.SetTable.below renaming go->ie
open PySem.Shared renaming TypeIs->mO
open PySem.Str renaming ofString->t0
open PySem.Txt renaming isspace->Bc
open PySem.Value renaming int->TS,none->Fa,ref->dC,type->aT
open PySem.Value.ref renaming inj->Cw
open PySem.W renaming Frag->Hm,InstAt->UY,Looks->G1,SharedT->sD,WData->Vr,any_some->Ho,boot_drawn->xE,boot_heap->fT,boot_toks->CM,emptyDict->l7,findIn->Ls,gensDone->Vo,hashAt->kY,instObj->fS,kas_rev->xg,laidKept->Vp,lookIn->qC,namesBound->Ly,plainGet_of->Hn,staticsOk->Ph,stepOk->Lx,stepT->Vk
open PySem.W.Fast renaming te10156331382660048174->T6,te11892475500146522536->T7,te14364793385576792824->T9,te6613529449190102663->Ua
open PySem.W.WData renaming bool->g0
open PySem.W.WShape renaming has->Ov,hasAll->ta
open PySem.W.WTm renaming holds->acP
open PySem.Walks renaming list->kE,tuple->N3
open PySem.pickOrder renaming go->sy
open Std.Legacy.Range renaming forIn_eq_forIn_range'->Ke
open PySem PySem.W PyProof.Rows PySem.Calls PySem.Spec PySem.SeqAt
section
theorem dv{u z:Prop}{P:Prop}(h:u/\z)(k:u->z->P):P:=k h.1 h.2
theorem ml{j u z:Prop}{P:Prop}(h:j/\u/\z)(k:j->u->z->P):P:=k h.1 h.2.1 h.2.2
theorem Hv{j u z:Prop}(h0:j)(h1:u)(q:z):j/\u/\z:=⟨h0,h1,q⟩
theorem Hw{q j u z:Prop}{P:Prop}(h:q/\j/\u/\z)(k:q->j->u->z->P):P:=k h.1 h.2.1 h.2.2.1 h.2.2.2
theorem oJ{q j u z:Prop}(h0:q)(h1:j)(Z:u)(Y:z):q/\j/\u/\z:=⟨h0,h1,Z,Y⟩
theorem Z9{Y q j u z:Prop}{P:Prop}(h:Y/\q/\j/\u/\z)(k:Y->q->j->u->z->P):P:=k h.1 h.2.1 h.2.2.1 h.2.2.2.1 h.2.2.2.2
theorem bR{u:Sort _}{z:u->Prop}{P:Prop}(h:∃a,z a)(k:∀a,z a->P):P:=h.elim λa h=>k a h
theorem ah{j:Sort _}{u z:j->Prop}{P:Prop}(h:∃a,u a/\z a)(k:∀a,u a->z a->P):P:=h.elim λa h=>k a h.1 h.2
theorem ak{j:Sort _}{u z:j->Prop}(a:j)(h0:u a)(h1:z a):∃a,u a/\z a:=⟨a,h0,h1⟩
theorem bt{q:Sort _}{j u z:q->Prop}{P:Prop}(h:∃a,j a/\u a/\z a)(k:∀a,j a->u a->z a->P):P:=h.elim λa h=>k a h.1 h.2.1 h.2.2
theorem cY{q:Sort _}{j u z:q->Prop}(a:q)(h0:j a)(h1:u a)(Y:z a):∃a,j a/\u a/\z a:=⟨a,h0,h1,Y⟩
theorem pP{Y:Sort _}{q j u z:Y->Prop}{P:Prop}(h:∃a,q a/\j a/\u a/\z a)(k:∀a,q a->j a->u a->z a->P):P:=h.elim λa h=>k a h.1 h.2.1 h.2.2.1 h.2.2.2
theorem qI{Y:Sort _}{q j u z:Y->Prop}(a:Y)(h0:q a)(h1:j a)(O:u a)(Z:z a):∃a,q a/\j a/\u a/\z a:=⟨a,h0,h1,O,Z⟩
theorem vA{Z:Sort _}{Y q j u z:Z->Prop}{P:Prop}(h:∃a,Y a/\q a/\j a/\u a/\z a)(k:∀a,Y a->q a->j a->u a->z a->P):P:=h.elim λa h=>k a h.1 h.2.1 h.2.2.1 h.2.2.2.1 h.2.2.2.2
theorem Z'{Z:Sort _}{Y q j u z:Z->Prop}(a:Z)(h0:Y a)(h1:q a)(h2:j a)(N:u a)(O:z a):∃a,Y a/\q a/\j a/\u a/\z a:=⟨a,h0,h1,h2,N,O⟩
theorem aaa{O:Sort _}{Z Y q j u z:O->Prop}{P:Prop}(h:∃a,Z a/\Y a/\q a/\j a/\u a/\z a)(k:∀a,Z a->Y a->q a->j a->u a->z a->P):P:=h.elim λa h=>k a h.1 h.2.1 h.2.2.1 h.2.2.2.1 h.2.2.2.2.1 h.2.2.2.2.2
theorem aab{N:Sort _}{O Z Y q j u z:N->Prop}{P:Prop}(h:∃a,O a/\Z a/\Y a/\q a/\j a/\u a/\z a)(k:∀a,O a->Z a->Y a->q a->j a->u a->z a->P):P:=h.elim λa h=>k a h.1 h.2.1 h.2.2.1 h.2.2.2.1 h.2.2.2.2.1 h.2.2.2.2.2.1 h.2.2.2.2.2.2
theorem aac{N:Sort _}{O Z Y q j u z:N->Prop}(a:N)(h0:O a)(h1:Z a)(h2:Y a)(h3:q a)(h4:j a)(h5:u a)(h6:z a):∃a,O a/\Z a/\Y a/\q a/\j a/\u a/\z a:=⟨a,h0,h1,h2,h3,h4,h5,h6⟩
theorem mm{j:Sort _}{u:Sort _}{z:j->u->Prop}{P:Prop}(h:∃a b,z a b)(k:∀a b,z a b->P):P:=h.elim λa h=>h.elim λb h=>k a b h
theorem xG{j:Sort _}{u:Sort _}{z:j->u->Prop}(a:j)(b:u)(h0:z a b):∃a b,z a b:=⟨a,b,h0⟩
theorem dW{q:Sort _}{j:Sort _}{u z:q->j->Prop}{P:Prop}(h:∃a b,u a b/\z a b)(k:∀a b,u a b->z a b->P):P:=h.elim λa h=>h.elim λb h=>k a b h.1 h.2
theorem pQ{q:Sort _}{j:Sort _}{u z:q->j->Prop}(a:q)(b:j)(h0:u a b)(h1:z a b):∃a b,u a b/\z a b:=⟨a,b,h0,h1⟩
theorem cK{Y:Sort _}{q:Sort _}{j u z:Y->q->Prop}{P:Prop}(h:∃a b,j a b/\u a b/\z a b)(k:∀a b,j a b->u a b->z a b->P):P:=h.elim λa h=>h.elim λb h=>k a b h.1 h.2.1 h.2.2
theorem jo{Y:Sort _}{q:Sort _}{j u z:Y->q->Prop}(a:Y)(b:q)(h0:j a b)(h1:u a b)(Z:z a b):∃a b,j a b/\u a b/\z a b:=⟨a,b,h0,h1,Z⟩
theorem pR{Z:Sort _}{Y:Sort _}{q j u z:Z->Y->Prop}{P:Prop}(h:∃a b,q a b/\j a b/\u a b/\z a b)(k:∀a b,q a b->j a b->u a b->z a b->P):P:=h.elim λa h=>h.elim λb h=>k a b h.1 h.2.1 h.2.2.1 h.2.2.2
theorem Dk{Z:Sort _}{Y:Sort _}{q j u z:Z->Y->Prop}(a:Z)(b:Y)(h0:q a b)(h1:j a b)(N:u a b)(O:z a b):∃a b,q a b/\j a b/\u a b/\z a b:=⟨a,b,h0,h1,N,O⟩
theorem LP{O:Sort _}{Z:Sort _}{Y q j u z:O->Z->Prop}{P:Prop}(h:∃a b,Y a b/\q a b/\j a b/\u a b/\z a b)(k:∀a b,Y a b->q a b->j a b->u a b->z a b->P):P:=h.elim λa h=>h.elim λb h=>k a b h.1 h.2.1 h.2.2.1 h.2.2.2.1 h.2.2.2.2
theorem Dl{O:Sort _}{Z:Sort _}{Y q j u z:O->Z->Prop}(a:O)(b:Z)(h0:Y a b)(h1:q a b)(h2:j a b)(h3:u a b)(N:z a b):∃a b,Y a b/\q a b/\j a b/\u a b/\z a b:=⟨a,b,h0,h1,h2,h3,N⟩
theorem Qm{N:Sort _}{O:Sort _}{Z Y q j u z:N->O->Prop}{P:Prop}(h:∃a b,Z a b/\Y a b/\q a b/\j a b/\u a b/\z a b)(k:∀a b,Z a b->Y a b->q a b->j a b->u a b->z a b->P):P:=h.elim λa h=>h.elim λb h=>k a b h.1 h.2.1 h.2.2.1 h.2.2.2.1 h.2.2.2.2.1 h.2.2.2.2.2
theorem vB{N:Sort _}{O:Sort _}{Z Y q j u z:N->O->Prop}(a:N)(b:O)(h0:Z a b)(h1:Y a b)(h2:q a b)(h3:j a b)(h4:u a b)(h5:z a b):∃a b,Z a b/\Y a b/\q a b/\j a b/\u a b/\z a b:=⟨a,b,h0,h1,h2,h3,h4,h5⟩
theorem aad{aS:Sort _}{bX:Sort _}{N O Z Y q j u z:aS->bX->Prop}{P:Prop}(h:∃a b,N a b/\O a b/\Z a b/\Y a b/\q a b/\j a b/\u a b/\z a b)(k:∀a b,N a b->O a b->Z a b->Y a b->q a b->j a b->u a b->z a b->P):P:=h.elim λa h=>h.elim λb h=>k a b h.1 h.2.1 h.2.2.1 h.2.2.2.1 h.2.2.2.2.1 h.2.2.2.2.2.1 h.2.2.2.2.2.2.1 h.2.2.2.2.2.2.2
theorem Qo{aS:Sort _}{bX:Sort _}{N O Z Y q j u z:aS->bX->Prop}(a:aS)(b:bX)(h0:N a b)(h1:O a b)(h2:Z a b)(h3:Y a b)(h4:q a b)(h5:j a b)(h6:u a b)(h7:z a b):∃a b,N a b/\O a b/\Z a b/\Y a b/\q a b/\j a b/\u a b/\z a b:=⟨a,b,h0,h1,h2,h3,h4,h5,h6,h7⟩
theorem aae{aS:Sort _}{bX:Sort _}{p0 N O Z Y q j u z:aS->bX->Prop}{P:Prop}(h:∃a b,p0 a b/\N a b/\O a b/\Z a b/\Y a b/\q a b/\j a b/\u a b/\z a b)(k:∀a b,p0 a b->N a b->O a b->Z a b->Y a b->q a b->j a b->u a b->z a b->P):P:=h.elim λa h=>h.elim λb h=>k a b h.1 h.2.1 h.2.2.1 h.2.2.2.1 h.2.2.2.2.1 h.2.2.2.2.2.1 h.2.2.2.2.2.2.1 h.2.2.2.2.2.2.2.1 h.2.2.2.2.2.2.2.2
theorem Hx{q:Sort _}{j:Sort _}{u:Sort _}{z:q->j->u->Prop}{P:Prop}(h:∃a b c,z a b c)(k:∀a b c,z a b c->P):P:=h.elim λa h=>h.elim λb h=>h.elim λc h=>k a b c h
theorem aaf{q:Sort _}{j:Sort _}{u:Sort _}{z:q->j->u->Prop}(a:q)(b:j)(c:u)(h0:z a b c):∃a b c,z a b c:=⟨a,b,c,h0⟩
theorem Dm{Y:Sort _}{q:Sort _}{j:Sort _}{u z:Y->q->j->Prop}{P:Prop}(h:∃a b c,u a b c/\z a b c)(k:∀a b c,u a b c->z a b c->P):P:=h.elim λa h=>h.elim λb h=>h.elim λc h=>k a b c h.1 h.2
theorem Qp{Y:Sort _}{q:Sort _}{j:Sort _}{u z:Y->q->j->Prop}(a:Y)(b:q)(c:j)(h0:u a b c)(h1:z a b c):∃a b c,u a b c/\z a b c:=⟨a,b,c,h0,h1⟩
theorem mn{Z:Sort _}{Y:Sort _}{q:Sort _}{j u z:Z->Y->q->Prop}{P:Prop}(h:∃a b c,j a b c/\u a b c/\z a b c)(k:∀a b c,j a b c->u a b c->z a b c->P):P:=h.elim λa h=>h.elim λb h=>h.elim λc h=>k a b c h.1 h.2.1 h.2.2
theorem Hy{Z:Sort _}{Y:Sort _}{q:Sort _}{j u z:Z->Y->q->Prop}(a:Z)(b:Y)(c:q)(h0:j a b c)(h1:u a b c)(O:z a b c):∃a b c,j a b c/\u a b c/\z a b c:=⟨a,b,c,h0,h1,O⟩
theorem Qq{O:Sort _}{Z:Sort _}{Y:Sort _}{q j u z:O->Z->Y->Prop}{P:Prop}(h:∃a b c,q a b c/\j a b c/\u a b c/\z a b c)(k:∀a b c,q a b c->j a b c->u a b c->z a b c->P):P:=h.elim λa h=>h.elim λb h=>h.elim λc h=>k a b c h.1 h.2.1 h.2.2.1 h.2.2.2
theorem aag{O:Sort _}{Z:Sort _}{Y:Sort _}{q j u z:O->Z->Y->Prop}(a:O)(b:Z)(c:Y)(h0:q a b c)(h1:j a b c)(h2:u a b c)(N:z a b c):∃a b c,q a b c/\j a b c/\u a b c/\z a b c:=⟨a,b,c,h0,h1,h2,N⟩
theorem Qr{N:Sort _}{O:Sort _}{Z:Sort _}{Y q j u z:N->O->Z->Prop}{P:Prop}(h:∃a b c,Y a b c/\q a b c/\j a b c/\u a b c/\z a b c)(k:∀a b c,Y a b c->q a b c->j a b c->u a b c->z a b c->P):P:=h.elim λa h=>h.elim λb h=>h.elim λc h=>k a b c h.1 h.2.1 h.2.2.1 h.2.2.2.1 h.2.2.2.2
theorem aah{N:Sort _}{O:Sort _}{Z:Sort _}{Y q j u z:N->O->Z->Prop}(a:N)(b:O)(c:Z)(h0:Y a b c)(h1:q a b c)(h2:j a b c)(h3:u a b c)(h4:z a b c):∃a b c,Y a b c/\q a b c/\j a b c/\u a b c/\z a b c:=⟨a,b,c,h0,h1,h2,h3,h4⟩
theorem xH{aS:Sort _}{N:Sort _}{O:Sort _}{Z Y q j u z:aS->N->O->Prop}{P:Prop}(h:∃a b c,Z a b c/\Y a b c/\q a b c/\j a b c/\u a b c/\z a b c)(k:∀a b c,Z a b c->Y a b c->q a b c->j a b c->u a b c->z a b c->P):P:=h.elim λa h=>h.elim λb h=>h.elim λc h=>k a b c h.1 h.2.1 h.2.2.1 h.2.2.2.1 h.2.2.2.2.1 h.2.2.2.2.2
theorem aai{aS:Sort _}{N:Sort _}{O:Sort _}{Z Y q j u z:aS->N->O->Prop}(a:aS)(b:N)(c:O)(h0:Z a b c)(h1:Y a b c)(h2:q a b c)(h3:j a b c)(h4:u a b c)(h5:z a b c):∃a b c,Z a b c/\Y a b c/\q a b c/\j a b c/\u a b c/\z a b c:=⟨a,b,c,h0,h1,h2,h3,h4,h5⟩
theorem aaj{aS:Sort _}{bX:Sort _}{N:Sort _}{O Z Y q j u z:aS->bX->N->Prop}{P:Prop}(h:∃a b c,O a b c/\Z a b c/\Y a b c/\q a b c/\j a b c/\u a b c/\z a b c)(k:∀a b c,O a b c->Z a b c->Y a b c->q a b c->j a b c->u a b c->z a b c->P):P:=h.elim λa h=>h.elim λb h=>h.elim λc h=>k a b c h.1 h.2.1 h.2.2.1 h.2.2.2.1 h.2.2.2.2.1 h.2.2.2.2.2.1 h.2.2.2.2.2.2
theorem aak{Z:Sort _}{Y:Sort _}{q:Sort _}{j:Sort _}{u z:Z->Y->q->j->Prop}{P:Prop}(h:∃a b c d,u a b c d/\z a b c d)(k:∀a b c d,u a b c d->z a b c d->P):P:=h.elim λa h=>h.elim λb h=>h.elim λc h=>h.elim λd h=>k a b c d h.1 h.2
theorem aal{Z:Sort _}{Y:Sort _}{q:Sort _}{j:Sort _}{u z:Z->Y->q->j->Prop}(a:Z)(b:Y)(c:q)(d:j)(h0:u a b c d)(h1:z a b c d):∃a b c d,u a b c d/\z a b c d:=⟨a,b,c,d,h0,h1⟩
theorem aam{O:Sort _}{Z:Sort _}{Y:Sort _}{q:Sort _}{j u z:O->Z->Y->q->Prop}{P:Prop}(h:∃a b c d,j a b c d/\u a b c d/\z a b c d)(k:∀a b c d,j a b c d->u a b c d->z a b c d->P):P:=h.elim λa h=>h.elim λb h=>h.elim λc h=>h.elim λd h=>k a b c d h.1 h.2.1 h.2.2
theorem aan{N:Sort _}{O:Sort _}{Z:Sort _}{Y:Sort _}{q j u z:N->O->Z->Y->Prop}{P:Prop}(h:∃a b c d,q a b c d/\j a b c d/\u a b c d/\z a b c d)(k:∀a b c d,q a b c d->j a b c d->u a b c d->z a b c d->P):P:=h.elim λa h=>h.elim λb h=>h.elim λc h=>h.elim λd h=>k a b c d h.1 h.2.1 h.2.2.1 h.2.2.2
theorem aao{N:Sort _}{O:Sort _}{Z:Sort _}{Y:Sort _}{q j u z:N->O->Z->Y->Prop}(a:N)(b:O)(c:Z)(d:Y)(h0:q a b c d)(h1:j a b c d)(h2:u a b c d)(h3:z a b c d):∃a b c d,q a b c d/\j a b c d/\u a b c d/\z a b c d:=⟨a,b,c,d,h0,h1,h2,h3⟩
theorem Dp{aS:Sort _}{bX:Sort _}{N:Sort _}{O:Sort _}{Z Y q j u z:aS->bX->N->O->Prop}{P:Prop}(h:∃a b c d,Z a b c d/\Y a b c d/\q a b c d/\j a b c d/\u a b c d/\z a b c d)(k:∀a b c d,Z a b c d->Y a b c d->q a b c d->j a b c d->u a b c d->z a b c d->P):P:=h.elim λa h=>h.elim λb h=>h.elim λc h=>h.elim λd h=>k a b c d h.1 h.2.1 h.2.2.1 h.2.2.2.1 h.2.2.2.2.1 h.2.2.2.2.2
theorem aap{aS:Sort _}{bX:Sort _}{N:Sort _}{O:Sort _}{Z Y q j u z:aS->bX->N->O->Prop}(a:aS)(b:bX)(c:N)(d:O)(h0:Z a b c d)(h1:Y a b c d)(h2:q a b c d)(h3:j a b c d)(h4:u a b c d)(h5:z a b c d):∃a b c d,Z a b c d/\Y a b c d/\q a b c d/\j a b c d/\u a b c d/\z a b c d:=⟨a,b,c,d,h0,h1,h2,h3,h4,h5⟩
theorem Dq{aS:Sort _}{bX:Sort _}{ff:Sort _}{N:Sort _}{O Z Y q j u z:aS->bX->ff->N->Prop}{P:Prop}(h:∃a b c d,O a b c d/\Z a b c d/\Y a b c d/\q a b c d/\j a b c d/\u a b c d/\z a b c d)(k:∀a b c d,O a b c d->Z a b c d->Y a b c d->q a b c d->j a b c d->u a b c d->z a b c d->P):P:=h.elim λa h=>h.elim λb h=>h.elim λc h=>h.elim λd h=>k a b c d h.1 h.2.1 h.2.2.1 h.2.2.2.1 h.2.2.2.2.1 h.2.2.2.2.2.1 h.2.2.2.2.2.2
theorem Dr{aS:Sort _}{bX:Sort _}{ff:Sort _}{N:Sort _}{O Z Y q j u z:aS->bX->ff->N->Prop}(a:aS)(b:bX)(c:ff)(d:N)(h0:O a b c d)(h1:Z a b c d)(h2:Y a b c d)(h3:q a b c d)(h4:j a b c d)(h5:u a b c d)(h6:z a b c d):∃a b c d,O a b c d/\Z a b c d/\Y a b c d/\q a b c d/\j a b c d/\u a b c d/\z a b c d:=⟨a,b,c,d,h0,h1,h2,h3,h4,h5,h6⟩
theorem aaq{aS:Sort _}{bX:Sort _}{ff:Sort _}{kO:Sort _}{N O Z Y q j u z:aS->bX->ff->kO->Prop}{P:Prop}(h:∃a b c d,N a b c d/\O a b c d/\Z a b c d/\Y a b c d/\q a b c d/\j a b c d/\u a b c d/\z a b c d)(k:∀a b c d,N a b c d->O a b c d->Z a b c d->Y a b c d->q a b c d->j a b c d->u a b c d->z a b c d->P):P:=h.elim λa h=>h.elim λb h=>h.elim λc h=>h.elim λd h=>k a b c d h.1 h.2.1 h.2.2.1 h.2.2.2.1 h.2.2.2.2.1 h.2.2.2.2.2.1 h.2.2.2.2.2.2.1 h.2.2.2.2.2.2.2
theorem aar{Z:Sort _}{Y:Sort _}{q:Sort _}{j:Sort _}{O:Sort _}{u z:Z->Y->q->j->O->Prop}{P:Prop}(h:∃a b c d e,u a b c d e/\z a b c d e)(k:∀a b c d e,u a b c d e->z a b c d e->P):P:=h.elim λa h=>h.elim λb h=>h.elim λc h=>h.elim λd h=>h.elim λe h=>k a b c d e h.1 h.2
theorem Qs{aS:Sort _}{N:Sort _}{O:Sort _}{Z:Sort _}{CN:Sort _}{Y q j u z:aS->N->O->Z->CN->Prop}{P:Prop}(h:∃a b c d e,Y a b c d e/\q a b c d e/\j a b c d e/\u a b c d e/\z a b c d e)(k:∀a b c d e,Y a b c d e->q a b c d e->j a b c d e->u a b c d e->z a b c d e->P):P:=h.elim λa h=>h.elim λb h=>h.elim λc h=>h.elim λd h=>h.elim λe h=>k a b c d e h.1 h.2.1 h.2.2.1 h.2.2.2.1 h.2.2.2.2
theorem aas{aS:Sort _}{N:Sort _}{O:Sort _}{Z:Sort _}{CN:Sort _}{Y q j u z:aS->N->O->Z->CN->Prop}(a:aS)(b:N)(c:O)(d:Z)(e:CN)(h0:Y a b c d e)(h1:q a b c d e)(h2:j a b c d e)(h3:u a b c d e)(h4:z a b c d e):∃a b c d e,Y a b c d e/\q a b c d e/\j a b c d e/\u a b c d e/\z a b c d e:=⟨a,b,c,d,e,h0,h1,h2,h3,h4⟩
theorem Qt{aS:Sort _}{bX:Sort _}{ff:Sort _}{N:Sort _}{CN:Sort _}{O Z Y q j u z:aS->bX->ff->N->CN->Prop}(a:aS)(b:bX)(c:ff)(d:N)(e:CN)(h0:O a b c d e)(h1:Z a b c d e)(h2:Y a b c d e)(h3:q a b c d e)(h4:j a b c d e)(h5:u a b c d e)(h6:z a b c d e):∃a b c d e,O a b c d e/\Z a b c d e/\Y a b c d e/\q a b c d e/\j a b c d e/\u a b c d e/\z a b c d e:=⟨a,b,c,d,e,h0,h1,h2,h3,h4,h5,h6⟩
theorem LQ{aS:Sort _}{bX:Sort _}{ff:Sort _}{kO:Sort _}{CN:Sort _}{u:Sort _}{z:Sort _}{p0 N O Z Y q j:aS->bX->ff->kO->CN->u->z->Prop}(a:aS)(b:bX)(c:ff)(d:kO)(e:CN)(f:u)(g:z)(h0:p0 a b c d e f g)(h1:N a b c d e f g)(h2:O a b c d e f g)(h3:Z a b c d e f g)(h4:Y a b c d e f g)(h5:q a b c d e f g)(h6:j a b c d e f g):∃a b c d e f g,p0 a b c d e f g/\N a b c d e f g/\O a b c d e f g/\Z a b c d e f g/\Y a b c d e f g/\q a b c d e f g/\j a b c d e f g:=⟨a,b,c,d,e,f,g,h0,h1,h2,h3,h4,h5,h6⟩
theorem eR{P:Prop}(h:false=true):P:=Gy h
theorem Ds{P:Prop}(h:true=false):P:=Gy h
theorem bE{α:Type _}{P:Prop}{x:α}(h:none=some x):P:=nomatch h
theorem fg{α:Type _}{P:Prop}{x:α}(h:some x=none):P:=nomatch h
theorem Dt{α:Type _}{P:Prop}{x:α}{l:List α}(h:[]=x::l):P:=nomatch h
theorem vC{α:Type _}{P:Prop}{x:α}{l:List α}(h:x::l=[]):P:=nomatch h
theorem zq{α:Type _}{a b:α}{l m:List α}{P:Prop}(h:a::l=b::m)(k:a=b->l=m->P):P:=k (Ix h).1 (Ix h).2
theorem t9{α β:Type _}{a b:α}{c d:β}{P:Prop}(h:(a,c)=(b,d))(k:a=b->c=d->P):P:=k (gZ h).1 (gZ h).2
theorem zt{α:Type _}{a b:α}{P:Prop}(h:some a=some b)(k:a=b->P):P:=k (db h)
theorem Qu{z α:Type _}{a b:α}{P:Prop}(h:(Except.ok a:Except z α)=.ok b)(k:a=b->P):P:=k (aem h)
theorem cut{G:Prop}(h:∀P:Prop,(G->P)->P):G:=h G λx=>x
section
variable {M:Model}{A:Da}{α:Type}{c:Prop}[Decidable c]{x y:sY α}{Q:α->bv->Prop}{E:bm->bv->Prop}{s:bv}
theorem vD(h:c)(k:im M A x Q E s):im M A (if c then x else y) Q E s:=by rw[if_pos h];exact k
theorem iM(h:¬c)(k:im M A y Q E s):im M A (if c then x else y) Q E s:=by rw[if_neg h];exact k
theorem LR(k:x=y)(h:im M A y Q E s):im M A x Q E s:=k▸h
end
end
section
inductive D where
 |none
 |bool (b:Bool)
 |int (i:Int)
 |str (s:lm)
 |tup (l:List D)
 |fl (l:List D)
 |ref (a:co)
 |obj (a C:co) (fs:List (lm×D))
 |ins (a C dx:co)
inductive ao where
 |list (l:List D)
 |dI (es:List (Int×D))
 |dS (es:List (lm×D))
 |dT (b:Bool) (es:List (D×D))
 |dN (fs:List (lm×D))
 |set (ds:List D)
 |raw (o:nh)
 |rev (ds:List D)
 |ro (o:nh) (c:ao)
noncomputable abbrev aw:=co->Option nh
noncomputable abbrev aa:=co->Option ao
noncomputable def aw.le(F G:aw):Prop:=∀a o,F a=some o->G a=some o
theorem aw.le.refl(F:aw):F.le F:=λ_ _ e=>e
theorem aw.le.trans{F G K:aw}(x:F.le G)(y:G.le K):F.le K:=λa o e=>y a o (x a o e)
noncomputable def f6(F:aw)(a:co)(o:nh):aw:=λb=>if b=a then some o else F b
noncomputable def upd(H:aa)(a:co)(c:ao):aa:=λb=>if b=a then some c else H b
theorem af(H:aa)(a:co)(c:ao):upd H a c a=some c:=by simp[upd]
theorem aj{H:aa}{a b:co}{c:ao}(h:b≠a):upd H a c b=H b:=by simp[upd,h]
theorem aM(H:aw)(a:co)(c:nh):f6 H a c a=some c:=by simp[f6]
theorem eH{H:aw}{a b:co}{c:nh}(h:b≠a):f6 H a c b=H b:=by simp[f6,h]
noncomputable abbrev aE(vs:List bm)(n:Nat):Obj:={cls:=.type "tuple",data:=.seq vs.toArray n}
noncomputable abbrev bz(vs:List bm)(n:Nat):Obj:={cls:=.type "list",data:=.seq vs.toArray n}
noncomputable abbrev b9(es:List KM)(n:Nat):Obj:={cls:=.type "dict",data:=.dict es.toArray n}
mutual
inductive R(F:aw):bm->D->Prop
 |none:R F .none .none
 |bool (b:Bool):R F (.bool b) (.bool b)
 |int (i:Int) (t:Tok):R F (.int i t) (.int i)
 |str (s:lm) (t:Tok):R F (.str s t) (.str s)
 |tup {a:co} {vs:List bm} {ds:List D} {n:Nat}:F a=some (aE vs n)->Rs F vs ds->R F (.ref a) (.tup ds)
 |fl {a:co} {vs:List bm} {ds:List D} {n:Nat}:F a=some (bz vs n)->Rs F vs ds->R F (.ref a) (.fl ds)
 |ref (a:co):R F (.ref a) (.ref a)
 |obj {a dx C:co} {es:List KM} {fs:List (lm×D)} {n:Nat}:F a=some (fS C dx)->F dx=some (b9 es n)->Rf F es fs->R F (.ref a) (.obj a C fs)
 |ins {a dx C:co}:F a=some (fS C dx)->R F (.ref a) (.ins a C dx)
inductive Rs(F:aw):List bm->List D->Prop
 |nil:Rs F [] []
 |cons {v:bm} {d:D} {vs:List bm} {ds:List D}:R F v d->Rs F vs ds->Rs F (v::vs) (d::ds)
inductive Rf(F:aw):List KM->List (lm×D)->Prop
 |nil:Rf F [] []
 |cons {h:Int} {x:lm} {t:Tok} {v:bm} {d:D} {es:List KM} {fs:List (lm×D)}:R F v d->Rf F es fs->Rf F (⟨h,.str x t,v⟩::es) ((x,d)::fs)
end
noncomputable def RI(F:aw)(P:bm->Prop)(d:D):Prop:=match d with
 |.none=>P .none
 |.bool b=>P (.bool b)
 |.int i=>∀t,P (.int i t)
 |.str s=>∀t,P (.str s t)
 |.tup ds=>∀a vs n,F a=some (aE vs n)->Rs F vs ds->P (.ref a)
 |.fl ds=>∀a vs n,F a=some (bz vs n)->Rs F vs ds->P (.ref a)
 |.ref a=>P (.ref a)
 |.obj a C u=>∀z es n,F a=some (fS C z)->F z=some (b9 es n)->Rf F es u->P (.ref a)
 |.ins a C z=>F a=some (fS C z)->P (.ref a)
@[elab_as_elim] theorem R.el {F:aw} {v:bm} {d:D} {P:bm->Prop} (r:R F v d):RI F P d->P v:=
 R.casesOn (motive_1:=λv d _=>RI F P d->P v) r id (λ_=>id) (λ_ t h=>h t) (λ_ t h=>h t) (λe r h=>h _ _ _ e r) (λe r h=>h _ _ _ e r) (λ_=>id) (λz e2 r h=>h _ _ _ z e2 r) λe h=>h e
noncomputable def RsI(F:aw)(P:List bm->Prop)(ds:List D):Prop:=match ds with
 |[]=>P []
 |d::ds=>∀v vs,R F v d->Rs F vs ds->P (v::vs)
@[elab_as_elim] theorem Rs.el {F:aw} {vs:List bm} {ds:List D} {P:List bm->Prop} (r:Rs F vs ds):RsI F P ds->P vs:=
 Rs.casesOn (motive_2:=λvs ds _=>RsI F P ds->P vs) r id λa b h=>h _ _ a b
noncomputable def RsJ(F:aw)(P:List D->Prop)(vs:List bm):Prop:=match vs with
 |[]=>P []
 |v::vs=>∀d ds,R F v d->Rs F vs ds->P (d::ds)
@[elab_as_elim] theorem Rs.le {F:aw} {vs:List bm} {ds:List D} {P:List D->Prop} (r:Rs F vs ds):RsJ F P vs->P ds:=
 Rs.casesOn (motive_2:=λvs ds _=>RsJ F P vs->P ds) r id λa b h=>h _ _ a b
@[elab_as_elim] theorem ifA {c:Bool} {α:Sort _} {P:α->Prop} {x y:α} (h:c=true->P x) (k:c=false->P y):P (if c=true then x else y):=by
 cases c with
 |true=>exact h rfl
 |false=>exact k rfl
theorem R.mono{F G:aw}(k:F.le G){v:bm}{d:D}(r:R F v d):R G v d:=
 R.rec (motive_1:=λv d _=>R G v d) (motive_2:=λv d _=>Rs G v d) (motive_3:=λv d _=>Rf G v d) .none .bool .int .str (λh _ r=>.tup (k _ _ h) r) (λh _ r=>.fl (k _ _ h) r) .ref
  (λh1 z _ r=>.obj (k _ _ h1) (k _ _ z) r) (λh=>.ins (k _ _ h)) .nil (λ_ _ h r=>.cons h r) .nil (λ_ _ h r=>.cons h r) r
@[elab_as_elim] theorem Rs.ind {F:aw} {P:List bm->List D->Prop} (nil:P [] []) (cons:∀v d vs ds,R F v d->Rs F vs ds->P vs ds->P (v::vs) (d::ds)) {vs:List bm} {ds:List D} (r:Rs F vs ds):P vs ds:=by
 induction vs generalizing ds with
 |nil=>exact r.le nil
 |cons v vs ih=>exact r.le λd ds h r=>cons v d vs ds h r (ih r)
theorem Rs.mono{F G:aw}(k:F.le G){v:List bm}{d:List D}(r:Rs F v d):Rs G v d:=Rs.ind (P:=Rs G) .nil (λ_ _ _ _ h _ ih=>.cons (h.mono k) ih) r
theorem Rf.mono{F G:aw}(k:F.le G){v:List KM}{d:List (lm×D)}(r:Rf F v d):Rf G v d:=
 Rf.rec (motive_1:=λ_ _ _=>True) (motive_2:=λ_ _ _=>True) (motive_3:=λv d _=>Rf G v d) trivial (λ_=>trivial) (λ_ _=>trivial) (λ_ _=>trivial) (λ_ _ _=>trivial) (λ_ _ _=>trivial) (λ_=>trivial)
  (λ_ _ _ _=>trivial) (λ_=>trivial) trivial (λ_ _ _ _=>trivial) .nil (λh _ _ r=>.cons (h.mono k) r) r
theorem Rs.length{F:aw}{vs:List bm}{ds:List D}(r:Rs F vs ds):vs.length=ds.length:=Rs.ind (P:=λvs ds=>vs.length=ds.length) rfl (λ_ _ _ _ _ _ ih=>congrArg (·+1) ih) r
theorem Rs.append{F:aw}{vs ws:List bm}{ds es:List D}(r:Rs F vs ds)(y:Rs F ws es):Rs F (vs++ws) (ds++es):=Rs.ind (P:=λvs ds=>Rs F (vs++ws) (ds++es)) y (λ_ _ _ _ h _ ih=>.cons h ih) r
theorem Hz{F:aw}{vs:List bm}{ds:List D}{v:bm}{d:D}(r:Rs F vs ds)(h:R F v d):Rs F (vs++[v]) (ds++[d]):=r.append (.cons h .nil)
theorem Rs.get{F:aw}{vs:List bm}{ds:List D}(r:Rs F vs ds){i:Nat}{d:D}(h:ds[i]?=some d):∃v,vs[i]?=some v/\R F v d:=
 Rs.ind (P:=λvs ds=>∀i,ds[i]?=some d->∃v,vs[i]?=some v/\R F v d) (λ_ h=>bE h) (λv e _ _ h _ ih i q=>by
  cases i with
  |zero=>exact⟨v,rfl,db q▸h⟩
  |succ i=>exact ih i q) r i h
theorem Rs.set{F:aw}{vs:List bm}{ds:List D}(r:Rs F vs ds)(i:Nat){v:bm}{d:D}(h:R F v d):Rs F (vs.set i v) (ds.set i d):=
 Rs.ind (P:=λvs ds=>∀i,Rs F (vs.set i v) (ds.set i d)) (λ_=>.nil) (λ_ _ _ _ q r ih i=>by
  cases i with
  |zero=>exact .cons h r
  |succ i=>exact .cons q (ih i)) r i
theorem Rs.drop{F:aw}{vs:List bm}{ds:List D}(r:Rs F vs ds)(i:Nat):Rs F (vs.drop i) (ds.drop i):=
 Rs.ind (P:=λvs ds=>∀i,Rs F (vs.drop i) (ds.drop i)) (λ_=>by rw[u6,u6];exact .nil) (λ_ _ _ _ q r ih i=>by
  cases i with
  |zero=>exact .cons q r
  |succ i=>exact ih i) r i
theorem Rs.reverse{F:aw}{vs:List bm}{ds:List D}(r:Rs F vs ds):Rs F vs.reverse ds.reverse:=
 Rs.ind (P:=λvs ds=>Rs F vs.reverse ds.reverse) .nil (λ_ _ _ _ h _ ih=>by rw[C2,C2];exact ih.append (.cons h .nil)) r
theorem Rs.split{F:aw}{ds es:List D}{vs:List bm}(r:Rs F vs (ds++es)):∃v1 v2,vs=v1++v2/\Rs F v1 ds/\Rs F v2 es:=by
 induction ds generalizing vs with
 |nil=>exact⟨[],vs,rfl,.nil,r⟩
 |cons d ds ih=>exact r.el λv vs h r=>cK (ih r) λv1 v2 e a b=>⟨v::v1,v2,congrArg _ e,.cons h a,b⟩
inductive Rp(F:aw){K:Type}:List (K×bm)->List (K×D)->Prop
 |nil:Rp F [] []
 |cons {k:K} {v:bm} {d:D} {vs:List (K×bm)} {ds:List (K×D)}:R F v d->Rp F vs ds->Rp F ((k,v)::vs) ((k,d)::ds)
theorem Rp.mono{F G:aw}(k:F.le G){K:Type}{vs:List (K×bm)}{ds:List (K×D)}(r:Rp F vs ds):Rp G vs ds:=by
 induction r with
 |nil=>exact .nil
 |cons h _ ih=>exact .cons (h.mono k) ih
theorem Rp.keys{F:aw}{K:Type}{vs:List (K×bm)}{ds:List (K×D)}(r:Rp F vs ds):vs.map (·.1)=ds.map (·.1):=by
 induction r with
 |nil=>rfl
 |cons h _ ih=>exact congrArg _ ih
theorem Rp.length{F:aw}{K:Type}{vs:List (K×bm)}{ds:List (K×D)}(r:Rp F vs ds):vs.length=ds.length:=by
 rw[←be (·.1),r.keys,be]
theorem Rp.append{F:aw}{K:Type}{vs ws:List (K×bm)}{ds es:List (K×D)}(r:Rp F vs ds)(q:Rp F ws es):Rp F (vs++ws) (ds++es):=by
 induction r with
 |nil=>exact q
 |cons h _ ih=>exact .cons h ih
noncomputable def eS{K:Type}[DecidableEq K](es:List (K×D))(k:K):Option D:=(es.find? λp=>p.1=k).map (·.2)
noncomputable def dput{K:Type}[DecidableEq K](es:List (K×D))(k:K)(d:D):List (K×D):=
 if es.any (λp=>p.1=k)then es.map (λp=>if p.1=k then(p.1,d)else p)else es++[(k,d)]
noncomputable def nC{K:Type}[DecidableEq K](es:List (K×D))(k:K):List (K×D):=es.filter λp=>decide (p.1≠k)
theorem lI{K α:Type}[DecidableEq K]{es:List (K×α)}{k k':K}{x:α}:((k',x)::es).find? (λp=>decide (p.1=k))=if k'=k then some (k',x)else es.find? λp=>decide (p.1=k):=by
 rw[kP];by_cases e:k'=k
 ·rw[if_pos e,show decide ((k',x).1=k)=true from decide_eq_true e]
 ·rw[if_neg e,show decide ((k',x).1=k)=false from decide_eq_false e]
theorem Rp.find{F:aw}{K:Type}[DecidableEq K]{vs:List (K×bm)}{ds:List (K×D)}(r:Rp F vs ds)(k:K):(C3 vs k=none/\eS ds k=none)∨∃v d,C3 vs k=some v/\eS ds k=some d/\R F v d:=by
 unfold eS C3;induction r with
 |nil=>exact .inl ⟨rfl,rfl⟩
 |@cons k' v u vs ds z _ ih=>
  rw[lI,lI];by_cases e:k'=k
  ·rw[if_pos e,if_pos e];exact .inr ⟨v,u,rfl,rfl,z⟩
  ·rw[if_neg e,if_neg e];exact ih
theorem Rp.at{F:aw}{K:Type}[DecidableEq K]{vs:List (K×bm)}{ds:List (K×D)}(r:Rp F vs ds){k:K}{d:D}(h:eS ds k=some d):∃v,C3 vs k=some v/\R F v d:=
 (r.find k).elim (λe=>bE (e.2.symm.trans h)) λq=>cK q λv e h1 u z=>⟨v,h1,db (u.symm.trans h)▸z⟩
theorem Rp.any{F:aw}{K:Type}[DecidableEq K]{vs:List (K×bm)}{ds:List (K×D)}(r:Rp F vs ds)(k:K):(vs.any λp=>p.1=k)=(ds.any λp=>p.1=k):=by
 induction r with
 |nil=>rfl
 |cons h _ ih=>rw[jT,jT,ih]
theorem Rp.put{F:aw}{K:Type}[DecidableEq K]{vs:List (K×bm)}{ds:List (K×D)}(r:Rp F vs ds)(k:K){v:bm}{d:D}(h:R F v d):Rp F (stored vs k v) (dput ds k d):=by
 unfold stored dput;rw[r.any k];by_cases hk:(ds.any λp=>p.1=k)=true
 ·rw[if_pos hk,if_pos hk];clear hk;induction r with
  |nil=>exact .nil
  |@cons k' u j vs ds z _ ih=>
   rw[jp,jp];by_cases e:k'=k
   ·rw[if_pos e,if_pos e];exact .cons h ih
   ·rw[if_neg e,if_neg e];exact .cons z ih
 ·rw[if_neg hk,if_neg hk];exact r.append (.cons h .nil)
theorem Rp.del{F:aw}{K:Type}[DecidableEq K]{vs:List (K×bm)}{ds:List (K×D)}(r:Rp F vs ds)(k:K):Rp F (without vs k) (nC ds k):=by
 unfold without nC;induction r with
 |nil=>exact .nil
 |@cons k' u j vs ds z _ ih=>
  rw[aP,aP];by_cases e:k'=k
  ·rw[if_neg λh:decide (k'≠k)=true=>of_decide_eq_true h e,if_neg λh:decide (k'≠k)=true=>of_decide_eq_true h e];exact ih
  ·rw[if_pos (decide_eq_true e),if_pos (decide_eq_true e)];exact .cons z ih
theorem vE{K:Type}[DecidableEq K](es:List (K×D))(k:K):(eS es k).isSome=true↔k∈es.map (·.1):=by
 unfold eS;rw[Option.isSome_map,List.find?_isSome];constructor
 ·rintro⟨p,hp,e⟩;exact lc.mpr ⟨p,hp,of_decide_eq_true e⟩
 ·intro h;obtain⟨p,hp,rfl⟩:=lc.mp h;exact⟨p,hp,by simp⟩
end
section
noncomputable abbrev hv(h:GM):aw:=λa=>h.get? a
theorem eZ{α:Type}{P:Prop}{x:α}(h:none=some x):P:=nomatch h
theorem sF{C:Nat->Prop}(h:∀n,(∀m,n=m+1->C m)->C n):∀n,C n
 |0=>h 0 λ_ e=>nomatch e
 |n+1=>h _ λ_ e=>jU e▸sF h n
noncomputable def tdT(f:List D->Bool)(x:D):Bool:=match x with
 |.int _=>true
 |.str _=>true
 |.tup l=>f l
 |_=>false
noncomputable def e8(n:Nat):D->Bool:=xp (tdT λ_=>false) (λ_ f=>tdT λl=>l.all f) n
theorem vF{n:Nat}{i:Int}:e8 n (.int i)=true:=by cases n<;>rfl
theorem qJ{n:Nat}{i:lm}:e8 n (.str i)=true:=by cases n<;>rfl
@[elab_as_elim] theorem nD {n:Nat} {x:D} {P:D->Prop} (h:e8 n x=true) (hi:∀i,P (.int i)) (hs:∀s,P (.str s)) (ht:∀m l,n=m+1->(∀d∈l,e8 m d=true)->P (.tup l)):P x:=by
 have h:∃f,(∀l,f l=true->∃m,n=m+1/\l.all (e8 m)=true)/\tdT f x=true:=by
  cases n with
  |zero=>exact(ak _ (λ_ h=>eR h) h)
  |succ n=>exact(ak _ (λ_ h=>⟨n,rfl,h⟩) h)
 obtain⟨f,hf,h⟩:=h;cases x with
 |int i=>exact hi i
 |str s=>exact hs s
 |tup l=>obtain⟨m,e,h⟩:=hf l h;exact ht m l e (ut.mp h)
 |_=>exact eR h
noncomputable def sG(f:D->D->Option Bool):List D->List D->Option (Option (D×D))
 |x::xs,y::ys=>match f x y with
  |some true=>sG f xs ys
  |some false=>some (some (x,y))
  |none=>none
 |_,_=>some none
noncomputable def kT(j:Int->Int->Bool)(u:lm->lm->Bool)(z:List D->List D->Option Bool)(x y:D):Option Bool:=match x with
 |.int a=>(match y with
  |.int b=>some (j a b)
  |_=>none)
 |.str a=>(match y with
  |.str b=>some (u a b)
  |_=>none)
 |.tup l=>(match y with
  |.tup m=>z l m
  |_=>none)
 |_=>none
theorem zu{j:Int->Int->Bool}{u:lm->lm->Bool}{z:List D->List D->Option Bool}{x y:D}{r:Bool}{P:D->D->Prop}(h:kT j u z x y=some r)(hi:∀a b,j a b=r->P (.int a) (.int b))(hs:∀a b,u a b=r->P (.str a) (.str b))(ht:∀l m,z l m=some r->P (.tup l) (.tup m)):P x y:=by
 cases x
 case int=>
  cases y
  case int=>exact hi _ _ (db h)
  all_goals exact eZ h
 case str=>
  cases y
  case str=>exact hs _ _ (db h)
  all_goals exact eZ h
 case tup=>
  cases y
  case tup=>exact ht _ _ h
  all_goals exact eZ h
 all_goals exact eZ h
noncomputable def eqT(o:Option (Option (D×D)))(b:Bool):Option Bool:=match o with
 |none=>none
 |some none=>some b
 |some (some _)=>some false
noncomputable def Qv(f:D->D->Option Bool)(b:Bool)(o:Option (Option (D×D))):Option Bool:=match o with
 |none=>none
 |some none=>some b
 |some (some p)=>f p.1 p.2
noncomputable abbrev LS(f:D->D->Option Bool)(l m:List D):Option Bool:=eqT (sG f l m) (l.length==m.length)
noncomputable def dX(n:Nat):D->D->Option Bool:=xp (kT (λa b=>decide (a=b)) (λa b=>decide (a=b)) λ_ _=>none) (λ_ f=>kT (λa b=>decide (a=b)) (λa b=>decide (a=b)) (LS f)) n
noncomputable abbrev Uc(a b:lm):Bool:=decide (a.cps.toList<b.cps.toList)
noncomputable def f9(n:Nat):D->D->Option Bool:=xp (kT (λa b=>decide (a<b)) Uc λ_ _=>none) (λn f=>kT (λa b=>decide (a<b)) Uc λl m=>Qv f (decide (l.length<m.length)) (sG (dX n) l m)) n
@[elab_as_elim] theorem Du {n:Nat} {x y:D} {r:Bool} {P:D->D->Prop} (h:dX n x y=some r) (hi:∀a b,decide (a=b)=r->P (.int a) (.int b)) (hs:∀a b,decide (a=b)=r->P (.str a) (.str b)) (ht:∀m l k,n=m+1->LS (dX m) l k=some r->P (.tup l) (.tup k)):P x y:=by
 cases n with
 |zero=>exact zu h hi hs λ_ _ h=>eZ h
 |succ n=>exact zu h hi hs λl k h=>ht n l k rfl h
@[elab_as_elim] theorem LU {n:Nat} {x y:D} {r:Bool} {P:D->D->Prop} (h:f9 n x y=some r) (hi:∀a b,decide (a<b)=r->P (.int a) (.int b)) (hs:∀a b,Uc a b=r->P (.str a) (.str b)) (ht:∀m l k,n=m+1->Qv (f9 m) (decide (l.length<k.length)) (sG (dX m) l k)=some r->P (.tup l) (.tup k)):P x y:=by
 cases n with
 |zero=>exact zu h hi hs λ_ _ h=>eZ h
 |succ n=>exact zu h hi hs λl k h=>ht n l k rfl h
theorem zv{f:D->D->Option Bool}(hf:∀x y r,f x y=some r->(r=true↔x=y)):∀(l m:List D){r:Bool},LS f l m=some r->(r=true↔l=m)
 |[],[],r,h=>⟨λ_=>rfl,λ_=>(db h).symm⟩
 |[],y::m,r,h=>by rw[←db h];exact⟨λh=>eR h,λh=>nomatch h⟩
 |x::l,[],r,h=>by rw[←db h];exact⟨λh=>eR h,λh=>nomatch h⟩
 |x::l,y::m,r,h=>by
  have h:eqT (match f x y with|some true=>sG f l m|some false=>some (some (x,y))|none=>none) ((x::l).length==(y::m).length)=some r:=h;cases q:f x y with
  |none=>rw[q]at h;exact eZ h
  |some b=>
   rw[q]at h;have e:=hf x y b q;cases b with
   |true=>
    obtain rfl:=e.mp rfl;rw[io,io,show(l.length+1==m.length+1)=(l.length==m.length) by simp]at h;rw[y9,eq_self,true_and];exact zv hf l m h
   |false=>
    refine(db h)▸?_;exact⟨λh=>eR h,λh=>e.mpr (Ix h).1⟩
theorem gb:∀(n:Nat)(a b:D)(r:Bool),dX n a b=some r->(r=true↔a=b):=sF λn ih a b r h=>
 Du (P:=λa b=>r=true↔a=b) h (λa b e=>by rw[←e,decide_eq_true_eq,D.int.injEq]) (λa b e=>by rw[←e,decide_eq_true_eq,D.str.injEq]) λm l k z h=>by
  rw[D.tup.injEq];exact zv (ih m z) l k h
theorem xI{F:aw}{a:co}{vs z:List bm}{n u:Nat}(e:F a=some (aE vs n))(e':F a=some (aE z u)):vs=z:=by
 rw[e]at e';have:=congrArg Obj.data (db e');injection this with e _;exact congrArg Array.toList e
theorem Dv{F:aw}{P Q:D->Prop}(hf:∀x y v,P x->Q y->R F v x->R F v y->x=y):∀(vs:List bm){ds es:List D},(∀d∈ds,P d)->(∀d∈es,Q d)->Rs F vs ds->Rs F vs es->ds=es
 |[],ds,es,_,_,r,q=>r.le (P:=λds=>ds=es) (q.le (P:=λes=>[]=es) rfl)
 |v::vs,ds,es,p,p',r,q=>by
  revert p p';refine r.le (P:=λds=>(∀d∈ds,P d)->(∀d∈es,Q d)->ds=es) λx l rx j=>q.le (P:=λes=>(∀d∈x::l,P d)->(∀d∈es,Q d)->x::l=es) λy m z u p p'=>?_;rw[hf x y v (p _ (.head _)) (p' _ (.head _)) rx z,Dv hf vs (λd h=>p d (.tail _ h)) (λd h=>p' d (.tail _ h)) j u]
theorem zw{F:aw}:∀(n:Nat)(x:D),e8 n x=true->∀(v:bm)(m:Nat)(y:D),e8 m y=true->R F v x->R F v y->x=y:=sF λn ih x hx v m y hy=>by
 refine nD (P:=λx=>R F v x->R F v y->x=y) hx (λi r=>r.el (P:=λv=>R F v y->.int i=y) λt=>?_) (λi r=>r.el (P:=λv=>R F v y->.str i=y) λt=>?_) λk l en hl r=>r.el (P:=λv=>R F v y->.tup l=y) λa vs c e q=>?_
 ·exact nD (P:=λy=>R F (.int i t) y->.int i=y) hy (λj r=>by cases r;rfl) (λ_ r=>nomatch r) λ_ _ _ _ r=>nomatch r
 ·exact nD (P:=λy=>R F (.str i t) y->.str i=y) hy (λ_ r=>nomatch r) (λj r=>by cases r;rfl) λ_ _ _ _ r=>nomatch r
 ·refine nD (P:=λy=>R F (.ref a) y->.tup l=y) hy (λ_ r=>nomatch r) (λ_ r=>nomatch r) λk' Y N Z r=>?_;have u:∀v,R F v (.tup Y)->v=.ref a->∃z c',F a=some (aE z c')/\Rs F z Y:=λv r=>r.el (P:=λv=>v=.ref a->_) λb z c' e' q' h=>by
   injection h with h;subst h;exact(pQ _ _ e' q')
  refine cut λPP O=>?_;refine dW (u _ r rfl) λz c' e' q'=>?_;rw[xI e' e]at q';refine O ?_;rw[Dv (λx y v hx hy=>ih k en x hx v k' y hy) vs hl Z q q']
section
variable {prog:EQ}{w:KB}{A:Da}{E:bm->bv->Prop}{s:bv}
theorem oK{α:Type}{n:Nat}{F:aw}{o:Option (D×D)}{c:α}{j:bm×bm->α->sY (ForInStep α)}{Q:α->bv->Prop}
  (hs:∀v w' x y b,R F v x->R F w' y->e8 n x=true->e8 n y=true->dX n x y=some b->(b=false->o=some (x,y))->∀Z:ForInStep α->bv->Prop,(b=true->Z (.yield c) s)->(b=false->∀c' s',Q c' s'->Z (.done c') s')->im (kt prog w) A (j (v,w') c) Z E s)
  (hf:o=none->Q c s):∀{vs ws:List bm}{ds es:List D},Rs F vs ds->Rs F ws es->(∀d∈ds,e8 n d=true)->(∀d∈es,e8 n d=true)->sG (dX n) ds es=some o->im (kt prog w) A (forIn (vs.zip ws) c j) Q E s
 |[],ws,ds,es,r,q,_,_,h=>by
  exact am (hf (r.le (P:=λds=>sG (dX n) ds es=some o->o=none) (λh=>(db h).symm) h))
 |v::vs,[],ds,es,r,q,_,_,h=>by
  exact am (hf (q.le (P:=λes=>sG (dX n) ds es=some o->o=none) (r.le (P:=λds=>sG (dX n) ds []=some o->o=none) λ_ _ _ _ h=>(db h).symm) h))
 |v::vs,w'::ws,ds,es,r,q,t,z,h=>by
  revert h t z;refine r.le (P:=λds=>(∀d∈ds,e8 n d=true)->(∀d∈es,e8 n d=true)->sG (dX n) ds es=some o->_) λx l rx N=>q.le (P:=λes=>(∀d∈x::l,e8 n d=true)->(∀d∈es,e8 n d=true)->sG (dX n) (x::l) es=some o->_) λy m Y O t z h=>?_;have h:(match dX n x y with|some true=>sG (dX n) l m|some false=>some (some (x,y))|none=>none)=some o:=h;rw[fY,iE];cases e:dX n x y with
  |none=>rw[e]at h;exact eZ h
  |some b=>
   rw[e]at h;refine al (hs v w' x y b rx Y (t _ (.head _)) (z _ (.head _)) e (λu=>by subst u;exact(db h).symm) _ (λu=>?_) λu c' s' q=>am q);subst u;exact oK hs hf N O (λd h=>t d (.tail _ h)) (λd h=>z d (.tail _ h)) h
theorem nE:∀(n:Nat)(A:Da)(x y:D)(u v:bm)(r:Bool)(Q:Bool->bv->Prop),dX n x y=some r->e8 n x=true->e8 n y=true->R (hv s.heap) u x->R (hv s.heap) v y->A.units+n<cA->Q r s->
  im (kt prog w) A (Lh u v) Q E s:=sF λn ih A x y u v r Q hd j z hu Qw hr h=>by
 revert j z hu Qw;refine Du hd (λa b e _ _ q rv=>?_) (λa b e _ _ q rv=>?_) λm ds es en hk j z q rv=>?_
 ·refine q.el λt=>?_;refine rv.el λt'=>?_;exact wpAny_eqBool_int (by rw[show(a==b)=decide (a=b)from rfl,e];exact h)
 ·refine q.el λt=>?_;refine rv.el λt'=>?_;exact wpAny_eqBool_str (by rw[e];exact h)
 ·subst en;refine q.el λa vs na h1 O=>?_;refine rv.el λb ws nb h2 Y=>?_;have tc:s.heap.get? a=some (aE vs na):=h1;have lJ:s.heap.get? b=some (aE ws nb):=h2;have er:r=true↔D.tup ds=D.tup es:=gb (m+1) _ _ r hk;refine wv ?_;show im _ _ (if(dC a==dC b)=true then _ else _) Q E s;refine ifA (λi3=>?_) λi3=>?_
  ·have e:a=b:=Cw (eq_of_beq i3);subst e;rw[er.mpr (zw _ _ j _ _ _ z (.tup h1 O) (.tup h2 Y))]at h;exact al (bw (am h))
  ·have Ta:s.TypeIs (.ref a) "tuple":=(ak _ tc rfl);have Tb:s.TypeIs (.ref b) "tuple":=(ak _ lJ rfl);obtain⟨o,ho⟩:∃o,sG (dX m) ds es=some o:=by
    cases e:sG (dX m) ds es with
    |none=>rw[LS,e]at hk;exact eZ hk
    |some o=>exact⟨o,rfl⟩
   rw[LS,ho]at hk;refine al (xc (op:=.Eq) Ta Tb F.slot_tuple_eq (NE F.slot_tuple_eq Ta F.entry_tuple_eq ?_ (F.args_tuple_eq_2 _ _)) (LB hr));refine(?_:im _ _ (isInstance (.ref b) (.type "tuple")>>=_) _ _ s);refine al (SZ Tb nv (al (gz tc rfl (al (gz lJ rfl (al ?_))))));refine oK ?_ (λN=>?_) O Y (ut.mp j) (ut.mp z) ho
   ·intro v w' x y b rx ry j z e N Z hy hn;refine al (ih m rfl _ x y v w' b _ e j z rx ry (by refine(?_:A.units+1+m<cA);exact Hq hr) ?_);cases b with
    |true=>exact am (hy rfl)
    |false=>
     rw[N rfl]at hk;obtain rfl:=db hk;exact al (am (am (hn rfl _ _ (am (cY _ rfl (λe=>nomatch e) (fv h))))))
   ·refine cut λPP kk=>?_;subst N;obtain rfl:=db hk;rw[←O.length,←Y.length]at h;refine kk ?_;exact am (cY _ rfl (λe=>nomatch e) (fv h))
theorem zA:∀(n:Nat)(A:Da)(x y:D)(u v:bm)(r:Bool)(Q:bm->bv->Prop),f9 n x y=some r->e8 n x=true->e8 n y=true->R (hv s.heap) u x->R (hv s.heap) v y->A.units+n<cA->Q (.bool r) s->
  im (kt prog w) A (richCompare .Lt u v) Q E s:=sF λn ih A x y u v r Q hd j z hu Qw Y h=>by
 revert j z hu Qw;refine LU hd (λa b e _ _ q rv=>?_) (λa b e _ _ q rv=>?_) λm ds es en hk j z q rv=>?_
 ·refine q.el λt=>?_;refine rv.el λt'=>?_;exact wpAny_lt_int (by rw[e];exact h)
 ·refine q.el λt=>?_;refine rv.el λt'=>?_;exact richCompare_gives (op:=.Lt) (T:="str") rfl rfl F.slot_str_lt F.entry_str_lt (F.args_str_lt_2 _ _) (gives_str_lt a b t t') (λx=>nomatch x) (show Q (.bool (Uc a b)) s by rw[e];exact h)
 ·subst en;refine q.el λa vs na h1 r1=>?_;refine rv.el λb ws nb h2 r2=>?_;have N:s.heap.get? a=some (aE vs na):=h1;have lJ:s.heap.get? b=some (aE ws nb):=h2;have Ta:s.TypeIs (.ref a) "tuple":=(ak _ N rfl);have Tb:s.TypeIs (.ref b) "tuple":=(ak _ lJ rfl);obtain⟨o,ho⟩:∃o,sG (dX m) ds es=some o:=by
   cases e:sG (dX m) ds es with
   |none=>rw[e]at hk;exact eZ hk
   |some o=>exact⟨o,rfl⟩
  rw[ho]at hk;refine xc (op:=.Lt) Ta Tb F.slot_tuple_lt (NE F.slot_tuple_lt Ta F.entry_tuple_lt ?_ (F.args_tuple_lt_2 _ _)) (LB Y);refine(?_:im _ _ (isInstance (.ref b) (.type "tuple")>>=_) _ _ s);refine al (SZ Tb nv (al (gz N rfl (al (gz lJ rfl (al ?_))))));refine oK ?_ (λO=>?_) r1 r2 (ut.mp j) (ut.mp z) ho
  ·intro v w' x y b rx ry j z e O Z hy hn;refine al (nE m _ x y v w' b _ e j z rx ry (by refine(?_:A.units+1+m<cA);exact Hq Y) ?_);cases b with
   |true=>exact am (hy rfl)
   |false=>
    rw[O rfl]at hk;exact al (bw (al (ih m rfl _ x y v w' r _ hk j z rx ry (by refine(?_:A.units+1+m<cA);exact Hq Y) (al (am (am (hn rfl _ _ (am (cY _ rfl (λe=>nomatch e) h)))))))))
  ·subst O;obtain rfl:=db hk;rw[←r1.length,←r2.length]at h;exact am (cY _ rfl (λe=>nomatch e) h)
end
end
section
noncomputable def zB{α:Type}(j:Int->α)(u:lm->α)(z:List D->α)(o:α)(x:D):α:=match x with
 |.int i=>j i
 |.str x=>u x
 |.tup l=>z l
 |_=>o
noncomputable def fF(w:KB)(n:Nat):D->Int:=xp (zB hashInt (hashStr w) (λ_=>0) 0) (λ_ f=>zB hashInt (hashStr w) (λl=>Li (cw (l.map f))) 0) n
noncomputable def fN(n:Nat):D->Nat:=xp (zB (λ_=>1) (λ_=>1) (λ_=>1) 1) (λ_ f=>zB (λ_=>1) (λ_=>1) (λl=>(l.map f).sum+1) 1) n
theorem oL{w:KB}{n:Nat}{i:Int}:fF w n (.int i)=hashInt i:=by cases n<;>rfl
theorem Bi{w:KB}{n:Nat}{i:lm}:fF w n (.str i)=hashStr w i:=by cases n<;>rfl
theorem xJ{n:Nat}{i:Int}:fN n (.int i)=1:=by cases n<;>rfl
theorem xK{n:Nat}{i:lm}:fN n (.str i)=1:=by cases n<;>rfl
section
variable {prog:EQ}{w:KB}{A:Da}{E:bm->bv->Prop}{s:bv}
theorem qj{α:Type}{F:aw}{ds:List D}{vs:List bm}{j:bm->α->sY (ForInStep α)}{Q:α->bv->Prop}{c:α}(I:List D->α->bv->Prop)(r:Rs F vs ds)(d4:I [] c s)
  (step:∀d v done b s,d∈ds->R F v d->I done b s->im (kt prog w) A (j v b) (λr s'=>match r with|.yield u=>I (done++[d]) u s'|.done u=>Q u s') E s)
  (fin:∀b s,I ds b s->Q b s):im (kt prog w) A (forIn vs.toArray c j) Q E s:=by
 rw[←Array.forIn_toList];refine tX _ (λz b s'=>∃done left,ds=done++left/\Rs F z left/\I done b s') _ ?_ ?_ _ _ (jo ([]) ds rfl r d4)
 ·intro v z b s' O;refine cK O λdone left e hl hi=>?_;revert e;refine hl.le λd left h1 Z e=>f8 (step d v done b s' (by rw[e];exact on _ (.head _)) h1 hi) (λr s' q=>?_) λ_ _ x=>x;cases r with
  |done u=>exact q
  |yield u=>exact(jo _ left (by rw[e,aU];rfl) Z q)
 ·intro b s' Y;refine cK Y λdone left e hl hi=>?_;revert e;exact hl.le λe=>fin b s' (by rw[e,t3];exact hi)
theorem vG:∀(n:Nat)(A:Da)(s:bv)(x:D)(v:bm)(Q:Int->bv->Prop),e8 n x=true->R (hv s.heap) v x->A.units+n<cA->Q (fF w n x) {s with toks:=s.toks+fN n x}->
  im (kt prog w) A (pyHash v) Q E s:=sF λn ih A s x v Q O hx Y h=>by
 revert hx h;refine nD O (λi hx=>?_) (λi hx=>?_) λm ds en hk hx=>?_
 ·rw[oL,xJ];exactλh=>hx.el λt=>wpAny_pyHash_int h
 ·rw[Bi,xK];exactλh=>hx.el λt=>wpAny_pyHash_str h
 ·subst en;refine hx.el λa vs k e1 N h=>?_;have Z:s.heap.get? a=some (aE vs k):=e1;have z:s.TypeIs (.ref a) "tuple":=(ak _ Z rfl);refine al (wpAny_cRoomFor_or (.inr (LB Y)) ?_);refine al (bN z F.slot_tuple_hash.lookup ?_);refine al (bN z F.slot_tuple_hash.lookup ?_);refine al (wpAny_callSpecialIfBoundUnlessNone?_slot z F.slot_tuple_hash (NE F.slot_tuple_hash z F.entry_tuple_hash ?_ (F.args_tuple_hash_1 _)));refine(?_:im _ _ (ny (.ref a)>>=_) _ _ s);refine al (gz Z rfl (al ?_));refine qj (λdone(b:Array Int) s'=>b.toList=done.map (fF w m)/\s'={s with toks:=s.toks+(done.map (fN m)).sum}) N ⟨rfl,rfl⟩ (λd v done b s' hd q hi=>?_) λb s' hi=>?_
  ·obtain⟨j,rfl⟩:=hi;exact al (ih m rfl _ _ d v _ (hk d hd) q (by refine(?_:A.units+1+m<cA);exact Hq Y) (am ⟨by simp[j],by simp[om]⟩))
  ·obtain⟨j,rfl⟩:=hi;refine(?_:im _ _ (retInt (cw b.toList)) _ _ _);rw[j];refine wpAny_ret_mkInt ?_;replace h:Q (Li (cw (ds.map (fF w m)))) {s with toks:=s.toks+((ds.map (fN m)).sum+1)}:=h;unfold Li at h;refine(?_:im _ _ (if(decide (-(2:Int)^63≤cw (ds.map (fF w m)))&&decide (cw (ds.map (fF w m))<2^63))=true then _ else _) Q E _);revert h;exact ifA (λu h=>by rw[if_pos u];exact am h) λu h=>by rw[if_neg (by rw[u];exact wP)];exact al (bw (am h))
theorem oM:∀(n:Nat)(x:D)(v:bm)(Q:Bool->bv->Prop),e8 n x=true->R (hv s.heap) v x->Q true s->im (kt prog w) A (eqIsQuiet n v) Q E s:=sF λn ih x v Q j hx h=>by
 revert hx;refine nD j (λi hx=>?_) (λi hx=>?_) λm ds O hk hx=>?_
 ·refine hx.el λt=>?_;dsimp only;rw[NZ _ rfl];exact am h
 ·refine hx.el λt=>?_;dsimp only;rw[NZ _ rfl];exact am h
 ·subst O;refine hx.el λa vs k N Y=>?_;have z:s.heap.get? a=some (aE vs k):=N;have u:s.TypeIs (.ref a) "tuple":=(ak _ z rfl);unfold eqIsQuiet;refine al (bN u F.slot_tuple_eq.lookup ?_);refine al (SZ u nv (al (eC z rfl (al ?_))));refine qj (λ_ r s'=>r=(none,())/\s'=s) Y ⟨rfl,rfl⟩ (λd v done b s' Z q hi=>?_) λb s' hi=>?_
  ·obtain⟨rfl,rfl⟩:=hi;exact al (ih m rfl d v _ (hk d Z) q (am ⟨rfl,rfl⟩))
  ·obtain⟨rfl,rfl⟩:=hi;exact am h
end
structure Qx(P:D->Prop):Prop where
 ok:∀x,P x->∃l,x=.tup l/\e8 8 x=true
 meet:∀x y,P x->P y->∃r,dX 8 x y=some r
theorem zC{F G:aw}:∀{ds:List D}{vs:List bm},(∀d∈ds,∀v,R F v d->R G v d)->Rs F vs ds->Rs G vs ds
 |[],_,_,r=>r.el .nil
 |d::ds,_,h,r=>r.el λ_ _ a b=>.cons (h d (.head _) _ a) (zC (λd z=>h d (.tail _ z)) b)
theorem vH{h h':GM}{d:co}{o:nh}{es ep}(z:h.get? d=some o)(j:o.data=.dict es ep)(hs:Pv d h h'):
  ∀(n:Nat)(x:D)(v:bm),e8 n x=true->R (hv h) v x->R (hv h') v x:=sF λn ih x v q=>by
 refine nD q (λi r=>r.el λt=>.int _ _) (λi r=>r.el λt=>.str _ _) λm ds Z hk r=>?_;refine r.el λa vs k u Y=>?_;have O:a≠d:=by
  rintro rfl;have e2:h.get? a=some (aE vs k):=u;rw[←db (e2.symm.trans z)]at j;exact nomatch j
 exact .tup (vs:=vs) (n:=k) ((hs.2 a O).trans u) (zC (λd z v=>ih m Z d v (hk d z)) Y)
noncomputable def vI(prog:EQ)(w:KB)(P:D->Prop)(k:Qx P):@HeapKind prog w D (TD D):=
 letI:=TD D
 {is:=λh x a=>P x/\R (hv h) (.ref a) x
  hash:=fF w 8
  draws:=fN 8
  room:=λA=>A.units+8<cA
  inj:=λ{h a x y} hx hy=>by
   obtain⟨_,_,z⟩:=k.ok x hx.1;obtain⟨_,_,u⟩:=k.ok y hy.1;exact zw 8 x z _ 8 y u hx.2 hy.2
  keeps:=λ{h h' x a d o es ep} hx Z O hs=>by
   obtain⟨_,_,z⟩:=k.ok x hx.1;exact⟨hx.1,vH Z O hs 8 x _ z hx.2⟩
  pyHash:=λ{A E s x a Q} j hx h=>by
   obtain⟨_,_,z⟩:=k.ok x hx.1;exact vG 8 A s x _ Q z hx.2 j h
  eqBool:=λ{A E s x y a b Q} j hx hy h=>by
   obtain⟨_,_,z⟩:=k.ok x hx.1;obtain⟨_,_,u⟩:=k.ok y hy.1;obtain⟨r,Y⟩:=k.meet x y hx.1 hy.1;have e:r=decide (x=y):=by
    have:=gb 8 x y r Y;by_cases q:x=y
    ·rw[decide_eq_true q];exact this.mpr q
    ·rw[decide_eq_false q];cases r with|true=>exact absurd (this.mp rfl) q|false=>rfl
   exact nE 8 A x y _ _ r Q Y z u hx.2 hy.2 j (e▸h)
  quiet:=λ{A E s x a Q} hx h=>by
   obtain⟨_,_,z⟩:=k.ok x hx.1;exact oM 8 x _ Q z hx.2 h}
end
section
noncomputable def pz(d:D):Prop:=∃op,∃ns:List Int,d=.tup (.str op::ns.map .int)
inductive iN:Nat->D->Prop
 |mk {n:Nat} {op:lm} {l:List D}:(∀x∈l,iN n x)->iN (n+1) (.tup (.str op::l))
theorem vJ{f:D->D->Option Bool}:∀(l m:List D),(∀p∈l.zip m,∃r,f p.1 p.2=some r)->∃o,sG f l m=some o
 |[],_,_=>⟨_,rfl⟩
 |_::_,[],_=>⟨_,rfl⟩
 |x::l,y::m,h=>(h (x,y) (.head _)).elim λr z=>by
  refine(?_:∃o,(match f x y with|some true=>sG f l m|some false=>some (some (x,y))|none=>none)=some o);rw[show f x y=some r from z];cases r with
  |true=>exact vJ l m λp hp=>h p (.tail _ hp)
  |false=>exact⟨_,rfl⟩
theorem qK{f:D->D->Option Bool}{l m:List D}(h:∀p∈l.zip m,∃r,f p.1 p.2=some r):∃r,LS f l m=some r:=
 (vJ l m h).elim λo e=>by
  unfold LS;rw[e];cases o<;>exact⟨_,rfl⟩
theorem iN.ok{n:Nat}{d:D}(h:iN n d):e8 n d=true:=by
 induction h with
 |mk _ ih=>exact ut.mpr (FM.mpr ⟨qJ,ih⟩)
theorem iN.mono{n m:Nat}{d:D}(hm:n≤m)(h:iN n d):iN m d:=by
 induction h generalizing m with
 |mk _ ih=>
  cases m with
  |zero=>exact absurd hm (iy _)
  |succ m=>exact .mk λx hx=>ih x hx (kQ hm)
theorem qL{n:Nat}{a b:lm}:dX n (.str a) (.str b)=some (decide (a=b)):=by cases n<;>rfl
theorem nF{n:Nat}{a b:Int}:dX n (.int a) (.int b)=some (decide (a=b)):=by cases n<;>rfl
theorem iN.meet(n:Nat)(x y:D)(hx:iN n x)(hy:iN n y):∃r,dX n x y=some r:=by
 induction hx generalizing y with
 |mk _ ih=>
  cases hy with
  |mk hm=>exact qK (FM.mpr ⟨⟨_,qL⟩,λp hp=>ih _ (eF hp).1 _ (hm _ (eF hp).2)⟩)
theorem ua{l:List Int}{x:D}(h:x∈l.map D.int):∃i,x=.int i:=(lc.mp h).elim λi h=>⟨i,h.2.symm⟩
theorem pz.meet{n:Nat}(x y:D)(hx:pz x)(hy:pz y):∃r,dX (n+1) x y=some r:=
 mm hx λp l e=>mm hy λq m e'=>by
  rw[e,e'];exact qK (FM.mpr ⟨⟨_,qL⟩,λp hp=>(ua (eF hp).1).elim λi u=>(ua (eF hp).2).elim λj z=>⟨_,by rw[u,z];exact nF⟩⟩)
theorem pz.ok{n:Nat}{x:D}(hx:pz x):e8 (n+1) x=true:=mm hx λp l e=>by
 rw[e];exact ut.mpr (FM.mpr ⟨qJ,λx hx=>(ua hx).elim λi e=>by rw[e];exact vF⟩)
noncomputable def PN:Bool->D->Prop
 |true=>pz
 |false=>iN 8
theorem Qz:∀b,Qx (PN b)
 |true=>⟨λx hx=>by obtain⟨p,l,rfl⟩:=hx;exact⟨_,rfl,pz.ok ⟨p,l,rfl⟩⟩,λx y hx hy=>pz.meet x y hx hy⟩
 |false=>⟨λx hx=>by
   have hx:iN 8 x:=hx;have:=hx.ok;cases hx;exact⟨_,rfl,this⟩,λx y hx hy=>iN.meet 8 x y hx hy⟩
inductive Rt(F:aw)(P:D->Prop):List (D×co×bm)->List (D×D)->Prop
 |nil:Rt F P [] []
 |cons {k:D} {a:co} {v:bm} {d:D} {vs:List (D×co×bm)} {ds:List (D×D)}:P k->R F (.ref a) k->R F v d->Rt F P vs ds->Rt F P ((k,a,v)::vs) ((k,d)::ds)
theorem Rt.mono{F G:aw}(k:F.le G){P:D->Prop}{vs:List (D×co×bm)}{ds:List (D×D)}(r:Rt F P vs ds):Rt G P vs ds:=by
 induction r with
 |nil=>exact .nil
 |cons h1 u z _ ih=>exact .cons h1 (u.mono k) (z.mono k) ih
theorem Rt.keys{F:aw}{P:D->Prop}{vs:List (D×co×bm)}{ds:List (D×D)}(r:Rt F P vs ds):vs.map (·.1)=ds.map (·.1):=by
 induction r with
 |nil=>rfl
 |cons _ _ _ _ ih=>simp[ih]
theorem Rt.is{F:aw}{P:D->Prop}{vs:List (D×co×bm)}{ds:List (D×D)}(r:Rt F P vs ds):∀x∈vs,P x.1/\R F (.ref x.2.1) x.1:=by
 induction r with
 |nil=>intro x hx;cases hx
 |cons h1 z u _ ih=>
  intro x hx;rcases em.mp hx with rfl|hx
  ·exact⟨h1,z⟩
  ·exact ih x hx
theorem Rt.append{F:aw}{P:D->Prop}{vs ws:List (D×co×bm)}{ds es:List (D×D)}(r:Rt F P vs ds)(q:Rt F P ws es):Rt F P (vs++ws) (ds++es):=by
 induction r with
 |nil=>exact q
 |cons h1 u z _ ih=>exact .cons h1 u z ih
noncomputable def vK(w:KB)(F:aw)(o:nh)(ds:List D):Prop:=
 ∃(es:Array (Int×bm))(ep:Nat)(t:AC),o={cls:=.type "set",dict:=none,data:=.set es ep t}/\Rs F (es.toList.map (·.2)) ds/\t.place.size=es.size/\t.fill≤t.mask/\
  t.place.toList.Pairwise (·<·)/\t.led=!w.params.followText "set-order"
theorem vK.mono{w:KB}{F G:aw}{o:nh}{ds:List D}(k:F.le G)(h:vK w F o ds):vK w G o ds:=by
 obtain⟨es,ep,t,e,r,x⟩:=h;exact⟨es,ep,t,e,r.mono k,x⟩
noncomputable def cM(prog:EQ)(w:KB)(F:aw)(h:GM)(a:co):ao->Prop
 |.list ds=>∃vs n,h.get? a=some (bz vs n)/\Rs F vs ds
 |.dI es=>∃kvs,h.DictOf (mK prog w) a kvs/\Rp F kvs es
 |.dS es=>∃kvs,h.DictOf (strKind prog w) a kvs/\Rp F kvs es
 |.dT b es=>∃xs o z ep,h.get? a=some o/\o.ExactDict/\o.data=.dict z ep/\z.toList=xs.map (@mL prog w D (TD D) (vI prog w (PN b) (Qz b)))/\(xs.map (·.1)).Nodup/\Rt F (PN b) xs es
 |.dN u=>∃es n,h.get? a=some (b9 es n)/\Rf F es u
 |.set ds=>∃o,h.get? a=some o/\vK w F o ds
 |.raw o=>h.get? a=some o
 |.rev ds=>∃l vs n,h.get? a=some (revObj l ((vs.length:Int)-1))/\F l=some (bz vs n)/\Rs F vs ds
 |.ro o c=>h.get? a=some o/\cM prog w F h a c
theorem cM.lt{prog:EQ}{w:KB}{F:aw}{h:GM}{a:co}{c:ao}(x:cM prog w F h a c):∃o,h.get? a=some o:=by
 cases c with
 |list ds=>obtain⟨vs,n,e,_⟩:=x;exact⟨_,e⟩
 |dI es=>obtain⟨kvs,⟨o,_,_,e,_⟩,_⟩:=x;exact⟨_,e⟩
 |dS es=>obtain⟨kvs,⟨o,_,_,e,_⟩,_⟩:=x;exact⟨_,e⟩
 |dT b es=>obtain⟨xs,o,_,_,e,_⟩:=x;exact⟨_,e⟩
 |dN z=>obtain⟨es,n,e,_⟩:=x;exact⟨_,e⟩
 |set ds=>obtain⟨o,e,_⟩:=x;exact⟨_,e⟩
 |raw o=>exact⟨_,x⟩
 |rev ds=>obtain⟨l,vs,n,e,_⟩:=x;exact⟨_,e⟩
 |ro o c=>exact⟨_,x.1⟩
theorem cM.keep{prog:EQ}{w:KB}{F G:aw}{h h':GM}{a:co}(k:F.le G)(e:h'.get? a=h.get? a):∀{c:ao},cM prog w F h a c->cM prog w G h' a c
 |.list ds,x=>by obtain⟨vs,n,e',r⟩:=x;exact⟨vs,n,e.trans e',r.mono k⟩
 |.dI es,x=>by obtain⟨kvs,⟨o,u,z,e',r⟩,q⟩:=x;exact⟨kvs,⟨o,u,z,e.trans e',r⟩,q.mono k⟩
 |.dS es,x=>by obtain⟨kvs,⟨o,u,z,e',r⟩,q⟩:=x;exact⟨kvs,⟨o,u,z,e.trans e',r⟩,q.mono k⟩
 |.dT b es,x=>by obtain⟨xs,o,u,z,e',N,O,Z,Y,j⟩:=x;exact⟨xs,o,u,z,e.trans e',N,O,Z,Y,j.mono k⟩
 |.dN fs,x=>by obtain⟨es,n,e',r⟩:=x;exact⟨es,n,e.trans e',r.mono k⟩
 |.set ds,x=>by obtain⟨o,e',r⟩:=x;exact⟨o,e.trans e',r.mono k⟩
 |.raw o,x=>e.trans x
 |.rev ds,x=>by obtain⟨l,vs,n,e',e2,r⟩:=x;exact⟨l,vs,n,e.trans e',k _ _ e2,r.mono k⟩
 |.ro o c,x=>⟨e.trans x.1,x.2.keep k e⟩
end
section
set_option genInjectivity false in
set_option genCtorIdx false in
structure Base where
 prog:EQ
 w:KB
 T:GM
 os:kL
set_option genInjectivity false in
set_option genCtorIdx false in
structure Fc(B:Base)where
 Ot:aw
 own:List co
 env:vm
 A:Da
 kind:env.scope.kind=.function
 glob:env.globals=aQ
 cells:∀x c,env.cells.lookup x=some c->c≠env.locals/\(c∈own∨∃o,Ot c=some o)
 apart:∀x y c,env.cells.lookup x=some c->env.cells.lookup y=some c->x=y
 mine:env.locals∈own
structure az(prog:EQ)(w:KB)(T:GM)(Ot:aw)(os:kL)(own:List co)(F:aw)(H:aa)(s:bv):Prop where
 top:∀a o,T.get? a=some o->s.heap.get? a=some o/\H a=none/\a∉own
 fz:∀a o,F a=some o->s.heap.get? a=some o/\H a=none/\a∉own
 ot:∀a o,Ot a=some o->s.heap.get? a=some o/\H a=none/\a∉own
 hp:∀a c,H a=some c->cM prog w F s.heap a c/\a∉own
 ex:∀a∈own,∃o,s.heap.get? a=some o
 ap:∀a o o',F a=some o->Ot a=some o'->∃o,T.get? a=some o
 gens:s.gens=#[]
 os:s.os=os
section
variable {prog:EQ}{w:KB}{T:GM}{Ot:aw}{os:kL}{own:List co}{F:aw}{H:aa}{s:bv}
theorem az.to(S:az prog w T Ot os own F H s){F':aw}{H':aa}{h':GM}{tk:Nat}{d:oC}(hk:∀b o,s.heap.get? b=some o->H b=none->h'.get? b=some o)
  (hF:∀a o,F' a=some o->F a=some o∨(h'.get? a=some o/\s.heap.get? a=none))
  (hH:∀a c,H' a=some c->cM prog w F' h' a c/\((H a).isSome=true∨s.heap.get? a=none)) (hd:∀a o,F' a=some o->H' a=none):
  az prog w T Ot os own F' H' ⟨h',s.gens,d,tk,s.os⟩:=by
 have u:∀a o,s.heap.get? a=some o->H a=none->H' a=none:=by
  intro a o Z e2;cases q:H' a with
  |none=>rfl
  |some c=>
   rcases(hH a c q).2 with z|z
   ·rw[e2]at z;cases z
   ·rw[Z]at z;cases z
 refine⟨λa o e=>?_,λa o e=>?_,λa o e=>?_,λa c e=>⟨(hH a c e).1,λha=>?_⟩,λa ha=>?_,λa o o' e e'=>?_,S.gens,S.os⟩
 ·obtain⟨x,y,z⟩:=S.top a o e;exact⟨hk _ _ x y,u _ _ x y,z⟩
 ·rcases hF a o e with q|⟨Y,j⟩
  ·refine ml (S.fz a o q) λx y z=>?_;exact⟨hk _ _ x y,u _ _ x y,z⟩
  ·refine⟨Y,hd a o e,λha=>?_⟩;obtain⟨o',e'⟩:=S.ex a ha;rw[j]at e';cases e'
 ·obtain⟨x,y,z⟩:=S.ot a o e;exact⟨hk _ _ x y,u _ _ x y,z⟩
 ·rcases(hH a c e).2 with z|z
  ·cases q:H a with
   |none=>rw[q]at z;cases z
   |some c'=>exact(S.hp a c' q).2 ha
  ·obtain⟨o',e'⟩:=S.ex a ha;rw[z]at e';cases e'
 ·obtain⟨o',e'⟩:=S.ex a ha;refine⟨o',hk a o' e' ?_⟩;cases q:H a with
  |none=>rfl
  |some c'=>exact absurd ha (S.hp a c' q).2
 ·rcases hF a o e with q|⟨_,j⟩
  ·exact S.ap a o o' q e'
  ·have:=(S.ot a o' e').1;rw[j]at this;cases this
theorem az.keep(S:az prog w T Ot os own F H s){h':GM}{tk:Nat}{d:oC}(hk:∀b o,s.heap.get? b=some o->h'.get? b=some o):az prog w T Ot os own F H ⟨h',s.gens,d,tk,s.os⟩:=by
 refine S.to (λb o e _=>hk b o e) (λa o e=>.inl e) (λa c e=>⟨?_,.inl (by rw[e];rfl)⟩) λa o e=>(S.fz a o e).2.1;refine bR ((S.hp a c e).1.lt) λo e'=>?_;exact(S.hp a c e).1.keep (aw.le.refl F) ((hk _ _ e').trans e'.symm)
theorem az.toks(S:az prog w T Ot os own F H s)(tk:Nat):az prog w T Ot os own F H {s with toks:=tk}:=S.keep λ_ _ e=>e
theorem az.frozen(S:az prog w T Ot os own F H s){h':GM}{tk:Nat}{d:oC}{a:co}{o:nh}(hk:∀b o,s.heap.get? b=some o->h'.get? b=some o)(ha:h'.get? a=some o)(hn:s.heap.get? a=none):
  az prog w T Ot os own (f6 F a o) H ⟨h',s.gens,d,tk,s.os⟩/\F.le (f6 F a o):=by
 have u:H a=none:=by
  cases q:H a with
  |none=>rfl
  |some c=>obtain⟨o,e⟩:=(S.hp a c q).1.lt;rw[hn]at e;cases e
 have z:F.le (f6 F a o):=λb o' e=>by
  by_cases q:b=a
  ·subst q;have:=(S.fz b o' e).1;rw[hn]at this;cases this
  ·rw[eH q];exact e
 refine⟨S.to (λb o e _=>hk b o e) (λb o' e=>?_) (λb c e=>⟨?_,.inl (by rw[e];rfl)⟩) λb o' e=>?_,z⟩
 ·by_cases q:b=a
  ·subst q;rw[aM]at e;cases e;exact .inr ⟨ha,hn⟩
  ·rw[eH q]at e;exact .inl e
 ·refine bR ((S.hp b c e).1.lt) λo' e'=>?_;exact(S.hp b c e).1.keep z ((hk _ _ e').trans e'.symm)
 ·by_cases q:b=a
  ·subst q;exact u
  ·rw[eH q]at e;exact(S.fz b o' e).2.1
theorem az.new(S:az prog w T Ot os own F H s){h':GM}{tk:Nat}{d:oC}{a:co}{c:ao}(hk:∀b o,s.heap.get? b=some o->h'.get? b=some o)(ha:cM prog w F h' a c)(hn:s.heap.get? a=none):
  az prog w T Ot os own F (upd H a c) ⟨h',s.gens,d,tk,s.os⟩/\H a=none:=by
 have z:H a=none:=by
  cases q:H a with
  |none=>rfl
  |some c=>obtain⟨o,e⟩:=(S.hp a c q).1.lt;rw[hn]at e;cases e
 refine⟨S.to (λb o e _=>hk b o e) (λb o' e=>.inl e) (λb c' e=>?_) λb o' e=>?_,z⟩
 ·by_cases q:b=a
  ·subst q;rw[af]at e;cases e;exact⟨ha,.inr hn⟩
  ·rw[aj q]at e;obtain⟨o',e'⟩:=(S.hp b c' e).1.lt;exact⟨(S.hp b c' e).1.keep (aw.le.refl F) ((hk _ _ e').trans e'.symm),.inl (by rw[e];rfl)⟩
 ·by_cases q:b=a
  ·subst q;have:=(S.fz b o' e).1;rw[hn]at this;cases this
  ·rw[aj q];exact(S.fz b o' e).2.1
theorem az.change(S:az prog w T Ot os own F H s){h':GM}{tk:Nat}{d:oC}{a:co}{c c':ao}(hc:H a=some c)(hk:∀b o,b≠a->s.heap.get? b=some o->h'.get? b=some o)(ha:cM prog w F h' a c'):
  az prog w T Ot os own F (upd H a c') ⟨h',s.gens,d,tk,s.os⟩:=by
 refine S.to (λb o e u=>hk b o (λq=>by subst q;rw[hc]at u;cases u) e) (λb o' e=>.inl e) (λb z e=>?_) λb o' e=>?_
 ·by_cases q:b=a
  ·subst q;rw[af]at e;cases e;exact⟨ha,.inl (by rw[hc];rfl)⟩
  ·rw[aj q]at e;refine bR ((S.hp b z e).1.lt) λo' e'=>?_;exact⟨(S.hp b z e).1.keep (aw.le.refl F) ((hk _ _ q e').trans e'.symm),.inl (by rw[e];rfl)⟩
 ·by_cases q:b=a
  ·subst q;rw[(S.fz b o' e).2.1]at hc;cases hc
  ·rw[aj q];exact(S.fz b o' e).2.1
theorem az.mine(S:az prog w T Ot os own F H s){h':GM}{tk:Nat}{d:oC}{a:co}(ha:a∈own)(hs:Pv a s.heap h')(Y:∃o,h'.get? a=some o):az prog w T Ot os own F H ⟨h',s.gens,d,tk,s.os⟩:=by
 have u:∀b,b∉own->b≠a:=λb j e=>j (e▸ha);refine⟨λb o e=>?_,λb o e=>?_,λb o e=>?_,λb c e=>?_,λb j=>?_,S.ap,S.gens,S.os⟩
 ·obtain⟨x,y,z⟩:=S.top b o e;exact⟨(hs.2 b (u b z)).trans x,y,z⟩
 ·obtain⟨x,y,z⟩:=S.fz b o e;exact⟨(hs.2 b (u b z)).trans x,y,z⟩
 ·obtain⟨x,y,z⟩:=S.ot b o e;exact⟨(hs.2 b (u b z)).trans x,y,z⟩
 ·obtain⟨x,z⟩:=S.hp b c e;exact⟨x.keep (aw.le.refl F) (hs.2 b (u b z)),z⟩
 ·by_cases q:b=a
  ·subst q;exact Y
  ·obtain⟨o,e⟩:=S.ex b j;exact⟨o,(hs.2 b q).trans e⟩
theorem az.forget(S:az prog w T Ot os own F H s){H':aa}(hs:∀a c,H' a=some c->H a=some c):az prog w T Ot os own F H' s:=by
 have n:∀a,H a=none->H' a=none:=λa e=>by cases q:H' a with|none=>rfl|some c=>rw[hs a c q]at e;cases e
 exact⟨λa o e=>have⟨x,y,z⟩:=S.top a o e;⟨x,n _ y,z⟩,λa o e=>have⟨x,y,z⟩:=S.fz a o e;⟨x,n _ y,z⟩,λa o e=>have⟨x,y,z⟩:=S.ot a o e;⟨x,n _ y,z⟩,λa c e=>S.hp a c (hs a c e),S.ex,S.ap,S.gens,S.os⟩
noncomputable def snap(Ot:aw)(own:List co)(h:GM):aw:=λa=>if a∈own then h.get? a else Ot a
set_option tactic.hygienic true in
theorem az.enter(S:az prog w T Ot os own F H s){own':List co}{h':GM}{tk:Nat}{d:oC}(hk:∀b o,s.heap.get? b=some o->h'.get? b=some o)(hn:∀a∈own',s.heap.get? a=none/\∃o,h'.get? a=some o):
  az prog w T (snap Ot own s.heap) os own' F H ⟨h',s.gens,d,tk,s.os⟩:=by
 have u:∀a o,s.heap.get? a=some o->a∉own':=λa o e ha=>by rw[(hn a ha).1]at e;cases e
 refine⟨λa o e=>?_,λa o e=>?_,λa o e=>?_,λa c e=>?_,λa ha=>(hn a ha).2,λa o o' e e'=>?_,S.gens,S.os⟩
 ·obtain⟨x,y,z⟩:=S.top a o e;exact⟨hk _ _ x,y,u _ _ x⟩
 ·obtain⟨x,y,z⟩:=S.fz a o e;exact⟨hk _ _ x,y,u _ _ x⟩
 ·unfold snap at e;split at e
  ·rename_i ha;refine⟨hk _ _ e,?_,u _ _ e⟩;cases q:H a with
   |none=>rfl
   |some c=>exact absurd ha (S.hp a c q).2
  ·obtain⟨x,y,z⟩:=S.ot a o e;exact⟨hk _ _ x,y,u _ _ x⟩
 ·obtain⟨x,z⟩:=S.hp a c e;obtain⟨o,e'⟩:=x.lt;exact⟨x.keep (.refl F) ((hk _ _ e').trans e'.symm),u _ _ e'⟩
 ·unfold snap at e';rw[if_neg (S.fz a o e).2.2]at e';exact S.ap a o o' e e'
theorem az.leave(S:az prog w T Ot os own F H s){own':List co}{F':aw}{H':aa}{s':bv}(z:az prog w T (snap Ot own s.heap) os own' F' H' s'):
  az prog w T Ot os own F' H' s'/\∀b o,(b∈own∨∃o',Ot b=some o')->s.heap.get? b=some o->s'.heap.get? b=some o:=by
 have j:∀a∈own,∃o,s.heap.get? a=some o/\snap Ot own s.heap a=some o:=λa ha=>by
  refine bR (S.ex a ha) λo e=>?_;exact⟨o,e,by unfold snap;rw[if_pos ha];exact e⟩
 have st:∀a o,Ot a=some o->snap Ot own s.heap a=some o:=λa o e=>by
  unfold snap;rw[if_neg (S.ot a o e).2.2];exact e
 refine⟨⟨λa o e=>?_,λa o e=>?_,λa o e=>?_,λa c e=>?_,λa ha=>?_,λa o o' e e'=>z.ap a o o' e (st a o' e'),z.gens,z.os⟩,λb o u e=>?_⟩
 ·obtain⟨x,y,_⟩:=z.top a o e;exact⟨x,y,(S.top a o e).2.2⟩
 ·obtain⟨x,y,_⟩:=z.fz a o e;refine⟨x,y,λha=>?_⟩;refine ah (j a ha) λo' _ e2=>?_;obtain⟨t,ht⟩:=z.ap a o o' e e2;exact(S.top a t ht).2.2 ha
 ·obtain⟨x,y,_⟩:=z.ot a o (st a o e);exact⟨x,y,(S.ot a o e).2.2⟩
 ·refine⟨(z.hp a c e).1,λha=>?_⟩;refine ah (j a ha) λo' _ e2=>?_;have:=(z.ot a o' e2).2.1;rw[e]at this;cases this
 ·refine cut λZ Y=>?_;refine ah (j a ha) λo' _ e2=>?_;refine Y ?_;exact⟨o',(z.ot a o' e2).1⟩
 ·rcases u with u|⟨o',u⟩
  ·refine ah (j b u) λo' q e2=>?_;rw[e]at q;cases q;exact(z.ot b o e2).1
  ·have h1:=(S.ot b o' u).1;rw[e]at h1;cases h1;exact(z.ot b o (st b o u)).1
theorem az.QA(S:az prog w T Ot os own F H s){wr:List co}{h':GM}{tk:Nat}{d:oC}(hk:∀b o,s.heap.get? b=some o->h'.get? b=some o)(hn:∀a∈wr,s.heap.get? a=none/\∃o,h'.get? a=some o):
  az prog w T Ot os (wr++own) F H ⟨h',s.gens,d,tk,s.os⟩:=by
 have u:∀a o,s.heap.get? a=some o->a∉own->a∉wr++own:=λa o e ha hm=>by
  rcases ca.mp hm with hm|hm
  ·rw[(hn a hm).1]at e;cases e
  ·exact ha hm
 refine⟨λa o e=>?_,λa o e=>?_,λa o e=>?_,λa c e=>?_,λa ha=>?_,S.ap,S.gens,S.os⟩
 ·obtain⟨x,y,z⟩:=S.top a o e;exact⟨hk _ _ x,y,u _ _ x z⟩
 ·obtain⟨x,y,z⟩:=S.fz a o e;exact⟨hk _ _ x,y,u _ _ x z⟩
 ·obtain⟨x,y,z⟩:=S.ot a o e;exact⟨hk _ _ x,y,u _ _ x z⟩
 ·obtain⟨x,z⟩:=S.hp a c e;obtain⟨o,e'⟩:=x.lt;exact⟨x.keep (.refl F) ((hk _ _ e').trans e'.symm),u _ _ e' z⟩
 ·rcases ca.mp ha with ha|ha
  ·exact(hn a ha).2
  ·obtain⟨o,e⟩:=S.ex a ha;exact⟨o,hk _ _ e⟩
theorem az.less{wr:List co}(S:az prog w T Ot os (wr++own) F H s):az prog w T Ot os own F H s:=by
 have u:∀a,a∉wr++own->a∉own:=λa h hm=>h (on _ hm);exact⟨λa o e=>have⟨x,y,z⟩:=S.top a o e;⟨x,y,u _ z⟩,λa o e=>have⟨x,y,z⟩:=S.fz a o e;⟨x,y,u _ z⟩,λa o e=>have⟨x,y,z⟩:=S.ot a o e;⟨x,y,u _ z⟩,
  λa c e=>have⟨x,z⟩:=S.hp a c e;⟨x,u _ z⟩,λa h=>S.ex a (on _ h),S.ap,S.gens,S.os⟩
theorem az.lock(S:az prog w T Ot os own F H s){a:co}{c:ao}{o:nh}(hc:H a=some c)(e:s.heap.get? a=some o):az prog w T Ot os own F (upd H a (.ro o c)) s:=by
 have n:∀b,H b=none->upd H a (.ro o c) b=none:=λb u=>by rw[aj (by rintro rfl;rw[hc]at u;cases u)];exact u
 refine⟨λa o e=>have⟨x,y,z⟩:=S.top a o e;⟨x,n _ y,z⟩,λa o e=>have⟨x,y,z⟩:=S.fz a o e;⟨x,n _ y,z⟩,λa o e=>have⟨x,y,z⟩:=S.ot a o e;⟨x,n _ y,z⟩,λb c' e'=>?_,S.ex,S.ap,S.gens,S.os⟩;by_cases q:b=a
 ·subst q;rw[af]at e';cases e';exact⟨⟨e,(S.hp b c hc).1⟩,(S.hp b c hc).2⟩
 ·rw[aj q]at e';exact S.hp b c' e'
end
noncomputable def dK(env:vm)(F:aw)(h:GM)(m:lm->Option bm)(x:lm)(d:D):Prop:=match env.kindOf x with
 |some .local=>∃v,m x=some v/\R F v d
 |some .cell=>∃c v,env.cells.lookup x=some c/\h.IsCell c (some v)/\R F v d
 |some .free=>∃c v,env.cells.lookup x=some c/\h.IsCell c (some v)/\R F v d
 |_=>False
noncomputable abbrev ag:=List (lm×D)
structure Fc.Loc{B:Base}(G:Fc B)(F:aw)(ρ:ag)(s:bv):Prop where
 ns:∃m,s.heap.Ns G.env.locals m/\∀x d,ρ.lookup x=some d->dK G.env F s.heap m x d
 cell:∀x c,G.env.cells.lookup x=some c->∃v,s.heap.IsCell c v
noncomputable abbrev Fc.az{B:Base}(G:Fc B):aw->aa->bv->Prop:=Mine.Tactic.az B.prog B.w B.T G.Ot B.os G.own
section
variable {B:Base}{G:Fc B}{F:aw}{H:aa}{s:bv}{ρ:ag}
theorem IsCell.same{h h':GM}{c:co}{v:Option bm}(x:h.IsCell c v)(e:∀o,h.get? c=some o->h'.get? c=some o):h'.IsCell c v:=let⟨o,a,b⟩:=x;⟨o,e o a,b⟩
theorem dK.map{env:vm}{F':aw}{h h':GM}{m j:lm->Option bm}{x:lm}{d:D}(v:dK env F h m x d)(z:F.le F')(u:env.kindOf x=some .local->∀v,m x=some v->j x=some v)(q:∀c v,env.cells.lookup x=some c->h.IsCell c v->h'.IsCell c v):dK env F' h' j x d:=by
 revert v u;unfold dK;cases env.kindOf x with
 |none=>exactλv _=>v
 |some k=>
  cases k with
  |«local»=>exactλv u=>ah v λv e r=>⟨v,u rfl v e,r.mono z⟩
  |cell=>exactλv _=>cK v λc v e i r=>⟨c,v,e,q c _ e i,r.mono z⟩
  |free=>exactλv _=>cK v λc v e i r=>⟨c,v,e,q c _ e i,r.mono z⟩
  |_=>exactλv _=>v
theorem dK.LV{env:vm}{h:GM}{m:lm->Option bm}{x:lm}{d:D}(e:env.kindOf x=some .cell∨env.kindOf x=some .free)(k:∃c v,env.cells.lookup x=some c/\h.IsCell c (some v)/\R F v d):dK env F h m x d:=e.elim (λe=>by unfold dK;rw[e];exact k) λe=>by unfold dK;rw[e];exact k
theorem dK.cell{env:vm}{h:GM}{m:lm->Option bm}{x:lm}{d:D}(e:env.kindOf x=some .cell∨env.kindOf x=some .free)(k:dK env F h m x d):∃c v,env.cells.lookup x=some c/\h.IsCell c (some v)/\R F v d:=by
 unfold dK at k;exact e.elim (λe=>by rw[e]at k;exact k) λe=>by rw[e]at k;exact k
theorem Fc.Loc.keep(L:G.Loc F ρ s){F':aw}(k:F.le F'){s':bv}(hk:∀b o,(b∈G.own∨∃o',G.Ot b=some o')->s.heap.get? b=some o->s'.heap.get? b=some o):G.Loc F' ρ s':=
 have cell:∀x c v,G.env.cells.lookup x=some c->s.heap.IsCell c v->s'.heap.IsCell c v:=λx c v e i=>IsCell.same i λo e'=>hk c o ((G.cells x c e).2) e'
 ⟨ah L.ns λm hn hv=>⟨m,Dm hn λo es ep z r=>Qp o es ep (hk _ _ (.inl G.mine) z) r,λx d e=>(hv x d e).map k (λ_ _ e=>e) (cell x)⟩,λx c e=>(L.cell x c e).elim λv i=>⟨v,cell x c v e i⟩⟩
theorem qM(S:G.az F H s){b:co}(z:b∈G.own∨∃o',G.Ot b=some o'):H b=none:=by
 rcases z with z|⟨o,z⟩
 ·cases q:H b with
  |none=>rfl
  |some c=>exact absurd z (S.hp b c q).2
 ·exact(S.ot b o z).2.1
theorem Fc.Loc.step(L:G.Loc F ρ s)(S:G.az F H s){F':aw}(k:F.le F'){s':bv}(hk:∀b o,s.heap.get? b=some o->H b=none->s'.heap.get? b=some o):G.Loc F' ρ s':=
 L.keep k λb o z e=>hk b o e (qM S z)
noncomputable def ag.le(ρ z:ag):Prop:=∀x d,ρ.lookup x=some d->z.lookup x=some d
theorem ag.le.refl(ρ:ag):ρ.le ρ:=λ_ _ e=>e
theorem ag.le.trans{a b c:ag}(x:a.le b)(y:b.le c):a.le c:=λn d e=>y n d (x n d e)
theorem ag.le.nil(ρ:ag):ag.le [] ρ:=λ_ _ e=>by simp at e
theorem Fc.Loc.less{z:ag}(L:G.Loc F ρ s)(h:z.le ρ):G.Loc F z s:=⟨let⟨m,a,b⟩:=L.ns;(ak m a (λx d e=>b x d (h x d e))),L.cell⟩
end
noncomputable abbrev bot:bm->bv->Prop:=λ_ _=>False
noncomputable def aa.le(H H':aa):Prop:=∀a c,H a=some c->H' a=some c
theorem aa.le.refl(H:aa):H.le H:=λ_ _ e=>e
theorem aa.le.trans{a b c:aa}(x:a.le b)(y:b.le c):a.le c:=λn d e=>y n d (x n d e)
theorem aa.le.upd{H:aa}{a:co}{c:ao}(h:H a=none):H.le (Mine.Tactic.upd H a c):=λb c' e=>by
 rw[aj (by rintro rfl;rw[h]at e;cases e)];exact e
noncomputable def fh(H:aa)(a:co)(c:ao):Prop:=H a=some c∨∃o,H a=some (.ro o c)
inductive dY{B:Base}(G:Fc B)(F:aw)(ρ:ag)(Q:D->aa->Prop)(v:bm)(s':bv):Prop
 |mk (F':aw) (d:D) (H':aa) (k:F.le F') (r:R F' v d) (S:G.az F' H' s') (L:G.Loc F' ρ s') (q:Q d H')
inductive Km{B:Base}(G:Fc B)(F:aw)(ρ:ag)(Q:Bool->aa->Prop)(b:Bool)(s':bv):Prop
 |mk (F':aw) (H':aa) (k:F.le F') (S:G.az F' H' s') (L:G.Loc F' ρ s') (q:Q b H')
inductive Dw{B:Base}(G:Fc B)(F:aw)(Q:ag->aa->Prop)(u:Unit)(s':bv):Prop
 |mk (F':aw) (bb:ag) (H':aa) (k:F.le F') (S:G.az F' H' s') (L:G.Loc F' bb s') (q:Q bb H')
noncomputable def HV{B:Base}(G:Fc B)(ρ:ag)(H:aa)(F:aw)(t:sY bm)(Q:D->aa->Prop):Prop:=
 ∀s,G.az F H s->G.Loc F ρ s->im (kt B.prog B.w) G.A t (dY G F ρ Q) bot s
noncomputable def HE{B:Base}(G:Fc B)(ρ:ag)(H:aa)(e:lv)(Q:D->aa->Prop):Prop:=∀F,HV G ρ H F (eval e G.env) Q
noncomputable def HB{B:Base}(G:Fc B)(ρ:ag)(H:aa)(e:lv)(Q:Bool->aa->Prop):Prop:=
 ∀F s,G.az F H s->G.Loc F ρ s->im (kt B.prog B.w) G.A (j0 e G.env (eval e G.env)) (Km G F ρ Q) bot s
noncomputable def V1{B:Base}(G:Fc B)(ρ:ag)(H:aa)(f:bm->sY bm)(a:D)(Q:D->aa->Prop):Prop:=∀F u,R F u a->HV G ρ H F (f u) Q
noncomputable def V2{B:Base}(G:Fc B)(ρ:ag)(H:aa)(f:bm->bm->sY bm)(a b:D)(Q:D->aa->Prop):Prop:=∀F u v,R F u a->R F v b->HV G ρ H F (f u v) Q
noncomputable def Vn{B:Base}(G:Fc B)(ρ:ag)(H:aa)(f:List bm->sY bm)(ds:List D)(Q:D->aa->Prop):Prop:=∀F vs,Rs F vs ds->HV G ρ H F (f vs) Q
inductive Fl where
 |next|brk|cont
 |ret (d:D)
noncomputable def Rfl(F:aw):GW->Fl->Prop
 |.next,.next=>True
 |.brk,.brk=>True
 |.cont,.cont=>True
 |.ret v,.ret d=>R F v d
 |_,_=>False
inductive ky{B:Base}(G:Fc B)(F:aw)(Q:Fl->ag->aa->Prop)(f:GW)(s':bv):Prop
 |mk (F':aw) (fl:Fl) (bb:ag) (H':aa) (k:F.le F') (r:Rfl F' f fl) (S:G.az F' H' s') (L:G.Loc F' bb s') (q:Q fl bb H')
theorem ky.up{B:Base}{G:Fc B}{F F':aw}{Q:Fl->ag->aa->Prop}{f:GW}{s':bv}(k:F.le F')(p:ky G F' Q f s'):ky G F Q f s':=p.casesOn λu fl r z k' r' S L q=>⟨u,fl,r,z,k.trans k',r',S,L,q⟩
noncomputable def HS{B:Base}(G:Fc B)(ρ:ag)(H:aa)(b:List eX)(Q:Fl->ag->aa->Prop):Prop:=∀F s,G.az F H s->G.Loc F ρ s->im (kt B.prog B.w) G.A (execs b G.env) (ky G F Q) bot s
noncomputable def H1{B:Base}(G:Fc B)(ρ:ag)(H:aa)(b:eX)(Q:Fl->ag->aa->Prop):Prop:=∀F s,G.az F H s->G.Loc F ρ s->im (kt B.prog B.w) G.A (exec b G.env) (ky G F Q) bot s
noncomputable def HA{B:Base}(G:Fc B)(ρ:ag)(H:aa)(t:lv)(a:D)(Q:ag->aa->Prop):Prop:=
 ∀F u,R F u a->∀s,G.az F H s->G.Loc F ρ s->im (kt B.prog B.w) G.A (hW t G.env u) (Dw G F Q) bot s
section
variable {B:Base}{G:Fc B}{ρ:ag}{H:aa}{F:aw}
theorem dY.here{Q:D->aa->Prop}{v:bm}{s':bv}{d:D}(r:R F v d)(S:G.az F H s')(L:G.Loc F ρ s')(q:Q d H):dY G F ρ Q v s':=⟨F,d,H,.refl F,r,S,L,q⟩
theorem dY.up{Q Y:D->aa->Prop}{v:bm}{s':bv}{j:aw}(k:j.le F)(p:dY G F ρ Q v s')(hq:∀d H',Q d H'->Y d H'):dY G j ρ Y v s':=by
 obtain⟨F',d,H',x,y,z,u,q⟩:=p;exact⟨F',d,H',k.trans x,y,z,u,hq _ _ q⟩
theorem HV.mono{t:sY bm}{Q z:D->aa->Prop}(h:HV G ρ H F t Q)(hq:∀d H',Q d H'->z d H'):HV G ρ H F t z:=
 λs S L=>f8 (h s S L) (λ_ _ p=>p.up (.refl F) hq) λ_ _ x=>x
theorem HE.mono{e:lv}{Q z:D->aa->Prop}(h:HE G ρ H e Q)(hq:∀d H',Q d H'->z d H'):HE G ρ H e z:=λF=>(h F).mono hq
theorem HE.then{e:lv}{Q:D->aa->Prop}{P:bm->bv->Prop}(h:HE G ρ H e Q){s:bv}(S:G.az F H s)(L:G.Loc F ρ s)
  (k:∀F' d H' v s',F.le F'->R F' v d->G.az F' H' s'->G.Loc F' ρ s'->Q d H'->P v s'):im (kt B.prog B.w) G.A (eval e G.env) P bot s:=
 f8 (h F s S L) (λv s'⟨F',d,H',x,y,z,u,q⟩=>k F' d H' v s' x y z u q) λ_ _ x=>x
theorem HE.bin{l r:lv}{op:UU}{z:cx}{Q:D->aa->Prop}(h:HE G ρ H l λa H1=>HE G ρ H1 r λb H2=>V2 G ρ H2 (i4 op) a b Q):HE G ρ H (.BinOp l op r z) Q:=λF s S L=>
 wpAny_BinOp (h.then S L λF1 a H1 u s1 k1 Z S1 L1 N=>N.then S1 L1 λF2 b H2 v q j Y S2 L2 O=>
  f8 (O F2 u v (Z.mono j) Y q S2 L2) (λ_ _ p=>p.up (k1.trans j) λ_ _ x=>x) λ_ _ x=>x)
theorem HE.cmp{l r:lv}{op:Cy}{z:cx}{Q:D->aa->Prop}(h:HE G ρ H l λa H1=>HE G ρ H1 r λb H2=>V2 G ρ H2 (M2 op) a b Q)(hm:p9 op r=false:=by with_unfolding_all rfl):
  HE G ρ H (.Compare l [op] [r] z) Q:=λF s S L=>
 wpAny_Compare1 (h.then S L λF1 a H1 u s1 k1 Z S1 L1 N=>N.then S1 L1 λF2 b H2 v q j Y S2 L2 O=>
  f8 (O F2 u v (Z.mono j) Y q S2 L2) (λ_ _ p=>p.up (k1.trans j) λ_ _ x=>x) λ_ _ x=>x) hm
theorem HB.cmp{l r:lv}{op:Cy}{z:cx}{Q:Bool->aa->Prop}(h:HE G ρ H l λa H1=>HE G ρ H1 r λb H2=>V2 G ρ H2 (M2 op) a b λd j=>∃c,d=.bool c/\Q c j)(hm:p9 op r=false:=by with_unfolding_all rfl):
  HB G ρ H (.Compare l [op] [r] z) Q:=λF s S L=>
 wpAny_isTrue_Compare1 (h.then S L λF1 a H1 u s1 k1 r1 S1 L1 q1=>q1.then S1 L1 λF2 b H2 v Z Y N S2 L2 q2=>
  f8 (q2 F2 u v (r1.mono Y) N Z S2 L2) (λv s' p=>by
   refine cut λPP kk=>?_;obtain⟨F3,d,j,k3,O,S3,L3,c,rfl,q⟩:=p;refine kk ?_;refine R.el O ?_;exact fv ⟨F3,j,(k1.trans Y).trans k3,S3,L3,q⟩) λ_ _ x=>x) hm
end
end
section
section
variable {B:Base}{G:Fc B}{ρ:ag}{H:aa}{F:aw}
theorem HB.mono{e:lv}{Q z:Bool->aa->Prop}(h:HB G ρ H e Q)(hq:∀b H',Q b H'->z b H'):HB G ρ H e z:=
 λF s S L=>f8 (h F s S L) (λb s'⟨F',H',k,x,y,q⟩=>⟨F',H',k,x,y,hq _ _ q⟩) λ_ _ x=>x
theorem HB.then{e:lv}{Q:Bool->aa->Prop}{P:Bool->bv->Prop}(h:HB G ρ H e Q){s:bv}(S:G.az F H s)(L:G.Loc F ρ s)
  (k:∀F' b H' s',F.le F'->G.az F' H' s'->G.Loc F' ρ s'->Q b H'->P b s'):im (kt B.prog B.w) G.A (j0 e G.env (eval e G.env)) P bot s:=
 f8 (h F s S L) (λb s'⟨F',H',x,y,z,q⟩=>k F' b H' s' x y z q) λ_ _ x=>x
theorem HS.mono{b:List eX}{Q u:Fl->ag->aa->Prop}(h:HS G ρ H b Q)(hq:∀f r H',Q f r H'->u f r H'):HS G ρ H b u:=
 λF s S L=>f8 (h F s S L) (λf s'⟨F',fl,r,H',k,x,y,z,q⟩=>⟨F',fl,r,H',k,x,y,z,hq _ _ _ q⟩) λ_ _ x=>x
theorem HS.less{b:List eX}{z:ag}{H':aa}{Q:Fl->ag->aa->Prop}(h:HS G z H' b Q)(j:z.le ρ)(u:H'.le H):HS G ρ H b Q:=
 λF s S L=>h F s (S.forget u) (L.less j)
theorem HE.less{e:lv}{u:ag}{H':aa}{Q:D->aa->Prop}(h:HE G ρ H' e Q)(z:H'.le H):HE G ρ H e Q:=
 λF s S L=>h F s (S.forget z) L
noncomputable def Dn(Q:D->aa->Prop):D->aa->Prop:=λd H=>∃H',H'.le H/\Q d H'
theorem dY.dn{Q:D->aa->Prop}{v:bm}{s':bv}(p:dY G F ρ (Dn Q) v s'):dY G F ρ Q v s':=by
 obtain⟨F',d,H',k,r,S,L,u,z,q⟩:=p;exact⟨F',d,u,k,r,S.forget z,L,q⟩
theorem HV.dn{t:sY bm}{Q:D->aa->Prop}(h:HV G ρ H F t (Dn Q)):HV G ρ H F t Q:=λs S L=>f8 (h s S L) (λ_ _ p=>p.dn) λ_ _ x=>x
theorem HE.dn{e:lv}{Q:D->aa->Prop}(h:HE G ρ H e (Dn Q)):HE G ρ H e Q:=λF=>(h F).dn
theorem HE.var{x:lm}{z:cx}{d:D}{Q:D->aa->Prop}(h:ρ.lookup x=some d)(q:Q d H)(u:(x==("__debug__":lm))=false:=by decide)(hc:(x==("__classdict__":lm))=false:=by decide):
  HE G ρ H (.Name x z) Q:=λF s S L=>ah L.ns λm hn hv=>by
 have hv:=hv x d h;revert hv;unfold dK;cases hk:G.env.kindOf x with
 |none=>exact Ps
 |some k=>
  cases k with
  |«local»=>exactλv=>ah v λv e r=>Lj (wpAny_loadName_local G.kind hk hn e (.here r S L q)) u
  |cell=>exactλv=>cK v λc v e i r=>Lj (wpAny_loadName_cell G.kind hk e i (.here r S L q)) u
  |free=>exactλv=>cK v λc v e i r=>Lj (wpAny_loadName_free G.kind hk e i (.here r S L q) hc) u
  |_=>exact Ps
theorem HE.cInt{i:Int}{k:Nat}{z:cx}{Q:D->aa->Prop}(q:Q (.int i) H):HE G ρ H (.Constant (.int i) k z) Q:=λF s S L=>
 j3 (.here (.int i _) (S.toks _) (L.keep (.refl F) λ_ _ _ e=>e) q)
theorem HE.cStr{x:lm}{k:Nat}{z:cx}{Q:D->aa->Prop}(q:Q (.str x) H):HE G ρ H (.Constant (.str x) k z) Q:=λF s S L=>
 wpAny_Constant_str (.here (.str x _) (S.toks _) (L.keep (.refl F) λ_ _ _ e=>e) q)
theorem HE.cBool{b:Bool}{k:Nat}{z:cx}{Q:D->aa->Prop}(q:Q (.bool b) H):HE G ρ H (.Constant (.bool b) k z) Q:=λF s S L=>
 wpAny_Constant_bool (.here (.bool b) S L q)
theorem HE.QC{k:Nat}{z:cx}{Q:D->aa->Prop}(q:Q .none H):HE G ρ H (.Constant .none k z) Q:=λF s S L=>
 wpAny_Constant_none (.here .none S L q)
theorem HE.zD{t a b:lv}{z:cx}{Q:D->aa->Prop}(h:HB G ρ H t λc H1=>if c then HE G ρ H1 a Q else HE G ρ H1 b Q):HE G ρ H (.IfExp t a b z) Q:=λF s S L=>
 wpAny_IfExp (h.then S L λF' c H' s' k u j q=>by
  cases c with
  |true=>exact f8 (q F' s' u j) (λ_ _ p=>p.up k λ_ _ x=>x) λ_ _ x=>x
  |false=>exact f8 (q F' s' u j) (λ_ _ p=>p.up k λ_ _ x=>x) λ_ _ x=>x)
theorem HB.val{e:lv}{Q:Bool->aa->Prop}(h:HE G ρ H e λd H'=>∃b,d=.bool b/\Q b H')
  (he:j0 e G.env (eval e G.env)=(do let v←eval e G.env;iZ e.pos;mM [v] (truthy v)):=by rfl):HB G ρ H e Q:=λF s S L=>
 wpAny_isTrue_value (h.then S L λF' d H' v s' k r u j q=>ah q λb z q=>(z▸r:R F' v (.bool b)).el (fv ⟨F',H',k,u,j,q⟩)) he
theorem HB.not{e:lv}{z:cx}{Q:Bool->aa->Prop}(h:HB G ρ H e λb H'=>Q (!b) H'):HB G ρ H (.UnaryOp .Not e z) Q:=λF s S L=>by
 refine wpAny_isTrue_Not (f8 (h F s S L) (λb s' p=>?_) λ_ _ x=>x);obtain⟨F',H',k,u,j,q⟩:=p;exact⟨F',H',k,u,j,q⟩
theorem HB.and{a b:lv}{z:cx}{Q:Bool->aa->Prop}(h:HB G ρ H a λx H1=>if x then HB G ρ H1 b Q else Q false H1):HB G ρ H (.BoolOp .And [a,b] z) Q:=λF s S L=>by
 refine pJ (C4 (h.then S L λF1 x H1 s1 u O L1 q=>?_));cases x with
 |true=>exact C4 (HB.then q O L1 λF2 y H2 s2 Y Z N j=>by
   cases y with
   |true=>exact wpAny_allTrue_And_nil ⟨F2,H2,u.trans Y,Z,N,j⟩
   |false=>exact⟨F2,H2,u.trans Y,Z,N,j⟩)
 |false=>exact⟨F1,H1,u,O,L1,q⟩
theorem HB.or{a b:lv}{z:cx}{Q:Bool->aa->Prop}(h:HB G ρ H a λx H1=>if x then Q true H1 else HB G ρ H1 b Q):HB G ρ H (.BoolOp .Or [a,b] z) Q:=λF s S L=>by
 refine pJ (fk (h.then S L λF1 x H1 s1 u O L1 q=>?_));cases x with
 |false=>exact fk (HB.then q O L1 λF2 y H2 s2 Y Z N j=>by
   cases y with
   |false=>exact GX ⟨F2,H2,u.trans Y,Z,N,j⟩
   |true=>exact⟨F2,H2,u.trans Y,Z,N,j⟩)
 |true=>exact⟨F1,H1,u,O,L1,q⟩
theorem HB.or3{a b c:lv}{u:cx}{Q:Bool->aa->Prop}(h:HB G ρ H a λx H1=>if x then Q true H1 else HB G ρ H1 b λy H2=>if y then Q true H2 else HB G ρ H2 c Q):HB G ρ H (.BoolOp .Or [a,b,c] u) Q:=λF s S L=>by
 refine pJ (fk (h.then S L λF1 x H1 s1 z S1 L1 Z=>?_));cases x with
 |false=>exact fk (HB.then Z S1 L1 λF2 y H2 s2 j S2 L2 Y=>by
   cases y with
   |false=>exact fk (HB.then Y S2 L2 λF3 y H3 s3 O N L3 q=>by
     cases y with
     |false=>exact GX ⟨F3,H3,(z.trans j).trans O,N,L3,q⟩
     |true=>exact⟨F3,H3,(z.trans j).trans O,N,L3,q⟩)
   |true=>exact⟨F2,H2,z.trans j,S2,L2,Y⟩)
 |true=>exact⟨F1,H1,z,S1,L1,Z⟩
noncomputable def Ln{B:Base}(G:Fc B)(ρ:ag)(a:D)(H:aa)(op:Cy)(r:lv)(Q:D->Bool->aa->Prop):Prop:=HE G ρ H r λb H2=>V2 G ρ H2 (M2 op) a b λd z=>∃c,d=.bool c/\Q b c z
theorem Ln.go{a:D}{op:Cy}{r:lv}{Q:D->Bool->aa->Prop}(h:Ln G ρ a H op r Q){u:bm}{s:bv}{N:bm->Bool->bv->Prop}(ru:R F u a)(S:G.az F H s)(L:G.Loc F ρ s)
  (hP:∀F' b c v H' s',F.le F'->R F' v b->G.az F' H' s'->G.Loc F' ρ s'->Q b c H'->N v c s'):
  im (kt B.prog B.w) G.A (eval r G.env) (λv j=>im (kt B.prog B.w) G.A (M2 op u v) (λc z=>im (kt B.prog B.w) G.A (truthy c) (λt s3=>N v t s3) bot z) bot j) bot s:=
 HE.then h S L λF1 b H1 v j O Y S1 L1 q1=>f8 (q1 F1 u v (ru.mono O) Y j S1 L1) (λc z p=>by
  refine cut λPP kk=>?_;obtain⟨F2,d,H2,Z,r2,S2,L2,c,rfl,q⟩:=p;refine kk ?_;refine R.el r2 ?_;exact fv (hP F2 b c v H2 z (O.trans Z) (Y.mono Z) S2 L2 q)) λ_ _ x=>x
theorem HB.LW{l j z:lv}{Z Y:Cy}{q:cx}{Q:Bool->aa->Prop}
  (h:HE G ρ H l λa H1=>Ln G ρ a H1 Z j λb c H2=>if c then Ln G ρ b H2 Y z λ_ c O=>Q c O else Q false H2)
  (hm:Cz [Z,Y] [j,z]=false:=by with_unfolding_all rfl):HB G ρ H (.Compare l [Z,Y] [j,z] q) Q:=λF s S L=>
 aep (h.then S L λF1 a H1 u s1 k1 ru S1 L1 q1=>OY (q1.go ru S1 L1 λF2 b c v H2 s2 k2 rv S2 L2 N=>by
  cases c with
  |true=>exact test_last (Ln.go N rv S2 L2 λF3 b c v O s3 k3 _ S3 L3 q3=>⟨F3,O,(k1.trans k2).trans k3,S3,L3,q3⟩)
  |false=>exact⟨F2,H2,k1.trans k2,S2,L2,N⟩)) hm
theorem HB.LZ{l Z Y q:lv}{LX LY z:Cy}{O:cx}{Q:Bool->aa->Prop}
  (h:HE G ρ H l λa H1=>Ln G ρ a H1 LX Z λb c H2=>if c then Ln G ρ b H2 LY Y λb c j=>if c then Ln G ρ b j z q λ_ c H4=>Q c H4 else Q false j else Q false H2)
  (hm:Cz [LX,LY,z] [Z,Y,q]=false:=by with_unfolding_all rfl):HB G ρ H (.Compare l [LX,LY,z] [Z,Y,q] O) Q:=λF s S L=>
 aep (h.then S L λF1 a H1 u s1 k1 ru S1 L1 q1=>OY (q1.go ru S1 L1 λF2 b c v H2 s2 N rv S2 L2 q2=>by
  cases c with
  |true=>exact OY (Ln.go q2 rv S2 L2 λF3 b c v j s3 k3 rw S3 L3 q3=>by
    cases c with
    |true=>exact test_last (Ln.go q3 rw S3 L3 λF4 b c v H4 s4 k4 _ S4 L4 q4=>⟨F4,H4,((k1.trans N).trans k3).trans k4,S4,L4,q4⟩)
    |false=>exact⟨F3,j,(k1.trans N).trans k3,S3,L3,q3⟩)
  |false=>exact⟨F2,H2,k1.trans N,S2,L2,q2⟩)) hm
theorem V2.pure{f:bm->bm->sY bm}{a b d:D}{Q:D->aa->Prop}(q:Q d H)
  (h:∀F u v s,R F u a->R F v b->∀P:bm->bv->Prop,(∀r tk,R F r d->P r {s with toks:=tk})->im (kt B.prog B.w) G.A (f u v) P bot s):V2 G ρ H f a b Q:=λF u v z rv s S L=>
 h F u v s z rv _ λr tk j=>.here j (S.toks _) (L.keep (.refl F) λ_ _ _ e=>e) q
theorem V2.add{a b:Int}{Q:D->aa->Prop}(q:Q (.int (a+b)) H):V2 G ρ H (i4 .Add) (.int a) (.int b) Q:=V2.pure q λF u v s z rv P j=>z.el λt=>rv.el λY=>Tu (j _ _ (.int _ _))
theorem V2.sub{a b:Int}{Q:D->aa->Prop}(q:Q (.int (a-b)) H):V2 G ρ H (i4 .Sub) (.int a) (.int b) Q:=V2.pure q λF u v s z rv P j=>z.el λt=>rv.el λY=>Tv (j _ _ (.int _ _))
theorem V2.mod{a b:Int}{Q:D->aa->Prop}(j:b≠0)(q:Q (.int (a.fmod b)) H):V2 G ρ H (i4 .Mod) (.int a) (.int b) Q:=V2.pure q λF u v s z rv P Y=>z.el λt=>rv.el λZ=>Tw j (Y _ _ (.int _ _))
theorem V2.lt{a b:Int}{Q:D->aa->Prop}(q:Q (.bool (decide (a<b))) H):V2 G ρ H (M2 .Lt) (.int a) (.int b) Q:=V2.pure q λF u v s z rv P j=>z.el λt=>rv.el λY=>Tx (j _ _ (.bool _))
theorem V2.le{a b:Int}{Q:D->aa->Prop}(q:Q (.bool (decide (a≤b))) H):V2 G ρ H (M2 .LtE) (.int a) (.int b) Q:=V2.pure q λF u v s z rv P j=>z.el λt=>rv.el λY=>Tz (j _ _ (.bool _))
theorem V2.gt{a b:Int}{Q:D->aa->Prop}(q:Q (.bool (decide (b<a))) H):V2 G ρ H (M2 .Gt) (.int a) (.int b) Q:=V2.pure q λF u v s z rv P j=>z.el λt=>rv.el λY=>TA (j _ _ (.bool _))
theorem V2.ge{a b:Int}{Q:D->aa->Prop}(q:Q (.bool (decide (b≤a))) H):V2 G ρ H (M2 .GtE) (.int a) (.int b) Q:=V2.pure q λF u v s z rv P j=>z.el λt=>rv.el λY=>TB (j _ _ (.bool _))
theorem V2.eq{a b:Int}{Q:D->aa->Prop}(q:Q (.bool (a==b)) H):V2 G ρ H (M2 .Eq) (.int a) (.int b) Q:=V2.pure q λF u v s z rv P j=>z.el λt=>rv.el λY=>TC (j _ _ (.bool _))
theorem V2.ne{a b:Int}{Q:D->aa->Prop}(q:Q (.bool (a !=b)) H):V2 G ρ H (M2 .NotEq) (.int a) (.int b) Q:=V2.pure q λF u v s z rv P j=>z.el λt=>rv.el λY=>TF (j _ _ (.bool _))
theorem V2.mul{a b:Int}{Q:D->aa->Prop}(hm:GY a b)(q:Q (.int (a*b)) H):V2 G ρ H (i4 .Mult) (.int a) (.int b) Q:=V2.pure q λF u v s z rv P j=>z.el λt=>rv.el λY=>TG (j _ _ (.int _ _)) hm
noncomputable def isNone:D->Bool|.none=>true|_=>false
theorem R.nG{F:aw}{v:bm}{d:D}(r:R F v d):v=.none↔isNone d=true:=by
 cases r with
 |none=>exact⟨λ_=>rfl,λ_=>rfl⟩
 |_=>exact⟨λh=>(nomatch h),λh=>eR h⟩
theorem V2.isNone{a:D}{Q:D->aa->Prop}(q:Q (.bool (isNone a)) H):V2 G ρ H (M2 .Is) a .none Q:=V2.pure q λF u v s j rv P z=>by
 refine R.el rv ?_;by_cases e:u=.none
 ·have:=j.nG.mp e;rw[this]at z;subst e;exact TH (z (.bool true) s.toks (.bool true))
 ·have:Mine.Tactic.isNone a=false:=by cases q:Mine.Tactic.isNone a with|false=>rfl|true=>exact absurd (j.nG.mpr q) e
  rw[this]at z;exact TJ e (z (.bool false) s.toks (.bool false))
theorem V2.isNotNone{a:D}{Q:D->aa->Prop}(q:Q (.bool (!Mine.Tactic.isNone a)) H):V2 G ρ H (M2 .IsNot) a .none Q:=V2.pure q λF u v s j rv P z=>by
 refine R.el rv ?_;by_cases e:u=.none
 ·have:=j.nG.mp e;rw[this]at z;subst e;exact TK (z (.bool false) s.toks (.bool false))
 ·have:Mine.Tactic.isNone a=false:=by cases q:Mine.Tactic.isNone a with|false=>rfl|true=>exact absurd (j.nG.mpr q) e
  rw[this]at z;exact TL e (z (.bool true) s.toks (.bool true))
end
end
section
theorem aF(h:GM):h.get? h.objs.size=none:=by
 cases e:h.get? h.objs.size with
 |none=>rfl
 |some o=>exact absurd (ss e) (ZB _)
theorem au{h:GM}{x:nh}:∀b o,h.get? b=some o->(h.push x).get? b=some o:=λb o e=>dL _ e
theorem Ko{h:GM}{x:nh}(vs:List bm):((h.push x).push (aE vs 0)).get? (h.push x).objs.size=some (aE vs 0):=g3 _ rfl
theorem xM{h:GM}{x:nh}:h.get? (h.push x).objs.size=none:=by
 rw[gw];cases e:h.get? (h.objs.size+1)with
 |none=>rfl
 |some o=>exact absurd (ss e) (eD.mpr (b8 _))
section
variable {B:Base}{G:Fc B}{ρ:ag}{H:aa}{F:aw}
inductive xN{B:Base}(G:Fc B)(F:aw)(ρ:ag)(Q:List D->aa->Prop)(vs:List bm)(s':bv):Prop
 |mk (F':aw) (ds:List D) (H':aa) (k:F.le F') (r:Rs F' vs ds) (S:G.az F' H' s') (L:G.Loc F' ρ s') (q:Q ds H')
noncomputable def mB{B:Base}(G:Fc B)(ρ:ag)(H:aa)(es:List lv)(Q:List D->aa->Prop):Prop:=
 ∀z F s,G.az F H s->G.Loc F ρ s->im (kt B.prog B.w) G.A (spliced (Wp z (Do es G.env))) (xN G F ρ Q) bot s
theorem mB.nil{Q:List D->aa->Prop}(q:Q [] H):mB G ρ H [] Q:=λz F s S L=>TM ⟨F,[],H,.refl F,.nil,S,L,q⟩
theorem mB.cons{e:lv}{es:List lv}{Q:List D->aa->Prop}(h:HE G ρ H e λd H1=>mB G ρ H1 es λds H2=>Q (d::ds) H2)(he:Do (e::es) G.env=(false,eval e G.env)::Do es G.env:=by rfl):mB G ρ H (e::es) Q:=λz F s S L=>
 TN (h.then S L λF1 d H1 v j N Y S1 L1 O=>f8 (O z F1 j S1 L1) (λvs s2 p=>by
  obtain⟨F2,ds,H2,u,q,S2,L2,Z⟩:=p;exact⟨F2,d::ds,H2,N.trans u,.cons (Y.mono u) q,S2,L2,Z⟩) λ_ _ x=>x) he
theorem dY.tup{z:aw}{Q:D->aa->Prop}{s:bv}{vs:List bm}{ds:List D}{h':GM}{tk:Nat}{n:Nat}{a:co}(k:z.le F)(r:Rs F vs ds)(S:G.az F H s)(L:G.Loc F ρ s)
  (hk:∀b o,s.heap.get? b=some o->h'.get? b=some o) (ha:h'.get? a=some (aE vs n)) (hn:s.heap.get? a=none) (q:Q (.tup ds) H):dY G z ρ Q (.ref a) {s with heap:=h',toks:=tk}:=by
 refine dv (S.frozen (tk:=tk) (d:=s.drawn) hk ha hn) λu k'=>?_;exact⟨_,_,_,k.trans k',.tup (aM F _ _) (r.mono k'),u,L.keep k' λb o _ e=>hk b o e,q⟩
theorem dY.fl{z:aw}{Q:D->aa->Prop}{s:bv}{vs:List bm}{ds:List D}{h':GM}{tk:Nat}{n:Nat}{a:co}(k:z.le F)(r:Rs F vs ds)(S:G.az F H s)(L:G.Loc F ρ s)
  (hk:∀b o,s.heap.get? b=some o->h'.get? b=some o) (ha:h'.get? a=some (bz vs n)) (hn:s.heap.get? a=none) (q:Q (.fl ds) H):dY G z ρ Q (.ref a) {s with heap:=h',toks:=tk}:=by
 refine dv (S.frozen (tk:=tk) (d:=s.drawn) hk ha hn) λu k'=>?_;exact⟨_,_,_,k.trans k',.fl (aM F _ _) (r.mono k'),u,L.keep k' λb o _ e=>hk b o e,q⟩
theorem dY.new{z:aw}{Q:D->aa->Prop}{s:bv}{c:ao}{h':GM}{tk:Nat}{a:co}(k:z.le F)(S:G.az F H s)(L:G.Loc F ρ s)
  (hk:∀b o,s.heap.get? b=some o->h'.get? b=some o) (ha:cM B.prog B.w F h' a c) (hn:s.heap.get? a=none) (q:H a=none->Q (.ref a) (upd H a c)):dY G z ρ Q (.ref a) {s with heap:=h',toks:=tk}:=by
 refine dv (S.new (tk:=tk) (d:=s.drawn) hk ha hn) λu k'=>?_;exact⟨_,_,_,k,.ref a,u,L.keep (.refl F) λb o _ e=>hk b o e,q k'⟩
theorem HE.tuple{es:List lv}{u}{z:cx}{Q:D->aa->Prop}(h:mB G ρ H es λds H'=>ds.length≤ga/\Q (.tup ds) H'):HE G ρ H (.Tuple es u z) Q:=λF s S L=>
 wpAny_Tuple_spliced (f8 (h z F s S L) (λvs s' p=>by
  obtain⟨F',ds,H',k,r,j,Y,hl,q⟩:=p;exact⟨by rw[r.length];exact hl,.tup k r j Y au (g3 _ rfl) (aF _) q⟩) λ_ _ x=>x)
theorem HE.list{es:List lv}{z:cx}{Q:D->aa->Prop}(h:mB G ρ H es λds H'=>ds.length≤ga/\∀a,H' a=On->Q (.ref a) (upd H' a (.list ds))):HE G ρ H (.List es z) Q:=λF s S L=>
 wpAny_List_spliced (f8 (h z F s S L) (λvs s' p=>by
  obtain⟨F',ds,H',k,r,u,j,hl,q⟩:=p;exact⟨by rw[r.length];exact hl,.new (c:=.list ds) k u j au (pQ vs 0 (g3 _ rfl) r) (aF _) (q _)⟩) λ_ _ x=>x)
theorem HE.sub{z j:lv}{q:cx}{Q:D->aa->Prop}(h:HE G ρ H z λa H1=>HE G ρ H1 j λb H2=>V2 G ρ H2 (bc z j) a b Q):HE G ρ H (.Subscript z j q) Q:=λF s S L=>
 Lk (h.then S L λF1 a H1 u s1 k1 N S1 L1 q1=>q1.then S1 L1 λF2 b H2 v Z Y O S2 L2 q2=>
  f8 (q2 F2 u v (N.mono Y) O Z S2 L2) (λ_ _ p=>p.up (k1.trans Y) λ_ _ x=>x) λ_ _ x=>x)
theorem le_eq{a b c:Nat}(h:a≤b)(e:c=b):a≤c:=e▸h
theorem Kp{a b c:Nat}(e:a=b)(h:b≤c):a≤c:=e▸h
theorem sub_eq(z:lv)(o i:bm):∃l,subscripted z false o i=operate l (N0 o i):=by
 cases z with
 |Slice a b c p=>cases c<;>exact⟨_,rfl⟩
 |_=>exact⟨_,rfl⟩
theorem gR{prog:EQ}{w:KB}{A:Da}{E:bm->bv->Prop}{s:bv}{u z:lv}{o i:bm}{T id:String}{Q:bm->bv->Prop}(j:s.TypeIs o T)
  (hl:fM (.type T) "__getitem__"=pure (some (.builtin id))) (h:im (kt prog w) A (N0 o i) Q E s):im (kt prog w) A (bc u z o i) Q E s:=
 al (al (bN j hl (am (al ((sub_eq z o i).elim λl e=>LR e (wpAny_operating (f8 h (λr Y q=>al (wpAny_letTemporaryGo (am q))) λ_ _ x=>x)))))))
theorem fits_of{ds:List D}{i:Nat}{d:D}(h:ds[i]?=some d)(hs:ds.length≤ga):(i:Int)<2^63:=by
 have:i<ds.length:=(ww.mp h).1;have:ga≤2^62:=by decide
 lia
theorem Dx{n i:Nat}(h:i<n):CA (i:Int) n=some i:=by
 unfold CA;rw[if_neg (jh.mpr (bP i))];exact if_pos (by rw[u8];exact⟨decide_eq_true (bP i),decide_eq_true (bW.mpr h)⟩)
theorem i63(i:Nat):-2^63≤(i:Int):=SC (by decide) (bP i)
theorem V2.HF{z Y:lv}{ds:List D}{i:Nat}{d:D}{Q:D->aa->Prop}(h:ds[i]?=some d)(q:Q d H)(hs:ds.length≤ga):V2 G ρ H (bc z Y) (.tup ds) (.int i) Q:=λF u v O rv s S L=>
 O.el λa vs n e r=>rv.el λt=>ah (r.get h) λx Z rx=>
  gR ⟨_,(S.fz _ _ e).1,rfl⟩ eP.lookup (oq (j:=i) ⟨_,(S.fz _ _ e).1,rfl,_,rfl⟩ (i63 i) (fits_of h hs) (Dx (ww.mp Z).1) (Ch▸Z) (.here rx S L q))
theorem V2.listItem{z j:lv}{a:co}{ds:List D}{i:Nat}{d:D}{Q:D->aa->Prop}(Z:H a=some (.list ds))(h:ds[i]?=some d)(q:Q d H)(hs:ds.length≤ga):V2 G ρ H (bc z j) (.ref a) (.int i) Q:=λF u v Y rv s S L=>
 Y.el (rv.el λt=>dW (S.hp a _ Z).1 λvs n e r=>ah (r.get h) λx O rx=>
  gR ⟨_,e,rfl⟩ N1.lookup (Ll (items:=vs.toArray) ⟨_,e,rfl,_,rfl⟩ (bP i) (fits_of h hs) (Ch▸O) (.here rx S L q)))
theorem V2.Ma{z j:lv}{ds:List D}{i:Nat}{d:D}{Q:D->aa->Prop}(h:ds[i]?=some d)(q:Q d H)(hs:ds.length≤ga):V2 G ρ H (bc z j) (.fl ds) (.int i) Q:=λF u v Y rv s S L=>
 Y.el λa vs n e r=>rv.el λt=>ah (r.get h) λx Z rx=>
  gR ⟨_,(S.fz _ _ e).1,rfl⟩ N1.lookup (Ll (items:=vs.toArray) ⟨_,(S.fz _ _ e).1,rfl,_,rfl⟩ (bP i) (fits_of h hs) (Ch▸Z) (.here rx S L q))
theorem HE.QD{z:lv}{k:Nat}{p1 p2 Y:cx}{Q:D->aa->Prop}(h:HE G ρ H z λa H1=>∃ds,a=.tup ds/\1≤ds.length/\ds.length≤ga/\Q (.tup (ds.drop 1)) H1):
  HE G ρ H (.Subscript z (.Slice (some (.Constant (.int 1) k p1)) On On p2) Y) Q:=λF s S L=>
 Lk (h.then S L λF1 a H1 u j k1 O Z L1 N=>GZ (pP N λds e0 h1 hz q=>by
  rw[AR];refine j3 (am (am ((e0▸O:R F1 u (.tup ds)).el λt vs n e r=>?_)));have e':j.heap.get? t=some _:=(Z.fz _ _ e).1;have ht:IsTup (j.heap.push {cls:=.type "slice",data:=.fields #[.int 1 j.toks,.none,.none]}) t vs.toArray:=⟨_,dL _ e',rfl,_,rfl⟩
  exact gR ht.typeIs eP.lookup (getItem_tuple_from (a:=1) ht (kp ..) (ii _) (le_eq h1 r.length)
   (.tup (s:=j) (n:=0) k1 (r.drop 1) Z L1 (λb o e=>dL _ (dL _ e)) (Ko (vs.drop 1)) xM q) (Kp r.length hz))))
theorem vL(n:Nat)(h:1≤n):hX none (some (1:Int)) 1 (n:Int)=((0:Int),(1:Int)):=by
 unfold hX;congr 1;lia
theorem nH{prog:EQ}{w:KB}{A:Da}{E:bm->bv->Prop}{s:bv}{sl:co}{n:Nat}{u:Tok}{Q:Int×Int×Nat->bv->Prop}(hs:s.heap.IsSliceOf sl .none (.int 1 u) .none)(ha:1≤n)(h:Q (0,1,1) s):
  im (kt prog w) A (OZ (.ref sl) (pure (n:Int))) Q E s:=by
 refine bt (id hs) λos QE sH hds=>?_;refine al (al (i5 QE hds (x:=.none) rfl (al (i5 QE hds (x:=.int 1 u) rfl (al (i5 QE hds (x:=.none) rfl (am ?_)))))));refine al (UW ?_);refine(?_:im _ _ (if((1:Int)==0)=true then _ else _) _ _ s);refine al (UW (al (slicePart_int (al (am ?_)))));refine(?_:im _ _ (match hX none (some (1:Int)) 1 (n:Int)with|(lo,hi)=>pure (lo,(1:Int),O0 lo hi 1)) _ _ s);rw[vL n ha];exact am h
theorem mR{prog:EQ}{w:KB}{A:Da}{E:bm->bv->Prop}{s:bv}{t j:co}{x:bm}{vs:List bm}{n:Nat}{u:Tok}{Q:bm->bv->Prop}(ht:s.heap.get? t=some (aE (x::vs) n))(hs:s.heap.IsSliceOf j .none (.int 1 u) .none)
  (h1:vs=[]->Q (.ref t) s) (h:Q (.ref s.heap.objs.size) {s with heap:=s.heap.push (aE [x] 0)}):im (kt prog w) A (N0 (.ref t) (.ref j)) Q E s:=by
 have z:s.TypeIs (.ref t) "tuple":=⟨_,ht,rfl⟩;have q:s.TypeIs (.ref j) "slice":=bt hs λos Z Y _=>⟨os,Z,Y⟩;unfold N0;refine wv (al (N2 z (by decide) (al (aO (name:=t0 "__getitem__") z eP
  (NE eP z entry_tuple_getitem ?_ (args_tuple_getitem _ _))))))
 refine(?_:im _ _ (ny (.ref t)>>=_) _ _ s);refine al (tupleItemsOf_ ⟨_,ht,rfl,_,rfl⟩ (al (dE q (al (nH hs (dP (np _)) ?_)))));refine(?_:im _ _ (if((0:Int)==0&&(1:Int)==1&&((1:Nat)==(x::vs).toArray.size))=true then _ else _) _ _ s);cases vs with
 |nil=>
  refine al (m:=O1 _) (al (dE z (am (al (bw ?_)))));first
   |exact al (am (am ⟨_,rfl,(am (h1 rfl))⟩))
   |exact al (am ⟨_,rfl,am (h1 rfl)⟩)
   |exact am ⟨_,rfl,am (h1 rfl)⟩
 |cons y ys=>
  refine al (m:=O3 _) (WF (am ⟨_,rfl,am h⟩) (by decide:1≤ga))
theorem Dy{z:lv}{k:Nat}{N O:cx}{Q:D->aa->Prop}{F Y:aw}{H1:aa}{u:bm}{j:bv}{d:D}{ds:List D}(k1:F.le Y)(r1:R Y u (.tup (d::ds)))(Z:G.az Y H1 j)(L1:G.Loc Y ρ j)(q:Q (.tup [d]) H1):
  im (kt B.prog B.w) G.A (eval (.Slice On (some (.Constant (.int 1) k N)) On O) G.env) (λi s=>im (kt B.prog B.w) G.A (bc z (.Slice On (some (.Constant (.int 1) k N)) On O) u i) (dY G F ρ Q) bot s) bot j:=by
 refine GZ (am ?_);rw[AR];refine j3 (am (r1.el λt vs n e r=>?_));revert e;refine r.el λx vs rx r e=>?_;have ht:=dL {cls:=.type "slice",data:=.fields #[.none,.int 1 j.toks,.none]} (Z.fz _ _ e).1
 exact gR ⟨_,ht,rfl⟩ eP.lookup (mR ht (kp ..) (λe0=>⟨Y,_,H1,k1,.tup e (e0▸.cons rx .nil),Z.keep au,L1.keep (.refl _) λb o _ e=>au b o e,q⟩)
  (.tup (s:=j) (n:=0) k1 (Rs.cons rx .nil) Z L1 (λb o e=>dL _ (dL _ e)) (Ko [x]) xM q))
end
end
section
noncomputable def dJ(x:lm)(d:D):ag->ag
 |[]=>[(x,d)]
 |(y,e)::r=>if y=x then(x,d)::r else(y,e)::dJ x d r
theorem td{x y:lm}{d e:D}{r:ag}:dJ x d ((y,e)::r)=if y=x then(x,d)::r else(y,e)::dJ x d r:=rfl
set_option tactic.hygienic true in
theorem lK(x:lm)(d:D):∀ρ:ag,(dJ x d ρ).lookup x=some d
 |[]=>List.lookup_cons_self
 |(y,e)::r=>by
  rw[td];split
  ·simp[wE]
  ·rename_i h;rw[wE,beq_eq_false_iff_ne.mpr (cG h)];exact lK x d r
set_option tactic.hygienic true in
theorem lL{x y:lm}(h:y≠x)(d:D):∀ρ:ag,(dJ x d ρ).lookup y=ρ.lookup y
 |[]=>wE.trans (by rw[beq_eq_false_iff_ne.mpr h])
 |(z,e)::r=>by
  rw[td];split
  ·rename_i q;subst q;rw[wE,wE,beq_eq_false_iff_ne.mpr h]
  ·rw[wE,wE,lL h d r]
noncomputable def Fc.St{B:Base}(G:Fc B)(x:lm):Prop:=G.env.kindOf x=some .local∨(G.env.kindOf x=some .cell/\∃c,G.env.cells.lookup x=some c/\c∈G.own)
section
variable {B:Base}{G:Fc B}{ρ:ag}{H:aa}{F:aw}
theorem Fc.QF(G:Fc B):(G.env.scope.kind==.class||(G.env.scope.kind==.module&&G.env.locals !=G.env.globals))=false:=by rw[G.kind];rfl
theorem Fc.Loc.set{x:lm}{d:D}{s s':bv}{z:lm->Option bm}(L:G.Loc F ρ s)(hn:s'.heap.Ns G.env.locals z)(hx:dK G.env F s'.heap z x d)
  (hm:∀m,s.heap.Ns G.env.locals m->∀y,y≠x->G.env.kindOf y=some .local->∀v,m y=some v->z y=some v) (hc:∀y,y≠x->∀c v,G.env.cells.lookup y=some c->s.heap.IsCell c v->s'.heap.IsCell c v)
  (hl:∀c,G.env.cells.lookup x=some c->∃v,s'.heap.IsCell c v):G.Loc F (dJ x d ρ) s':=
 ah L.ns λm h hv=>⟨⟨z,hn,λy e hy=>by
  by_cases q:y=x
  ·rw[q,lK]at hy;rw[q,←db hy];exact hx
  ·rw[lL q]at hy;exact(hv y e hy).map (.refl F) (hm m h y q) (hc y q)⟩,λy c e=>by
  by_cases q:y=x
  ·rw[q]at e;exact hl c e
  ·exact(L.cell y c e).elim λv i=>⟨v,hc y q c v e i⟩⟩
theorem nI{x:lm}{u:bm}{d:D}{s:bv}{P:Unit->bv->Prop}(hx:G.St x)(r:R F u d)(S:G.az F H s)(L:G.Loc F ρ s)(Y:∀s',G.az F H s'->G.Loc F (dJ x d ρ) s'->(G.env.kindOf x=some .local->Pv G.env.locals s.heap s'.heap)->P () s'):
  im (kt B.prog B.w) G.A (storeName G.env x u) P bot s:=
 ah L.ns λm hn hv=>hx.elim
  (λhk=>wpAny_storeName_local hk hn (λh' Z hs=>Y _ (S.mine G.mine hs (Dm Z λo _ _ e _=>⟨o,e⟩)) (L.set Z (by unfold dK;rw[hk];exact⟨u,if_pos rfl,r⟩)
   (λO z y q _ v e=>by rw[Gz z hn y]at e;exact(if_neg q).trans e) (λy _ c v e i=>i.sameBut hs (G.cells y c e).1) λc e=>(L.cell x c e).elim λv i=>⟨v,i.sameBut hs (G.cells x c e).1⟩) λ_=>hs) G.QF)
  λhk=>ah hk.2 λc hc N=>(L.cell x c hc).elim λaeV j=>wpAny_storeName_cell G.kind hk.1 hc j λh' i hs=>Y _ (S.mine N hs (i.elim λo e=>⟨o,e.1⟩))
   (L.set (hn.sameBut hs (cG (G.cells x c hc).1)) (by unfold dK;rw[hk.1];exact jo c u hc i r) (λO z y _ _ v e=>by rw[←Gz z hn y];exact e)
    (λy q c' v e i=>i.sameBut hs λe2=>q (G.apart y x c (e2▸e) hc)) λc' e=>⟨_,db (hc.symm.trans e)▸i⟩) λh=>nomatch hk.1.symm.trans h
theorem HA.name{x:lm}{z:cx}{a:D}{Q:ag->aa->Prop}(hx:G.St x)(q:Q (dJ x a ρ) H):HA G ρ H (.Name x z) a Q:=λF u r s S L=>
 kM (nI hx r S L λs' j Y _=>⟨F,_,H,.refl F,j,Y,q⟩)
noncomputable def ir:List lm->List D->ag->ag
 |x::xs,d::ds,ρ=>ir xs ds (dJ x d ρ)
 |_,_,ρ=>ρ
theorem inOrder{α:Type}{P:Unit->bv->Prop}(nm:α->lm)(f:α->bm->sY Unit)(hf:∀x u s P,im (kt B.prog B.w) G.A (storeName G.env (nm x) u) P bot s->im (kt B.prog B.w) G.A (f x u) P bot s)(xs:List α):∀(ρ:ag)(vs:List bm)(ds:List D)(s:bv),(∀x∈xs,G.St (nm x))->Rs F vs ds->xs.length=ds.length->G.az F H s->G.Loc F ρ s->
  (∀s',G.az F H s'->G.Loc F (ir (xs.map nm) ds ρ) s'->P () s')->im (kt B.prog B.w) G.A (AS (xs.map f) vs) P bot s:=by
 induction xs with
 |nil=>
  intro ρ vs ds s _ r hl S L z;cases ds with
  |nil=>exact r.el (am (z s S L))
  |cons=>exact nomatch hl
 |cons x xs ih=>
  intro ρ vs ds s hx r hl S L z;cases ds with
  |nil=>exact nomatch hl
  |cons d ds=>exact r.el λv vs h r=>al (wv (hf _ _ _ _ (nI (hx x (.head _)) h S L λs' j q _=>ih _ _ _ s' (λy hy=>hx y (.tail _ hy)) r (jU hl) j q z)))
theorem gI(xs:List (lm×cx))(env:vm):assignEach (xs.map λp=>cf p.1 p.2) env=xs.map λp=>(false,hW (.Name p.1 p.2) env):=by
 induction xs with
 |nil=>rfl
 |cons p r ih=>simp only[jp];rw[←ih];rfl
theorem az.mS{h':GM}{s:bv}(S:G.az F H s)(hk:jH s.heap.objs.size s.heap h'):G.az F H {s with heap:=h'}:=S.keep λb o e=>hk b o (wn (ss e)) e
theorem Loc.mS{h':GM}{s:bv}(L:G.Loc F ρ s)(hk:jH s.heap.objs.size s.heap h'):G.Loc F ρ {s with heap:=h'}:=L.keep (.refl F) λb o _ e=>hk b o (wn (ss e)) e
theorem HA.tup{xs:List (lm×cx)}{k}{z:cx}{ds:List D}{Q:ag->aa->Prop}(Y:G.A.handled=none)(hl:xs.length=ds.length)(hx:∀p∈xs,G.St p.1)(q:Q (ir (xs.map (·.1)) ds ρ) H):
  HA G ρ H (.Tuple (xs.map λp=>cf p.1 p.2) k z) (.tup ds) Q:=λF u j s S L=>
 j.el λa vs n e r=>wpAny_assign_Tuple Y ⟨_,(S.fz _ _ e).1,rfl,_,rfl⟩ (by rw[gI,be,hl,←r.length];rfl) (by rw[gI];simp[jA]) λh' hk=>by
  rw[gI,li];exact inOrder (P:=Dw G F Q) (·.1) (λp=>hW (.Name p.1 p.2) G.env) (λ_ _ _ _ h=>kM h) xs ρ _ _ _ hx r hl (az.mS S hk) (Loc.mS L hk) λs' Z O=>⟨F,_,H,.refl F,Z,O,q⟩
theorem HS.nil{Q:Fl->ag->aa->Prop}(q:Q .next ρ H):HS G ρ H [] Q:=λF s S L=>vo ⟨F,.next,ρ,H,.refl F,trivial,S,L,q⟩
noncomputable def Dz(G:Fc B)(b:List eX)(Q:Fl->ag->aa->Prop):Fl->ag->aa->Prop:=λf z H'=>match f with|.next=>HS G z H' b Q|f=>Q f z H'
theorem ky.go{Q u:Fl->ag->aa->Prop}{f:GW}{s':bv}(p:ky G F Q f s')(h:∀F' fl z H',F.le F'->Rfl F' f fl->G.az F' H' s'->G.Loc F' z s'->Q fl z H'->ky G F u f s'):ky G F u f s':=p.casesOn h
theorem HS.cons{a:eX}{b:List eX}{Q:Fl->ag->aa->Prop}(h:H1 G ρ H a (Dz G b Q)):HS G ρ H (a::b) Q:=λF s S L=>
 wpAny_execs_cons (f8 (h F s S L) (λf s' p=>p.casesOn λF' fl j H' k r z u q=>by
  cases fl with
  |next=>cases f with
   |next=>exact f8 (q F' s' z u) (λf Y p=>p.up k) λ_ _ x=>x
   |_=>exact r.elim
  |brk=>cases f with
   |brk=>exact⟨F',.brk,j,H',k,trivial,z,u,q⟩
   |_=>exact r.elim
  |cont=>cases f with
   |cont=>exact⟨F',.cont,j,H',k,trivial,z,u,q⟩
   |_=>exact r.elim
  |ret d=>cases f with
   |ret v=>exact⟨F',.ret _,j,H',k,r,z,u,q⟩
   |_=>exact r.elim) λ_ _ x=>x)
theorem H1.pass{z:cx}{Q:Fl->ag->aa->Prop}(q:Q .next ρ H):H1 G ρ H (.Pass z) Q:=λF s S L=>wpAny_Pass ⟨F,.next,ρ,H,.refl F,trivial,S,L,q⟩
theorem H1.cont{z:cx}{Q:Fl->ag->aa->Prop}(q:Q .cont ρ H):H1 G ρ H (.Continue z) Q:=λF s S L=>wpAny_Continue ⟨F,.cont,ρ,H,.refl F,trivial,S,L,q⟩
theorem H1.ret{e:lv}{z:cx}{Q:Fl->ag->aa->Prop}(h:HE G ρ H e λd H'=>Q (.ret d) ρ H'):H1 G ρ H (.Return (some e) z) Q:=λF s S L=>
 wpAny_Return_some (h.then S L λF' d H' v s' k r u j q=>⟨F',.ret d,ρ,H',k,r,u,j,q⟩)
theorem H1.expr{e:lv}{z:cx}{Q:Fl->ag->aa->Prop}(h:HE G ρ H e λ_ H'=>Q .next ρ H')(hs:l5 e On z.line G.env=pure false:=by rfl):H1 G ρ H (.Expr e z) Q:=λF s S L=>
 wpAny_Expr_any (h.then S L λF' d H' v s' k r u j q=>⟨F',.next,ρ,H',k,trivial,u,j,q⟩) (by unfold interactive;rw[G.kind];rfl) hs
theorem H1.if_{t:lv}{a b:List eX}{z:cx}{Q:Fl->ag->aa->Prop}(h:HB G ρ H t λc H'=>if c then HS G ρ H' a Q else HS G ρ H' b Q):H1 G ρ H (.If t a b z) Q:=λF s S L=>by
 refine wpAny_If (h.then S L λF' c H' s' k u j q=>?_);cases c with
 |true=>exact f8 (q F' s' u j) (λf Y p=>p.up k) λ_ _ x=>x
 |false=>exact f8 (q F' s' u j) (λf Y p=>p.up k) λ_ _ x=>x
theorem H1.setName{x:lm}{z:lv}{p u:cx}{Q:Fl->ag->aa->Prop}(hx:G.St x)(h:HE G ρ H z λd H'=>Q .next (dJ x d ρ) H')(hs:l5 z (some (.Name x p)) u.line G.env=pure false:=by rfl):
  H1 G ρ H (.Assign [.Name x p] z u) Q:=λF s S L=>
 wpAny_Assign_Name (h.then S L λF' d H' v s' k r j Y q=>nI hx r j Y λN Z O _=>⟨F',.next,_,H',k,trivial,Z,O,q⟩) hs
noncomputable def xO(G:Fc B)(ρ:ag)(H:aa)(a i v:D)(Q:aa->Prop):Prop:=∀F x y z,R F x a->R F y i->R F z v->∀s,G.az F H s->G.Loc F ρ s->
 im (kt B.prog B.w) G.A (setItem x y z) (λ_ s'=>∃H',G.az F H' s'/\G.Loc F ρ s'/\Q H') bot s
theorem H1.Mb{o i u:lv}{p j:cx}{Q:Fl->ag->aa->Prop}(h:HE G ρ H u λv H1=>HE G ρ H1 o λa H2=>HE G ρ H2 i λb N=>xO G ρ N a b v λZ=>Q .next ρ Z)
  (hs:l5 u (some (.Subscript o i p)) j.line G.env=pure false:=by rfl):H1 G ρ H (.Assign [.Subscript o i p] u j) Q:=λF s S L=>
 wpAny_Assign_Subscript (h.then S L λF1 v H1 x s1 k1 r1 S1 L1 q1=>q1.then S1 L1 λF2 a H2 y s2 O r2 S2 L2 q2=>q2.then S2 L2 λF3 b N z s3 Y r3 S3 L3 q3=>
  f8 (q3 F3 _ _ _ (r2.mono Y) r3 (r1.mono (O.trans Y)) s3 S3 L3) (λ_ s4 gc=>bt gc λZ S4 L4 q=>⟨F3,.next,ρ,Z,(k1.trans O).trans Y,trivial,S4,L4,q⟩) λ_ _ x=>x) hs
theorem H1.Mc{xs:List (lm×cx)}{k}{p u:cx}{z:lv}{Q:Fl->ag->aa->Prop}(hh:G.A.handled=none)(hx:∀p∈xs,G.St p.1)(h:HE G ρ H z λd H'=>∃ds,d=.tup ds/\xs.length=ds.length/\Q .next (ir (xs.map (·.1)) ds ρ) H')
  (hs:qa [.Tuple (xs.map λp=>cf p.1 p.2) k p] z u.line G.env=pure false:=by rfl) (hw:kR [.Tuple (xs.map λp=>cf p.1 p.2) k p] z G.env=pure none:=by rfl):
  H1 G ρ H (.Assign [.Tuple (xs.map λp=>cf p.1 p.2) k p] z u) Q:=λF s S L=>
 aes (h.then S L λF' d H' v s' k' r S' L' N=>bt N λds e hl q=>by
  subst e;refine f8 (HA.tup (Q:=λZ H'=>Q .next Z H') hh hl hx q F' v r s' S' L') (λ_ mT⟨CO,Z,O,Y,GL,Bj,j⟩=>⟨CO,.next,Z,O,k'.trans Y,trivial,GL,Bj,j⟩) λ_ _ x=>x) hs hw
theorem Md{α β γ:Type}{C:α->β}{f:β->Option γ}{g:α->γ}(h:∀x,f (C x)=none∨f (C x)=some (g x))(l:List α)(e:((l.map C).filterMap f).length=(l.map C).length):(l.map C).filterMap f=l.map g:=by
 induction l with
 |nil=>rfl
 |cons x l ih=>
  rw[jp,bF]at e⊢;rcases h x with q|q
  ·rw[q]at e;exact absurd (e▸fP f (l.map C)) (Nat.not_succ_le_self _)
  ·rw[q]at e⊢;exact congrArg _ (ih (jU e))
theorem QG{α:Type}{c1 c2 c3 c4 c5:Prop}[Decidable c1][Decidable c2][Decidable c3][Decidable c4][Decidable c5]{n u a b:α}(h5:¬c5)(h:¬c3->a=b):
  (if c1 then n else if c2 then n else if c3 then n else if c4 then n else if c5 then u else a)=n∨(if c1 then n else if c2 then n else if c3 then n else if c4 then n else if c5 then u else a)=b:=by
 by_cases h1:c1
 ·left;rw[if_pos h1]
 ·by_cases j:c2
  ·left;rw[if_neg h1,if_pos j]
  ·by_cases z:c3
   ·left;rw[if_neg h1,if_neg j,if_pos z]
   ·by_cases q:c4
    ·left;rw[if_neg h1,if_neg j,if_neg z,if_pos q]
    ·right;rw[if_neg h1,if_neg j,if_neg z,if_neg q,if_neg h5];exact h z
theorem Me{α:Type}{c:Prop}[Decidable c]{a:α}:(if c then some a else none)=none∨(if c then some a else none)=some a:=by
 by_cases h:c
 ·exact .inr (if_pos h)
 ·exact .inl (if_neg h)
theorem QH{xs:List (lm×cx)}{es:List lv}{p p':cx}{k k':Nat}{env:vm}(hc:es.all (hY 8)=false):
  kR [.Tuple (xs.map λp=>cf p.1 p.2) k p] (.Tuple es k' p') env=pure none∨kR [.Tuple (xs.map λp=>cf p.1 p.2) k p] (.Tuple es k' p') env=pure (some (xs.map (·.1))):=
 QG (by rw[hc];exact wP) λz=>congrArg _ (congrArg _ (Md (C:=λp:lm×cx=>cf p.1 p.2) (g:=(·.1)) (λx=>by exact Me) xs (bne_eq_false_iff_eq.mp (za.mp (eq_false_of_ne_true z)).1)))
theorem ub{xs:List lm}{u:bm}{ds:List D}{s:bv}{P:GW->bv->Prop}(z:G.A.handled=none)(hl:xs.length=ds.length)(hx:∀x∈xs,G.St x)(r:R F u (.tup ds))(S:G.az F H s)(L:G.Loc F ρ s)
  (hP:∀s',G.az F H s'->G.Loc F (ir xs.reverse ds.reverse ρ) s'->P .next s'):
  im (kt B.prog B.w) G.A (unpackItems u xs.length none) (λitems j=>im (kt B.prog B.w) G.A (AS (xs.reverse.map λn=>bindName G.env n) items.reverse) (λ_=>P .next) bot j) bot s:=
 r.el λa vs n e r=>(hl.trans r.length.symm:xs.length=vs.toArray.size)▸wpAny_unpackItems_tuple z ⟨_,(S.fz _ _ e).1,rfl,_,rfl⟩ λh' hk=>
  inOrder (F:=F) (H:=H) (P:=λ_=>P .next) id (λx u=>bindName G.env x u) (λ_ _ _ _ h=>bindName_ h) xs.reverse ρ _ ds.reverse _ (λx q=>hx x (kq.mp q)) r.reverse (by rw[AU,AU,hl]) (az.mS S hk) (Loc.mS L hk) (by rw[iq];exact hP)
set_option tactic.hygienic true in
theorem qN{x z:lm}{d:D}{ρ:ag}:(dJ x d ρ).lookup z=if z=x then some d else ρ.lookup z:=by
 split
 ·rename_i h;rw[h];exact lK x d ρ
 ·rename_i h;exact lL h d ρ
theorem lM{x y:lm}{d e:D}{ρ:ag}(u:x≠y):(dJ y e (dJ x d ρ)).le (dJ x d (dJ y e ρ)):=λz f h=>by
 rw[qN,qN]at h⊢;by_cases hz:z=x
 ·rw[if_neg (hz▸u),if_pos hz]at h;rw[if_pos hz];exact h
 ·rw[if_neg hz]at h⊢;exact h
set_option tactic.hygienic true in
theorem zE{x:lm}{d:D}{ρ u:ag}(h:ρ.le u):(dJ x d ρ).le (dJ x d u):=λz f q=>by
 rw[qN]at q⊢;split at q
 ·rename_i e;rw[if_pos e];exact q
 ·rename_i e;rw[if_neg e];exact h z f q
theorem mB.DA{es:List lv}{Q u:List D->aa->Prop}(h:mB G ρ H es Q)(k:∀ds H',Q ds H'->u ds H'):mB G ρ H es u:=λz F s S L=>
 f8 (h z F s S L) (λvs s' p=>p.casesOn λF' ds H' k' r j Y q=>⟨F',ds,H',k',r,j,Y,k ds H' q⟩) λ_ _ x=>x
theorem H1.zF{xs:List (lm×cx)}{es:List lv}{k k':Nat}{p p' z:cx}{Q:Fl->ag->aa->Prop}(j:G.A.handled=none)(hx:∀p∈xs,G.St p.1)
  (h:mB G ρ H es λds H'=>ds.length≤ga/\xs.length=ds.length/\(ir (xs.map (·.1)) ds ρ).le (ir (xs.map (·.1)).reverse ds.reverse ρ)/\Q .next (ir (xs.map (·.1)) ds ρ) H') (hc:es.all (hY 8)=false)
  (hs:qa [.Tuple (xs.map λp=>cf p.1 p.2) k p] (.Tuple es k' p') z.line G.env=pure false):
  H1 G ρ H (.Assign [.Tuple (xs.map λp=>cf p.1 p.2) k p] (.Tuple es k' p') z) Q:=
 have ht:HE G ρ H (.Tuple es k' p') λd H'=>∃ds,d=.tup ds/\xs.length=ds.length/\(ir (xs.map (·.1)) ds ρ).le (ir (xs.map (·.1)).reverse ds.reverse ρ)/\Q .next (ir (xs.map (·.1)) ds ρ) H':=
  HE.tuple (h.DA λds H' q=>⟨q.1,ds,rfl,q.2⟩)
 QH (xs:=xs) hc|>.elim (λhw=>H1.Mc j hx (ht.mono λd H' q=>pP q λds e h1 _ q=>⟨ds,e,h1,q⟩) hs hw) λhw F s S L=>
  Assign_Tuple_swapped (names:=xs.map (·.1)) (ht.then S L λF' d H' v s' k' r Y O q=>pP q λds e hl u q=>
   ub (P:=ky G F Q) j (by rw[be,hl]) (λx Z=>(lc.mp Z).elim λp h=>h.2▸hx p h.1) (e▸r) Y O λmT N Bj=>⟨F',.next,_,H',k',trivial,N,Bj.less u,q⟩) hs hw
theorem H1.DB{x y:lm}{u e2:lv}{k k':Nat}{Y j p p' z:cx}{Q:Fl->ag->aa->Prop}(Z:G.A.handled=none)(hx:G.St x)(hy:G.St y)(N:x≠y)(h:mB G ρ H [u,e2] λds H'=>∃d e,ds=[d,e]/\Q .next (dJ y e (dJ x d ρ)) H')
  (hc:[u,e2].all (hY 8)=false:=by rfl):
  H1 G ρ H (.Assign [.Tuple [.Name x Y,.Name y j] k p] (.Tuple [u,e2] k' p') z) Q:=
 H1.zF (xs:=[(x,Y),(y,j)]) Z (FM.mpr ⟨hx,pu.mpr hy⟩) (h.DA λds H' q=>dW q λd e O q=>by rw[O];exact⟨(by decide:2≤ga),rfl,lM N,q⟩) hc rfl
theorem H1.DC{x y z:lm}{Z e2 Y:lv}{k k':Nat}{p1 N O p p' u:cx}{Q:Fl->ag->aa->Prop}(hh:G.A.handled=none)(hx:G.St x)(hy:G.St y)(hz:G.St z)(QJ:x≠y)(Ue:x≠z)(j:y≠z)
  (h:mB G ρ H [Z,e2,Y] λds H'=>∃d e g,ds=[d,e,g]/\Q .next (dJ z g (dJ y e (dJ x d ρ))) H') (hc:[Z,e2,Y].all (hY 8)=false:=by rfl):
  H1 G ρ H (.Assign [.Tuple [.Name x p1,.Name y N,.Name z O] k p] (.Tuple [Z,e2,Y] k' p') u) Q:=
 H1.zF (xs:=[(x,p1),(y,N),(z,O)]) hh (FM.mpr ⟨hx,FM.mpr ⟨hy,pu.mpr hz⟩⟩)
  (h.DA λds H' q=>Dm q λd e g he q=>by rw[he];exact⟨(by decide:3≤ga),rfl,(zE (lM QJ)).trans ((lM Ue).trans (zE (lM j))),q⟩) hc rfl
end
end
section
noncomputable def Fc.ot{B:Base}(G:Fc B)(z:aw)(h:G.Ot.le z):Fc B:={G with Ot:=z,cells:=λx c e=>⟨(G.cells x c e).1,(G.cells x c e).2.imp id λ⟨o,x⟩=>⟨o,h _ _ x⟩⟩}
section
variable {prog:EQ}{w:KB}{T:GM}{Ot:aw}{os:kL}{own wr:List co}{F:aw}{H:aa}{s:bv}
set_option tactic.hygienic true in
theorem az.DE(S:az prog w T Ot os (wr++own) F H s)(j:∀b∈wr,b∉own):az prog w T (snap Ot wr s.heap) os own F H s:=by
 have u:∀a,a∉wr++own->a∉own:=λa h hm=>h (on _ hm);refine⟨λa o e=>have⟨x,y,z⟩:=S.top a o e;⟨x,y,u _ z⟩,λa o e=>have⟨x,y,z⟩:=S.fz a o e;⟨x,y,u _ z⟩,λa o e=>?_,λa c e=>have⟨x,z⟩:=S.hp a c e;⟨x,u _ z⟩,λa h=>S.ex a (on _ h),λa o o' e e'=>?_,S.gens,S.os⟩
 ·unfold snap at e;split at e
  ·rename_i ha;refine⟨e,?_,j a ha⟩;cases q:H a with
   |none=>rfl
   |some c=>exact absurd (xz _ ha) (S.hp a c q).2
  ·obtain⟨x,y,z⟩:=S.ot a o e;exact⟨x,y,u _ z⟩
 ·unfold snap at e';rw[if_neg (λha=>(S.fz a o e).2.2 (xz _ ha))]at e';exact S.ap a o o' e e'
theorem az.xP{s₀:bv}{aL:aw}{O:aa}{q:List co}(u:az prog w T Ot os (wr++own) aL O s₀)(S:az prog w T (snap Ot wr s₀.heap) os q F H s):
  az prog w T Ot os (wr++q) F H s/\∀b∈wr,∀o,s₀.heap.get? b=some o->s.heap.get? b=some o:=by
 have j:∀a∈wr,∃o,s₀.heap.get? a=some o/\snap Ot wr s₀.heap a=some o:=λa ha=>by
  refine bR (u.ex a (xz _ ha)) λo e=>?_;exact⟨o,e,by unfold snap;rw[if_pos ha];exact e⟩
 have st:∀a o,Ot a=some o->snap Ot wr s₀.heap a=some o:=λa o e=>by
  unfold snap;rw[if_neg (λha=>(u.ot a o e).2.2 (xz _ ha))];exact e
 have Y:∀a,a∉wr++own->a∉q->a∉wr++q:=λa h1 h2 hm=>(ca.mp hm).elim (λh=>h1 (xz _ h)) h2;refine⟨⟨λa o e=>?_,λa o e=>?_,λa o e=>?_,λa c e=>?_,λa ha=>?_,λa o o' e e'=>S.ap a o o' e (st a o' e'),S.gens,S.os⟩,λb N o e=>?_⟩
 ·obtain⟨x,y,z⟩:=S.top a o e;exact⟨x,y,Y a (u.top a o e).2.2 z⟩
 ·obtain⟨x,y,z⟩:=S.fz a o e;refine⟨x,y,λha=>(ca.mp ha).elim (λha=>?_) z⟩;refine ah (j a ha) λo' _ e2=>?_;refine bR (S.ap a o o' e e2) λt ht=>?_;exact(u.top a t ht).2.2 (xz _ ha)
 ·obtain⟨x,y,z⟩:=S.ot a o (st a o e);exact⟨x,y,Y a (u.ot a o e).2.2 z⟩
 ·refine⟨(S.hp a c e).1,λha=>(ca.mp ha).elim (λha=>?_) (S.hp a c e).2⟩;refine ah (j a ha) λo' _ e2=>?_;have:=(S.ot a o' e2).2.1;rw[e]at this;cases this
 ·rcases ca.mp ha with ha|ha
  ·refine ah (j a ha) λo' _ e2=>?_;exact⟨o',(S.ot a o' e2).1⟩
  ·exact S.ex a ha
 ·refine ah (j b N) λo' Z e2=>?_;rw[e]at Z;cases Z;exact(S.ot b o e2).1
theorem az.turn(S:az prog w T Ot os (wr++own) F H s){F':aw}{h':GM}{tk:Nat}(hk:∀b o,b∉wr->s.heap.get? b=some o->h'.get? b=some o)(hw:∀b∈wr,∃o,h'.get? b=some o)
  (hF:∀a o,F' a=some o->F a=some o∨(h'.get? a=some o/\s.heap.get? a=none)) (hle:F.le F'):az prog w T Ot os (wr++own) F' H ⟨h',s.gens,s.drawn,tk,s.os⟩:=by
 have k:∀a o,s.heap.get? a=some o->a∉wr++own->h'.get? a=some o:=λa o e h=>hk a o (λhm=>h (xz _ hm)) e;refine⟨λa o e=>have⟨x,y,z⟩:=S.top a o e;⟨k _ _ x z,y,z⟩,λa o e=>?_,λa o e=>have⟨x,y,z⟩:=S.ot a o e;⟨k _ _ x z,y,z⟩,λa c e=>?_,λa ha=>?_,λa o o' e e'=>?_,S.gens,S.os⟩
 ·rcases hF a o e with q|⟨j,u⟩
  ·obtain⟨x,y,z⟩:=S.fz a o q;exact⟨k _ _ x z,y,z⟩
  ·refine⟨j,?_,λha=>?_⟩
   ·cases q:H a with
    |none=>rfl
    |some c=>obtain⟨o',e'⟩:=(S.hp a c q).1.lt;rw[u]at e';cases e'
   ·obtain⟨o',e'⟩:=S.ex a ha;rw[u]at e';cases e'
 ·obtain⟨x,z⟩:=S.hp a c e;obtain⟨o,e'⟩:=x.lt;exact⟨x.keep hle ((k _ _ e' z).trans e'.symm),z⟩
 ·rcases ca.mp ha with ha|ha
  ·exact hw a ha
  ·by_cases hm:a∈wr
   ·exact hw a hm
   ·obtain⟨o,e⟩:=S.ex a (on _ ha);exact⟨o,hk a o hm e⟩
 ·rcases hF a o e with q|⟨j,u⟩
  ·exact S.ap a o o' q e'
  ·have:=(S.ot a o' e').1;rw[u]at this;cases this
theorem az.zG(S:az prog w T Ot os (wr++own) F H s){h':GM}{tk:Nat}(hk:∀b o,b∉wr->s.heap.get? b=some o->h'.get? b=some o)(j:∀b∈wr,b∉own):az prog w T Ot os own F H ⟨h',s.gens,s.drawn,tk,s.os⟩:=by
 have k:∀a o,s.heap.get? a=some o->a∉wr++own->h'.get? a=some o:=λa o e h=>hk a o (λhm=>h (xz _ hm)) e;have u:∀a,a∉wr++own->a∉own:=λa h hm=>h (on _ hm);refine⟨λa o e=>have⟨x,y,z⟩:=S.top a o e;⟨k _ _ x z,y,u _ z⟩,λa o e=>have⟨x,y,z⟩:=S.fz a o e;⟨k _ _ x z,y,u _ z⟩,λa o e=>have⟨x,y,z⟩:=S.ot a o e;⟨k _ _ x z,y,u _ z⟩,λa c e=>?_,λa ha=>?_,S.ap,S.gens,S.os⟩
 ·obtain⟨x,z⟩:=S.hp a c e;obtain⟨o,e'⟩:=x.lt;exact⟨x.keep (.refl _) ((k _ _ e' z).trans e'.symm),u _ z⟩
 ·obtain⟨o,e⟩:=S.ex a (on _ ha);exact⟨o,hk a o (λhm=>j a hm ha) e⟩
end
inductive Mf(F:aw)(s:bv)(wr:List co)(v:bm)(d:D)(St:GM->Prop)(aX:bv):Prop
 |mk (nJ:aw) (h':GM) (tk:Nat) (e:aX={s with heap:=h',toks:=tk}) (k:F.le nJ) (r:R nJ v d) (st:St h') (hk:∀b o,b∉wr->s.heap.get? b=some o->h'.get? b=some o) (hF:∀a o,nJ a=some o->F a=some o∨(h'.get? a=some o/\s.heap.get? a=none))
structure je(B:Base)(A:Da)(target:lv)(I:co)(fp wr:List co)(ds:List D)(aL:aw)(K:aa->Prop)(St:Nat->GM->Prop):Prop where
 sub:∀b∈wr,b∈fp
 frame:∀i h h',St i h->(∀b∈fp,∀o,h.get? b=some o->h'.get? b=some o)->St i h'
 held:∀b∈fp,b∈wr∨(∃o,aL b=some o)∨∃o c,∀H,K H->H b=some (.ro o c)
 live:∀i h,St i h->∀b∈wr,∃o,h.get? b=some o
 step:∀i d F s,aL.le F->(∀a o,F a=some o->s.heap.get? a=some o)->ds[i]?=some d->St i s.heap->im (kt B.prog B.w) A (hZ (.ref I)) (λr aJ=>∃v,r=some v/\im (kt B.prog B.w) A (cC target (.ref I) v) (λ_ aX=>Mf F s wr v d (St (i+1)) aX) bot aJ) bot s
 done:∀s,St ds.length s.heap->im (kt B.prog B.w) A (hZ (.ref I)) (λr aJ=>r=none/\∃h' tk,aJ={s with heap:=h',toks:=tk}/\(∀b o,b∉wr->s.heap.get? b=some o->h'.get? b=some o)) bot s
 self:∀i(s:bv)(Q:bm->bv->Prop)(E:bm->bv->Prop),St i s.heap->Q (.ref I) s->im (kt B.prog B.w) A (qz (.ref I)) Q E s
section
variable {B:Base}{G:Fc B}{ρ:ag}{H:aa}{F:aw}
inductive qO(G:Fc B)(F:aw)(ρ:ag)(target:lv)(Q:(aa->Prop)->List D->aa->Prop)(it:bm)(s':bv):Prop
 |mk (K:aa->Prop) (I:co) (fp wr:List co) (ds:List D) (F':aw) (H':aa) (St:Nat->GM->Prop) (e:it=.ref I) (k:F.le F') (W:je B G.A target I fp wr ds F' K St) (st:St 0 s'.heap) (off:∀b∈wr,b∉G.own/\G.Ot b=none) (S:Mine.Tactic.az B.prog B.w B.T G.Ot B.os (wr++G.own) F' H' s') (L:G.Loc F' ρ s') (hK:K H') (q:Q K ds H')
noncomputable def HI(G:Fc B)(ρ:ag)(H:aa)(target e:lv)(Q:(aa->Prop)->List D->aa->Prop):Prop:=
 ∀F s,G.az F H s->G.Loc F ρ s->im (kt B.prog B.w) G.A (eval e G.env) (λx z=>im (kt B.prog B.w) G.A (qz x) (qO G F ρ target Q) bot z) bot s
theorem uc{Ot:aw}{wr:List co}{h:GM}(hw:∀b∈wr,Ot b=none):Ot.le (snap Ot wr h):=λa o e=>by
 unfold snap;rw[if_neg];exact e;intro ha;rw[hw a ha]at e;cases e
noncomputable def Goes(I:List D->ag->aa->Prop)(Q:Fl->ag->aa->Prop)(z:List D):Fl->ag->aa->Prop:=λfl u H'=>match fl with
 |.next|.cont=>∃q j,q.le u/\j.le H'/\I z q j
 |.brk=>Q .next u H'
 |.ret d=>Q (.ret d) u H'
inductive QK(G:Fc B)(K:aa->Prop)(ds:List D)(ρ:ag)(H:aa)(target:lv)(body:List eX)(Q:Fl->ag->aa->Prop):Prop
 |mk (I:List D->ag->aa->Prop) (hK:∀rest ρ H,I rest ρ H->K H) (d4:I ds ρ H)
  (step:∀d rest ρ H fU(hle:G.Ot.le fU),I (d::rest) ρ H->HA (G.ot fU hle) ρ H target d λbY H1=>HS (G.ot fU hle) bY H1 body (Goes I Q rest))
  (fin:∀ρ H,I [] ρ H->Q .next ρ H)
@[elab_as_elim] theorem Rfl.el {F:aw} {P:GW->Fl->Prop} {f:GW} {fl:Fl} (r:Rfl F f fl) (h1:P .next .next) (h2:P .brk .brk) (h3:P .cont .cont) (h4:∀v d,R F v d->P (.ret v) (.ret d)):P f fl:=by
 cases f<;>cases fl<;>first|exact r.elim|assumption|exact h4 _ _ r
noncomputable def QL(G:Fc B)(wr:List co)(u:aw)(St:Nat->GM->Prop)(I:List D->ag->aa->Prop)(ds:List D)(n:Nat)(s':bv):Prop:=∃i z F' H',n=ds.length-i/\i≤ds.length/\u.le F'/\St i s'.heap/\Mine.Tactic.az B.prog B.w B.T G.Ot B.os (wr++G.own) F' H' s'/\G.Loc F' z s'/\I (ds.drop i) z H'
noncomputable def WhJ(G:Fc B)(F:aw)(I:Nat->ag->aa->Prop)(n:Nat)(s':bv):Prop:=∃z F' H',F.le F'/\G.az F' H' s'/\G.Loc F' z s'/\I n z H'
theorem H1.DF{target j:lv}{body:List eX}{pos:cx}{Q:Fl->ag->aa->Prop}(h:HI G ρ H target j λK ds H'=>QK G K ds ρ H' target body Q)(hs:∀x,dF j G.env x=pure x:=by intro _;rfl):H1 G ρ H (.For target j body [] pos) Q:=λF s S L=>by
 refine wpAny_For (f8 (h F s S L) (λx aJ h₁=>f8 h₁ (λit aX p=>?_) λ_ _ e=>e.elim) λ_ _ e=>e.elim) hs;obtain⟨K,J,fp,wr,ds,aL,kc,St,rfl,xR,W,lN,u,xQ,aaz,acZ,⟨I,hK,hI,step,fin⟩⟩:=p;refine codeAny_forLoop_any (QL G wr aL St I ds) ?_ _
  (Dr 0 ρ aL kc rfl (np _) (.refl _) lN xQ aaz hI)
 intro n s' nK;refine Dq nK λi bb F' H' js hi kF ud S' L' O=>?_;refine js▸?_;by_cases N:i<ds.length
 ·have hd:ds[i]?=some ds[i]:=pi N;rw[fB N]at O;refine f8 (W.step i _ F' s' kF (λa o e=>(S'.fz a o e).1) hd ud) (λr aJ p=>?_) λ_ _ e=>e.elim;refine ah p λv ev p'=>?_;subst ev;refine f8 p' (λ_ aX p=>?_) λ_ _ e=>e.elim;obtain⟨nJ,h',tk,rfl,kz,rv,qP,hk,hF⟩:=p;have Y:=S'.turn (tk:=tk) hk (W.live _ _ qP) hF kz;have jL:G.Loc nJ bb {s' with heap:=h',toks:=tk}:=L'.keep kz λb o z e=>hk b o (λhm=>by
   rcases z with z|⟨o',z⟩
   ·exact(u b hm).1 z
   ·rw[(u b hm).2]at z;cases z) e
  have hle:=uc (wr:=wr) (h:=h') λb z=>(u b z).2;have vM:=Y.DE λb z=>(u b z).1;refine f8 (step _ _ bb H' (snap G.Ot wr h') hle O nJ v rv _ vM ⟨jL.ns,jL.cell⟩) (λ_ jK p=>?_) λ_ _ e=>e.elim;obtain⟨aaA,ac0,aeY,QM,aaB,aaC,q⟩:=p;refine f8 (q aaA jK aaB aaC) (λf xS p=>?_) λ_ _ e=>e.elim;obtain⟨Z,fl,zH,HG,QN,rf,Mg,HH,q⟩:=p;have kA:aL.le Z:=((kF.trans kz).trans QM).trans QN;obtain⟨vN,same⟩:=Y.xP Mg;have Mh:G.Loc Z zH xS:=⟨HH.ns,HH.cell⟩;have qb:(∃fV jr,fV.le zH/\jr.le HG/\I (ds.drop (i+1)) fV jr)->∃m,m<ds.length-i/\QL G wr aL St I ds m xS:=λqQ=>cK qQ λfV jr e1 e2 q=>⟨ds.length-(i+1),AV ds.length i N,i+1,fV,Z,jr,rfl,N,kA,W.frame _ _ _ qP λb z o e=>(W.held b z).elim (λz=>same b z o e) λz=>z.elim (λz=>z.elim λo' z=>db ((Y.fz b o' (kz _ _ (kF _ _ z))).1.symm.trans e)▸(vN.fz b o' (kA _ _ z)).1) λz=>mm z λo' c z=>db ((Y.hp b _ (z _ (hK _ _ _ O))).1.1.symm.trans e)▸(vN.hp b _ (e2 _ _ (z _ (hK _ _ _ q)))).1.1,vN.forget e2,Mh.less e1,q⟩;have out:Mine.Tactic.az B.prog B.w B.T G.Ot B.os G.own Z HG xS:=vN.less;revert q;exact Rfl.el rf qb (λq=>⟨Z,.next,zH,HG,xR.trans kA,trivial,out,Mh,q⟩) qb λv d rv q=>⟨Z,.ret d,zH,HG,xR.trans kA,rv,out,Mh,q⟩
 ·have iw:i=ds.length:=cZ hi (eD.mp N);subst iw;rw[GA]at O;refine f8 (W.done s' ud) (λr aJ p=>?_) λ_ _ e=>e.elim;obtain⟨rfl,h',tk,rfl,hk⟩:=p;refine vo ?_;have Y:=S'.zG (tk:=tk) hk λb z=>(u b z).1;exact⟨F',.next,bb,H',xR.trans kF,trivial,Y,L'.keep (.refl _) λb o z e=>hk b o (λhm=>by
   rcases z with z|⟨o',z⟩
   ·exact(u b hm).1 z
   ·rw[(u b hm).2]at z;cases z) e,fin _ _ O⟩
theorem H1.qR{z:lv}{body:List eX}{N:cx}{Q:Fl->ag->aa->Prop}(I:Nat->ag->aa->Prop)(n:Nat)(h0:I n ρ H)
  (step:∀n ρ H,I n ρ H->HB G ρ H z λb H1=>if b then HS G ρ H1 body λfl Z H'=>(match fl with
   |.next|.cont=>∃m,m<n/\∃Y j,Y.le Z/\j.le H'/\I m Y j
   |.brk=>Q .next Z H'
   |.ret d=>Q (.ret d) Z H')else Q .next ρ H1):H1 G ρ H (.While z body [] N) Q:=λF s S L=>by
 refine wpAny_While (codeAny_whileLoop (WhJ G F I) ?_ n (aag ρ F H (.refl F) S L h0));intro n s' DG;refine Qq DG λZ F' H' k S' L' hI=>?_;refine f8 ((step n Z H' hI) F' s' S' L') (λb aJ p=>?_) λ_ _ e=>e.elim;obtain⟨QO,aaD,u,QP,QQ,q⟩:=p;cases b with
 |false=>exact vo ⟨QO,.next,Z,aaD,k.trans u,trivial,QP,QQ,q⟩
 |true=>
  refine f8 (q QO aJ QP QQ) (λf aX p=>?_) λ_ _ e=>e.elim;obtain⟨nJ,fl,DH,Mi,O,r,gr,jL,q⟩:=p;have kk:=(k.trans u).trans O;have qb:(∃m,m<n/\∃Y j,Y.le DH/\j.le Mi/\I m Y j)->∃m,m<n/\WhJ G F I m aX:=λq=>ah q λm hm q=>cK q λY j e1 e2 q=>⟨m,hm,Y,nJ,j,kk,gr.forget e2,jL.less e1,q⟩;revert q;exact Rfl.el r qb (λq=>⟨nJ,.next,DH,Mi,kk,trivial,gr,jL,q⟩) qb λv d rv q=>⟨nJ,.ret d,DH,Mi,kk,rv,gr,jL,q⟩
end
end
section
section
variable {prog:EQ}{w:KB}{T:GM}{Ot:aw}{os:kL}{own wr:List co}{F:aw}{H:aa}{s:bv}
theorem az.DI(S:az prog w T Ot os own F H s){own':List co}(h:∀a∈own',a∈own):az prog w T Ot os own' F H s:=by
 have u:∀a,a∉own->a∉own':=λa h' hm=>h' (h a hm);exact⟨λa o e=>have⟨x,y,z⟩:=S.top a o e;⟨x,y,u _ z⟩,λa o e=>have⟨x,y,z⟩:=S.fz a o e;⟨x,y,u _ z⟩,λa o e=>have⟨x,y,z⟩:=S.ot a o e;⟨x,y,u _ z⟩,
  λa c e=>have⟨x,z⟩:=S.hp a c e;⟨x,u _ z⟩,λa ha=>S.ex a (h a ha),S.ap,S.gens,S.os⟩
theorem az.drop{C:co}(S:az prog w T Ot os own F H s){own':List co}(h:∀a∈own',a∈own/\a≠C)(j:C∈own){h':GM}(hs:Pv C s.heap h'):az prog w T Ot os own' F H {s with heap:=h'}:=by
 have u:∀a,a∉own->a∉own'/\a≠C:=λa h'=>⟨λhm=>h' (h a hm).1,λe=>h' (e▸j)⟩;refine⟨λa o e=>?_,λa o e=>?_,λa o e=>?_,λa c e=>?_,λa ha=>?_,S.ap,S.gens,S.os⟩
 ·obtain⟨x,y,z⟩:=S.top a o e;exact⟨(hs.2 a (u a z).2).trans x,y,(u a z).1⟩
 ·obtain⟨x,y,z⟩:=S.fz a o e;exact⟨(hs.2 a (u a z).2).trans x,y,(u a z).1⟩
 ·obtain⟨x,y,z⟩:=S.ot a o e;exact⟨(hs.2 a (u a z).2).trans x,y,(u a z).1⟩
 ·obtain⟨x,z⟩:=S.hp a c e;exact⟨x.keep (.refl F) (hs.2 a (u a z).2),(u a z).1⟩
 ·obtain⟨o,e⟩:=S.ex a (h a ha).1;exact⟨o,(hs.2 a (h a ha).2).trans e⟩
theorem az.freeze{a:co}{o:nh}(S:az prog w T Ot os (a::own) F H s)(e:s.heap.get? a=some o)(ha:a∉own):az prog w T Ot os own (f6 F a o) H s/\F.le (f6 F a o):=by
 have j:∀b,b∉a::own->b∉own:=λb h hm=>h (.tail _ hm);have u:F.le (f6 F a o):=λb o' e'=>by
  rw[eH (by rintro rfl;exact(S.fz b o' e').2.2 (.head _))];exact e'
 refine⟨⟨λa o e=>have⟨x,y,z⟩:=S.top a o e;⟨x,y,j _ z⟩,λb o' e'=>?_,λa o e=>have⟨x,y,z⟩:=S.ot a o e;⟨x,y,j _ z⟩,λb c e=>have⟨x,z⟩:=S.hp b c e;⟨x.keep u rfl,j _ z⟩,λb Z=>S.ex b (.tail _ Z),λb o' o2 e' e2=>?_,S.gens,S.os⟩,u⟩
 ·by_cases q:b=a
  ·refine cut λO Y=>?_;subst q;rw[aM]at e';cases e';refine Y ?_;refine⟨e,?_,ha⟩;cases q:H b with
   |none=>rfl
   |some c=>exact absurd (.head _) (S.hp b c q).2
  ·rw[eH q]at e';obtain⟨x,y,z⟩:=S.fz b o' e';exact⟨x,y,j _ z⟩
 ·by_cases q:b=a
  ·subst q;exact absurd (.head _) (S.ot b o2 e2).2.2
  ·rw[eH q]at e';exact S.ap b o' o2 e' e2
theorem az.Mj(S:az prog w T Ot os own F H s){own':List co}{F':aw}{H':aa}{s':bv}(u:az prog w T (snap Ot own s.heap) os own' F' H' s'):az prog w T Ot os (own'++own) F' H' s':=by
 refine dv (S.leave u) λZ _=>?_;have j:∀a,a∉own'->a∉own->a∉own'++own:=λa h1 q hm=>(ca.mp hm).elim h1 q;refine⟨λa o e=>have⟨x,y,z⟩:=Z.top a o e;⟨x,y,j _ (u.top a o e).2.2 z⟩,λa o e=>have⟨x,y,z⟩:=Z.fz a o e;⟨x,y,j _ (u.fz a o e).2.2 z⟩,λa o e=>have⟨x,y,z⟩:=Z.ot a o e;⟨x,y,j _ (u.ot a o ?_).2.2 z⟩,
  λa c e=>have⟨x,z⟩:=Z.hp a c e;⟨x,j _ (u.hp a c e).2 z⟩,λa ha=>(ca.mp ha).elim (u.ex a) (Z.ex a),Z.ap,Z.gens,Z.os⟩
 unfold snap;rw[if_neg z];exact e
set_option tactic.hygienic true in
theorem az.Mk(S:az prog w T Ot os (wr++own) F H s)(Y:∀b∈wr,b∉own){nw:List co}{h':GM}{tk:Nat}(hk:∀b o,s.heap.get? b=some o->h'.get? b=some o)(hn:∀a∈nw,s.heap.get? a=none/\∃o,h'.get? a=some o):
  az prog w T (snap Ot own s.heap) os (nw++wr) F H ⟨h',s.gens,s.drawn,tk,s.os⟩:=by
 have u:∀a o,s.heap.get? a=some o->a∉wr->a∉nw++wr:=λa o e h ha=>by
  rcases ca.mp ha with ha|ha
  ·rw[(hn a ha).1]at e;cases e
  ·exact h ha
 have j:∀a,a∉wr++own->a∉wr:=λa h hm=>h (xz _ hm);refine⟨λa o e=>?_,λa o e=>?_,λa o e=>?_,λa c e=>?_,λa ha=>?_,λa o o' e e'=>?_,S.gens,S.os⟩
 ·obtain⟨x,y,z⟩:=S.top a o e;exact⟨hk _ _ x,y,u _ _ x (j _ z)⟩
 ·obtain⟨x,y,z⟩:=S.fz a o e;exact⟨hk _ _ x,y,u _ _ x (j _ z)⟩
 ·unfold snap at e;split at e
  ·rename_i ha;refine⟨hk _ _ e,?_,u _ _ e λhw=>Y a hw ha⟩;cases q:H a with
   |none=>rfl
   |some c=>exact absurd (on _ ha) (S.hp a c q).2
  ·obtain⟨x,y,z⟩:=S.ot a o e;exact⟨hk _ _ x,y,u _ _ x (j _ z)⟩
 ·obtain⟨x,z⟩:=S.hp a c e;obtain⟨o,e'⟩:=x.lt;exact⟨x.keep (.refl F) ((hk _ _ e').trans e'.symm),u _ _ e' (j _ z)⟩
 ·rcases ca.mp ha with ha|ha
  ·exact(hn a ha).2
  ·obtain⟨o,e⟩:=S.ex a (xz _ ha);exact⟨o,hk _ _ e⟩
 ·unfold snap at e';rw[if_neg (λha=>(S.fz a o e).2.2 (on _ ha))]at e';exact S.ap a o o' e e'
end
noncomputable def iO(A:Da)(n:Nat):Prop:=A.handled=none/\A.depth+2*n≤900/\A.units+8*n≤8000
structure dB{B:Base}(G:Fc B)(nm:List (lm×No))(n:Nat):Prop where
 kd:∀x k,nm.lookup x=some k->match k with
  |.local=>G.env.kindOf x=some .local
  |.globalImplicit=>G.env.kindOf x=some .globalImplicit
  |.cell=>G.env.kindOf x=some .cell/\∃c,G.env.cells.lookup x=some c/\c∈G.own
  |.free=>(G.env.kindOf x=some .cell∨G.env.kindOf x=some .free)/\∃c,G.env.cells.lookup x=some c
  |_=>True
 bi:G.env.builtins=qA
 room:iO G.A n
theorem dB.ot{B:Base}{G:Fc B}{nm:List (lm×No)}{n:Nat}(f:dB G nm n)(z:aw)(h:G.Ot.le z):dB (G.ot z h) nm n:=⟨f.kd,f.bi,f.room⟩
theorem dB.st{B:Base}{G:Fc B}{nm:List (lm×No)}{n:Nat}(f:dB G nm n){x:lm}(h:nm.lookup x=some .local∨nm.lookup x=some .cell):G.St x:=by
 refine j4 h (λh=>?_) λh=>?_
 ·exact .inl (f.kd x _ h)
 ·exact .inr (f.kd x _ h)
noncomputable def bS(nm:List (lm×No))(ρ:ag):ag:=ρ.filter λp=>nm.lookup p.1==some .free
set_option tactic.hygienic true in
theorem iC{nm:List (lm×No)}:∀{ρ:ag}{x:lm}{d:D},(bS nm ρ).lookup x=some d->nm.lookup x=some .free/\ρ.lookup x=some d
 |[],x,d,e=>by simp[bS]at e
 |(y,f)::ρ,x,d,e=>by
  unfold bS at e;rw[aP]at e;by_cases hx:x=y
  ·subst hx;split at e
   ·rename_i h;rw[wE,beq_self_eq_true]at e⊢;exact⟨by simpa using h,e⟩
   ·rename_i h;have:=(iC (nm:=nm) (ρ:=ρ) e).1;rw[this]at h;simp at h
  ·have z:(x==y)=false:=beq_eq_false_iff_ne.mpr hx;rw[wE,z];split at e
   ·rw[wE,z]at e;exact iC (ρ:=ρ) e
   ·exact iC (ρ:=ρ) e
theorem HJ{scope:bB}{env:vm}(h:∀y∈scope.names,y.2=.free->∃c,env.cells.lookup y.1=some c):
  ∃u,closureFor scope env=pure u/\(∀x c,u.lookup x=some c->env.cells.lookup x=some c)/\∀y∈scope.names,y.2=.free->u.lookup y.1=env.cells.lookup y.1:=by
 refine cut λPP kk=>?_;have go:∀(names:List (lm×No))(acc:List (lm×co)),(∀y∈names,y.2=.free->∃c,env.cells.lookup y.1=some c)->(∀x c,acc.lookup x=some c->env.cells.lookup x=some c)->
   ∃u,(forIn names acc λ(x:lm×No) cs=>if x.2==.free then(do let c←cellOf env x.1;pure (Tk ((x.1,c)::cs)))else pure (Tk cs):sY _)=pure u/\(∀x c,u.lookup x=some c->env.cells.lookup x=some c)/\
    (∀x c,acc.lookup x=some c->u.lookup x=some c)/\∀y∈names,y.2=.free->u.lookup y.1=env.cells.lookup y.1:=by
  intro names;induction names with
  |nil=>intro acc _ ha;exact(qI acc rfl ha (λ_ _ e=>e) (λ_ hy=>nomatch hy))
  |cons y r ih=>
   intro acc hn ha;by_cases hf:y.2=.free
   ·refine bR (hn y (.head _) hf) λc hc=>?_;have N:∀x c',((y.1,c)::acc).lookup x=some c'->env.cells.lookup x=some c':=λx c' e=>by
     rw[wE]at e;cases q:x==y.1 with
     |true=>rw[q]at e;cases e;rw[beq_iff_eq.mp q];exact hc
     |false=>rw[q]at e;exact ha x c' e
    refine pP (ih ((y.1,c)::acc) (λz hz=>hn z (.tail _ hz)) N) λu Y e2 Z j=>?_;refine(qI u ?_ e2 (λx c' e=>?_) (λz hz O=>?_))
    ·rw[iE,hf];unfold cellOf;refine hc▸?_;exact Y
    ·refine Z x c' ?_;rw[wE];cases q:x==y.1 with
     |true=>
      have:=ha x c' e;rw[beq_iff_eq.mp q,hc]at this;exact this
     |false=>exact e
    ·rcases em.mp hz with rfl|hz
     ·rw[hc];exact Z _ _ (by rw[wE,beq_self_eq_true])
     ·exact j z hz O
   ·refine pP (ih acc (λz hz=>hn z (.tail _ hz)) ha) λu Y e2 Z j=>?_;refine(qI u ?_ e2 Z (λz hz O=>?_))
    ·rw[iE];have:(y.2==gC)=false:=by
      cases q:y.2<;>first|rfl|exact absurd q hf
     simp only[this];exact Y
    ·rcases em.mp hz with rfl|hz
     ·exact absurd O hf
     ·exact j z hz O
 obtain⟨u,Y,e2,_,j⟩:=go scope.names [] h λx c e=>by simp at e
 refine kk ?_;refine(cY u ?_ e2 j);show(forIn scope.names [] (λ(x:lm×No) cs=>if x.2==.free then(do let c←cellOf env x.1;pure (Tk ((x.1,c)::cs)))else pure (Tk cs))>>=λcs=>pure cs:sY (List (lm×co)))=pure u;rw[Y];rfl
end
section
theorem DJ{κ z:Type}{f:lm×κ->lm×z}{g:lm->κ->z}(hf:∀n k,f (n,k)=(n,g n k)){x:lm}{names:List (lm×κ)}{k:κ}(h:names.lookup x=some k):(names.map f).lookup x=some (g x k):=by
 induction names with
 |nil=>exact bE h
 |cons p r ih=>
  obtain⟨n,k'⟩:=p;rw[wE]at h;rw[jp,hf,wE];cases hx:x==n with
  |true=>rw[hx]at h;rw[eq_of_beq hx,db h]
  |false=>rw[hx]at h;exact ih h
theorem qS{env:vm}{x:lm}{names:List (lm×No)}{k:No}(h:names.lookup x=some k):
  (names.map λ(n,k)=>if(k==gC&&env.scope.kind==.function&&env.kindOf n==some .cell)then(n,l6)else(n,k)).lookup x=some (if(k==gC&&env.scope.kind==.function&&env.kindOf x==some .cell)then .cell else k):=
 DJ (g:=λn k=>if(k==gC&&env.scope.kind==.function&&env.kindOf n==some .cell)then .cell else k) (λn k=>by
  show(if _ then _ else _)=_;by_cases c:(k==gC&&env.scope.kind==.function&&env.kindOf n==some .cell)=true
  ·rw[if_pos c,if_pos c]
  ·rw[if_neg c,if_neg c]) h
theorem mq{prog:EQ}{w:KB}{A:Da}{R:qB->bv->Prop}{s:bv}{e target:lv}{u:List lv}{dep:Nat}{p:cx}{it acc:bm}{env:vm}{z:sY Unit}(I:Nat->bv->Prop)
  (hq:(Lm e dep it acc env).quiet=true) (hu:A.under (.compLoop e dep it acc env)=A) (Ml:(kt prog w).den (.compLoop e dep it acc env)=(oD e dep it acc env).onRaise (λx=>do noteFrame x env;TO x))
  (ht:oD e dep it acc env=(do
   iZ p
   match←hZ it with
   |none=>pure (.done .next)
   |some v=>
    cC target it v
    hW target env v
    let mut ok:=true
    for c in u do
     if ok then ok←j0 c env (eval c env)
    if ok then z
    qb (.compLoop e dep it acc env)))
  (turn:∀n s,I n s->im (kt prog w) A (hZ it) (λr Y=>match r with
   |none=>R (.ok .next) Y
   |some v=>im (kt prog w) A (cC target it v) (λ_ N=>im (kt prog w) A (hW target env v) (λ_ O=>
     im (kt prog w) A (forIn u true λc r=>if r=true then do let ok←j0 c env (eval c env);pure (Tk ok)else pure (Tk r)) (λok j=>
      if ok=true then im (kt prog w) A z (λ_ Z=>∃m,m<n/\I m Z) bot j
      else∃m,m<n/\I m j) bot O) bot N) bot Y) bot s)
  (n:Nat) (h:I n s):bC (kt prog w) A (.compLoop e dep it acc env) R s:=by
 refine codeAny_loop hq I (λn s hI=>?_) n h;rw[hu,Ml];refine wpAny_noted ?_;refine LR ht ?_;refine al (cN (al (f8 (turn n s hI) (λr Y h₁=>?_) λ_ _ h'=>h'.elim)));cases r with
 |none=>exact am h₁
 |some v=>
  refine al (f8 h₁ (λ_ N QS=>?_) λ_ _ h'=>h'.elim);refine al (f8 QS (λ_ O DK=>al (f8 DK (λok j HD=>?_) λ_ _ h'=>h'.elim)) λ_ _ h'=>h'.elim);cases ok with
  |false=>exact am ⟨rfl,HD⟩
  |true=>exact al (f8 HD (λ_ Z q=>am ⟨rfl,q⟩) λ_ _ h'=>h'.elim)
section
variable {B:Base}{Gb:Fc B}{K:aa->Prop}
inductive AccAt(Gb:Fc B)(wr:List co)(D₁:co)(ρ:ag)(F:aw)(H:aa)(acc:List D)(s:bv):Prop
 |mk (S:Mine.Tactic.az B.prog B.w B.T Gb.Ot B.os (wr++D₁::Gb.own) F H s) (L:Gb.Loc F ρ s) (ys:List bm) (k:Nat) (e:s.heap.get? D₁=some (bz ys k)) (r:Rs F ys acc)
inductive k8(Gb:Fc B)(D₁:co)(F:aw)(ρ:ag)(Q:List D->aa->Prop)(s:bv):Prop
 |mk (F':aw) (acc:List D) (H':aa) (k:F.le F') (a:AccAt Gb [] D₁ ρ F' H' acc s) (q:Q acc H')
inductive Kr(Gb:Fc B)(wr:List co)(D₁:co)(aL:aw)(ρ:ag)(ds:List D)(St:Nat->GM->Prop)(I:List D->List D->aa->Prop)(n:Nat)(s:bv):Prop
 |mk (i:Nat) (acc:List D) (F':aw) (H':aa) (hn:n=ds.length-i) (hi:i≤ds.length) (k:aL.le F') (st:St i s.heap) (a:AccAt Gb wr D₁ ρ F' H' acc s) (q:I (ds.drop i) acc H')
theorem Loc.zI{u:aw}{z:Gb.Ot.le u}{F:aw}{ρ:ag}{s:bv}(L:(Gb.ot u z).Loc F ρ s):Gb.Loc F ρ s:=⟨L.ns,L.cell⟩
theorem Loc.Ks{u:aw}(z:Gb.Ot.le u){F:aw}{ρ:ag}{s:bv}(L:Gb.Loc F ρ s):(Gb.ot u z).Loc F ρ s:=⟨L.ns,L.cell⟩
theorem DL{e target:lv}{ifs:List lv}{dep:Nat}{p:cx}{q:sY Unit}{J D₁:co}{fp wr:List co}{ds acc:List D}{aL:aw}{kc:aa}{St:Nat->GM->Prop}{ρ:ag}{I:List D->List D->aa->Prop}{s:bv}
  (hq:(Lm e dep (.ref J) (.ref D₁) Gb.env).quiet=true) (hu:Gb.A.under (.compLoop e dep (.ref J) (.ref D₁) Gb.env)=Gb.A) (Ml:(kt B.prog B.w).den (.compLoop e dep (.ref J) (.ref D₁) Gb.env)=(oD e dep (.ref J) (.ref D₁) Gb.env).onRaise (λx=>do noteFrame x Gb.env;TO x))
  (ht:oD e dep (.ref J) (.ref D₁) Gb.env=(do
   iZ p
   match←hZ (.ref J)with
   |none=>pure (.done .next)
   |some v=>
    cC target (.ref J) v
    hW target Gb.env v
    let mut ok:=true
    for c in ifs do
     if ok then ok←j0 c Gb.env (eval c Gb.env)
    if ok then q
    qb (.compLoop e dep (.ref J) (.ref D₁) Gb.env)))
  (W:je B Gb.A target J fp wr ds aL K St) (off:∀b∈wr,b∉D₁::Gb.own/\Gb.Ot b=none) (hK:∀u acc H,I u acc H->K H)
  (step:∀d u acc H F s fU(j:Gb.Ot.le fU) v,I (d::u) acc H->aL.le F->R F v d->AccAt (Gb.ot fU j) [] D₁ ρ F H acc s->im (kt B.prog B.w) Gb.A (hW target Gb.env v) (λ_ aX=>
     im (kt B.prog B.w) Gb.A (forIn ifs true λc r=>if r=true then do let ok←j0 c Gb.env (eval c Gb.env);pure (Tk ok)else pure (Tk r)) (λok jK=>
      if ok=true then im (kt B.prog B.w) Gb.A q (λ_ Z=>k8 (Gb.ot fU j) D₁ F ρ (I u) Z) bot jK
      else k8 (Gb.ot fU j) D₁ F ρ (I u) jK) bot aX) bot s)
  (st:St 0 s.heap) (a:AccAt Gb wr D₁ ρ aL kc acc s) (N:I ds acc kc):
  bC (kt B.prog B.w) Gb.A (.compLoop e dep (.ref J) (.ref D₁) Gb.env) (λr s'=>r=.ok .next/\k8 Gb D₁ aL ρ (I []) s') s:=by
 refine mq (Kr Gb wr D₁ aL ρ ds St I) hq hu Ml ht (λn s' hl=>?_) _ ⟨0,acc,aL,kc,rfl,np _,.refl _,st,a,N⟩;obtain⟨i,acc,F',H',rfl,hi,kF,lN,⟨S,L,ys,k,hD,rs⟩,N⟩:=hl;have QT:D₁∉wr:=λh=>(off _ h).1 (.head _);have QU:∀b,(b∈Gb.own∨∃o,Gb.Ot b=some o)->b∉wr:=λb z hm=>by
  rcases z with z|⟨o,z⟩
  ·exact(off b hm).1 (.tail _ z)
  ·rw[(off b hm).2]at z;cases z
 by_cases fj:i<ds.length
 ·rw[fB fj]at N;refine f8 (W.step i _ F' s' kF (λa o e=>(S.fz a o e).1) (pi fj) lN) (λr aJ p=>?_) λ_ _ e=>e.elim;obtain⟨v,rfl,p⟩:=p;refine f8 p (λ_ aX p=>?_) λ_ _ e=>e.elim;obtain⟨nJ,h',tk,rfl,O,rv,qP,hk,hF⟩:=p;have gr:=S.turn (tk:=tk) hk (W.live _ _ qP) hF O;have j:=uc (wr:=wr) (h:=h') λb z=>(off b z).2;have vM:=gr.DE λb z=>(off b z).1;have jL:(Gb.ot _ j).Loc nJ ρ {s' with heap:=h',toks:=tk}:=Loc.Ks j (L.keep O λb o z e=>hk b o (QU b z) e);have Y:∀Z,k8 (Gb.ot _ j) D₁ nJ ρ (I (ds.drop (i+1))) Z->∃m,m<ds.length-i/\Kr Gb wr D₁ aL ρ ds St I m Z:=by
   rintro Z ⟨aaG,Mm,aaH,QV,⟨Mg,HH,QW,aaI,aaJ,aaK⟩,QX⟩;obtain⟨vN,same⟩:=gr.xP Mg;refine⟨_,?_,i+1,Mm,aaG,aaH,rfl,fj,(kF.trans O).trans QV,W.frame _ _ _ qP λb z o e=>?_,⟨vN,Loc.zI HH,QW,aaI,aaJ,aaK⟩,QX⟩
   ·exact AV ds.length i fj
   ·rcases W.held b z with z|⟨o',z⟩|⟨o',c,z⟩
    ·exact same b z o e
    ·have e3:h'.get? b=some o':=(gr.fz b o' (O _ _ (kF _ _ z))).1;rw[e]at e3;cases e3;exact(vN.fz b o (QV _ _ (O _ _ (kF _ _ z)))).1
    ·have e3:h'.get? b=some o':=(gr.hp b _ (z _ (hK _ _ _ N))).1.1;rw[e]at e3;cases e3;exact(vN.hp b _ (z _ (hK _ _ _ QX))).1.1
  refine f8 (step _ _ acc H' nJ _ _ j v N (kF.trans O) rv ⟨vM,jL,ys,k,hk _ _ QT hD,rs.mono O⟩) (λ_ jK p=>?_) λ_ _ e=>e;refine f8 p (λok xS p=>?_) λ_ _ e=>e;cases ok with
  |false=>exact Y xS p
  |true=>exact f8 p (λ_ Z p=>Y Z p) λ_ _ e=>e
 ·obtain rfl:i=ds.length:=Vv hi fj;rw[GA]at N;refine f8 (W.done s' lN) (λr aJ p=>?_) λ_ _ e=>e.elim;obtain⟨rfl,h',tk,rfl,hk⟩:=p;exact⟨rfl,F',acc,H',kF,⟨S.zG (tk:=tk) hk λb z=>(off b z).1,L.keep (.refl _) λb o z e=>hk b o (QU b z) e,ys,k,hk _ _ QT hD,rs⟩,N⟩
inductive Mn(Gx:Fc B)(D₁:co)(ρ:ag)(F:aw)(H:aa)(acc:List D)(s:bv):Prop
 |mk (fU:aw) (hle:Gx.Ot.le fU) (S:(Gx.ot fU hle).az F H s) (L:(Gx.ot fU hle).Loc F ρ s) (k:∀oN F' H' s',F.le F'->Mine.Tactic.az B.prog B.w B.T fU B.os oN F' H' s'->Mine.Tactic.az B.prog B.w B.T Gx.Ot B.os (D₁::oN) F' H' s'/\∃ys k,s'.heap.get? D₁=some (bz ys k)/\Rs F' ys acc)
  (hO:∀b,fU b=none->b≠D₁/\Gx.Ot b=none)
set_option tactic.hygienic true in
theorem AccAt.DE{Gx:Fc B}{D₁:co}{ρ:ag}{F:aw}{H:aa}{acc:List D}{s:bv}(a:AccAt Gx [] D₁ ρ F H acc s)(Z:D₁∉Gx.own):Mn Gx D₁ ρ F H acc s:=by
 obtain⟨S,L,ys,k,e,r⟩:=a;have hn:Gx.Ot D₁=none:=by
  cases q:Gx.Ot D₁ with
  |none=>rfl
  |some o=>exact absurd (.head _) (S.ot D₁ o q).2.2
 have j:Mine.Tactic.az B.prog B.w B.T Gx.Ot B.os ([D₁]++Gx.own) F H s:=S;have u:Gx.Ot.le (snap Gx.Ot [D₁] s.heap):=uc λb z=>by rw[bn.mp z];exact hn
 refine⟨_,u,j.DE λb z=>by rw[bn.mp z];exact Z,Loc.Ks u L,λN F' H' s' Y O=>?_,λb z=>?_⟩
 ·refine dv (j.xP O) λx same=>?_;exact⟨x,ys,k,same _ (.head _) _ e,r.mono Y⟩
 ·unfold snap at z;split at z
  ·rename_i hm;rw[bn.mp hm,e]at z;cases z
  ·rename_i hm;exact⟨λq=>hm (q▸.head _),z⟩
end
section
variable {B:Base}{G:Fc B}{ρ:ag}{H:aa}{F:aw}
noncomputable def Tst(G:Fc B)(ρ:ag)(H:aa)(z:List lv)(Q:Bool->aa->Prop):Prop:=match z with
 |[]=>Q true H
 |[c]=>HB G ρ H c Q
 |_=>False
theorem Tst.go{z:List lv}{Q:Bool->aa->Prop}(h:Tst G ρ H z Q){s:bv}(S:G.az F H s)(L:G.Loc F ρ s):
  im (kt B.prog B.w) G.A (forIn z true λc r=>if r=true then do let ok←j0 c G.env (eval c G.env);pure (Tk ok)else pure (Tk r)) (Km G F ρ Q) bot s:=
 match z,h with
 |[],h=>wpAny_tests_nil ⟨F,H,.refl F,S,L,h⟩
 |[c],h=>wpAny_tests_one (h F s S L)
noncomputable def Turn(G:Fc B)(ρ:ag)(H:aa)(target:lv)(z:List lv)(d:D)(Q:Bool->ag->aa->Prop):Prop:=HA G ρ H target d λu H1=>ρ.le u/\Tst G u H1 z λok H2=>Q ok u H2
theorem clause{Gx:Fc B}{D₁:co}{acc:List D}{s:bv}{v:bm}{d:D}{target:lv}{ifs:List lv}{Y:sY Unit}{Q:List D->aa->Prop}(hD:D₁∉Gx.own)(a:AccAt Gx [] D₁ ρ F H acc s)(rv:R F v d)
  {P:(G:Fc B)->ag->aa->Prop} (h:∀j(u:Gx.Ot.le j),Turn (Gx.ot j u) ρ H target ifs d λok Z H2=>if ok then P (Gx.ot j u) Z H2 else∃H4,H4.le H2/\Q acc H4)
  (hem:∀j(u:Gx.Ot.le j) F' Z H' s',F.le F'->ρ.le Z->(Gx.ot j u).az F' H' s'->(Gx.ot j u).Loc F' Z s'->P (Gx.ot j u) Z H'->
   (∀oN O jr N,F'.le O->Mine.Tactic.az B.prog B.w B.T j B.os oN O jr N->Mine.Tactic.az B.prog B.w B.T Gx.Ot B.os (D₁::oN) O jr N/\∃ys k,N.heap.get? D₁=some (bz ys k)/\Rs O ys acc)->(∀b,j b=none->b≠D₁/\Gx.Ot b=none)->
   im (kt B.prog B.w) Gx.A Y (λ_ mr=>k8 Gx D₁ F ρ Q mr) bot s'):
  im (kt B.prog B.w) Gx.A (hW target Gx.env v) (λ_ aX=>im (kt B.prog B.w) Gx.A (forIn ifs true λc r=>if r=true then do let ok←j0 c Gx.env (eval c Gx.env);pure (Tk ok)else pure (Tk r)) (λok jK=>
   if ok=true then im (kt B.prog B.w) Gx.A Y (λ_ mr=>k8 Gx D₁ F ρ Q mr) bot jK else k8 Gx D₁ F ρ Q jK) bot aX) bot s:=by
 obtain⟨j,u,S,L,k,hO⟩:=a.DE hD;refine f8 (h j u F v rv s S L) (λ_ aX p=>?_) λ_ _ e=>e;obtain⟨F1,Z,H1,k1,S1,L1,hl,q⟩:=p;refine f8 (q.go S1 L1) (λok jK p=>?_) λ_ _ e=>e;obtain⟨F2,H2,k2,S2,L2,q⟩:=p;have k3:=k1.trans k2;cases ok with
 |false=>
  refine cut λPP kk=>?_;refine ah q λH4 e q=>?_;obtain⟨x,ys,n,y,z⟩:=k _ _ _ _ k3 S2;refine kk ?_;exact⟨F2,acc,H4,k3,⟨x.forget e,Loc.zI (L2.less hl),ys,n,y,z⟩,q⟩
 |true=>
  exact hem j u F2 Z H2 jK k3 hl S2 L2 q (λoN O jr N kk=>k oN O jr N (k3.trans kk)) hO
theorem zJ{Gx:Fc B}{D₁:co}{acc:List D}{s:bv}{v:bm}{d:D}{target elt:lv}{j:List lv}{Q:List D->aa->Prop}(hD:D₁∉Gx.own)(hz:acc.length≤ga)(a:AccAt Gx [] D₁ ρ F H acc s)(rv:R F v d)
  (h:∀O(u:Gx.Ot.le O),Turn (Gx.ot O u) ρ H target j d λok N H2=>if ok then HE (Gx.ot O u) N H2 elt (λy H3=>∃z,z.le H3/\Q (acc++[y]) z)else∃z,z.le H2/\Q acc z):
  im (kt B.prog B.w) Gx.A (hW target Gx.env v) (λ_ aX=>im (kt B.prog B.w) Gx.A (forIn j true λc r=>if r=true then do let ok←j0 c Gx.env (eval c Gx.env);pure (Tk ok)else pure (Tk r)) (λok jK=>
   if ok=true then im (kt B.prog B.w) Gx.A (do let _←call (.builtin "list.append") [.ref D₁,←eval elt Gx.env]) (λ_ mr=>k8 Gx D₁ F ρ Q mr) bot jK else k8 Gx D₁ F ρ Q jK) bot aX) bot s:=by
 refine clause hD a rv (P:=λG N H2=>HE G N H2 elt (λy H3=>∃z,z.le H3/\Q (acc++[y]) z)) h λO u F' N H' s' kF hl S L q Z hO=>?_;refine al (f8 (q F' s' S L) (λy aX p=>?_) λ_ _ e=>e);refine cut λPP kk=>?_;obtain⟨F2,yd,H2,k2,ry,S2,L2,z,e4,q⟩:=p;obtain⟨x,ys,n,ey,rs⟩:=Z _ _ _ _ k2 S2;refine kk ?_;refine al (wpAny_list_append_plain (items:=ys.toArray) ⟨n,ey⟩ (λaaM hp hs=>am ?_) (by rw[UF,rs.length];exact hz));obtain⟨k',hp⟩:=hp;have hp:aaM.get? D₁=some (bz (ys++[y]) k'):=by rw[hp];simp
 refine⟨F2,acc++[yd],z,kF.trans k2,⟨(x.forget e4).mine (.head _) hs ⟨_,hp⟩,(Loc.zI (L2.less hl)).keep (.refl _) λb o Y e=>(hs.2 b ?_).trans e,ys++[y],k',hp,rs.append (.cons ry .nil)⟩,q⟩;rintro rfl;rcases Y with Y|⟨o,Y⟩
 ·exact hD Y
 ·exact(x.ot _ o Y).2.2 (.head _)
noncomputable def ik(nm:List (lm×No))(scope:bB):Bool:=
 scope.kind==.function&&scope.names.all λy=>(y.2 !=.cell)&&(y.2 !=.local||scope.names.lookup y.1==some .local)&&(y.2 !=.free||(nm.lookup y.1==some .free||nm.lookup y.1==some .cell))
structure HK(G:Fc B)(nm:List (lm×No))(n:Nat)(target e:lv)(scope:bB)(ρ:ag)(K:aa->Prop)(I:List D->List D->aa->Prop):Prop where
 fr:dB G nm n
 ok:ik nm scope=true
 run:∀(Gb:Fc B)(D₁ J:co)(fp wr:List co)(ds:List D)(aL:aw)(kc:aa)(St:Nat->GM->Prop)(s:bv),dB Gb scope.names n->je B Gb.A target J fp wr ds aL K St->(∀b∈wr,b∉D₁::Gb.own/\Gb.Ot b=none)->D₁∉Gb.own->St 0 s.heap->AccAt Gb wr D₁ (bS scope.names ρ) aL kc [] s->I ds [] kc->
  bC (kt B.prog B.w) Gb.A (.compLoop e 0 (.ref J) (.ref D₁) Gb.env) (λr s'=>r=.ok .next/\k8 Gb D₁ aL (bS scope.names ρ) (I []) s') s
theorem HK.one{nm:List (lm×No)}{n:Nat}{target elt j:lv}{q:List lv}{scope:bB}{N:cx}{K:aa->Prop}{I:List D->List D->aa->Prop}(fr:dB G nm n)(ok:ik nm scope=true)(u:∀z acc H,I z acc H->K H/\acc.length≤ga)
  (step:∀d z acc H(G':Fc B),dB G' scope.names n->I (d::z) acc H->Turn G' (bS scope.names ρ) H target q d λok bY H2=>
   if ok then HE G' bY H2 elt λy H3=>∃Z,Z.le H3/\I z (acc++[y]) Z else∃Z,Z.le H2/\I z acc Z):HK G nm n target (.ListComp elt [⟨target,j,q,0⟩] scope N) scope ρ K I:=
 ⟨fr,ok,λGb D₁ J fp wr ds aL kc St s fb W off hD st a O=>DL rfl rfl rfl (compTurn_list _ _ _ _ _ _ _ _ _) W off (λz acc H h=>(u z acc H h).1)
  (λd z acc H F s fU Y v O kF rv a=>zJ (Gx:=Gb.ot fU Y) hD (u _ _ _ O).2 a rv λUi Bl=>step d z acc H _ ((fb.ot fU Y).ot Ui Bl) O) st a O⟩
set_option tactic.hygienic true in
theorem HK.go{nm:List (lm×No)}{n:Nat}{target elt z:lv}{Z:List lv}{gs:List qc}{scope:bB}{Y:cx}{K:aa->Prop}{I:List D->List D->aa->Prop}(X:HK G nm n target (.ListComp elt (⟨target,z,Z,0⟩::gs) scope Y) scope ρ K I){cl:List (lm×co)}
  (nq:∀x c,cl.lookup x=some c->G.env.cells.lookup x=some c) (Bm:∀y∈scope.names,y.2=.free->cl.lookup y.1=G.env.cells.lookup y.1)
  {J:co} {fp wr:List co} {ds:List D} {aL:aw} {kc:aa} {St:Nat->GM->Prop} {aX:bv} (W:je B G.A target J fp wr ds aL K St) (lN:St 0 aX.heap) (off:∀b∈wr,b∉G.own/\G.Ot b=none)
  (gr:Mine.Tactic.az B.prog B.w B.T G.Ot B.os (wr++G.own) aL kc aX) (jL:G.Loc aL ρ aX) (hI:I ds [] kc) {RR:bm->co->qB->bv->Prop}
  (hR:∀D C F' H' acc s'(ys:List bm) k m,aL.le F'->I [] acc H'->Mine.Tactic.az B.prog B.w B.T (snap G.Ot G.own aX.heap) B.os [D,C] F' H' s'->s'.heap.get? D=some (bz ys k)->Rs F' ys acc->s'.heap.Ns C m->D≠C->
   RR (.ref D) C (.ok .next) s'):
  im (kt B.prog B.w) G.A (newList []) (λacc jK=>im (kt B.prog B.w) G.A (newFunctionEnv scope G.env.globals cl [] G.env.qual none .none (some G.env)) (λQY xS=>
   bC (kt B.prog B.w) G.A (.compStart (.ListComp elt (⟨target,z,Z,0⟩::gs) scope Y) 0 (.ref J) acc {QY with scope:=relabel scope G.env}) (RR acc QY.locals) xS) bot jK) bot aX:=by
 have gJ:=X.ok;unfold ik at gJ;rw[u8,ut]at gJ;have nL:scope.kind=.function:=by simpa using gJ.1
 have hnc:∀y∈scope.names,y.2≠.cell:=λy hy=>by have:=gJ.2 y hy;simp only[u8]at this;simpa using this.1.1
 refine WF (wpAny_newFunctionEnv hnc (by intro y hy;simp at hy) (λh₁ qT qU=>?_) nL);dsimp only at qT qU⊢;generalize N:aX.heap.push {cls:=.type "list",dict:=none,data:=.seq ([]:List bm).toArray}=H2 at qT qU⊢;have hC:H2.objs.size=aX.heap.objs.size+1:=by rw[←N,gw]
 generalize Uj:aX.heap.objs.size=D;rw[Uj]at hC;generalize hCd:H2.objs.size=C;rw[hCd]at qT qU hC;have Kt:D≠C:=by rw[hC];exact wn (bo _)
 have hDn:aX.heap.get? D=none:=Uj▸aF _;have hCn:aX.heap.get? C=none:=by
  cases e:aX.heap.get? C with
  |none=>rfl
  |some o=>have:=ss e;rw[Uj,hC]at this;exact absurd this (eD.mpr (b8 _))
 have live:∀b o,aX.heap.get? b=some o->b≠D/\b≠C:=λb o e=>⟨(by rintro rfl;rw[hDn]at e;cases e),(by rintro rfl;rw[hCn]at e;cases e)⟩;have u:∀b o,aX.heap.get? b=some o->h₁.get? b=some o:=λb o e=>qU.extBut b o (live b o e).2 (dL _ (N▸dL _ e));have mU:h₁.get? D=some (bz [] 0):=qU.extBut _ _ Kt (dL _ (N▸Uj▸g3 _ rfl));have hCe:∃o,h₁.get? C=some o:=let⟨o,_,_,e,_⟩:=qT;⟨o,e⟩;have kK:∀b∈wr,∃o,aX.heap.get? b=some o:=λb O=>gr.ex b (xz _ O);have hDw:D∉wr:=λh=>by obtain⟨o,e⟩:=kK D h;exact(live D o e).1 rfl
 have hCw:C∉wr:=λh=>by obtain⟨o,e⟩:=kK C h;exact(live C o e).2 rfl
 have vM:Mine.Tactic.az B.prog B.w B.T (snap G.Ot G.own aX.heap) B.os (wr++D::[C]) aL kc ⟨h₁,aX.gens,aX.drawn,aX.toks+([]:List (lm×bm)).length,aX.os⟩:=
  (gr.Mk (nw:=[C,D]) (tk:=aX.toks+([]:List (lm×bm)).length) (λb O=>(off b O).1) u λa ha=>by
   rcases em.mp ha with rfl|ha
   ·exact⟨hCn,hCe⟩
   ·rcases em.mp ha with rfl|ha
    ·exact⟨hDn,_,mU⟩
    ·cases ha).DI λa ha=>by
   simp only[fw,kS,em,ca,bj,or_false]at ha⊢;rcases ha with ha|ha|ha
   ·exact .inr (.inr ha)
   ·exact .inr (.inl ha)
   ·exact .inl ha
 have vO:∀x c,cl.lookup x=some c->c≠C/\∃o,snap G.Ot G.own aX.heap c=some o:=λx c e=>by
  refine cut λPP kk=>?_;have e':=nq x c e;refine dW (jL.cell x c e') λv o e1 _=>?_;refine kk ?_;refine⟨(live c o e1).2,?_⟩;unfold snap;split
  ·exact⟨o,e1⟩
  ·rename_i hn;rcases(G.cells x c e').2 with h|h
   ·exact absurd h hn
   ·exact h
 let Gb:Fc B:=Fc.mk (snap G.Ot G.own aX.heap) [C] (compEnvC scope cl C G.env) G.A nL G.glob
  (λx c e=>⟨(vO x c e).1,.inr (vO x c e).2⟩) (λx y c e1 e2=>G.apart x y c (nq _ _ e1) (nq _ _ e2)) (.head _)
 have kof:∀x k,scope.names.lookup x=some k->Gb.env.kindOf x=some (if(k==gC&&G.env.scope.kind==.function&&G.env.kindOf x==some .cell)then .cell else k):=λx k e=>qS (env:=G.env) e;have Lb:Gb.Loc aL (bS scope.names ρ) ⟨h₁,aX.gens,aX.drawn,aX.toks+([]:List (lm×bm)).length,aX.os⟩:=by
  refine ah jL.ns λm hn hv=>?_;refine⟨(ak _ qT (λx d e=>?_)),λx c e=>?_⟩
  ·refine dv (iC e) λe1 e2=>?_;have hm:=cO e1;have hk:=gJ.2 _ hm;simp only[u8]at hk;have hk:=hk.2;have hv:=hv x d e2;have hf:G.env.kindOf x=some .cell∨G.env.kindOf x=some .free:=by
    simp only[bne_self_eq_false,nz,eG,beq_iff_eq]at hk;rcases hk with hk|hk
    ·exact(X.fr.kd x _ hk).1
    ·exact .inl (X.fr.kd x _ hk).1
   exact dK.LV (by rw[kof x _ e1];split;exact .inl rfl;exact .inr rfl) (cK (dK.cell hf hv) λc v a b r=>⟨c,v,(Bm _ hm rfl).trans a,IsCell.same b λo e=>u _ _ e,r⟩)
  ·obtain⟨v,i⟩:=jL.cell x c (nq x c e);exact⟨v,IsCell.same i λo e=>u _ _ e⟩
 have fr:dB Gb scope.names n:=⟨λx k e=>by
  have hm:=cO e;have:=kof x k e;have hk:=gJ.2 _ hm;simp only[u8]at hk;cases k with
  |«local»=>simpa using this
  |globalImplicit=>simpa using this
  |cell=>exact absurd rfl (hnc _ hm)
  |free=>
   refine⟨?_,?_⟩
   ·refine this▸?_;split
    ·exact .inl rfl
    ·exact .inr rfl
   ·show∃c,cl.lookup x=some c;refine(Bm _ hm rfl)▸?_;have hk:=hk.2;simp only[bne_self_eq_false,nz,eG,beq_iff_eq]at hk;rcases hk with hk|hk
    ·exact(X.fr.kd x _ hk).2
    ·obtain⟨c,hc,_⟩:=(X.fr.kd x _ hk).2;exact⟨c,hc⟩
  |_=>trivial,X.fr.bi,X.fr.room⟩
 have DM:St 0 h₁:=W.frame 0 _ _ lN λb _ o e=>u b o e;have aaO:∀b∈wr,b∉D::Gb.own/\Gb.Ot b=none:=λb O=>⟨λhm=>?_,?_⟩;have j:bC (kt B.prog B.w) G.A (.compLoop (.ListComp elt (⟨target,z,Z,0⟩::gs) scope Y) 0 (.ref J) (.ref D) (compEnvC scope cl C G.env)) (RR (.ref D) C) ⟨h₁,aX.gens,aX.drawn,aX.toks+([]:List (lm×bm)).length,aX.os⟩:=by
  refine ia (X.run Gb D J fp wr ds aL kc St _ fr W aaO (λh=>Kt (bn.mp h)) DM ⟨vM,Lb,[],0,mU,.nil⟩ hI) λr s' p=>?_;obtain⟨rfl,F',acc,H',k,⟨S',L',ys,m,e,rs⟩,q⟩:=p;refine ah L'.ns λm' hn _=>?_;exact hR D C F' H' acc s' ys m m' k q S' e rs hn Kt
 ·exact codeAny_compStart_list j (W.self 0 _ _ _ DM j)
 ·rcases em.mp hm with rfl|hm
  ·exact hDw O
  ·exact hCw (bn.mp hm▸O)
 ·cases q:Gb.Ot b with
  |none=>rfl
  |some o=>exact absurd (xz _ O) (vM.ot b o q).2.2
theorem zK{nm:List (lm×No)}{n:Nat}{scope:bB}(j:dB G nm n)(z:ik nm scope=true):
  (scope.kind=.function/\∀x∈scope.names,x.2=.local->scope.names.lookup x.1=some .local)/\
  ∃u,closureFor scope G.env=pure u/\(∀x c,u.lookup x=some c->G.env.cells.lookup x=some c)/\∀y∈scope.names,y.2=.free->u.lookup y.1=G.env.cells.lookup y.1:=by
 unfold ik at z;rw[u8,ut]at z;refine⟨⟨by simpa using z.1,λx hx hl=>?_⟩,HJ λy hy hf=>?_⟩
 ·have:=z.2 x hx;rw[hl]at this;simp only[u8]at this;simpa using this.1.2
 ·have hk:=z.2 y hy;rw[hf]at hk;simp only[u8]at hk;have hk:=hk.2;simp only[bne_self_eq_false,nz,eG,beq_iff_eq]at hk;rcases hk with hk|hk
  ·exact(j.kd _ _ hk).2
  ·obtain⟨c,hc,_⟩:=(j.kd _ _ hk).2;exact⟨c,hc⟩
inductive mV(G:Fc B)(nm:List (lm×No))(n:Nat)(target e:lv)(scope:bB)(ρ:ag)(K:aa->Prop)(ds:List D)(H:aa)(Q:D->aa->Prop):Prop
 |mk (I:List D->List D->aa->Prop) (X:HK G nm n target e scope ρ K I) (d4:I ds [] H) (fin:∀acc H,I [] acc H->Q (.fl acc) H)
theorem HE.comp{nm:List (lm×No)}{n:Nat}{target elt z:lv}{j:List lv}{gs:List qc}{scope:bB}{u:cx}{Q:D->aa->Prop}(O:ik nm scope=true)(fr:dB G nm n)
  (h:HI G ρ H target z λK ds H'=>mV G nm n target (.ListComp elt (⟨target,z,j,0⟩::gs) scope u) scope ρ K ds H' Q) (hs:∀x,dF z G.env x=pure x:=by intro _;rfl):
  HE G ρ H (.ListComp elt (⟨target,z,j,0⟩::gs) scope u) Q:=λF s S L=>by
 refine cut λPP kk=>?_;obtain⟨⟨nL,xT⟩,cl,DN,nq,Bm⟩:=zK fr O;refine kk ?_;refine AW (use:=none) rfl hs DN nL xT (f8 (h F s S L) (λxv aJ h₁=>f8 h₁ (λit aX p=>?_) λ_ _ e=>e) λ_ _ e=>e);obtain⟨K,J,fp,wr,ds,aL,kc,St,rfl,xR,W,lN,q,gr,jL,hK,⟨I,X,hI,Z⟩⟩:=p;refine X.go nq Bm W lN q gr jL hI (RR:=λacc C=>compPost (kt B.prog B.w) G.A bot none (dY G F ρ Q) acc C) λD C F' H' acc s' ys k m N sI S' hD rs hn Kt=>(ak m hn (λvP QZ=>?_));have S1:Mine.Tactic.az B.prog B.w B.T (snap G.Ot G.own aX.heap) B.os [D] F' H' {s' with heap:=vP}:=S'.drop (C:=C) (λa ha=>by
  rw[bn]at ha;subst ha;exact⟨.head _,Kt⟩) (.tail _ (.head _)) QZ
 refine dv (S1.freeze (o:=bz ys k) ((QZ.2 D Kt).trans hD) (λh=>nomatch h)) λS2 Y=>?_;refine dv ((gr.less).leave S2) λS3 same=>?_;exact⟨_,_,H',(xR.trans N).trans Y,.fl (aM F' _ _) (rs.mono Y),S3,jL.keep (N.trans Y) same,Z _ _ sI⟩
theorem H1.zL{nm:List (lm×No)}{n:Nat}{target elt z:lv}{j:List lv}{O:List qc}{scope:bB}{u q Q0:cx}{y:lm}{Q:Fl->ag->aa->Prop}(cok:ik nm scope=true)(fr:dB G nm n)
  (hy:nm.lookup y=some .local) (h:HI G ρ H target z λK ds H'=>mV G nm n target (.ListComp elt (⟨target,z,j,0⟩::O) scope u) scope ρ K ds H' λd jr=>Q .next (dJ y d ρ) jr) (hl:(q.line==u.line)=true:=by rfl)
  (hn:(scope.names.any λ(n,k)=>n==y&&(k==.local||k==.cell))=false:=by rfl)
  (hs:∀x,dF z G.env x=pure x:=by intro _;rfl):
  H1 G ρ H (.Assign [.Name y q] (.ListComp elt (⟨target,z,j,0⟩::O) scope u) Q0) Q:=λF s S L=>by
 refine cut λPP kk=>?_;have hk:G.env.kindOf y=some .local:=fr.kd y _ hy;obtain⟨⟨nL,xT⟩,cl,DN,nq,Bm⟩:=zK fr cok;have hsw:l5 (.ListComp elt (⟨target,z,j,0⟩::O) scope u) (some (.Name y q)) Q0.line G.env=pure true:=by
  show pure _=pure true;have Y:(G.env.blockKind==.function)=true:=by unfold Env.blockKind;rw[G.kind];rfl
  rw[Y,hk,show(q.line==(Expr.ListComp elt (⟨target,z,j,0⟩::O) scope u).pos.line)=true from hl,hn];rfl
 refine kk ?_;refine LR (exec_Assign_Name_used _ _ _ _ hsw) ?_;refine al (cN (al ?_));refine(?_:im _ G.A (do let _←comprehension (.ListComp elt (⟨target,z,j,0⟩::O) scope u) scope G.env _ (newList []) false (eval z G.env) (some (hW (.Name y q) G.env))) _ _ s);refine al (f8 (AW (use:=some (hW (.Name y q) G.env)) (Q:=λ_ s'=>ky G F Q .next s') rfl hs DN nL xT
  (f8 (h F s S L) (λxv aJ h₁=>f8 h₁ (λit aX p=>?_) λ_ _ e=>e) λ_ _ e=>e)) (λ_ s' hq=>am (am hq)) λ_ _ e=>e)
 obtain⟨K,J,fp,wr,ds,aL,kc,St,rfl,xR,W,lN,off,N,jL,hK,⟨I,X,hI,fin⟩⟩:=p;refine X.go nq Bm W lN off N jL hI (RR:=λacc C=>compPost (kt B.prog B.w) G.A bot (some (hW (.Name y q) G.env)) (λ_ s'=>ky G F Q .next s') acc C) λD C F' H' acc s' ys k m kF sI S' hD rs hn Kt=>?_;refine dv (S'.freeze (o:=bz ys k) hD (λh=>Kt (bn.mp h))) λS2 kf=>?_;have S3:=(N.less).Mj S2;refine dv ((N.less).leave S2) λ_ same=>?_;have Z:C∉G.own:=λh=>by
  obtain⟨o,e⟩:=N.ex C (on _ h);have:snap G.Ot G.own aX.heap C=some o:=by unfold snap;rw[if_pos h];exact e
  exact(S'.ot C o this).2.2 (.tail _ (.head _))
 let Gc:Fc B:=Fc.mk G.Ot ([C]++G.own) G.env G.A G.kind G.glob (λx c e=>⟨(G.cells x c e).1,(G.cells x c e).2.imp (on _) id⟩) G.apart (on _ G.mine)
 have L3:=jL.keep (kF.trans kf) same;refine kM (nI (G:=Gc) (.inl hk) (.fl (aM F' _ _) (rs.mono kf)) S3 (⟨L3.ns,L3.cell⟩:Gc.Loc _ ρ s') λmT GL Bj zM=>?_);have zM:=zM hk;have hLC:C≠G.env.locals:=λe=>Z (e▸G.mine);refine(ak m (hn.sameBut zM hLC) (λh' CP=>?_));have S4:Mine.Tactic.az B.prog B.w B.T G.Ot B.os G.own (f6 F' D (bz ys k)) H' {mT with heap:=h'}:=az.drop (C:=C) GL (λa ha=>⟨on _ ha,λe=>Z (e▸ha)⟩) (xz _ (.head _)) CP;have L4:G.Loc (f6 F' D (bz ys k)) (dJ y (.fl acc) ρ) mT:=⟨Bj.ns,Bj.cell⟩;refine⟨_,.next,_,H',(xR.trans kF).trans kf,trivial,S4,L4.keep (.refl _) λb o Y e=>(CP.2 b ?_).trans e,fin _ _ sI⟩;rintro rfl;rcases Y with Y|⟨o',Y⟩
 ·exact Z Y
 ·exact(GL.ot b o' Y).2.2 (xz _ (.head _))
end
end
section
theorem Mo{prog:EQ}{w:KB}{A:Da}{I:co}{v:bm}{s:bv}{Q:Unit->bv->Prop}{E:bm->bv->Prop}{o:nh}{n:String}(e:s.heap.get? I=some o)(hc:o.cls=.type n)
  (hn:["enumerate","zip","dict_itemiterator","dict_reverseitemiterator","odict_iterator","itertools.zip_longest","itertools.pairwise"].contains n=false) (q:Q () s):im (kt prog w) A (cC (.Tuple [] default default) (.ref I) v) Q E s:=by
 cases v with
 |ref a=>
  refine al (j5 e ?_);obtain⟨cls,dict,data⟩:=o;cases show cls=.type n from hc;clear hc e;cases data with
  |fields vs=>exact iM (by rw[hn];exact wP) (am q)
  |_=>exact am q
 |_=>exact am q
theorem DO{prog:EQ}{w:KB}{A:Da}{target:lv}{I:co}{v:bm}{s:bv}{Q:Unit->bv->Prop}{E:bm->bv->Prop}{o:nh}{n:String}(e:s.heap.get? I=some o)(hc:o.cls=.type n)
  (hn:["enumerate","zip","dict_itemiterator","dict_reverseitemiterator","odict_iterator","itertools.zip_longest","itertools.pairwise"].contains n=false) (q:Q () s):im (kt prog w) A (cC target (.ref I) v) Q E s:=by
 have h:=Mo (prog:=prog) (w:=w) (A:=A) (v:=v) (Q:=Q) (E:=E) e hc hn q;clear e hc hn;cases target with
 |Tuple=>exact h
 |List=>exact h
 |_=>exact am q
theorem je.ofWalks{B:Base}{A:Da}{target:lv}{I:co}{fp wr:List co}{n:Nat}{P:Nat->bm->Prop}{St:Nat->GM->Prop}{ds:List D}{u:aw}{K:aa->Prop}(W:UX B.prog B.w A I fp wr n P St)(hn:n=ds.length)
  (hP:∀i v,P i v->∃d,ds[i]?=some d/\R u v d) (held:∀b∈fp,b∈wr∨(∃o,u b=some o)∨∃o c,∀H,K H->H b=some (.ro o c)) (live:∀i h,St i h->∀b∈wr,∃o,h.get? b=some o)
  (cls:∀i h,St i h->∃o n,h.get? I=some o/\o.cls=.type n/\["enumerate","zip","dict_itemiterator","dict_reverseitemiterator","odict_iterator","itertools.zip_longest","itertools.pairwise"].contains n=false):
  je B A target I fp wr ds u K St where
 sub:=W.sub
 frame:=W.frame
 held:=held
 live:=live
 step:=λi d F s k Z q z=>W.item i s _ _ (by rw[hn];exact(ww.mp q).1) z λv h' tk hv j hk=>ak v rfl (cK (cls _ _ j) λo n e hc Y=>ah (hP i v hv) λO e' r=>
  DO (s:={s with heap:=h',toks:=tk}) e hc Y ⟨F,h',tk,rfl,.refl F,db (e'.symm.trans q)▸r.mono k,j,hk,λa o e=>.inl e⟩)
 done:=λs z=>W.done s _ _ (hn▸z) λh' tk hk=>⟨rfl,h',tk,rfl,hk⟩
 self:=W.self
section
variable {B:Base}{G:Fc B}{ρ:ag}{H:aa}{F:aw}
noncomputable def VI(G:Fc B)(ρ:ag)(H:aa)(target:lv)(a:D)(Q:(aa->Prop)->List D->aa->Prop):Prop:=
 ∀F u,R F u a->∀s,G.az F H s->G.Loc F ρ s->im (kt B.prog B.w) G.A (qz u) (qO G F ρ target Q) bot s
theorem HI.expr{target e:lv}{Q:(aa->Prop)->List D->aa->Prop}(h:HE G ρ H e λa H1=>VI G ρ H1 target a Q):HI G ρ H target e Q:=λF s S L=>
 h.then S L λF1 a H1 v s1 k1 r1 S1 L1 q=>f8 (q F1 v r1 s1 S1 L1) (λit s2 p=>by
  obtain⟨K,I,fp,wr,ds,F',H',St,N,k,O,Z,Y,j,u,z,x⟩:=p;exact⟨K,I,fp,wr,ds,F',H',St,N,k1.trans k,O,Z,Y,j,u,z,x⟩) λ_ _ e=>e
theorem VI.fresh{s:bv}{o:nh}{target:lv}{fp:List co}{ds:List D}{z:aw}{K:aa->Prop}{St:Nat->GM->Prop}{Q:(aa->Prop)->List D->aa->Prop}{tk:Nat}{H':aa}(W:je B G.A target s.heap.objs.size fp [s.heap.objs.size] ds z K St)(k:F.le z)(S:G.az z H' s)(L:G.Loc z ρ s)(j:St 0 (s.heap.push o))
  (hK:K H') (q:Q K ds H') (hf:o.isFreed=false):qO G F ρ target Q (.ref s.heap.objs.size) {s with heap:=s.heap.push o,toks:=tk}:=
 have u:∀{o},s.heap.get? s.heap.objs.size≠some o:=λe=>bE ((aF _).symm.trans e)
 ⟨_,_,_,_,_,_,H',_,rfl,k,W,j,pu.mpr ⟨λh=>(S.ex _ h).elim λ_=>u,nA.mpr λo' q=>u (S.ot _ o' q).1⟩,
  S.QA au (pu.mpr ⟨aF _,o,g3 _ hf⟩),L.keep (.refl _) λb o _ e=>au b o e,hK,q⟩
theorem Ku{vs:List bm}{ds:List D}(rs:Rs F vs ds)(i:Nat)(v:bm)(h:vs.toArray[i]?=some v):∃d,ds[i]?=some d/\R F v d:=by
 rw[Ch]at h;have hi:=rs.length▸(ww.mp h).1;exact ah (rs.get (pi hi)) λz e r=>⟨_,pi hi,db (e.symm.trans h)▸r⟩
noncomputable abbrev KT:aa->Prop:=λ_=>True
theorem VI.fl{target:lv}{ds:List D}{Q:(aa->Prop)->List D->aa->Prop}(j:G.A.handled=none)(q:Q KT ds H):VI G ρ H target (.fl ds) Q:=λF u r s S L=>r.el λa vs n e rs=>
 have e':=(S.fz _ _ e).1;have hl:s.heap.IsList a vs.toArray:=⟨_,e',rfl,_,rfl⟩
 dG hl (VI.fresh (tk:=s.toks) (je.ofWalks (kE j _ a (wn (ss e')) vs.toArray) rs.length (Ku rs) (FM.mpr ⟨.inl (.head _),pu.mpr (.inr (.inl ⟨_,e⟩))⟩)
  (λi h st=>pu.mpr (st.1.elim λo z=>⟨o,z.1⟩)) λi h st=>st.1.elim λo z=>⟨o,_,z.1,z.2.1,by decide⟩) (.refl F) S L ⟨⟨_,g3 _ rfl,rfl,rfl⟩,hl.push _⟩ trivial q rfl)
theorem VI.tup{target:lv}{ds:List D}{Q:(aa->Prop)->List D->aa->Prop}(j:G.A.handled=none)(q:Q KT ds H):VI G ρ H target (.tup ds) Q:=λF u r s S L=>r.el λa vs n e rs=>
 have e':=(S.fz _ _ e).1;have hl:s.heap.IsTuple a vs.toArray:=⟨_,e',rfl,_,rfl⟩
 j6 hl (VI.fresh (tk:=s.toks) (je.ofWalks (N3 j _ a (wn (ss e')) vs.toArray) rs.length (Ku rs) (FM.mpr ⟨.inl (.head _),pu.mpr (.inr (.inl ⟨_,e⟩))⟩)
  (λi h st=>pu.mpr (st.1.elim λo z=>⟨o,z.1⟩)) λi h st=>st.1.elim λo z=>⟨o,_,z.1,z.2.1,by decide⟩) (.refl F) S L ⟨⟨_,g3 _ rfl,rfl,rfl⟩,hl.push _⟩ trivial q rfl)
noncomputable def signs(x:lm):List D:=x.cps.toList.map λc=>.str ⟨#[c]⟩
theorem VI.str{x:lm}{O:cx}{y:lm}{Q:(aa->Prop)->List D->aa->Prop}(N:G.A.handled=none)(q:Q KT (signs x) H):VI G ρ H (.Name y O) (.str x) Q:=λF u r s S L=>r.el λt=>by
 have z:∀j,["enumerate","zip","dict_itemiterator","dict_reverseitemiterator","odict_iterator","itertools.zip_longest","itertools.pairwise"].contains j=false->UX B.prog B.w G.A s.heap.objs.size [s.heap.objs.size] [s.heap.objs.size] x.cps.size (SignAt x) (λi h=>h.IsStrIter s.heap.objs.size j x t i)->
   qO G F ρ (.Name y O) Q (.ref s.heap.objs.size) {s with heap:=s.heap.push {cls:=.type j,data:=.fields #[.str x t,.int 0 0]}}:=λj Y W=>
  VI.fresh (tk:=s.toks) (je.ofWalks W (by rw[signs,be,Ev]) (λi v q=>dW q λc u hc e=>ak (.str ⟨#[c]⟩) (by rw[signs,tz,Op,hc];rfl) (e▸.str _ _)) (λb hb=>.inl hb)
   (λi h q=>pu.mpr (ah q λo Z _=>⟨o,Z⟩)) λi h q=>bt q λo Z hc _=>jo o _ Z hc Y) (.refl F) S L (cY _ (g3 _ rfl) rfl rfl) trivial q rfl
 refine wpAny_pyIter_strU ?_;unfold strIterType;cases x.cps.all λx=>decide (x<128)with
 |true=>exact z _ (by decide) (Walks.strAscii N _ x t)
 |false=>exact z _ (by decide) (Walks.strWide N _ x t)
end
end
section
structure Kb(B:Base)(mg mb:lm->Option bm):Prop where
 g:B.T.Ns aQ mg
 b:B.T.Ns qA mb
 bi:∀x:lm,x≠"__name__"->mb x=bp x
 lim:B.T.NoLimit
 sys:∃o,B.T.get? gD=some o
structure FnAt(B:Base)(f:co)(ps:List lm)(body:List eX)(sc:bB):Prop where
 ex:∃o fd,B.T.get? f=some o/\o.data=.func fd/\B.T.CodeRec fd.code fd.qualname/\fd.body=.stmts body/\fd.closure=[]/\fd.scope=sc/\fd.globals=aQ/\fd.builtins=qA/\
  ∀vals:List bm,vals.length=ps.length->bindArgs fd ⟨vals,[]⟩=pure (ps.zip vals)
noncomputable def vQ(ps:List lm)(sc:bB):Bool:=sc.kind==.function&&!sc.isCoroutine&&!sc.isGenerator&&ps.all (λp=>sc.names.lookup p==some .local||sc.names.lookup p==some .cell)&&decide ps.Nodup&&sc.names.all λy=>y.2 !=.free
theorem jt{x:lm}{names:List (lm×No)}{n:Nat}{acc:List (lm×co)}(h:(x,l6)∈names∨(acc.lookup x).isSome=true):((cellsFrom n names acc).lookup x).isSome=true:=by
 induction names generalizing n acc with
 |nil=>exact h.elim (λh=>absurd h cH) id
 |cons p r ih=>
  obtain⟨y,k⟩:=p;have z:∀n:Nat,(acc.lookup x).isSome=true->((((y,n):lm×co)::acc).lookup x).isSome=true:=λn h=>by
   rw[wE];cases x==y with
   |true=>rfl
   |false=>exact h
  have h':k≠.cell->((x,l6)∈r∨(acc.lookup x).isSome=true):=λhk=>h.imp_left λh=>(em.mp h).resolve_left λe=>hk (gZ e).2.symm;cases k with
  |cell=>
   exact ih (h.elim (λh=>(em.mp h).elim (λe=>.inr (by rw[(gZ e).1,wE,beq_self_eq_true];rfl)) .inl) λh=>.inr (z _ h))
  |_=>exact ih (h' λe=>nomatch e)
theorem DP{k:lm->Option No}{x:lm}{z:List (lm×bm)}{m:lm->Option bm}(h:∀b∈z,b.1≠x):bindL k z m x=m x:=by
 induction z generalizing m with
 |nil=>rfl
 |cons p r ih=>
  unfold bindL;rw[ih λb u=>h b (.tail _ u)];split
  ·exact if_neg (cG (h _ (.head _)))
  ·rfl
theorem DR{k:lm->Option No}{x:lm}{z:List (lm×bm)}{m:lm->Option bm}(h:∀b∈z,b.1≠x):bindC k z m x=m x:=by
 induction z generalizing m with
 |nil=>rfl
 |cons p r ih=>
  unfold bindC;rw[ih λb u=>h b (.tail _ u)];split
  ·rfl
  ·exact if_neg (cG (h _ (.head _)))
theorem ue{α:Type}{ps:List lm}{vs:List α}:∀b∈ps.zip vs,b.1∈ps:=λb z=>(eF z).1
theorem bound{k:lm->Option No}{F:aw}{x:lm}{d:D}{ps:List lm}{vs:List bm}{ds:List D}{m c:lm->Option bm}(hn:ps.Nodup)(r:Rs F vs ds)(e:(ps.zip ds).lookup x=some d):
  ∃v,R F v d/\(k x=some .local->bindL k (ps.zip vs) m x=some v)/\(k x=some .cell->bindC k (ps.zip vs) c x=some v):=by
 induction ps generalizing vs ds m c with
 |nil=>exact bE e
 |cons p ps ih=>
  cases ds with
  |nil=>exact bE e
  |cons j ds=>
   refine r.el λv vs r rs=>?_;have hn:=Db.mp hn;rw[fY,wE]at e;by_cases hx:x=p
   ·rw[hx,beq_self_eq_true]at e;have z:∀b∈ps.zip vs,b.1≠p:=λb u e=>hn.1 (e▸ue (ps:=ps) (vs:=vs) b u);rw[hx];refine cY v (db e▸r) (λhk=>?_) λhk=>?_
    ·refine(?_:bindL k (ps.zip vs) _ p=_);rw[DP z,if_pos hk];exact if_pos rfl
    ·refine(?_:bindC k (ps.zip vs) _ p=_);rw[DR z,if_neg (by rw[hk];decide)];exact if_pos rfl
   ·rw[beq_eq_false_iff_ne.mpr hx]at e;exact ih hn.2 rs e
section
variable {B:Base}{G:Fc B}{ρ:ag}{H:aa}{F:aw}
theorem iO.in{A:Da}{n m:Nat}(r:iO A n)(h:m≤n):iO A m:=(Hv r.1 (by have:=r.2.1;exact Vw this h) (by have:=r.2.2;exact Vx this h))
theorem iO.deeper{A:Da}{n:Nat}{e:vm}(r:iO A (n+1)):iO (A.deeper e) n:=⟨r.1,by
 have:=r.2.1;refine(?_:A.depth+1+2*n≤900);exact Pl this,by
 have:=r.2.2;refine(?_:A.units+3+8*n≤8000);exact Vy this⟩
noncomputable def vR:Fl->D
 |.ret d=>d
 |_=>.none
theorem dK.val{env:vm}{h:GM}{m:lm->Option bm}{x:lm}{d:D}(v:dK env F h m x d):∃v,R F v d:=by
 revert v;unfold dK;cases env.kindOf x with
 |none=>exact Ps
 |some q=>
  cases q with
  |«local»=>exactλv=>ah v λv _ r=>⟨v,r⟩
  |cell=>exactλv=>cK v λ_ v _ _ r=>⟨v,r⟩
  |free=>exactλv=>cK v λ_ v _ _ r=>⟨v,r⟩
  |_=>exact Ps
noncomputable def Q1(Q₁:bm->bv->Prop)(r:Except bm GW)(s:bv):Prop:=match r with
 |.ok (.ret v)=>Q₁ v s
 |_=>False
theorem nM{z:_}{A:Da}{c:_}{Q₁:bm->bv->Prop}{R:_}{s:bv}(h:bC z A c (Q1 Q₁) s)(k:∀v s',Q₁ v s'->R (.ok (.ret v)) s'):bC z A c R s:=ia h λr s' p=>by
 cases r with
 |error e=>exact p.elim
 |ok f=>
  cases f with
  |ret v=>exact k v s' p
  |_=>exact p.elim
noncomputable def FnQ(G:Fc B)(F:aw)(ρ:ag)(s:bv)(Q:D->ag->aa->Prop)(v:bm)(s':bv):Prop:=∃F' d z H',F.le F'/\R F' v d/\G.az F' H' s'/\G.Loc F' ρ s'/\(∀y e,z.lookup y=some e->∃v,R F' v e)/\(∀b o,b∈G.own->s.heap.get? b=some o->s'.heap.get? b=some o)/\Q d z H'
noncomputable def flV:GW->bm
 |.ret v=>v
 |_=>.none
theorem Rfl.val{fl:GW}{z:Fl}(r:Rfl F fl z):R F (flV fl) (vR z):=by
 cases fl<;>cases z<;>first|exact r.elim|exact .none|exact r
theorem qV{mg mb:lm->Option bm}{f:co}{ps:List lm}{body:List eX}{sc:bB}{n:Nat}{ds:List D}{Q:D->ag->aa->Prop}(K:Kb B mg mb)(fn:FnAt B f ps body sc)(gJ:vQ ps sc=true)(hr:iO G.A (n+1))(hl:ds.length=ps.length)
  (h:∀j:Fc B,dB j sc.names n->HS j (ps.zip ds) H body λfl bb H'=>Q (vR fl) bb H'):∀F vs,Rs F vs ds->∀s,G.az F H s->G.Loc F ρ s->
   bC (kt B.prog B.w) G.A (.call (.ref f) ⟨vs,[]⟩) (Q1 (FnQ G F ρ s Q)) s:=λF vs rs s S L=>by
 refine cut λPP kk=>?_;refine aae fn.ex λo fd ho vS Q4 Q5 aaS gc Q6 Q7 Q8=>?_;subst gc;have u:∀b o,B.T.get? b=some o->s.heap.get? b=some o:=λb o e=>(S.top b o e).1;unfold vQ at gJ;simp only[u8,ut]at gJ;obtain⟨⟨⟨⟨⟨k1,k2⟩,k3⟩,k4⟩,k5⟩,k6⟩:=gJ;have nL:fd.scope.kind=.function:=by simpa using k1
 have Mp:ps.Nodup:=by simpa using k5
 refine kk ?_;refine codeAny_call_cells (by have:=hr.2.1;show G.A.depth<1000;exact Vz this) (u _ _ ho) vS (K.lim.keeps u) (Q4.keeps u) Q5 (Q8 vs (rs.length.trans hl)) aaS (λx hx=>?_) (λY x=>?_) (by simpa using k2) (by simpa using k3) nL
 ·have:=k4 x.1 (ue _ hx);simp only[eG,beq_iff_eq]at this;rcases this with h|h
  ·exact .inl h
  ·exact .inr ⟨h,jt (.inl (cO h))⟩
 ·have jf:∀b o,s.heap.get? b=some o->Y.heap.get? b=some o:=x.toInCall.keep;refine mm x.toInCall.same λh₁ tk qW=>?_;have fresh:∀a,s.heap.objs.size≤a->s.heap.get? a=none:=λa ha=>by
   cases e:s.heap.get? a with
   |none=>rfl
   |some o'=>exact absurd (ss e) (eD.mpr ha)
  have N:s.heap.objs.size≤(si fd s.heap.objs.size f).locals:=x.toInCall.fresh;generalize Z:(si fd s.heap.objs.size f).cells=cs at*
  let own':List Addr:=(si fd s.heap.objs.size f).locals::(cs.filter λp=>cs.lookup p.1==some p.2).map (·.2)
  have Kv:∀y c,cs.lookup y=some c->c∈own':=λy c e=>.tail _ (lc.mpr ⟨(y,c),bH.mpr ⟨cO e,by simpa using e⟩,rfl⟩)
  let j:Fc B:=Fc.mk (snap G.Ot G.own s.heap) own' (si fd s.heap.objs.size f) (G.A.deeper (si fd s.heap.objs.size f)) nL Q6
   (λy c e=>⟨gE (x.above y c (cO (Z▸e))),.inl (Kv y c (Z▸e))⟩)
   (λy z c e1 e2=>name_of_addr x.apart (cO (Z▸e1)) (cO (Z▸e2))) (.head _)
  have S':j.az F H Y:=by
   have hex:∀a∈own',s.heap.get? a=none/\∃o,Y.heap.get? a=some o:=λa ha=>by
    rcases em.mp ha with rfl|ha
    ·exact⟨fresh _ N,let⟨o',_,_,e,_⟩:=x.toInCall.ns;⟨o',e⟩⟩
    ·refine ah (lc.mp ha) λjs hm nK=>?_;obtain⟨y,c⟩:=js;subst nK;obtain⟨hm,Bn⟩:=bH.mp hm;refine⟨fresh _ (Os (FB N (x.above y c hm))),?_⟩;refine ah (x.cell y c (by simpa using Bn)) λo' e _=>?_;exact⟨o',e⟩
   have:=S.enter (own':=own') (h':=Y.heap) (tk:=Y.toks) (d:=Y.drawn) jf hex;rw[qW]at this⊢;exact this
  have Fr':dB j fd.scope.names n:=⟨λy k e=>by
   have hm:=cO e;cases k with
   |«local»=>exact e
   |globalImplicit=>exact e
   |free=>have:=k6 _ hm;simp at this
   |cell=>
    refine⟨e,?_⟩;have:=jt (x:=y) (names:=fd.scope.names) (n:=s.heap.objs.size+1) (acc:=[]) (.inl hm);obtain⟨c,hc⟩:=pt.mp this;exact(ak c hc (Kv y c (Z▸hc)))
   |_=>trivial,Q7,hr.deeper⟩
  have L':j.Loc F (ps.zip ds) Y:=by
   refine⟨(ak _ x.toInCall.ns (λy d e=>?_)),λy c e=>⟨_,x.cell y c (Z▸e)⟩⟩;have hy:y∈ps:=ue _ (cO e);refine bt (bound (k:=(si fd s.heap.objs.size f).kindOf) (m:=λ_=>none) (c:=λ_=>none) Mp rs e) λv r b1 b2=>?_;have:=k4 y hy;simp only[eG,beq_iff_eq]at this;unfold dK;rcases this with h|h
   ·have hk:j.env.kindOf y=some .local:=h;rw[hk];exact(ak v (b1 h) r)
   ·have hk:j.env.kindOf y=some .cell:=h;rw[hk];have:=jt (x:=y) (names:=fd.scope.names) (n:=s.heap.objs.size+1) (acc:=[]) (.inl (cO h));refine bR (pt.mp this) λc hc=>?_;refine(jo c v hc ?_ r);have:=x.cell y c (Z▸hc);rw[b2 h]at this;exact this
  refine f8 (h j Fr' F Y S' L') (λfl aX p=>?_) λ_ _ e=>e.elim;obtain⟨F',Q3,bb,H',k,r,gr,jL,q⟩:=p;obtain⟨vM,same⟩:=S.leave gr;have aaT:=L.keep k same;have O:∀y e,bb.lookup y=some e->∃v,R F' v e:=λy e hy=>ah jL.ns λm _ hv=>(hv y e hy).val;exact Dr F' (vR Q3) bb H' k r.val vM aaT O (λb o hb e=>same b o (.inl hb) e) q
theorem HL{mg mb:lm->Option bm}{f:co}{ps:List lm}{body:List eX}{sc:bB}{n:Nat}{ds:List D}{Q:D->aa->Prop}(K:Kb B mg mb)(fn:FnAt B f ps body sc)(j:vQ ps sc=true)(u:iO G.A (n+1))(hl:ds.length=ps.length)
  (h:∀z:Fc B,dB z sc.names n->HS z (ps.zip ds) H body λfl _ H'=>Q (vR fl) H'):Vn G ρ H (λvs=>call (.ref f) vs) ds Q:=λF vs rs s S L=>
 xq (nM (qV (Q:=λd _ H'=>Q d H') K fn j u hl h F vs rs s S L) λv s' p=>Dq p λF' d O H' k r Y Z _ _ q=>⟨F',d,H',k,r,Y,Z,q⟩)
end
end
section
noncomputable abbrev Over(T h:GM):Prop:=∀b o,T.get? b=some o->h.get? b=some o
noncomputable def lO(B:Base)(C:co)(name:lm):Prop:=∀(A:Da)(Q:bm->bv->Prop)(E:bm->bv->Prop)(s:bv)(x:co)(ox od:nh)(v:bm),Over B.T s.heap->UY s.heap x ox C (some od)->qC name od=some (some v)->handedIn v=true->
 Q v {s with toks:=s.toks+1}->im (kt B.prog B.w) A (getAttr (.ref x) name true) Q E s
noncomputable def MethAt(B:Base)(C:co)(name:lm)(f:co):Prop:=∀(A:Da)(Q:bm×List bm->bv->Prop)(E:bm->bv->Prop)(s:bv)(x:co)(ox:nh)(od:Option nh)(z:sY Bool),Over B.T s.heap->UY s.heap x ox C od->shadowIn od name=some false->
 Q (.ref f,[.ref x]) s->im (kt B.prog B.w) A (O4 (.ref x) name z) Q E s
noncomputable def DS(B:Base)(C:co)(name:lm):Prop:=∀(A:Da)(Q:Unit->bv->Prop)(E:bm->bv->Prop)(s:bv)(x z:co)(es:List KM)(n:Nat)(v:bm),Over B.T s.heap->s.heap.get? x=some (fS C z)->s.heap.get? z=some (b9 es n)->
 qC name (b9 es n)=some none->es.length≤900->
 (∀h' u tk j,h'.get? z=some (b9 (es++[⟨u,.str name tk,v⟩]) (n+1))->Pv z s.heap h'->Q () {s with heap:=h',toks:=j})->im (kt B.prog B.w) A (setAttr (.ref x) name v) Q E s
structure oO(B:Base)(C fI:co):Prop where
 make:∀(A:Da)(rest:List bm)(R:qB->bv->Prop)(s:bv),Over B.T s.heap->
  bC (kt B.prog B.w) (A.under (.builtin "type.__call__" ⟨.ref C::rest,[]⟩)) (.call (.ref fI) ⟨.ref (s.heap.objs.size+1)::rest,[]⟩) (InitBack (s.heap.objs.size+1) R) {s with heap:=(s.heap.push l7).push (fS C s.heap.objs.size)}->
  bC (kt B.prog B.w) A (.call (.ref C) ⟨rest,[]⟩) R s
 Mq:∀h,Over B.T h->∃k,(k=Keeper.frame∨k=Keeper.machine∨k=Keeper.boundFrame)/\G1 (kt B.prog B.w) h (keeperOf (.ref C)) k
theorem Rf.ind{F:aw}{P:List KM->List (lm×D)->Prop}(nil:P [] [])(cons:∀h x t v d es z,R F v d->P es z->P (⟨h,.str x t,v⟩::es) ((x,d)::z)){es:List KM}{z:List (lm×D)}(r:Rf F es z):P es z:=
 Rf.rec (motive_1:=λ_ _ _=>True) (motive_2:=λ_ _ _=>True) (motive_3:=λv d _=>P v d) trivial (λ_=>trivial) (λ_ _=>trivial) (λ_ _=>trivial) (λ_ _ _=>trivial) (λ_ _ _=>trivial) (λ_=>trivial)
  (λ_ _ _ _=>trivial) (λ_=>trivial) trivial (λ_ _ _ _=>trivial) nil (λh _ _ r=>cons _ _ _ _ _ _ _ h r) r
theorem Rf.find{F:aw}{name:lm}{es:List KM}{z:List (lm×D)}(r:Rf F es z):(∀d,z.lookup name=some d->∃e,es.find? (·.key.isStr name)=some e/\R F e.val d)/\(z.lookup name=none->es.find? (·.key.isStr name)=none/\es.any (·.refKey)=false):=
 r.ind (P:=λes z=>(∀d,z.lookup name=some d->∃e,es.find? (·.key.isStr name)=some e/\R F e.val d)/\(z.lookup name=none->es.find? (·.key.isStr name)=none/\es.any (·.refKey)=false)) ⟨λ_ e=>bE e,λ_=>⟨rfl,rfl⟩⟩ λh x t v u es z r ih=>by
  have hk:(aev ⟨h,.str x t,v⟩).isStr name=(x==name):=rfl;rw[wE,kP,jT,hk];by_cases hx:name=x
  ·rw[hx,beq_self_eq_true];exact⟨λd e=>⟨_,rfl,db e▸r⟩,λe=>fg e⟩
  ·rw[beq_eq_false_iff_ne.mpr hx,beq_eq_false_iff_ne.mpr (cG hx)];exact⟨ih.1,λe=>⟨(ih.2 e).1,(ih.2 e).2⟩⟩
theorem vT{F:aw}{name:lm}{es:List KM}{n:Nat}{z:List (lm×D)}{d:D}(r:Rf F es z)(e:z.lookup name=some d):∃v,qC name (b9 es n)=some (some v)/\R F v d:=by
 refine ah (r.find.1 d e) λu j r'=>?_;refine(ak u.val ?_ r');unfold qC;simp only[j]
theorem pA{F:aw}{name:lm}{es:List KM}{n:Nat}{z:List (lm×D)}(r:Rf F es z)(e:z.lookup name=none):qC name (b9 es n)=some none:=by
 refine dv (r.find.2 e) λu e2=>?_;unfold qC;simp only[u,e2,a9,if_false]
theorem R.handed{F:aw}{v:bm}{d:D}(r:R F v d):handedIn v=true:=by cases r<;>rfl
theorem Rf.snoc{F:aw}{name:lm}{v:bm}{d:D}{h:Int}{t:Tok}{es:List KM}{z:List (lm×D)}(q:Rf F es z)(r:R F v d):Rf F (es++[⟨h,.str name t,v⟩]) (z++[(name,d)]):=
 q.ind (P:=λes z=>Rf F (es++[⟨h,.str name t,v⟩]) (z++[(name,d)])) (.cons r .nil) λ_ _ _ _ _ _ _ a ih=>.cons a ih
theorem Rf.length{F:aw}:∀{es:List KM}{z:List (lm×D)},Rf F es z->es.length=z.length
 |_,_,.nil=>rfl
 |_,_,.cons _ r=>by simp[r.length]
noncomputable def rem(H:aa)(a:co):aa:=λb=>if b=a then none else H b
theorem qX(H:aa)(a:co):rem H a a=none:=by simp[rem]
theorem uf{H:aa}{a b:co}(h:b≠a):rem H a b=H b:=by simp[rem,h]
section
variable {B:Base}{G:Fc B}{ρ:ag}{H:aa}{F:aw}{mg mb:lm->Option bm}
theorem az.over{s:bv}(S:G.az F H s):Over B.T s.heap:=λb o e=>(S.top b o e).1
theorem az.qY{s:bv}{u:co}{c:ao}{Y:nh}(S:G.az F H s)(h:H u=some c)(e:s.heap.get? u=some Y):G.az (f6 F u Y) (rem H u) s/\F.le (f6 F u Y):=by
 have N:=(S.hp u _ h).2;have hF:F u=none:=by
  cases q:F u with
  |none=>rfl
  |some o=>have:=(S.fz u o q).2.1;rw[h]at this;cases this
 have j:F.le (f6 F u Y):=λb o' e'=>by rw[eH (by rintro rfl;rw[hF]at e';cases e')];exact e'
 have Z:∀b,H b=none->rem H u b=none:=λb hb=>by unfold rem;split<;>simp[hb]
 refine⟨⟨λa o e=>have⟨x,y,z⟩:=S.top a o e;⟨x,Z _ y,z⟩,λa o e'=>?_,λa o e=>have⟨x,y,z⟩:=S.ot a o e;⟨x,Z _ y,z⟩,λa c e'=>?_,S.ex,λa o o' O e2=>?_,S.gens,S.os⟩,j⟩
 ·by_cases q:a=u
  ·subst q;rw[aM]at e';cases e';exact⟨e,qX _ _,N⟩
  ·rw[eH q]at e';obtain⟨x,y,z⟩:=S.fz a o e';exact⟨x,Z _ y,z⟩
 ·by_cases q:a=u
  ·subst q;rw[qX]at e';cases e'
  ·rw[uf q]at e';obtain⟨x,z⟩:=S.hp a c e';exact⟨x.keep j rfl,z⟩
 ·by_cases q:a=u
  ·subst q;have:=(S.ot a o' e2).2.1;rw[h]at this;cases this
  ·rw[eH q]at O;exact S.ap a o o' O e2
theorem az.zN{s:bv}{z:co}{u:List (lm×D)}(S:G.az F H s)(h:H z=some (.dN u)):∃es n,s.heap.get? z=some (b9 es n)/\G.az (f6 F z (b9 es n)) (rem H z) s/\F.le (f6 F z (b9 es n))/\Rf (f6 F z (b9 es n)) es u:=by
 refine cut λZ j=>?_;refine dv (S.hp z _ h) λq Y=>?_;refine dW q λes n e r=>?_;refine dv (Mine.Tactic.az.qY S h e) λa b=>?_;refine j ?_;exact(Dk es n e a b (r.mono b))
theorem qZ{x:lm}{z:cx}{v:bm}{s:bv}{Q:bm->bv->Prop}{nm:List (lm×No)}{n:Nat}(K:Kb B mg mb)(j:dB G nm n)(hx:nm.lookup x=some .globalImplicit)(hv:mg x=some v)(S:G.az F H s)(h:Q v s)(u:(x==("__debug__":lm))=false:=by decide):
  im (kt B.prog B.w) G.A (eval (.Name x z) G.env) Q bot s:=
 G3 G.kind (j.kd x _ hx) (loadGlobal_global (by rw[G.glob];exact K.g.keeps S.over) hv h) u
theorem nN{x:lm}{z:cx}{v:bm}{s:bv}{Q:bm->bv->Prop}{nm:List (lm×No)}{n:Nat}(K:Kb B mg mb)(u:dB G nm n)(hx:nm.lookup x=some .globalImplicit)(j:mg x=none)(hv:bp x=some v)(S:G.az F H s)(h:Q v s)
  (hn:x≠"__name__":=by decide) (hd:(x==("__debug__":lm))=false:=by decide):im (kt B.prog B.w) G.A (eval (.Name x z) G.env) Q bot s:=
 G3 G.kind (u.kd x _ hx) (loadGlobal_builtin (by rw[G.glob];exact K.g.keeps S.over) j (by rw[u.bi];exact K.b.keeps S.over) ((K.bi x hn).trans hv) h) hd
theorem mB.into{es:List lv}{Q:List D->aa->Prop}(h:mB G ρ H es Q){z:cx}{s:bv}(S:G.az F H s)(L:G.Loc F ρ s){P:List bm->bv->Prop}(k:∀F' vs ds H' s',F.le F'->Rs F' vs ds->G.az F' H' s'->G.Loc F' ρ s'->Q ds H'->P vs s'):
  im (kt B.prog B.w) G.A (spliced (Wp z (Do es G.env))) P bot s:=f8 (h z F s S L) (λvs s'⟨F',ds,H',a,b,c,d,e⟩=>k F' vs ds H' s' a b c d e) λ_ _ x=>x
theorem iP{z:cx}{es:List lv}{f:bm}{s:bv}{P:Args->bv->Prop}(hp:(Wp z (Do es G.env)).any (·.1)=false)(h:im (kt B.prog B.w) G.A (spliced (Wp z (Do es G.env))) (λvs s'=>P ⟨vs,[]⟩ s') bot s):
  im (kt B.prog B.w) G.A (evalArgs f true (Wp z (Do es G.env)) []) P bot s:=by
 revert hp h;cases Wp z (Do es G.env)with
 |nil=>exactλ_ h=>al (f8 h (λvs s' h'=>al (am (wv (al (am (al (am (am h')))))))) λ_ _ x=>x)
 |cons x r=>
  obtain⟨b,t⟩:=x;cases b with
  |true=>exactλhp _=>Ds hp
  |false=>exactλ_ h=>evalArgs_plain h
theorem HE.Mr{x:lm}{p z:cx}{args:List lv}{nm:List (lm×No)}{n:Nat}{f:co}{ps:List lm}{body:List eX}{sc:bB}{Q:D->aa->Prop}(K:Kb B mg mb)(O:dB G nm n)(hx:nm.lookup x=some .globalImplicit)(hv:mg x=some (.ref f))(fn:FnAt B f ps body sc)
  (h:mB G ρ H args λds H'=>Vn G ρ H' (λvs=>call (.ref f) vs) ds Q)
  (hp:(Wp z (Do args G.env)).any (·.1)=false:=by rfl) (hd:(x==("__debug__":lm))=false:=by decide)
  (he:eval (.Call (.Name x p) args [] z) G.env=(do l8 z (←eval (.Name x p) G.env) [] (Wp z (Do args G.env)) (i6 z (eL [] G.env))):=by rfl):
  HE G ρ H (.Call (.Name x p) args [] z) Q:=λF s S L=>by
 refine cut λPP Y=>?_;refine cK fn.ex λo fd Z j _=>?_;refine Y ?_;refine dm (qZ K O hx hv S (N4 (o:=o) (fd:=fd) (iP hp (h.into S L λF' vs ds H' s' k r u N q=>⟨⟨u.over _ _ Z,j⟩,?_⟩))) hd) he;exact f8 (q F' vs r s' u N) (λ_ _ p=>p.up k λ_ _ x=>x) λ_ _ x=>x
theorem HE.Ra{x:lm}{p z:cx}{args:List lv}{nm:List (lm×No)}{n:Nat}{id:String}{Q:D->aa->Prop}(K:Kb B mg mb)(j:dB G nm n)(hx:nm.lookup x=some .globalImplicit)(u:mg x=none)(hv:bp x=some (.builtin id))
  (h:mB G ρ H args λds H'=>Vn G ρ H' (λvs=>call (.builtin id) vs) ds Q)
  (hp:(Wp z (Do args G.env)).any (·.1)=false:=by rfl) (hn:x≠"__name__":=by decide) (hd:(x==("__debug__":lm))=false:=by decide)
  (he:eval (.Call (.Name x p) args [] z) G.env=(do l8 z (←eval (.Name x p) G.env) [] (Wp z (Do args G.env)) (i6 z (eL [] G.env))):=by rfl):
  HE G ρ H (.Call (.Name x p) args [] z) Q:=λF s S L=>by
 refine dm (nN K j hx u hv S (Calls.callWith_builtin hp (iP hp (h.into S L λF' vs ds H' s' k r Y Z q=>?_))) hn hd) he;exact f8 (q F' vs r s' Y Z) (λ_ _ p=>p.up k λ_ _ x=>x) λ_ _ x=>x
theorem HE.Rb{x:lm}{p z:cx}{args:List lv}{nm:List (lm×No)}{n:Nat}{id:String}{Q:D->aa->Prop}(K:Kb B mg mb)(j:dB G nm n)(hx:nm.lookup x=some .globalImplicit)(u:mg x=none)(hv:bp x=some (.type id))
  (h:mB G ρ H args λds H'=>Vn G ρ H' (λvs=>call (.type id) vs) ds Q)
  (hp:(Wp z (Do args G.env)).any (·.1)=false:=by rfl) (hn:x≠"__name__":=by decide) (hd:(x==("__debug__":lm))=false:=by decide)
  (he:eval (.Call (.Name x p) args [] z) G.env=(do l8 z (←eval (.Name x p) G.env) [] (Wp z (Do args G.env)) (i6 z (eL [] G.env))):=by rfl):
  HE G ρ H (.Call (.Name x p) args [] z) Q:=λF s S L=>by
 refine dm (nN K j hx u hv S (hU hp (iP hp (h.into S L λF' vs ds H' s' k r Y Z q=>?_))) hn hd) he;exact f8 (q F' vs r s' Y Z) (λ_ _ p=>p.up k λ_ _ x=>x) λ_ _ x=>x
theorem vU{x C:co}{z:List (lm×D)}{u:bm}{s:bv}(S:G.az F H s)(r:R F u (.obj x C z)):∃j es n,u=.ref x/\UY s.heap x (fS C j) C (some (b9 es n))/\Rf F es z:=
 r.el λj es n h1 Y q=>Hy _ _ _ rfl ⟨(S.fz _ _ h1).1,rfl,rfl,(S.fz _ _ Y).1⟩ q
theorem HE.attr{z:lv}{name:lm}{j:cx}{Q:D->aa->Prop}(h:HE G ρ H z λa H1=>∃x C Y d,a=.obj x C Y/\lO B C name/\Y.lookup name=some d/\Q d H1)
  (he:eval (.Attribute z name j) G.env=(do
   let o←eval z G.env
   iZ j.atName
   let r←mM [o] (getAttr o name true)
   UZ z o r
   pure r):=by rfl):HE G ρ H (.Attribute z name j) Q:=λF s S L=>
 Attribute_any_ (h.then S L λF' a H' u s' k r Z L' N=>aan N λx C Y d ea fa hl q=>by
  subst ea;refine cut λPP kk=>?_;refine mn (vU Z r) λdx es n js I O=>?_;subst js;refine ah (vT (n:=n) O hl) λv e1 rv=>?_;refine kk ?_;exact fa _ _ _ _ _ _ _ _ Z.over I e1 rv.handed ⟨F',d,H',k,rv,Z.toks _,L'.keep (.refl _) λ_ _ _ e=>e,q⟩) he
noncomputable def VM(G:Fc B)(ρ:ag)(H:aa)(name:lm)(a:D)(args:List lv)(Q:D->aa->Prop):Prop:=
 ∀F u,R F u a->∀z s,G.az F H s->G.Loc F ρ s->MethodOn B.prog B.w G.A name z u (Wp z (Do args G.env)) (dY G F ρ Q) bot s
theorem iO.under{A:Da}{n:Nat}{C:co}{z:List bm}(r:iO A (n+1)):iO (A.under (.builtin "type.__call__" ⟨.ref C::z,[]⟩)) n:=⟨r.1,by
 have:=r.2.1;refine(?_:A.depth+1+2*n≤900);exact Pl this,by
 have:=r.2.2;refine(?_:A.units+1+8*n≤8000);exact VA this⟩
noncomputable def Fc.under(G:Fc B)(c:Code):Fc B:={G with A:=G.A.under c}
theorem HM{C fI:co}{ps:List lm}{body:List eX}{sc:bB}{n:Nat}{ds:List D}{Q:D->aa->Prop}(K:Kb B mg mb)(mk:oO B C fI)(fn:FnAt B fI ("self"::ps) body sc)(gJ:vQ ("self"::ps) sc=true)(hr:iO G.A (n+2))(hl:ds.length=ps.length)
  (h:∀x j,H j=none->∀O:Fc B,dB O sc.names n->HS O ((("self":lm),D.ins x C j)::ps.zip ds) (upd H j (.dN [])) body λfl Z H'=>vR fl=.none/\((∃z,H' j=some (.dN z)/\Q (.obj x C z) (rem H' j))∨∃z,my ("self":lm) Z=some (D.obj x C z)/\Q (.obj x C z) H')):
  Vn G ρ H (λvs=>call (.ref C) vs) ds Q:=λF vs rs s S L=>by
 refine xq (mk.make _ _ _ _ S.over ?_);have hdn:s.heap.get? s.heap.objs.size=none:=aF _;have GN:(s.heap.push l7).objs.size=s.heap.objs.size+1:=gw ..;have hxn:(s.heap.push l7).get? (s.heap.objs.size+1)=none:=GN▸aF _;have hx:((s.heap.push l7).push (fS C s.heap.objs.size)).get? (s.heap.objs.size+1)=some (fS C s.heap.objs.size):=GN▸g3 _ rfl;refine dv (S.new (h':=s.heap.push l7) (tk:=s.toks) (d:=s.drawn) (a:=s.heap.objs.size) (c:=.dN []) au (pQ ([]) 0 (g3 _ rfl) (.nil)) hdn) λS1 hH=>?_;refine dv (S1.frozen (h':=(s.heap.push l7).push (fS C s.heap.objs.size)) (tk:=s.toks) (d:=s.drawn) (a:=s.heap.objs.size+1) au hx hxn) λS2 Y=>?_;have L2:G.Loc (f6 F (s.heap.objs.size+1) (fS C s.heap.objs.size)) ρ {s with heap:=(s.heap.push l7).push (fS C s.heap.objs.size)}:=L.keep Y λb o _ e=>au b o (au b o e);refine nM (qV (G:=G.under (.builtin "type.__call__" ⟨.ref C::vs,[]⟩)) (ρ:=ρ) (n:=n) (Q:=λd Z H'=>d=.none/\((∃z,H' s.heap.objs.size=some (.dN z)/\Q (.obj (s.heap.objs.size+1) C z) (rem H' s.heap.objs.size))∨∃z,my ("self":lm) Z=some (D.obj (s.heap.objs.size+1) C z)/\Q (.obj (s.heap.objs.size+1) C z) H'))
  K fn gJ hr.under (ds:=.ins (s.heap.objs.size+1) C s.heap.objs.size::ds) (by simp[hl]) (λO fr=>h _ _ hH O fr) _ _ (.cons (.ins (aM F _ _)) (rs.mono Y)) _ S2 ⟨L2.ns,L2.cell⟩) λv s' p=>?_
 refine aaq p λF' d Z H' k r S' L' u _ HN q=>?_;subst HN;refine R.el r ?_;refine⟨rfl,?_⟩;have hFx:F' (s.heap.objs.size+1)=some (fS C s.heap.objs.size):=k _ _ (aM F _ _);have Bj:G.Loc F' ρ s':=⟨L'.ns,L'.cell⟩;refine q.elim (λq=>ah q λz e q=>?_) λq=>ah q λz e q=>?_
 ·refine cut λPP kk=>?_;refine pR (Mine.Tactic.az.zN (G:=G) S' e) λes n' e1 S3 k3 N=>?_;refine kk ?_;exact⟨_,_,_,(Y.trans k).trans k3,.obj (k3 _ _ hFx) (aM _ _ _) N,S3,Bj.keep k3 λ_ _ _ e=>e,q⟩
 ·exact bR (u _ _ e) λv r=>R.el (P:=λ_=>_) r λ_ _ _ h1 h2 N=>⟨_,_,_,Y.trans k,.obj h1 h2 N,S',Bj,q⟩
theorem HE.callC{x:lm}{p z:cx}{args:List lv}{nm:List (lm×No)}{n:Nat}{C Y:co}{Q:D->aa->Prop}(K:Kb B mg mb)(j:dB G nm n)(hx:nm.lookup x=some .globalImplicit)(hv:mg x=some (.ref C))(mk:oO B C Y)
  (h:mB G ρ H args λds H'=>Vn G ρ H' (λvs=>call (.ref C) vs) ds Q)
  (hp:(Wp z (Do args G.env)).any (·.1)=false:=by rfl) (hd:(x==("__debug__":lm))=false:=by decide)
  (he:eval (.Call (.Name x p) args [] z) G.env=(do l8 z (←eval (.Name x p) G.env) [] (Wp z (Do args G.env)) (i6 z (eL [] G.env))):=by rfl):
  HE G ρ H (.Call (.Name x p) args [] z) Q:=λF s S L=>by
 refine dm (qZ K j hx hv S (callWith_of (P:=λh=>Over B.T h) (by rw[hp];rfl) mk.Mq (iP hp (h.into S L λF' vs ds H' s' k r u Z q=>⟨u.over,?_⟩))) hd) he;exact f8 (q F' vs r s' u Z) (λ_ _ p=>p.up k λ_ _ x=>x) λ_ _ x=>x
theorem H1.HO{o z:lv}{name:lm}{p Z:cx}{Q:Fl->ag->aa->Prop}(h:HE G ρ H z λv H1=>HE G ρ H1 o λa H2=>∃x C Y j,a=.ins x C Y/\DS B C name/\H2 Y=some (.dN j)/\j.lookup name=none/\j.length≤900/\Q .next ρ (upd H2 Y (.dN (j++[(name,v)]))))
  (hs:l5 z (some (.Attribute o name p)) Z.line G.env=pure false:=by rfl):H1 G ρ H (.Assign [.Attribute o name p] z Z) Q:=λF s S L=>
 plainObj_wpAny_Assign_Attribute (h.then S L λF1 v H1 u s1 k1 r1 S1 L1 q1=>q1.then S1 L1 λF2 a H2 y s2 k2 r2 O L2 Ms=>Dp Ms λx C Y j ea sa hH hl hz q=>by
  rw[ea]at r2;refine r2.el λhx=>dW (O.hp Y _ hH).1 λes n e N=>?_;refine sa _ _ _ _ x Y es n u O.over (O.fz _ _ hx).1 e (pA N hl) (by rw[N.length];exact hz) λh' Uk tk Q9 hd zM=>?_;exact⟨F2,.next,ρ,_,k1.trans k2,trivial,O.change (h':=h') (tk:=Q9) (d:=s2.drawn) (c':=.dN (j++[(name,v)])) hH (λb o hb e=>(zM.2 b hb).trans e) (pQ _ _ hd (N.snoc (r1.mono k2))),
   L2.keep (.refl _) λb o hb e=>(zM.2 b λq=>bE ((qM O hb).symm.trans (q▸hH))).trans e,q⟩) hs
theorem dK.up{env:vm}{F F':aw}{h:GM}{m:lm->Option bm}{x:lm}{d z:D}(v:dK env F h m x d)(k:∀v,R F v d->R F' v z):dK env F' h m x z:=by
 revert v;unfold dK;cases env.kindOf x with
 |none=>exact id
 |some q=>
  cases q with
  |«local»=>exactλv=>ah v λv e r=>⟨v,e,k v r⟩
  |cell=>exactλv=>cK v λc v e i r=>⟨c,v,e,i,k v r⟩
  |free=>exactλv=>cK v λc v e i r=>⟨c,v,e,i,k v r⟩
  |_=>exact id
theorem Mt{x C z:co}{u:List (lm×D)}{s:bv}{es:List KM}{n:Nat}(hs:my ("self":lm) ρ=some (D.ins x C z))(j:G.Loc (f6 F z (b9 es n)) ρ s)(Y:Rf (f6 F z (b9 es n)) es u):G.Loc (f6 F z (b9 es n)) (dJ "self" (.obj x C u) ρ) s:=
 ah j.ns λm hn hv=>⟨⟨m,hn,λy d hy=>by
  by_cases q:y=("self":lm)
  ·rw[q,lK]at hy;rw[q,←db hy];exact(hv _ _ hs).up λv r=>r.el λhx=>.obj hx (aM _ _ _) Y
  ·rw[lL q]at hy;exact hv y d hy⟩,j.cell⟩
end
end
section
section
variable {B:Base}{G:Fc B}{ρ:ag}{H:aa}{F:aw}
theorem cq{s:bv}{l:co}{ds:List D}(S:G.az F H s)(h:H l=some (.list ds)):∃vs n,IsL s.heap l vs.toArray n/\Rs F vs ds:=(S.hp l _ h).1
theorem nO:1000000≤sizeLine:=ce rfl
theorem Rc{vs:List bm}{n c:Nat}(h:vs.length=n)(z:n≤c):vs.toArray.size≤c:=show vs.length≤c from h▸z
theorem DT{vs:List bm}{n:Nat}(h:vs.length=n)(z:n≤ga):(vs.toArray.size:Int)<2^63:=Int.lt_of_le_of_lt (xt.mpr (Rc h z)) (by decide)
theorem Ow{vs ws:List bm}{n m c:Nat}(h:vs.length=n)(k:ws.length=m)(z:n+m≤c):vs.toArray.size+ws.toArray.size≤c:=show vs.length+ws.length≤c from h▸k▸z
theorem xU{h:GM}{vs ws:List bm}{T:bm}:(h.push {cls:=T,data:=.seq (vs.toArray++ws.toArray)}).get? h.objs.size=some {cls:=T,data:=.seq (vs++ws).toArray}:=by
 rw[iJ];exact g3 _ rfl
theorem dY.oP{s:bv}{l:co}{ds es:List D}{vs ws:List bm}{n:Nat}{f:Array bm->Array bm}{v:bm}{d:D}{u:aw}{Q:D->aa->Prop}(k:u.le F)(S:G.az F H s)(L:G.Loc F ρ s)(h:H l=some (.list ds))(hl:IsL s.heap l vs.toArray n)(hf:f vs.toArray=ws.toArray)(r:Rs F ws es)(rv:R F v d)
  (q:Q d (upd H l (.list es))):dY G u ρ Q v {s with heap:=s.heap.update l (bf f)}:=
 ⟨F,d,_,k,rv,S.change (h':=s.heap.update l (bf f)) (tk:=s.toks) (d:=s.drawn) (c':=.list es) h (λb o z e=>(KF _ _ (cG z)).trans e) (pQ ws _ (hf▸IsL.update hl f) r),
  L.keep (.refl _) λb o z e=>(KF _ _ λq=>bE ((qM S z).symm.trans (q▸h))).trans e,q⟩
theorem noDict{s:bv}{l:co}{items:Array bm}{n:Nat}(hl:IsL s.heap l items n):∀a,dC l=.ref a->∃z,s.heap.get? a=some z/\z.dict=none:=λa e=>ak _ (Cw e▸hl) rfl
theorem VM.append{l:co}{e:lv}{Q:D->aa->Prop}(h0:∃ds,H l=some (.list ds))(h:HE G ρ H e λd H1=>∃ds,H1 l=some (.list ds)/\ds.length≤ga/\Q .none (upd H1 l (.list (ds++[d]))))
  (ht:∀z,Wp z (Do [e] G.env)=[(false,eval e G.env)]:=by intro _;rfl):VM G ρ H "append" (.ref l) [e] Q:=λF u O z s S L=>O.el (h0.elim λds h0=>dW (cq S h0) λvs n hl r=>by
 rw[ht];exact vB "list" _ a8 PySem.F.slot_list_append PySem.F.type_list_append (ak _ hl rfl) (noDict hl) (P.append_list (h.then S L λF1 d H1 v s1 k1 N Z L1 q=>bt q λes h1 hz q=>dW (cq Z h1) λws m Y j=>
  jo ws.toArray m (Rc j.length hz) Y (.oP k1 Z L1 h1 Y (ws:=ws++[v]) (List.push_toArray _ _) (Hz j N) .none q))))
theorem VM.pop{l:co}{ds:List D}{d:D}{Q:D->aa->Prop}(h:H l=some (.list (ds++[d])))(hz:ds.length≤1000000)(q:Q d (upd H l (.list ds))):VM G ρ H "pop" (.ref l) [] Q:=λF u Y Z s S L=>Y.el (dW (cq S h) λvs n hl r=>cK r.split λv1 v2 e j z=>by
 rw[e]at hl;revert hl;refine z.el λv vs rv z=>z.el λhl=>?_;refine vB "list" _ a8 PySem.F.slot_list_pop PySem.F.type_list_pop (ak _ hl rfl) (noDict hl) (P.pop_list (y:=v) hl (by simp) (.oP (.refl _) S L h hl (ws:=v1) ?_ j rv q) ?_)
 ·show(v1++[v]).toArray.eraseIdxIfInBounds ((v1++[v]).toArray.size-1)=v1.toArray;simp[List.eraseIdx_append_of_length_le]
 ·exact Rc (j.append (.cons rv .nil)).length (by rw[ci];exact cr (dP hz) (ce rfl)))
theorem VM.DU{l:co}{e:lv}{Q:D->aa->Prop}(h0:∃ds,H l=some (.list ds))(h:HE G ρ H e λd H1=>∃ds es,d=.fl es/\H1 l=some (.list ds)/\ds.length+es.length≤1000000/\Q .none (upd H1 l (.list (ds++es))))
  (ht:∀z,Wp z (Do [e] G.env)=[(false,eval e G.env)]:=by intro _;rfl):VM G ρ H "extend" (.ref l) [e] Q:=λF u N z s S L=>N.el (h0.elim λds h0=>dW (cq S h0) λvs n hl r=>by
 rw[ht];exact vB "list" _ a8 bM fC (ak _ hl rfl) (noDict hl) (P.extend_list (h.then S L λF1 d H1 v s1 k1 r1 j L1 q=>pR q λds es ed h1 hz q=>dW (cq j h1) λws m O Y=>(ed▸r1:R F1 v (.fl es)).el λb Z nb e1 rs=>
  have hs:=Ow Y.length rs.length (cr hz nO)
  Qt b ws.toArray Z.toArray m nb (cD hs) (cE hs) (iF hs) rfl O ((j.fz _ _ e1).1) (.oP k1 j L1 h1 O (ws:=ws++Z) (iJ _ _) (Y.append rs) .none q))))
theorem VM.xV{l l2:co}{e:lv}{Q:D->aa->Prop}(h0:∃ds,H l=some (.list ds))(h:HE G ρ H e λd H1=>∃l2 ds es,d=.ref l2/\H1 l=some (.list ds)/\H1 l2=some (.list es)/\ds.length+es.length≤1000000/\Q .none (upd H1 l (.list (ds++es))))
  (ht:∀z,Wp z (Do [e] G.env)=[(false,eval e G.env)]:=by intro _;rfl):VM G ρ H "extend" (.ref l) [e] Q:=λF u ru z s S L=>ru.el (h0.elim λds h0=>dW (cq S h0) λvs n hl r=>by
 rw[ht];exact vB "list" _ a8 bM fC (ak _ hl rfl) (noDict hl) (P.extend_list (h.then S L λF1 d H1 v s1 k1 r1 j L1 q=>Qr q λl2 ds es ed h1 h2 hz q=>dW (cq j h1) λws m O Y=>dW (cq j h2) λZ nb N rs=>(ed▸r1:R F1 v (.ref l2)).el
  (have hs:=Ow Y.length rs.length (cr hz nO)
  Qt l2 ws.toArray Z.toArray m nb (cD hs) (cE hs) (iF hs) rfl O N (.oP k1 j L1 h1 O (ws:=ws++Z) (iJ _ _) (Y.append rs) .none q)))))
theorem VM.Bo{l:co}{e:lv}{Q:D->aa->Prop}(h0:∃ds,H l=some (.list ds))(h:HE G ρ H e λd H1=>∃ds es,d=.tup es/\H1 l=some (.list ds)/\ds.length+es.length≤1000000/\Q .none (upd H1 l (.list (ds++es))))
  (ht:∀z,Wp z (Do [e] G.env)=[(false,eval e G.env)]:=by intro _;rfl):VM G ρ H "extend" (.ref l) [e] Q:=λF u N z s S L=>N.el (h0.elim λds h0=>dW (cq S h0) λvs n hl r=>by
 rw[ht];exact vB "list" _ a8 bM fC (ak _ hl rfl) (noDict hl) (seqMethod1_meets bM r6 (h.then S L λF1 d H1 v s1 k1 r1 Y L1 q=>pR q λds es ed h1 hz q=>dW (cq Y h1) λws m j Z=>(ed▸r1:R F1 v (.tup es)).el λb O nb e1 rs=>
  have hs:=Ow Z.length rs.length (cr hz nO)
  ⟨(ak _ j rfl),qD _ _,_,N5 l ws.toArray m b O.toArray nb (iF hs) (cD hs) (cE hs),j,(Y.fz _ _ e1).1,.oP k1 Y L1 h1 j (ws:=ws++O) (iJ _ _) (Z.append rs) .none q⟩)))
theorem V2.Mu{ds es:List D}{Q:D->aa->Prop}(hz:ds.length+es.length≤ga)(q:Q (.tup (ds++es)) H):V2 G ρ H (i4 .Add) (.tup ds) (.tup es) Q:=λF u v O rv s S L=>O.el λa vs n Z Y=>rv.el λb ws m e2 j=>by
 have h1:=(S.fz _ _ Z).1;have z:=(S.fz _ _ e2).1;cases vs with
 |nil=>
  revert q;exact Y.le λq=>aew ⟨_,h1,rfl⟩ ⟨_,z,rfl⟩ O5 acJ tY sZ (sj _ _) (N6 a [].toArray n b ws.toArray m rfl) ⟨h1,z,.here (.tup e2 j) S L q⟩
 |cons x vs=>
  cases ws with
  |nil=>
   revert q;refine j.le λq=>?_;rw[t3]at q;exact aew ⟨_,h1,rfl⟩ ⟨_,z,rfl⟩ O5 acJ tY sZ (sj _ _) (N7 a (x::vs).toArray n b [].toArray m wP rfl) ⟨h1,z,.here (.tup Z Y) S L q⟩
  |cons y ws=>exact P.add_tuple h1 z wP wP (.tup (s:=s) (n:=0) (vs:=(x::vs)++y::ws) (.refl _) (Y.append j) S L au xU (aF _) q) (Ow Y.length j.length hz)
theorem V2.HP{Y l2:co}{ds es:List D}{Q:D->aa->Prop}(h1:H Y=some (.list ds))(O:H l2=some (.list es))(hz:ds.length+es.length≤ga)(q:∀a,H a=none->Q (.ref a) (upd H a (.list (ds++es)))):V2 G ρ H (i4 .Add) (.ref Y) (.ref l2) Q:=λF u v Z rv s S L=>
 Z.el (rv.el (dW (cq S h1) λvs n N j=>dW (cq S O) λws m e2 z=>P.add_list N e2 (.new (s:=s) (c:=.list (ds++es)) (.refl _) S L au (pQ (vs++ws) 0 xU (j.append z)) (aF _) (q _)) (Ow j.length z.length hz)))
theorem V2.Bp{l2:co}{ds es:List D}{Q:D->aa->Prop}(Z:H l2=some (.list es))(hz:ds.length+es.length≤ga)(q:Q (.fl (ds++es)) H):V2 G ρ H (i4 .Add) (.fl ds) (.ref l2) Q:=λF u v Y rv s S L=>
 Y.el λa vs n O j=>rv.el (dW (cq S Z) λws m e2 z=>P.add_list (S.fz _ _ O).1 e2 (.fl (s:=s) (n:=0) (vs:=vs++ws) (.refl _) (j.append z) S L au xU (aF _) q) (Ow j.length z.length hz))
theorem Vn.one{f:List bm->sY bm}{a:D}{Q:D->aa->Prop}(h:V1 G ρ H (λv=>f [v]) a Q):Vn G ρ H f [a] Q:=λF vs r=>r.el λv vs r rs=>rs.el (h F v r)
theorem d6{v:bm}{d:D}{s:bv}{tk:Nat}{Q:D->aa->Prop}(r:R F v d)(S:G.az F H s)(L:G.Loc F ρ s)(q:Q d H):dY G F ρ Q v {s with toks:=tk}:=.here r (S.toks tk) (L.keep (.refl _) λ_ _ _ e=>e) q
theorem Vn.Mv{ds:List D}{Q:D->aa->Prop}(hz:ds.length≤ga)(q:Q (.int ds.length) H):Vn G ρ H (λvs=>call (.builtin "len") vs) [.tup ds] Q:=.one λF u z s S L=>z.el λa vs n e r=>
 P.len_tuple (S.fz _ _ e).1 (Int.not_le.mpr (DT r.length hz)) (d6 (r.length▸.int _ _) S L q)
theorem Vn.Rd{ds:List D}{Q:D->aa->Prop}(hz:ds.length≤ga)(q:Q (.int ds.length) H):Vn G ρ H (λvs=>call (.builtin "len") vs) [.fl ds] Q:=.one λF u z s S L=>z.el λa vs n e r=>
 acK (items:=vs.toArray) ⟨_,(S.fz _ _ e).1,rfl,_,rfl⟩ (DT r.length hz) (d6 (r.length▸.int _ _) S L q)
theorem Vn.HQ{l:co}{ds:List D}{Q:D->aa->Prop}(h:H l=some (.list ds))(hz:ds.length≤ga)(q:Q (.int ds.length) H):Vn G ρ H (λvs=>call (.builtin "len") vs) [.ref l] Q:=.one λF u z s S L=>z.el (dW (cq S h) λvs n e r=>
 acK e.isList (DT r.length hz) (d6 (r.length▸.int _ _) S L q))
theorem DV{h h':GM}(hk:∀b o,h.get? b=some o->h'.get? b=some o):h.get? h'.objs.size=none:=nA.mpr λo q=>absurd (ss (hk _ _ q)) (ZB _)
theorem Vn.Rg{ds:List D}{Q:D->aa->Prop}(hz:ds.length≤ga)(q:Q (.tup ds) H):Vn G ρ H (λvs=>call (.type "tuple") vs) [.fl ds] Q:=.one λF u z s S L=>z.el λa vs n e r=>
 call_tuple_list (l:=a) (items:=vs.toArray) ⟨_,(S.fz _ _ e).1,rfl,_,rfl⟩ (λh' hk=>.tup (F:=F) (s:=s) (n:=0) (.refl _) r S L (λb o e=>dL _ (hk b o e)) (g3 _ rfl) (DV hk) q) (Rc r.length hz)
theorem Vn.Mw{ds:List D}{Q:D->aa->Prop}(q:Q (.tup ds) H):Vn G ρ H (λvs=>call (.type "tuple") vs) [.tup ds] Q:=.one λF u z s S L=>z.el λa vs n e r=>
 call_tuple_same ⟨_,(S.fz _ _ e).1,rfl,_,rfl⟩ (.here (.tup e r) S L q)
theorem Vn.HR{ds:List D}{Q:D->aa->Prop}(hz:ds.length≤ga)(q:∀a,H a=none->Q (.ref a) (upd H a (.list ds))):Vn G ρ H (λvs=>call (.type "list") vs) [.tup ds] Q:=.one λF u z s S L=>z.el λa vs n e r=>
 call_list_seq _ (.inr rfl) (S.fz _ _ e).1 rfl rfl (λh' c' hk hl=>.new (s:=s) (c:=.list ds) (.refl _) S L hk (pQ _ c' hl r) (aF _) (q _)) (Rc r.length hz)
theorem Vn.abs{i:Int}{Q:D->aa->Prop}(q:Q (.int i.natAbs) H):Vn G ρ H (λvs=>call (.builtin "abs") vs) [.int i] Q:=.one λF u z s S L=>z.el λt=>call_abs_int λu tk=>d6 (by
 rw[show(if i<0 then-i else i)=(i.natAbs:Int) by split<;>first|exact Z7 (by assumption)|exact Z8 (by assumption)];exact .int _ _) S L q
end
end
section
section
variable {B:Base}{G:Fc B}{ρ:ag}{H:aa}{F:aw}{mg mb:lm->Option bm}
theorem fh.at{s:bv}{a:co}{c:ao}(S:G.az F H s)(h:fh H a c):cM B.prog B.w F s.heap a c/\a∉G.own:=h.elim (S.hp a c) λh=>h.elim λo h=>⟨(S.hp a _ h).1.2,(S.hp a _ h).2⟩
theorem fh.sys(K:Kb B mg mb){s:bv}{a:co}{c:ao}(S:G.az F H s)(h:fh H a c):(a==gD)=false:=beq_eq_false_iff_ne.mpr λq=>K.sys.elim λo e=>
 have e:=(S.top _ o e).2.1
 h.elim (λh=>bE (e.symm.trans (q▸h))) λh=>h.elim λo h=>bE (e.symm.trans (q▸h))
theorem fh.mk{a:co}{c:ao}(h:H a=some c):fh H a c:=.inl h
theorem Bq{s:bv}{a:co}{c c':ao}{h':GM}{tk:Nat}{Q:aa->Prop}(S:G.az F H s)(L:G.Loc F ρ s)(h:H a=some c)(hs:Pv a s.heap h')(ha:cM B.prog B.w F h' a c')(q:Q (upd H a c')):
  ∃H',G.az F H' {s with heap:=h',toks:=tk}/\G.Loc F ρ {s with heap:=h',toks:=tk}/\Q H':=
 cY _ (S.change (tk:=tk) (d:=s.drawn) h (λb o z e=>(hs.2 b z).trans e) ha) (L.keep (.refl _) λb o z e=>(hs.2 b λq=>bE ((qM S z).symm.trans (q▸h))).trans e) q
theorem dY.up1{s:bv}{a:co}{c c':ao}{h':GM}{tk:Nat}{v:bm}{d:D}{z:aw}{Q:D->aa->Prop}(k:z.le F)(S:G.az F H s)(L:G.Loc F ρ s)(h:H a=some c)(hs:Pv a s.heap h')(ha:cM B.prog B.w F h' a c')(rv:R F v d)(q:Q d (upd H a c')):
  dY G z ρ Q v {s with heap:=h',toks:=tk}:=bt (Bq (Q:=Q d) S L h hs ha q) λH' u j q=>⟨F,d,_,k,rv,u,j,q⟩
structure gd(B:Base){K:Type}[DecidableEq K](knd:ph B.prog B.w K)(kd:K->D)(ct:List (K×D)->ao):Prop where
 key:∀F v k,R F v (kd k)->knd.is k v=true/\(N8 v).isSome=true
 val:∀F v k,knd.is k v=true->R F v (kd k)
 cont:∀F h a es,cM B.prog B.w F h a (ct es)↔∃kvs,h.DictOf knd a kvs/\Rp F kvs es
theorem iQ(B:Base):gd B (mK B.prog B.w) .int .dI:=⟨λF v k r=>r.el λt=>⟨mN _ _ _ _,rfl⟩,λF v k h=>by
 cases v with
 |int i t=>exact(show i=k from eq_of_beq h)▸.int _ _
 |_=>exact eR h,λF h a es=>xu⟩
theorem kindS(B:Base):gd B (strKind B.prog B.w) .str .dS:=⟨λF v k r=>r.el λt=>⟨strKind_is _ _ _ _,rfl⟩,λF v k h=>by
 cases v with
 |str i t=>exact(show i=k from eq_of_beq h)▸.str _ _
 |_=>exact eR h,λF h a es=>xu⟩
variable {Ky:Type}[DecidableEq Ky]{knd:ph B.prog B.w Ky}{kd:Ky->D}{ct:List (Ky×D)->ao}
theorem Kw{kvs:List (Ky×bm)}{es:List (Ky×D)}(r:Rp F kvs es)(k:Ky):(C3 kvs k).isSome=(eS es k).isSome:=
 (r.find k).elim (λe=>by rw[e.1,e.2];rfl) λq=>cK q λv d z e2 _=>by rw[z,e2];rfl
theorem gd.get(X:gd B knd kd ct){h:GM}{a:co}{es:List (Ky×D)}{P:Prop}(c:cM B.prog B.w F h a (ct es))(k:∀kvs,h.DictOf knd a kvs->Rp F kvs es->P):P:=ah ((X.cont _ _ _ _).mp c) k
theorem V2.Kx{z j:lv}{a:co}{es:List (Ky×D)}{k:Ky}{d:D}{Q:D->aa->Prop}(X:gd B knd kd ct)(h:fh H a (ct es))(Z:eS es k=some d)(q:Q d H):V2 G ρ H (bc z j) (.ref a) (kd k) Q:=λF u v Y rv s S L=>
 Y.el (X.get (h.at S).1 λkvs hm r=>ah (r.at Z) λx e rx=>gR hm.typeIs N9.lookup (wpAny_getItem_of (X.key _ _ _ rv).1 hm.mapOf e (d6 rx S L q)))
theorem V2.dIn{a:co}{es:List (Ky×D)}{k:Ky}{Q:D->aa->Prop}(X:gd B knd kd ct)(K:Kb B mg mb)(h:fh H a (ct es))(q:Q (.bool (eS es k).isSome) H):V2 G ρ H (M2 .In) (kd k) (.ref a) Q:=λF u v z rv s S L=>
 rv.el (X.get (h.at S).1 λkvs hm r=>wpAny_in_of (X.key _ _ _ z).1 (h.sys K S) hm.mapOf (d6 (Kw r k▸.bool _) S L q))
theorem V2.Mx{a:co}{es:List (Ky×D)}{k:Ky}{Q:D->aa->Prop}(X:gd B knd kd ct)(K:Kb B mg mb)(h:fh H a (ct es))(q:Q (.bool (!(eS es k).isSome)) H):V2 G ρ H (M2 .NotIn) (kd k) (.ref a) Q:=λF u v z rv s S L=>
 rv.el (X.get (h.at S).1 λkvs hm r=>wpAny_notIn_of (X.key _ _ _ z).1 (h.sys K S) hm.mapOf (d6 (Kw r k▸.bool _) S L q))
theorem xO.dict{a:co}{es:List (Ky×D)}{k:Ky}{v:D}{Q:aa->Prop}(X:gd B knd kd ct)(h:H a=some (ct es))(hz:es.length≤ga)(q:Q (upd H a (ct (dput es k v)))):xO G ρ H (.ref a) (kd k) v Q:=λF x y z rx j u s S L=>
 rx.el (X.get (S.hp a _ h).1 λkvs hm r=>wpAny_setItem_pairs (X.key _ _ _ j).1 hm (λh' Y hs=>Bq S L h hs ((X.cont _ _ _ _).mpr (ak _ Y (r.put k u))) q) (by rw[r.length];exact hz))
theorem VM.aaW{a:co}{z e2:lv}{Q:D->aa->Prop}(X:gd B knd kd ct)(K:Kb B mg mb){es:List (Ky×D)}(h0:fh H a (ct es))(h:HE G ρ H z λY H1=>HE G ρ H1 e2 λd2 H2=>∃k es,Y=kd k/\fh H2 a (ct es)/\Q ((eS es k).getD d2) H2)
  (ht:∀j,Wp j (Do [z,e2] G.env)=[(false,eval z G.env),(false,eval e2 G.env)]:=by intro _;rfl):VM G ρ H "get" (.ref a) [z,e2] Q:=λF u O j s S L=>O.el (X.get (h0.at S).1 λkvs hm _=>by
 rw[ht];exact vB "dict" "dict.get" dq PySem.F.slot_dict_get PySem.F.type_dict_get hm.typeIs hm.mapOf.noDict (wpAny_dict_get2 (knd:=knd) (h0.sys K S) (h.then S L λF1 Y H1 v1 s1 k1 r1 S1 L1 q1=>q1.then S1 L1 λF2 d2 H2 v2 s2 k2 N Z L2 q=>cK q λk il ed h2 q=>X.get (h2.at Z).1 λxW jE r=>
  jo k _ (X.key _ _ _ (ed▸r1)).1 jE.mapOf ((d6 ((r.find k).elim (λe=>by rw[e.1,e.2];exact N) λq=>cK q λv d z e2 rx=>by rw[z,e2];exact rx) Z L2 q).up (k1.trans k2) λ_ _ x=>x))))
theorem VM.aaX{a:co}{j:lv}{Q:D->aa->Prop}(X:gd B knd kd ct){es:List (Ky×D)}(h0:fh H a (ct es))(h:HE G ρ H j λZ H1=>∃k es d,Z=kd k/\H1 a=some (ct es)/\eS es k=some d/\es.length≤ga/\Q d (upd H1 a (ct (nC es k))))
  (ht:∀z,Wp z (Do [j] G.env)=[(false,eval j G.env)]:=by intro _;rfl):VM G ρ H "pop" (.ref a) [j] Q:=λF u ru z s S L=>ru.el (X.get (h0.at S).1 λkvs hm _=>by
 rw[ht];exact vB "dict" "dict.pop" dq u7 PySem.F.type_dict_pop hm.typeIs hm.mapOf.noDict (vp u7 PySem.F.entry_dict_pop (h.then S L λF1 Z H1 v1 s1 k1 r1 O L1 q=>Qr q λk il d ed h1 hd hz q=>X.get (O.hp a _ h1).1 λxW Y r=>ah (r.at hd) λx e rx=>
  have hk:=X.key _ _ _ (ed▸r1)
  ⟨Y.typeIs,PySem.F.args_dict_pop_2 _ _,_,meets_dict_pop_there knd a hk.1 [] (.inl rfl) hk.2,xW,x,Y,by rw[r.length];exact hz,e,λh' N hs=>.up1 k1 O L1 h1 hs ((X.cont _ _ _ _).mpr ⟨_,N,r.del k⟩) rx q⟩)))
theorem Vn.Rh{a:co}{es:List (Ky×D)}{Q:D->aa->Prop}(X:gd B knd kd ct)(K:Kb B mg mb)(h:fh H a (ct es))(hz:es.length≤ga)(q:∀b,H b=none->Q (.ref b) (upd H b (ct es))):Vn G ρ H (λvs=>call (.type "dict") vs) [.ref a] Q:=.one λF u z s S L=>
 z.el (X.get (h.at S).1 λkvs hm r=>kt_call_dict (h.sys K S) hm (by rw[r.length];exact hz) λh' j hs=>
  .new (s:=s) (c:=ct es) (tk:=s.toks) (.refl _) S L (λb o e=>(hs.2 b (wn (ss e))).trans (au b o e)) ((X.cont _ _ _ _).mpr (ak _ j r)) (aF _) (q _))
theorem q7{s:bv}(X:gd B knd kd ct):cM B.prog B.w F (s.heap.push {cls:=.type "dict",data:=.dict #[]}) s.heap.objs.size (ct []):=(X.cont _ _ _ _).mpr (ak ([]) (xd s.heap) (.nil))
theorem HE.te{z:cx}{Q:D->aa->Prop}(X:gd B knd kd ct)(q:∀b,H b=On->Q (.ref b) (upd H b (ct []))):HE G ρ H (.Dict [] [] z) Q:=λF s S L=>
 O6 (.new (s:=s) (c:=ct []) (tk:=s.toks) (.refl _) S L au (q7 X) (aF _) (q _))
theorem VI.lock{target:lv}{a:co}{c:ao}{d:D}{Q:(aa->Prop)->List D->aa->Prop}(hc:H a=some c)(h:∀o,VI G ρ (upd H a (.ro o c)) target d Q):VI G ρ H target d Q:=λF u r s S L=>by
 refine bR ((S.hp a c hc).1.lt) λo e'=>?_;exact h o F u r s (S.lock hc e') L
theorem xY{vs:List (Ky×bm)}{es:List (Ky×D)}(r:Rp F vs es){i:Nat}{k:Ky}{x:bm}(h:vs[i]?=some (k,x)):∃d,es[i]?=some (k,d):=by
 induction r generalizing i with
 |nil=>exact bE h
 |@cons k' v z vs ds u _ ih=>
  cases i with
  |zero=>exact⟨z,(gZ (db h)).1▸rfl⟩
  |succ i=>exact ih h
theorem VI.keys{target:lv}{a:co}{o:nh}{es:List (Ky×D)}{Q:(aa->Prop)->List D->aa->Prop}(X:gd B knd kd ct)(K:Kb B mg mb)(Y:G.A.handled=none)(h:H a=some (.ro o (ct es)))(q:Q (λH'=>H' a=some (.ro o (ct es))) (es.map λp=>kd p.1) H):
  VI G ρ H target (.ref a) Q:=λF u r s S L=>r.el (X.get (S.hp a _ h).1.2 λkvs hm r=>bR hm.dictAt λep j=>wpAny_pyIter_dict (fh.sys K S (.inr ⟨o,h⟩)) j
 (VI.fresh (tk:=s.toks) (je.ofWalks (Walks.dictKeys (knd:=knd) Y _ a (wn j.lt_size) kvs ep) (by rw[be];exact r.length) (λi v q=>dW q λk x hx hk=>(xY r hx).elim λd e=>⟨kd k,by rw[tz,e];rfl,X.val _ _ _ hk⟩)
  (FM.mpr ⟨.inl (.head _),pu.mpr (.inr (.inr (xG o _ λH' h'=>h')))⟩) (λi h st=>pu.mpr (st.1.elim λo z=>⟨o,z.1⟩)) λi h st=>st.1.elim λo z=>⟨o,_,z.1,z.2.1,by decide⟩) (.refl F) S L ⟨cY _ (g3 _ rfl) rfl rfl,j.push _⟩ h q rfl))
end
end
section
noncomputable abbrev dD:DecidableEq D:=TD D
noncomputable def ke(es:List (D×D))(k:D):Option D:=@eS D dD es k
noncomputable def jM(es:List (D×D))(k d:D):List (D×D):=@dput D dD es k d
section
variable {F:aw}{P:D->Prop}
theorem Rt.find{xs:List (D×co×bm)}{es:List (D×D)}(r:Rt F P xs es)(k:D):(@CB D dD xs k=none/\ke es k=none)∨∃p d,@CB D dD xs k=some p/\ke es k=some d/\R F p.2 d:=by
 letI:=dD
 unfold ke eS CB;induction r with
 |nil=>exact .inl ⟨rfl,rfl⟩
 |@cons k' a v u xs es h1 j z _ ih=>
  rw[lI,lI];by_cases e:k'=k
  ·rw[if_pos e,if_pos e];exact .inr ⟨(a,v),u,rfl,rfl,z⟩
  ·rw[if_neg e,if_neg e];exact ih
theorem Rt.at{xs:List (D×co×bm)}{es:List (D×D)}(r:Rt F P xs es){k d:D}(h:ke es k=some d):∃p,@CB D dD xs k=some p/\R F p.2 d:=
 (r.find k).elim (λe=>bE (e.2.symm.trans h)) λq=>cK q λp e h1 u z=>⟨p,h1,db (u.symm.trans h)▸z⟩
theorem Rt.isSome{xs:List (D×co×bm)}{es:List (D×D)}(r:Rt F P xs es)(k:D):(@CB D dD xs k).isSome=(ke es k).isSome:=
 (r.find k).elim (λe=>by rw[e.1,e.2];rfl) λq=>cK q λp e h1 z u=>by rw[h1,z];rfl
theorem Rt.length{xs:List (D×co×bm)}{es:List (D×D)}(r:Rt F P xs es):xs.length=es.length:=by rw[←be (·.1),r.keys,be]
theorem aaY(es:List (D×D))(k:D):(es.any λp=>@decide (p.1=k) (dD p.1 k))=(ke es k).isSome:=by
 unfold ke eS;induction es with
 |nil=>rfl
 |cons p r ih=>
  rw[jT,kP,ih];cases @decide (p.1=k) (dD p.1 k)<;>rfl
theorem Rt.aaZ{xs:List (D×co×bm)}{es:List (D×D)}(r:Rt F P xs es){k d:D}{v:bm}(rv:R F v d):Rt F P (xs.map (@putAt D dD k v)) (es.map λp=>@ite _ (p.1=k) (dD p.1 k) (p.1,d) p):=by
 induction r with
 |nil=>exact .nil
 |@cons k' Y j q xs es h1 z u _ ih=>
  rw[jp,jp];unfold putAt at*;by_cases e:k'=k
  ·rw[if_pos e,if_pos e];exact .cons h1 z rv ih
  ·rw[if_neg e,if_neg e];exact .cons h1 z u ih
theorem Rt.put{xs:List (D×co×bm)}{es:List (D×D)}(r:Rt F P xs es){k d:D}{a:co}{v:bm}(hk:P k)(z:R F (.ref a) k)(rv:R F v d):Rt F P (@xe D dD xs k a v) (jM es k d):=by
 unfold xe jM dput;rw[aaY,r.isSome];split
 ·exact r.aaZ rv
 ·exact r.append (.cons hk z rv .nil)
end
section
variable {B:Base}{G:Fc B}{ρ:ag}{H:aa}{F:aw}{mg mb:lm->Option bm}
theorem q8{s:bv}(S:G.az F H s):F.le (hv s.heap):=λa o e=>(S.fz a o e).1
noncomputable abbrev tK(B:Base)(b:Bool):=vI B.prog B.w (PN b) (Qz b)
theorem nP{s:bv}{a:co}{b:Bool}{es:List (D×D)}(S:G.az F H s)(h:fh H a (.dT b es)):∃xs,@d9 B.prog B.w D dD (tK B b) s.heap a xs/\Rt F (PN b) xs es:=
 Dp (h.at S).1 λxs o q ep h1 j u z h5 r=>ak xs (aai o q ep h1 j u z (λx hx=>⟨(r.is x hx).1,(r.is x hx).2.mono (q8 S)⟩) h5) r
theorem vV{h:GM}{a:co}{b:Bool}{xs:List (D×co×bm)}{es:List (D×D)}(hm:@d9 B.prog B.w D dD (tK B b) h a xs)(r:Rt F (PN b) xs es):cM B.prog B.w F h a (.dT b es):=
 xH hm λo q ep h1 j u z _ h5=>aap xs o q ep h1 j u z h5 r
noncomputable abbrev Ul(A:Da):Prop:=A.units+8<cA
noncomputable abbrev GO(b:Bool)(h:GM)(k:D)(a:co):Prop:=PN b k/\R (hv h) (.ref a) k
theorem q9{n:Nat}(r:iO G.A n):Ul G.A.in1:=by
 have:=r.2.2;refine(?_:G.A.units+1+8<9900);clear r;exact VB this
theorem R.DW{v:bm}{k:D}{b:Bool}(hk:PN b k)(r:R F v k):∃a,v=.ref a:=by
 have h:∃l,k=.tup l:=by
  cases b with
  |true=>exact mm hk λ_ _ e=>⟨_,e⟩
  |false=>cases hk;exact⟨_,rfl⟩
 exact h.elim λl e=>(e▸r:R F v (.tup l)).el λa _ _ _ _=>⟨a,rfl⟩
theorem V2.Ri{z j:lv}{a:co}{b:Bool}{es:List (D×D)}{k d:D}{n:Nat}{Q:D->aa->Prop}(O:iO G.A n)(h:fh H a (.dT b es))(hk:PN b k)(N:ke es k=some d)(q:Q d H):V2 G ρ H (bc z j) (.ref a) k Q:=λF u v Y rv s S L=>
 Y.el (ah (nP S h) λxs hm r=>(R.DW hk rv).elim λx ex=>ah (r.at N) λp e Z=>by
  rw[ex]at rv⊢;exact gR (@eM B.prog B.w D dD _ _ _ _ hm) N9.lookup (@wpAny_getItem_heap B.prog B.w D dD (tK B b) _ _ _ _ _ _ _ _ _ (q9 O) (show GO b _ _ _ from⟨hk,rv.mono (q8 S)⟩) hm e (d6 Z S L q)))
theorem V2.tIn{a:co}{b:Bool}{es:List (D×D)}{k:D}{n:Nat}{Q:D->aa->Prop}(K:Kb B mg mb)(j:iO G.A n)(h:fh H a (.dT b es))(hk:PN b k)(q:Q (.bool (ke es k).isSome) H):V2 G ρ H (M2 .In) k (.ref a) Q:=λF u v z rv s S L=>
 rv.el (ah (nP S h) λxs hm r=>(R.DW hk z).elim λx Y=>by
  rw[Y]at z⊢;exact@wpAny_in_heap B.prog B.w D dD (tK B b) _ _ _ _ _ _ _ _ (q9 j) (show GO b _ _ _ from⟨hk,z.mono (q8 S)⟩) (h.sys K S) hm (d6 (r.isSome k▸.bool _) S L q))
theorem xO.Rj{a:co}{b:Bool}{es:List (D×D)}{k v:D}{n:Nat}{Q:aa->Prop}(Z:iO G.A n)(h:H a=some (.dT b es))(hk:PN b k)(hz:es.length≤ga)(q:Q (upd H a (.dT b (jM es k v)))):xO G ρ H (.ref a) k v Q:=λF x y z rx u j s S L=>
 rx.el (ah (nP S (.mk h)) λxs hm r=>(R.DW hk u).elim λx O=>by
  rw[O]at u⊢;exact@wpAny_setItem_heap B.prog B.w D dD (tK B b) _ _ _ _ _ _ _ _ _ (q9 Z) (show GO b _ _ _ from⟨hk,u.mono (q8 S)⟩) hm (λh' Y hs=>Bq S L h hs (vV Y (r.put hk u j)) q) (by rw[r.length];exact hz))
theorem HT{h:GM}{b:Bool}{d:co}{o:nh}{es:Array KM}{ep:Nat}{f:Array KM->Array KM}{xs:List (D×co×bm)}(u:h.get? d=some o)(hc:o.ExactDict)(z:o.data=.dict es ep)(q:(f es).toList=xs.map (@mL B.prog B.w D dD (tK B b)))(j:∀x∈xs,GO b h x.1 x.2.1)(hn:(xs.map (·.1)).Nodup):
  @d9 B.prog B.w D dD (tK B b) (h.update d (J9 f)) d xs:=
 ⟨_,_,ep+1,Tl _ u (CC (AX z _)),hc.mapDictKeys _,AX z _,q,λx hx=>@CD _ _ _ dD (tK B b) _ _ _ _ _ _ _ _ (j x hx) u z (TI ..),hn⟩
theorem DX{h:GM}{b:Bool}{d a:co}{o:nh}{es:Array KM}{ep:Nat}{xs:List (D×co×bm)}{k:D}{v:bm}(q:h.get? d=some o)(hc:o.ExactDict)(Z:o.data=.dict es ep)(Y:es.toList=xs.map (@mL B.prog B.w D dD (tK B b)))(u:∀x∈xs,GO b h x.1 x.2.1)(hn:(xs.map (·.1)).Nodup)(j:GO b h k a)(O:@CB D dD xs k=none)(z:k∉xs.map (·.1)):
  @d9 B.prog B.w D dD (tK B b) (h.update d (J9 (·.push ⟨fF B.w 8 k,.ref a,v⟩))) d (@xe D dD xs k a v):=by
 rw[@storedH_new D dD _ _ O];refine HT q hc Z ?_ (List.forall_mem_append.mpr ⟨u,pu.mpr j⟩) ?_
 ·rw[jB,Y,lf];rfl
 ·rw[lf,Fk];exact⟨hn,kr _ _,λx hx y hy e=>z (by rw[←show x=k from e.trans (bn.mp hy)];exact hx)⟩
theorem pS{A:Da}{E:bm->bv->Prop}{s:bv}{b:Bool}{d a:co}{xs:List (D×co×bm)}{k:D}{v:bm}{Q:bm->bv->Prop}(N:Ul A)(Z:GO b s.heap k a)(hm:@d9 B.prog B.w D dD (tK B b) s.heap d xs)
  (h1:∀p,@CB D dD xs k=some p->Q p.2 {s with toks:=s.toks+fN 8 k})
  (h2:@CB D dD xs k=none->∀h',@d9 B.prog B.w D dD (tK B b) h' d (@xe D dD xs k a v)->Pv d s.heap h'->Q v {s with heap:=h',toks:=s.toks+fN 8 k}) (qk:xs.length≤ga):
  im (kt B.prog B.w) A (U0 d (.ref a) v) Q E s:=by
 letI:=dD
 refine xH hm λo es ep z hc q u O hn=>wv (al (@ag0 _ _ _ dD (tK B b) _ _ _ _ _ _ N Z (al (J' (knd:=tK B b) (s:={s with toks:=s.toks+fN 8 k}) N Z z q u O hn (λY=>?_) λj p hj=>?_))))
 ·exact al (bw (al (G4 (hz:=TP u▸qk) (s:={s with toks:=s.toks+fN 8 k}) z q (am (h2 (sk Y) _ (DX z hc q u O hn Z (sk Y) (Ka Y)) (TI ..))))))
 ·refine al (cB (s:={s with toks:=s.toks+fN 8 k}) z q ?_);rw[entry_at u j,hj];exact al (bw (am (h1 p (aex hn hj))))
theorem VM.x8{a:co}{b:Bool}{j e2:lv}{n:Nat}{Q:D->aa->Prop}(K:Kb B mg mb)(hr:iO G.A n){es:List (D×D)}(h0:fh H a (.dT b es))
  (h:HE G ρ H j λk H1=>HE G ρ H1 e2 λd2 H2=>∃es,H2 a=some (.dT b es)/\PN b k/\es.length≤ga/\(match ke es k with|some d=>Q d H2|none=>Q d2 (upd H2 a (.dT b (jM es k d2)))))
  (ht:∀Y,Wp Y (Do [j,e2] G.env)=[(false,eval j G.env),(false,eval e2 G.env)]:=by intro _;rfl):VM G ρ H "setdefault" (.ref a) [j,e2] Q:=λF u ru Y s S L=>ru.el (ah (nP S h0) λxs hm _=>by
 rw[ht];refine⟨"dict","dict.setdefault",dq,pK,PySem.F.type_dict_setdefault,@eM B.prog B.w D dD _ _ _ _ hm,@U1 B.prog B.w D dD _ _ _ _ hm,
  method2_meetsIn pK PySem.F.entry_dict_setdefault (h.then S L λF1 k H1 v1 s1 k1 O S1 L1 q1=>q1.then S1 L1 λF2 d2 H2 v2 s2 k2 r2 Z L2 qQ=>pP qQ λil h2 hk hz N=>ah (nP Z (.mk h2)) λys jE r=>(R.DW hk O).elim λx ex=>?_)⟩
 rw[ex]at O⊢;have hT:=@eM B.prog B.w D dD _ _ _ _ jE;refine⟨hT,PySem.F.args_dict_setdefault_3 _ _ _,λA' R' s'=>(s'=s2/\A'=G.A)/\∀v mT,dY G F ρ Q v mT->R' (.ok (.ret v)) mT,.of_wp λA' R' s' q=>?_,⟨⟨rfl,rfl⟩,λv mT p=>p⟩⟩;rw[q.1.1,q.1.2];refine al (al (iG hT (am ?_)));refine(?_:im _ _ (if(a==gD)=true then _ else(U0 a (.ref x) v2>>=_)) _ _ _);refine iM (by rw[fh.sys K Z (.mk h2)];exact wP) (al (pS (b:=b) (q9 hr) ⟨hk,(O.mono k2).mono (q8 Z)⟩ jE (λp hp=>am (ak _ rfl (q.2 _ _ ((r.find k).elim (λe=>bE (e.1.symm.trans hp)) λz=>cK z λp' d j e2 rp=>?_)))) (λhn h' xX hs=>am (ak _ rfl (q.2 _ _ ((r.find k).elim (λe=>?_) λz=>cK z λp' d j e2 rp=>bE (hn.symm.trans j))))) (by rw[r.length];exact hz)))
 ·rw[←db (j.symm.trans hp)];rw[e2]at N;exact(d6 rp Z L2 N).up (k1.trans k2) λ_ _ x=>x
 ·rw[e.2]at N;exact .up1 (k1.trans k2) Z L2 h2 hs (vV xX (r.put hk (O.mono k2) r2)) r2 N)
end
end
section
noncomputable def Raw(h:GM)(d:co)(es:List KM)(ep:Nat):Prop:=∃o,h.get? d=some o/\o.ExactDict/\o.data=.dict es.toArray ep
section
variable {prog:EQ}{w:KB}{A:Da}{E:bm->bv->Prop}{s:bv}
theorem Raw.typeIs{d:co}{es:List KM}{ep:Nat}(x:Raw s.heap d es ep):s.TypeIs (.ref d) "dict":=let⟨o,z,hc,_⟩:=x;⟨o,z,hc.1⟩
theorem DY{d:co}{es:List KM}{ep:Nat}{Q:bm->bv->Prop}(q:(d==gD)=false)(hm:Raw s.heap d es ep)
  (hQ:Q (.ref s.heap.objs.size) {s with heap:=s.heap.push {cls:=.type "dict_keyiterator",data:=.fields #[.ref d,.int 0 0,.int es.length 0,.int ep 0]}}):im (kt prog w) A (qz (.ref d)) Q E s:=bt hm λo z hc j=>by
 have u:s.TypeIs (.ref d) "dict":=⟨o,z,hc.1⟩;refine so u j7 (NE j7 u PySem.F.entry_dict_iter (al (al (iG u ?_))) (PySem.F.args_dict_iter_1 _));refine(?_:im _ _ (pure (dC d)) _ _ s);refine am ?_;refine(?_:im _ _ (jC d>>=_) _ _ s);unfold jC;rw[if_neg (by rw[q];exact wP)];exact al (am (al (cB z j (al (ji z j (al (WF (am ⟨_,rfl,"dict_keyiterator",_,(ak _ (g3 _ rfl) rfl),aZ.lookup,hQ⟩))))))))
theorem vW{i:Nat}{es:Array KM}{r:Option KM}(h:es.toList[i]?=r):(if(i:Int)<0 then none else es[(i:Int).toNat]?)=r:=by
 rw[if_neg (jh.mpr (bP i)),jV,←Op];exact h
theorem DZ{it d:co}{i ep:Nat}{es:List KM}{e:KM}{Q:Option bm->bv->Prop}(z:s.heap.IsKeyIter it d i es.length ep)(hm:Raw s.heap d es ep)(hx:es[i]?=some e)
  (hQ:∀h',h'.IsKeyIter it d (i+1) es.length ep->Pv it s.heap h'->Q (some e.key) {s with heap:=h'}):im (kt prog w) A (hZ (.ref it)) Q E s:=bt z λo j hc u=>bt hm λod q O Y=>by
 refine al (i0 (aO (name:=t0 "__next__") z.typeIs aZ
  (NE aZ z.typeIs mz ?_ (l9 _))))
 refine al (am (al (al (al (eN z.typeIs (am (al (U2 j u (al (am (al (cB q Y ?_))))))))))));refine iM (by simp) ?_;refine al (am (al (ji q Y ?_)));refine iM (by simp) ?_;refine am ?_;dsimp only;rw[vW (r:=some e) hx];refine al (al (eN z.typeIs (am (al (GB z.typeIs ?_)))));refine(?_:im _ _ (setField (.ref it) 1 (fq ((i:Int)+1))>>=_) _ _ s);have Z:(s.heap.update it (N' (·.setIfInBounds 1 (fq ((i:Int)+1))))).IsKeyIter it d (i+1) es.length ep:=
  cY _ (Tl _ j (zb (jj u _))) ((GC ..).trans hc) (by rw[jj u];rfl)
 exact al (oE j u (ce rfl) (al (wv (al (GB (s:={s with heap:=s.heap.update it (N' (·.setIfInBounds 1 (fq ((i:Int)+1))))}) Z.typeIs
  (am (am (ak _ rfl (am (hQ _ Z (TI ..)))))))))))
theorem ug{α:Type}{Q:α->bv->Prop}(z:A.handled=none)(h:∀(e:co) h',mO {s with heap:=h'} (.ref e) "StopIteration"->(∀b o,s.heap.get? b=some o->h'.get? b=some o)->E (.ref e) {s with heap:=h'}):im (kt prog w) A (newExc (.type "StopIteration") []>>=λe=>(raiseNew e:sY α)) Q E s:=by
 refine al (al (WF ?_ (by size_fits)));refine al (m:=ic _ _) (i7 (a:=Fa) (by first|rfl|(simp only[ic];rfl)) ?_);refine WF (al (AY ?_)) (by size_fits);rw[z];refine al (am (oF (h _ _ ⟨_,g3 _ rfl,rfl⟩ λb o e=>dL _ (dL _ e))))
theorem HU{it d:co}{i ep:Nat}{es:List KM}{Q:Option bm->bv->Prop}(Z:A.handled=none)(z:s.heap.IsKeyIter it d i es.length ep)(hm:Raw s.heap d es ep)(hx:es[i]?=none)
  (hQ:∀h',jH it s.heap h'->Q none {s with heap:=h'}):im (kt prog w) A (hZ (.ref it)) Q E s:=bt z λo u hc j=>bt hm λod q Q4 Y=>by
 refine al (i0 (aO (name:=t0 "__next__") z.typeIs aZ
  (NE aZ z.typeIs mz ?_ (l9 _))))
 refine al (am (al (al (al (eN z.typeIs (am (al (U2 u j (al (am (al (cB q Y ?_))))))))))));refine iM (by simp) ?_;refine al (am (al (ji q Y ?_)));refine iM (by simp) ?_;refine am ?_;dsimp only;rw[vW (r:=none) hx];refine al (al (eN z.typeIs (am ?_)));refine(?_:im _ _ (setField (.ref it) 0 .none>>=_) _ _ s);refine al (oE u j (ce rfl) ?_);refine ug Z λe h' O hk=>al (SZ O xw (am (hQ _ λb o N e=>hk b o ((TI ..).extBut b o N e))))
theorem Walks.raw(Y:A.handled=none)(I d:co)(Z:d≠I)(es:List KM)(ep:Nat):
  UX prog w A I [I,d] [I] es.length (λi v=>∃e,es[i]?=some e/\v=e.key) (λi h=>h.IsKeyIter I d i es.length ep/\Raw h d es ep)where
 sub:=pu.mpr (.head _)
 frame:=λ_ _ _ st hk=>⟨st.1.at λo e=>hk I (.head _) o e,st.2.elim λo x=>⟨o,hk d (.tail _ (.head _)) o x.1,x.2⟩⟩
 item:=λi s Q E hi st z=>DZ st.1 st.2 (pi hi) λh' O q=>
  z _ h' s.toks ⟨_,pi hi,rfl⟩ ⟨O,st.2.elim λo x=>⟨o,(q.2 d Z).trans x.1,x.2⟩⟩ λb o j e=>q.extBut b o (λh=>j (h▸.head _)) e
 done:=λs Q E st z=>HU Y st.1 st.2 (aW (ii _)) λh' u=>z h' s.toks λb o j e=>u b o (λh=>j (h▸.head _)) e
 self:=λ_ _ _ _ st z=>wpAny_pyIter_keyiter st.1 z
end
section
variable {B:Base}{G:Fc B}{ρ:ag}{H:aa}{F:aw}{mg mb:lm->Option bm}
theorem Rt.xY{P:D->Prop}{xs:List (D×co×bm)}{es:List (D×D)}(r:Rt F P xs es){i:Nat}{x:D×co×bm}(h:xs[i]?=some x):∃p,es[i]?=some p/\R F (.ref x.2.1) p.1:=by
 induction r generalizing i with
 |nil=>exact bE h
 |cons h1 z u _ ih=>
  cases i with
  |zero=>exact⟨_,rfl,db h▸z⟩
  |succ i=>exact ih h
theorem VI.Kz{target:lv}{a:co}{o:nh}{b:Bool}{es:List (D×D)}{Q:(aa->Prop)->List D->aa->Prop}(K:Kb B mg mb)(hh:G.A.handled=none)(h:H a=some (.ro o (.dT b es)))(q:Q (λH'=>H' a=some (.ro o (.dT b es))) (es.map (·.1)) H):
  VI G ρ H target (.ref a) Q:=λF u r s S L=>r.el (Dp (S.hp a _ h).1.2 λxs ob O ep h1 h2 h3 Y h5 r=>
 have Z:Raw s.heap a O.toList ep:=cY ob h1 h2 (by rw[h3])
 DY (fh.sys K S (.inr ⟨o,h⟩)) Z (VI.fresh (tk:=s.toks) (je.ofWalks (Walks.raw hh _ a (wn (ss h1)) O.toList ep) (by rw[Y,be,be,r.length])
  (λi v q=>ah q λe j ev=>by
   rw[Y,tz]at j;exact ah (At.mp j) λx qx ex=>ah (r.xY qx) λp hp N=>⟨p.1,by rw[tz,hp];rfl,ev▸ex▸N⟩)
  (FM.mpr ⟨.inl (.head _),pu.mpr (.inr (.inr (xG o _ λH' h'=>h')))⟩) (λi h st=>pu.mpr (st.1.elim λo z=>⟨o,z.1⟩)) λi h st=>st.1.elim λo z=>⟨o,_,z.1,z.2.1,by decide⟩) (.refl F) S L
  ⟨cY _ (g3 _ rfl) rfl rfl,Z.elim λo x=>⟨o,au _ _ x.1,x.2⟩⟩ h q rfl))
theorem Mz{h:GM}{b:Bool}{d a:co}{o:nh}{es:Array KM}{ep j:Nat}{xs:List (D×co×bm)}{k:D}{v:bm}{p:co×bm}(u:h.get? d=some o)(hc:o.ExactDict)(z:o.data=.dict es ep)(Y:es.toList=xs.map (@mL B.prog B.w D dD (tK B b)))(q:∀x∈xs,GO b h x.1 x.2.1)(hn:(xs.map (·.1)).Nodup)(hj:xs[j]?=some (k,p)):
  @d9 B.prog B.w D dD (tK B b) (h.update d (Obj.mapDict (·.modify j λe=>{e with val:=v}))) d (@xe D dD xs k a v):=by
 letI:=dD
 rw[storedH_old (aex hn hj)];refine⟨_,_,ep,Tl _ u (CC (G5 z _)),hc.mapDict _,G5 z _,?_,λx hx=>?_,?_⟩
 ·rw[Array.toList_modify,Y];exact modify_map_putAt (mL (tK B b)) (λe:KM=>{e with val:=v}) k v (λ_ _=>rfl) hn hj
 ·refine ah (lc.mp hx) λy hy e=>?_;rw[←e];unfold putAt;split<;>exact@CD _ _ _ dD (tK B b) _ _ _ _ _ _ _ _ (q y hy) u z (TI ..)
 ·rw[keys_map_putAt];exact hn
theorem rh{A:Da}{E:bm->bv->Prop}{s:bv}{b:Bool}{d a:co}{xs:List (D×co×bm)}{k:D}{v:bm}{Q:Unit->bv->Prop}(N:Ul A)(O:GO b s.heap k a)(hm:@d9 B.prog B.w D dD (tK B b) s.heap d xs)
  (hQ:∀h',@d9 B.prog B.w D dD (tK B b) h' d (@xe D dD xs k a v)->Pv d s.heap h'->Q () {s with heap:=h'}) (qk:xs.length≤ga):
  im (kt B.prog B.w) A (AZ d (.ref a) (fF B.w 8 k) v) Q E s:=by
 letI:=dD
 exact xH hm λo es ep z hc u q Y hn=>wv (al (J' (knd:=tK B b) N O z u q Y hn
  (λZ=>al (bw (G4 (hz:=TP q▸qk) z u (hQ _ (DX z hc u q Y hn O (sk Z) (Ka Z)) (TI ..)))))
  λj p hj=>al (bw (al (wpAny_updateDict z u (wpAny_point (hQ _ (Mz z hc u q Y hn hj) (TI ..))))))))
noncomputable def mC(es more:List (D×D)):List (D×D):=more.foldl (λacc p=>jM acc p.1 p.2) es
end
end
section
section
variable {B:Base}{G:Fc B}{ρ:ag}{H:aa}{F:aw}{mg mb:lm->Option bm}
noncomputable def nQ(G:Fc B)(ρ:ag)(H:aa)(a:co)(k v:D)(Q:aa->Prop):Prop:=∀F x y,R F x k->R F y v->∀A s,A=G.A∨A=G.A.in1->G.az F H s->G.Loc F ρ s->im (kt B.prog B.w) A (dictSet a x y) (λ_ s'=>∃H',G.az F H' s'/\G.Loc F ρ s'/\Q H') bot s
theorem nQ.v{Ky:Type}[DecidableEq Ky]{knd:ph B.prog B.w Ky}{kd:Ky->D}{ct:List (Ky×D)->ao}{a:co}{es:List (Ky×D)}{k:Ky}{v:D}{Q:aa->Prop}(X:gd B knd kd ct)(h:H a=some (ct es))(hz:es.length≤ga)(q:Q (upd H a (ct (dput es k v)))):nQ G ρ H a (kd k) v Q:=
 λF x y rx z A s _ S L=>X.get (S.hp a _ h).1 λkvs hm r=>Kc (X.key _ _ _ rx).1 hm (λh' u hs=>Bq S L h hs ((X.cont _ _ _ _).mpr (ak _ u (r.put k z))) q) (by rw[r.length];exact hz)
theorem nQ.t{a:co}{b:Bool}{es:List (D×D)}{k v:D}{n:Nat}{Q:aa->Prop}(u:iO G.A n)(h:H a=some (.dT b es))(hk:PN b k)(hz:es.length≤ga)(q:Q (upd H a (.dT b (jM es k v)))):nQ G ρ H a k v Q:=
 λF x y rx j A s O S L=>ah (nP S (.mk h)) λxs hm r=>(R.DW hk rx).elim λz N=>by
  rw[N]at rx⊢;have Z:Ul A:=O.elim (λe=>e▸gF (by have:=q9 u;exact pL G.A.units 8▸this)) λe=>e▸q9 u;exact@wpAny_dictSet_heap B.prog B.w D dD (tK B b) _ _ _ _ _ _ _ _ _ Z (show GO b _ _ _ from⟨hk,rx.mono (q8 S)⟩) hm (λh' Y hs=>Bq S L h hs (vV Y (r.put hk rx j)) q) (by rw[r.length];exact hz)
theorem D1{s:bv}(b:Bool):cM B.prog B.w F (s.heap.push {cls:=.type "dict",data:=.dict #[]}) s.heap.objs.size (.dT b []):=vV (@TQ B.prog B.w D dD (tK B b) s.heap) .nil
theorem HE.MA{z:cx}{Q:D->aa->Prop}(b:Bool)(q:∀x,H x=On->Q (.ref x) (upd H x (.dT b []))):HE G ρ H (.Dict [] [] z) Q:=λF s S L=>
 O6 (.new (s:=s) (c:=.dT b []) (tk:=s.toks) (.refl _) S L au (D1 b) (aF _) (q _))
theorem HE.Rm{z u:lv}{j:cx}{Q:D->aa->Prop}(c0:ao)(hc:∀F(s:bv),cM B.prog B.w F (s.heap.push {cls:=.type "dict",data:=.dict #[]}) s.heap.objs.size c0)
  (h:∀a,H a=none->HE G ρ (upd H a c0) z λk H1=>HE G ρ H1 u λv H2=>nQ G ρ H2 a k v λY=>Q (.ref a) Y):HE G ρ H (.Dict [some z] [u] j) Q:=λF s S L=>by
 rw[acL];have e1:evalEachOpt [some z] G.env=[some (eval z G.env)]:=rfl;have e2:evalEach [u] G.env=[eval u G.env]:=rfl;rw[e1,e2];simp only[jp,pj,fY,C5];rw[show∀x:sY bm,[(some (eval z G.env),x)]=[(eval z G.env,x)].map (λp=>(some p.1,p.2))fromλ_=>rfl,Oa _ (by simp) (by simp)];refine al (cN (al ?_));refine al (G6 ?_);refine al (wv ?_);refine dv (S.new (h':=s.heap.push {cls:=.type "dict",data:=.dict #[]}) (tk:=s.toks) (d:=s.drawn) (a:=s.heap.objs.size) (c:=c0) au (hc F s) (aF _)) λS1 hn=>?_
 have L1:G.Loc F ρ {s with heap:=s.heap.push {cls:=.type "dict",data:=.dict #[]}}:=L.keep (.refl _) λb o _ e=>au b o e
 refine al (xx ((h _ hn).then S1 L1 λF1 k H1 x s1 k1 r1 S2 L2 q1=>al (q1.then S2 L2 λO v H2 y N Z r2 S3 L3 q2=>al (cN (am (acM ?_))))));refine wv ?_;simp only[iE,Kd];refine al (al (al (f8 (q2 O x y (r1.mono Z) r2 G.A N (.inl rfl) S3 L3) (λ_ s3 p=>?_) λ_ _ e=>e)));refine bt p λY S4 L4 q=>?_;exact am (am (am (am (am ⟨O,_,Y,k1.trans Z,.ref _,S4,L4,q⟩))))
theorem HE.Rn{z Y u Z:lv}{O:cx}{Q:D->aa->Prop}(c0:ao)(hc:∀F(s:bv),cM B.prog B.w F (s.heap.push {cls:=.type "dict",data:=.dict #[]}) s.heap.objs.size c0)
  (h:∀a,H a=none->HE G ρ (upd H a c0) z λk H1=>HE G ρ H1 Y λv H2=>HE G ρ H2 u λk' H3=>HE G ρ H3 Z λv' H4=>nQ G ρ H4 a k v λH5=>nQ G ρ H5 a k' v' λH6=>Q (.ref a) H6):HE G ρ H (.Dict [some z,some u] [Y,Z] O) Q:=λF s S L=>by
 rw[acL];have e1:evalEachOpt [some z,some u] G.env=[some (eval z G.env),some (eval u G.env)]:=rfl;have e2:evalEach [Y,Z] G.env=[eval Y G.env,eval Z G.env]:=rfl;rw[e1,e2];simp only[jp,pj,fY,C5];rw[show∀x y:sY bm,[(some (eval z G.env),x),(some (eval u G.env),y)]=[(eval z G.env,x),(eval u G.env,y)].map (λp=>(some p.1,p.2))fromλ_ _=>rfl,Oa _ (by simp) (by simp)];refine al (cN (al ?_));refine al (G6 ?_);refine al (wv ?_);refine dv (S.new (h':=s.heap.push {cls:=.type "dict",data:=.dict #[]}) (tk:=s.toks) (d:=s.drawn) (a:=s.heap.objs.size) (c:=c0) au (hc F s) (aF _)) λS1 hn=>?_
 have L1:G.Loc F ρ {s with heap:=s.heap.push {cls:=.type "dict",data:=.dict #[]}}:=L.keep (.refl _) λb o _ e=>au b o e
 refine al (xx ((h _ hn).then S1 L1 λF1 k H1 x s1 k1 r1 S2 L2 q1=>al (q1.then S2 L2 λF2 v H2 y s2 k2 r2 S3 L3 q2=>al (cN (am
  (xx (q2.then S3 L3 λF3 k' H3 x' s3 N r3 S4 L4 q3=>al (q3.then S4 L4 λF4 v' H4 y' s4 j r4 S5 L5 q4=>al (cN (am (acM ?_)))))))))))
 refine wv ?_;simp only[iE,Kd];refine al (al (al (f8 (q4 F4 x y (r1.mono (k2.trans (N.trans j))) (r2.mono (N.trans j)) G.A s4 (.inl rfl) S5 L5) (λ_ s5 p=>?_) λ_ _ e=>e)));refine bt p λH5 S6 L6 q=>?_;refine am (al (al (f8 (q F4 x' y' (r3.mono j) r4 G.A s5 (.inl rfl) S6 L6) (λ_ s6 p=>?_) λ_ _ e=>e)));refine bt p λH6 S7 L7 q=>?_;exact am (am (am (am (am ⟨F4,_,H6,((k1.trans k2).trans N).trans j,.ref _,S7,L7,q⟩))))
theorem x9(es more:List (D×D))(p:D×D):mC es (more++[p])=jM (mC es more) p.1 p.2:=by unfold mC;rw[C6];rfl
theorem D2(es:List (D×D))(k d:D):(jM es k d).length≤es.length+1:=by
 unfold jM dput;split<;>simp
theorem Bs(more:List (D×D))(es:List (D×D)):(mC es more).length≤es.length+more.length:=by
 induction more generalizing es with
 |nil=>exact ii _
 |cons p r ih=>exact cr (ih (jM es p.1 p.2)) (by rw[io,fD r.length,←om];exact fu (D2 es p.1 p.2) _)
theorem Rt.MB{P:D->Prop}{xs:List (D×co×bm)}{es:List (D×D)}(r:Rt F P xs es){i:Nat}{x:D×co×bm}(h:xs[i]?=some x):∃d,es[i]?=some (x.1,d)/\R F x.2.2 d:=by
 induction r generalizing i with
 |nil=>exact bE h
 |cons h1 u z _ ih=>
  cases i with
  |zero=>exact db h▸⟨_,rfl,z⟩
  |succ i=>exact ih h
theorem Ro{M:Model}{A:Da}{α:Type}{c:Prop}[Decidable c]{x y:sY α}{Q:α->bv->Prop}{E:bm->bv->Prop}{s:bv}(h:im M A y Q E s)(k:c->im M A y Q E s->im M A x Q E s):im M A (if c then x else y) Q E s:=by
 by_cases hc:c
 ·rw[if_pos hc];exact k hc h
 ·rw[if_neg hc];exact h
theorem ya{M:Model}{A:Da}{E:bm->bv->Prop}{f:Nat->PUnit->sY (ForInStep PUnit)}{I:Nat->bv->Prop}{n:Nat}{Q:PUnit->bv->Prop}(step:∀i s,i<n->I i s->im M A (f i ()) (λr s'=>r=.yield ()/\I (i+1) s') E s)(Y:∀s,I n s->Q () s){s:bv}(h:I 0 s):
  im M A (forIn [:n] PUnit.unit f) Q E s:=by
 rw[Ke];have Z:∀{i},i<n->n-i=(n-(i+1))+1:=λh=>VC h;refine tX _ (λz _ s'=>∃i,z=List.range' i (n-i)/\i≤n/\I i s') _ (λx z _ s' q=>bt q λi u hi h=>?_) (λ_ s' q=>bt q λi u hi h=>?_) _ _ ⟨0,by simp,np _,h⟩
 ·refine(bG i n).elim (λj=>?_) λh=>by rw[Nat.sub_eq_zero_of_le h]at u;exact vC u
  rw[Z j,GD]at u;refine zq u λO e2=>?_;rw[O];exact f8 (step i s' j h) (λr N p=>by rw[p.1];exact⟨i+1,e2,j,p.2⟩) λ_ _ e=>e
 ·refine(bG i n).elim (λj=>?_) λh'=>Y s' (cZ hi h'▸h);rw[Z j,GD]at u;exact Dt u
theorem D3{H:aa}{a:co}{c:ao}(h:H a=some c):upd H a c=H:=by
 funext b;by_cases e:b=a
 ·rw[e,af,h]
 ·rw[aj e]
theorem Bt{H:aa}{a:co}{c c':ao}:upd (upd H a c) a c'=upd H a c':=by
 funext b;by_cases e:b=a
 ·rw[e,af,af]
 ·rw[aj e,aj e,aj e]
noncomputable def MI(G:Fc B)(F:aw)(ρ:ag)(H:aa)(a o:co)(b:Bool)(z:nh)(es:List (D×D))(s:bv):Prop:=G.az F (upd H a (.dT b es)) s/\G.Loc F ρ s/\s.heap.get? o=some z
theorem yb{a o:co}{b:Bool}{n:Nat}{u:nh}{es:List (D×D)}{k d:D}{x:co}{v:bm}{s:bv}{Q:Unit->bv->Prop}{E:bm->bv->Prop}(Z:iO G.A n)(O:o≠a)(m:MI G F ρ H a o b u es s)(hk:PN b k)(rk:R F (.ref x) k)(rv:R F v d)(hz:es.length≤ga)(q:∀s',MI G F ρ H a o b u (jM es k d) s'->Q () s'):
  im (kt B.prog B.w) G.A.in1 (AZ a (.ref x) (fF B.w 8 k) v) Q E s:=
 ah (nP m.1 (.mk (af _ _ _))) λxs hm z=>rh (b:=b) (q9 Z) ⟨hk,rk.mono (q8 m.1)⟩ hm (λh' Y hs=>
  bt (Bq (tk:=s.toks) (Q:=λj=>j=upd _ a _) m.1 m.2.1 (af _ _ _) hs (vV Y (z.put hk rk rv)) rfl) λj N L3 e=>q _ ⟨by rw[←Bt (c:=.dT b es),←e];exact N,L3,(hs.2 o O).trans m.2.2⟩) (z.length▸hz)
theorem VM.HW{a:co}{b:Bool}{e:lv}{n:Nat}{Q:D->aa->Prop}(K:Kb B mg mb)(hr:iO G.A n){es0:List (D×D)}(h0:fh H a (.dT b es0))
  (h:HE G ρ H e λd H1=>∃o es more,d=.ref o/\o≠a/\H1 a=some (.dT b es)/\fh H1 o (.dT b more)/\es≠[]/\es.length+more.length≤1000000/\Q .none (upd H1 a (.dT b (mC es more))))
  (ht:∀O,Wp O (Do [e] G.env)=[(false,eval e G.env)]:=by intro _;rfl):VM G ρ H "update" (.ref a) [e] Q:=λF u ru O s S L=>ru.el (ah (nP S h0) λxs hm _=>by
 rw[ht];refine⟨"dict","dict.update",dq,sq,PySem.F.type_dict_update,@eM B.prog B.w D dD _ _ _ _ hm,@U1 B.prog B.w D dD _ _ _ _ hm,
  vp sq PySem.F.entry_dict_update (h.then S L λF1 d H1 v1 s1 k1 r1 S1 L1 q=>aaj q λo es more ed cj h1 h2 Oy hz q=>(ed▸r1:R F1 v1 (.ref o)).el (ah (nP S1 (.mk h1)) λys hmd rd=>Dp (h2.at S1).1 λzs oo Z epo Rr hco Ru heo nr ro=>?_))⟩
 have Y:s1.TypeIs (.ref o) "dict":=⟨oo,Rr,hco.1⟩;have hTd:=@eM B.prog B.w D dD _ _ _ _ hmd;refine⟨hTd,PySem.F.args_dict_update_2 _ _,λA' R' s'=>(s'=s1/\A'=G.A)/\∀v mT,dY G F ρ Q v mT->R' (.ok (.ret v)) mT,.of_wp λA' R' s' z=>?_,⟨⟨rfl,rfl⟩,λv mT p=>p⟩⟩;rw[z.1.1,z.1.2];have hR:=z.2;clear z h h0 S L hm ht ru;refine al (al (iG hTd (am ?_)));refine(?_:im _ _ (pM "dict.update" a (.ref o) [] .none) _ _ _);refine al (dE Y (al (al (al (SZ Y isSubtype_dict_dict (al (bN Y j7.lookup (am (al (am ?_))))))))));unfold TR;refine iM (λe=>cj (eq_of_beq e).symm) ?_;unfold jC;rw[if_neg (by rw[h2.sys K S1];exact wP)];refine al (am (al (cB Rr Ru ?_)));have j:Z.size=more.length:=by rw[←Ev,heo,be,ro.length]
 refine xH hmd λod esd epd My Q4 GK Um _ _=>Ro (al (ji Rr Ru (al (cB Rr Ru (al (ya (n:=Z.size) (I:=λi s=>MI G F1 ρ H1 a o b oo (mC es (more.take i)) s) (λi s2 fj m=>al (cB m.2.2 Ru ?_)) (λs2 m=>?_) ⟨(D3 h1).symm▸S1,L1,Rr⟩)))))) λ_ N=>al (cB My GK (iM (λaa3=>Oy ?_) N))
 ·have Ue:i<zs.length:=by rw[ro.length,←j];exact fj
  have MC:zs[i]?=some zs[i]:=pi Ue;rw[show Z[i]?=some (@mL B.prog B.w D dD (tK B b) zs[i]) by rw[←Op,heo,tz,MC];rfl];have hk:=ro.is zs[i] (IN Ue);refine ah (ro.MB MC) λd Rv rv=>?_;refine(?_:im _ _ (mM [_,_] (AZ a (.ref zs[i].2.1) (fF B.w 8 zs[i].1) zs[i].2.2)>>=_) _ _ _);refine al (wv (yb hr cj m hk.1 hk.2 rv (cr (cr (Bs _ _) (cr (CE (by rw[qd];exact Nat.min_le_right _ _) _) hz)) nO) λs3 m3=>al (ji m3.2.2 Ru (iM (by rw[bne_self_eq_false];exact wP) (am ⟨rfl,?_⟩)))));rw[jI,Rv,show(some (zs[i].1,d)).toList=[(zs[i].1,d)]from rfl,x9];exact m3
 ·rw[j,ku]at m;exact am (al (am (am ⟨_,rfl,hR _ _ ⟨F1,.none,_,k1,.none,m.1,m.2.1,q⟩⟩)))
 ·rw[CF.mp aa3]at Um;exact cg.mp (rd.length.symm.trans (by rw[←be,←Um];rfl)))
end
end
section
theorem Rs.ints{F:aw}{ns:List Int}{vs:List bm}(r:Rs F vs (ns.map .int))(i:Nat)(v:bm)(e:vs[i]?=some v):∃t,v=TS (ns.getD i 0) t:=by
 induction ns generalizing vs i with
 |nil=>revert e;exact r.el λe=>bE e
 |cons n ns ih=>
  revert e;refine r.el λu z h hs e=>?_;cases i with
  |zero=>exact db e▸h.el λt=>⟨t,rfl⟩
  |succ i=>exact ih hs i e
theorem jN{F:aw}{ns:List Int}{vs:List bm}(r:Rs F vs (ns.map .int)):vs.length=ns.length:=by rw[r.length,be]
theorem ql{ns:List Int}{i:Nat}(h:i<ns.length):ns.getD i 0=ns[i]:=by rw[rc,pi h];rfl
theorem pB(ns:List Int)(k:Nat)(h:k≤ns.length):preSum (λi=>ns.getD i 0) k=(ns.take k).sum:=by
 induction k with
 |zero=>rfl
 |succ k ih=>
  refine(?_:preSum _ k+ns.getD k 0=_);rw[ih (TE h),jI,pi h,XV,ql h];exact congrArg _ (O7 _).symm
theorem yc{ns:List Int}(h:∀n∈ns,0≤n):0≤ns.sum:=by
 induction ns with
 |nil=>exact bq _
 |cons n r ih=>rw[sK];exact Lo (h n (.head _)) (ih λm hm=>h m (.tail _ hm))
theorem vX{ns:List Int}(h0:∀n∈ns,0≤n)(k:Nat):0≤(ns.take k).sum/\(ns.take k).sum≤ns.sum:=by
 refine⟨yc λn hn=>h0 n (zc hn),?_⟩;have e:ns.sum=(ns.take k).sum+(ns.drop k).sum:=by rw[←XV,lF]
 rw[e];exact tZ (yc λn hn=>h0 n (zd hn))
theorem ye{ns:List Int}(h0:∀n∈ns,0≤n)(n:Int)(hn:n∈ns):n≤ns.sum:=by
 induction ns with
 |nil=>exact absurd hn cH
 |cons m r ih=>
  rw[sK];exact(em.mp hn).elim (λe=>e▸tZ (yc λm hm=>h0 m (.tail _ hm))) λhn=>SC (ih (λm hm=>h0 m (.tail _ hm)) hn) (Int.le_add_of_nonneg_left (h0 m (.head _)))
section
variable {B:Base}{G:Fc B}{ρ:ag}{H:aa}{F:aw}{mg mb:lm->Option bm}
theorem walked{s:bv}{o:nh}{h':GM}{tk:Nat}{v:bm}{d:D}{Q:D->aa->Prop}(S:G.az F H s)(L:G.Loc F ρ s)(hk:∀b o',b∉[s.heap.objs.size]->(s.heap.push o).get? b=some o'->h'.get? b=some o')(r:R F v d)(q:Q d H):dY G F ρ Q v {s with heap:=h',toks:=tk}:=
 have k:∀b o',s.heap.get? b=some o'->h'.get? b=some o':=λb o' e=>hk b o' (λhm=>wn (ss e) (bn.mp hm)) (au b o' e)
 ⟨F,d,H,.refl _,r,S.keep k,L.keep (.refl _) λb o _ e=>k b o e,q⟩
theorem D4{h:GM}{o:nh}{a:co}(ha:a<h.objs.size):∀b∈[h.objs.size,a],b<(h.push o).objs.size:=by
 rw[gw];exact FM.mpr ⟨bo _,pu.mpr (UV ha)⟩
theorem lng{a b:Int}(h:0≤a)(k:a≤b)(z:b<2^62):U3 a:=by unfold U3;omega
theorem Vn.sum{ns:List Int}{Q:D->aa->Prop}(Z:G.A.handled=none)(h0:∀n∈ns,0≤n)(hs:ns.sum<2^62)(q:Q (.int ns.sum) H):Vn G ρ H (λvs=>call (.builtin "sum") vs) [.fl (ns.map .int)] Q:=.one λF u Y s S L=>Y.el λa vs n e rs=>by
 have e':=(S.fz _ _ e).1;have hl:s.heap.IsList a vs.toArray:=⟨_,e',rfl,_,rfl⟩;refine call_sum_walk (dG hl (LQ _ ([_,a]) ([_]) vs.toArray.size _ _ (λi=>ns.getD i 0) rfl (kE (A:=G.A.in1) Z _ a (wn (ss e')) vs.toArray) ⟨(cY _ (g3 _ rfl) rfl rfl),hl.push _⟩ (D4 (ss e')) (λi v hv=>rs.ints i v (Ch▸hv)) (λj hj=>?_) λh' tk O hk=>walked (s:=s) S L hk ?_ q))
 ·have hj:j<ns.length:=jN rs▸hj;refine(?_:U3 (ns.getD j 0)/\U3 (preSum (λi=>ns.getD i 0) (j+1)));rw[ql hj,pB ns (j+1) hj];have z:=vX h0 (j+1);exact⟨lng (h0 _ (IN hj)) (ye h0 _ (IN hj)) hs,lng z.1 z.2 hs⟩
 ·rw[UF,jN rs,pB ns _ (ii _),ku];exact .int _ _
noncomputable def pT:List Int->Int
 |[]=>0
 |n::r=>r.foldl min n
theorem Bu{l:List Int}{x:Int}(h:l≠[]):pT (l++[x])=min (pT l) x:=by
 cases l with
 |nil=>exact absurd rfl h
 |cons n r=>show List.foldl min n (r++[x])=_;rw[C6];rfl
theorem HX(ns:List Int)(k:Nat)(h:k<ns.length):Ob (λi j=>decide (ns.getD i 0<ns.getD j 0)) k≤k/\ns.getD (Ob (λi j=>decide (ns.getD i 0<ns.getD j 0)) k) 0=pT (ns.take (k+1)):=by
 induction k with
 |zero=>
  cases ns with
  |nil=>exact absurd h (ZB _)
  |cons n r=>exact⟨ii _,rfl⟩
 |succ k ih=>
  have i:=ih (gF h);have z:ns.take (k+1)≠[]:=λe=>by
   have:=congrArg d5 e;rw[qd,lG (Os h)]at this;exact nomatch this
  rw[jI (i:=k+1),pi h];refine(?_:_/\_=pT (ns.take (k+1)++[ns[k+1]]));rw[Bu z,←i.2,←ql h,Ob];by_cases c:ns.getD (k+1) 0<ns.getD (Ob (λi j=>decide (ns.getD i 0<ns.getD j 0)) k) 0
  ·rw[if_pos (decide_eq_true c)];exact⟨ii _,(Int.min_eq_right (kU c)).symm⟩
  ·rw[if_neg λh=>c (of_decide_eq_true h)];exact⟨cp i.1,(Kf (jh.mp c)).symm⟩
theorem Vn.min{ns:List Int}{Q:D->aa->Prop}(Z:G.A.handled=none)(hn:ns≠[])(q:Q (.int (pT ns)) H):Vn G ρ H (λvs=>call (.builtin "min") vs) [.fl (ns.map .int)] Q:=.one λF u Y s S L=>Y.el λa vs n e rs=>by
 have e':=(S.fz _ _ e).1;have hl:s.heap.IsList a vs.toArray:=⟨_,e',rfl,_,rfl⟩;have z:0<ns.length:=A3.mpr hn;refine call_min_walk (dG hl (LQ _ ([_,a]) ([_]) vs.toArray.size _ _ (λi j=>decide (ns.getD i 0<ns.getD j 0)) rfl (kE (A:=G.A.in1) Z _ a (wn (ss e')) vs.toArray) ⟨(cY _ (g3 _ rfl) rfl rfl),hl.push _⟩ (D4 (ss e')) (show 0<vs.length from(jN rs).symm▸z)
  (CmpOf.ints_lt (λi=>ns.getD i 0) λi v hv=>rs.ints i v (Ch▸hv)) λv h' tk hv hk=>?_))
 rw[Ch]at hv;refine(rs.ints _ v hv).elim λt O=>walked (s:=s) S L hk ?_ q;rw[O,UF,jN rs,(HX ns (ns.length-1) (dh z)).2,Nat.sub_add_cancel z,ku];exact .int _ _
theorem Vn.max{ns:List Int}{Q:D->aa->Prop}(O:G.A.handled=none)(hn:ns≠[])(q:∀m,m∈ns->Q (.int m) H):Vn G ρ H (λvs=>call (.builtin "max") vs) [.fl (ns.map .int)] Q:=.one λF u Z s S L=>Z.el λa vs n e rs=>by
 have e':=(S.fz _ _ e).1;have hl:s.heap.IsList a vs.toArray:=⟨_,e',rfl,_,rfl⟩;have Y:0<ns.length:=A3.mpr hn;refine call_max_walk (dG hl (LQ _ ([_,a]) ([_]) vs.toArray.size _ _ (λi j=>decide (ns.getD i 0>ns.getD j 0)) rfl (kE (A:=G.A.in1) O _ a (wn (ss e')) vs.toArray) ⟨(cY _ (g3 _ rfl) rfl rfl),hl.push _⟩ (D4 (ss e')) (show 0<vs.length from(jN rs).symm▸Y)
  (CmpOf.ints_gt (λi=>ns.getD i 0) λi v hv=>rs.ints i v (Ch▸hv)) λv h' tk hv hk=>?_))
 rw[Ch]at hv;have z:=jN rs▸(ww.mp hv).1;exact(rs.ints _ v hv).elim λt N=>walked (s:=s) S L hk (N▸.int _ _) (q _ (ql z▸IN z))
theorem ri(k:Nat):pk 0 (k:Int) 1=(k:Int):=by
 unfold pk;cases k with
 |zero=>rfl
 |succ k=>simp
theorem vY{k:Nat}(hk:k≤1000000):r7 0 (k:Int) 1=true:=by
 unfold r7 O8;rw[ri];simp;exact Z6 hk
theorem HI.range{x:lm}{p u:cx}{e:lv}{target:lv}{nm:List (lm×No)}{n:Nat}{Q:(aa->Prop)->List D->aa->Prop}(K:Kb B mg mb)(O:dB G nm n)(hx:nm.lookup x=some .globalImplicit)(hg:mg x=none)(hv:bp x=some (.type "range"))
  (h:HE G ρ H e λd H1=>∃k:Nat,d=.int k/\k≤1000000/\Q KT ((pc k).map λi:Nat=>D.int (i:Int)) H1)
  (hp:Do [e] G.env=[(false,eval e G.env)]:=by rfl) (hn:x≠"__name__":=by decide) (hd:(x==("__debug__":lm))=false:=by decide)
  (he:eval (.Call (.Name x p) [e] [] u) G.env=(do l8 u (←eval (.Name x p) G.env) [] (Wp u (Do [e] G.env)) (i6 u (eL [] G.env))):=by rfl):
  HI G ρ H target (.Call (.Name x p) [e] [] u) Q:=λF s S L=>by
 have Z:(Wp u (Do [e] G.env)).any (·.1)=false:=by rw[hp];rfl
 refine dm (nN K O hx hg hv S (hU Z (iP Z ?_)) hn hd) he;refine hp▸A4 (h.then S L λF1 d H1 v z k1 N S1 L1 qQ=>bt qQ λk ed hk q=>CG ((ed▸N:R F1 v (.int k)).el λj=>call_range_1 (wpAny_pyIter_range (IsRange.new z.heap 0 k 1 z.toks j (z.toks+1)) (vY hk) ?_)));rw[ri];refine VI.fresh (s:={z with heap:=z.heap.push {cls:=.type "range",data:=.fields #[.int 0 z.toks,.int k j,.int 1 (z.toks+1)]},toks:=z.toks+1+1}) (tk:=z.toks+1+1)
  (je.ofWalks (Walks.range O.room.1 _ 0 1 k).bound (by rw[be,zn]) ?_ (λb hb=>.inl hb) (λi h Y=>pu.mpr ⟨_,Y⟩) λi h Y=>jo _ _ Y rfl (by decide)) k1
  (S1.keep (h':=z.heap.push {cls:=.type "range",data:=.fields #[.int 0 z.toks,.int k j,.int 1 (z.toks+1)]}) (tk:=z.toks+1+1) (d:=z.drawn) au) (L1.keep (.refl _) λb o _ e=>au b o e) ?_ trivial q rfl
 ·refineλi v hq=>dv hq λhi ht=>ht.elim λt ev=>⟨.int (i:Int),by rw[tz,iK hi];rfl,?_⟩;rw[ev,show(0:Int)+i*1=i by rw[Int.zero_add,Int.mul_one]];exact .int _ _
 ·show IsRangeIter _ _ ((0:Int)+((0:Nat):Int)*1) ((k:Int)-((0:Nat):Int)) 1;exact g3 _ rfl
end
end
section
inductive Gives(c:Nat->Nat->Bool)(n:Nat){α:Type}:KasT α->α->Prop
 |ret (a:α):Gives c n (.ret a) a
 |ask {i j:Nat} {k:Bool->KasT α} {a:α} (hi:i<n) (hj:j<n) (h:Gives c n (k (c i j)) a):Gives c n (.ask i j k) a
theorem Gives.bind{α β:Type}{c:Nat->Nat->Bool}{n:Nat}{f:α->KasT β}{a:α}{b:β}{t:KasT α}(h1:Gives c n t a)(h:Gives c n (f a) b):Gives c n (t.bind f) b:=by
 induction h1 with
 |ret=>exact h
 |ask hi hj _ ih=>exact .ask hi hj (ih h)
theorem Gives.wp{α:Type}{c:Nat->Nat->Bool}{n:Nat}{ask:Nat->Nat->(Bool->bv->Prop)->bv->Prop}{s:bv}{Q:α->bv->Prop}{a:α}(ha:∀i j(C:Bool->bv->Prop),i<n->j<n->C (c i j) s->ask i j C s)(q:Q a s)
  {t:KasT α} (h:Gives c n t a):t.kasWp ask Q s:=by
 induction h with
 |ret=>exact q
 |ask hi hj _ ih=>exact ha _ _ _ hi hj (ih q)
section
variable {c:Nat->Nat->Bool}{n:Nat}
noncomputable def vZ(c:Nat->Nat->Bool)(p:Array Nat)(k:Nat):Prop:=∀i j,i<j->j<k->c (p.getD i 0) (p.getD j 0)=true
noncomputable def HY(c:Nat->Nat->Bool)(p:Array Nat)(k:Nat):Prop:=∀i j,i<j->j<k->c (p.getD j 0) (p.getD i 0)=true
structure Arr(c:Nat->Nat->Bool)(n:Nat)(p:Array Nat):Prop where
 size:p.size=n
 lt:∀i,i<n->p.getD i 0<n
 perm:p.toList.Perm (pc n)
 jF:∀i j,i<n->j<n->i≠j->c (p.getD i 0) (p.getD j 0)=false->c (p.getD j 0) (p.getD i 0)=true
 trans:∀i j k,i<n->j<n->k<n->c (p.getD i 0) (p.getD j 0)=true->c (p.getD j 0) (p.getD k 0)=true->c (p.getD i 0) (p.getD k 0)=true
structure yg(c:Nat->Nat->Bool)(n:Nat):Prop where
 jF:∀i j,i<n->j<n->i≠j->c i j=false->c j i=true
 trans:∀i j k,i<n->j<n->k<n->c i j=true->c j k=true->c i k=true
theorem uh{α:Type}{p:Array α}{d:α}{i:Nat}(h:i<p.size):p.getD i d=p[i]:=by unfold kG;rw[dif_pos h];rfl
theorem Arr.of{p:Array Nat}(O:yg c n)(hp:p.toList.Perm (pc n)):Arr c n p:=by
 have hs:p.size=n:=by rw[←Ev,hp.length_eq,zn]
 have z:∀i,i<n->p.getD i 0<n:=λi hi=>by
  rw[uh (hs▸hi)];exact cL.mp (hp.mem_iff.mp (t4 _))
 have hn:∀i j,i<n->j<n->i≠j->p.getD i 0≠p.getD j 0:=λi j hi hj u q=>by
  rw[uh (hs▸hi),uh (hs▸hj)]at q;exact u ((GF (hp.nodup_iff.mpr qf) (h₀:=by rw[Ev,hs];exact hi) (h₁:=by rw[Ev,hs];exact hj)).mp q)
 exact⟨hs,z,hp,λi j hi hj u=>O.jF _ _ (z i hi) (z j hj) (hn i j hi hj u),λi j k hi hj hk=>O.trans _ _ _ (z i hi) (z j hj) (z k hk)⟩
theorem vZ.step{p:Array Nat}{k:Nat}(A:Arr c n p)(h:vZ c p k)(hk:k<n)(h1:1≤k)(hc:c (p.getD (k-1) 0) (p.getD k 0)=true):vZ c p (k+1):=by
 intro i j z hj;by_cases u:j<k
 ·exact h i j z u
 ·have:j=k:=cF hj u;rw[this]at z⊢;by_cases hi:i=k-1
  ·rw[hi];exact hc
  ·exact A.trans i (k-1) k (TW z hk) (G7 hk) hk (h i (k-1) (bQ (di z) hi) (dh z)) hc
theorem HY.step{p:Array Nat}{k:Nat}(A:Arr c n p)(h:HY c p k)(hk:k<n)(h1:1≤k)(hc:c (p.getD k 0) (p.getD (k-1) 0)=true):HY c p (k+1):=by
 intro i j z hj;by_cases u:j<k
 ·exact h i j z u
 ·have:j=k:=cF hj u;rw[this]at z⊢;by_cases hi:i=k-1
  ·rw[hi];exact hc
  ·exact A.trans k (k-1) i hk (G7 hk) (TW z hk) hc (h i (k-1) (bQ (di z) hi) (dh z))
theorem vZ.one{p:Array Nat}:vZ c p 1:=λi j h1 z=>absurd (xL h1 (AT z)) (fZ _)
theorem HY.one{p:Array Nat}:HY c p 1:=λi j h1 z=>absurd (xL h1 (AT z)) (fZ _)
theorem MD{k f n:Nat}(h:k+(f+1)=n):k<n:=h▸xf (O9 f)
theorem D5{k:Nat}(h:1≤k):k≠k-1:=gE (Nat.sub_lt h Nat.one_pos)
theorem zO{p:Array Nat}(A:Arr c n p)(f k:Nat)(hf:k+f=n)(h1:1≤k)(h:vZ c p k):∃m,Gives c n (kas_asc p f k) m/\k≤m/\m≤n/\vZ c p m/\(m<n->c (p.getD m 0) (p.getD (m-1) 0)=true):=by
 induction f generalizing k with
 |zero=>exact⟨k,.ret _,ii _,IR hf,h,λh'=>absurd h' (eD.mpr (IR hf.symm))⟩
 |succ f ih=>
  have hk:=MD hf;have z:=FB (oG k 1) hk;cases hc:c (p.getD k 0) (p.getD (k-1) 0)with
  |true=>exact⟨k,.ask (A.lt _ hk) (A.lt _ z) (by rw[hc,if_pos rfl];exact .ret _),ii _,Os hk,h,λ_=>hc⟩
  |false=>
   exact bt (ih (k+1) ((pL k f).trans hf) (FS 1 k) (h.step A hk h1 (A.jF _ _ hk z (D5 h1) hc))) λm e u a=>⟨m,.ask (A.lt _ hk) (A.lt _ z) (by rw[hc,if_neg wP];exact e),TE u,a⟩
theorem D6{p:Array Nat}(A:Arr c n p)(f k:Nat)(hf:k+f=n)(h1:1≤k)(h:HY c p k):∃m,Gives c n (kas_desc f p k 0) (p,m,0)/\k≤m/\m≤n/\HY c p m:=by
 induction f generalizing k with
 |zero=>exact⟨k,.ret _,ii _,IR hf,h⟩
 |succ f ih=>
  have hk:=MD hf;have z:=FB (oG k 1) hk;cases hc:c (p.getD k 0) (p.getD (k-1) 0)with
  |true=>
   exact bt (ih (k+1) ((pL k f).trans hf) (FS 1 k) (h.step A hk h1 hc)) λm e u a=>⟨m,.ask (A.lt _ hk) (A.lt _ z) (by rw[hc,if_pos rfl,if_neg (ZB _)];exact e),TE u,a⟩
  |false=>
   refine⟨k,.ask (A.lt _ hk) (A.lt _ z) ?_,ii _,Os hk,h⟩;rw[hc,if_neg wP];exact .ask (A.lt _ z) (A.lt _ hk) (by rw[A.jF k (k-1) hk z (D5 h1) hc,if_pos rfl];exact .ret _)
theorem fK{α:Type}{p:Array α}{d:α}(i:Nat):p.getD i d=(p[i]?).getD d:=by
 simp only[Array.getD_eq_getD_getElem?]
theorem D7{p:Array Nat}{m:Nat}(hm:m≤p.size)(k:Nat):(xg p 0 m).getD k 0=if k<m then p.getD (m-1-k) 0 else p.getD k 0:=by
 have h:=getElem?_mirror_all (xs:=p) (i:=0) hm k;rw[fK,fK,fK];unfold xg;rw[h];by_cases hk:k<m
 ·rw[if_pos ⟨np _,hk⟩,if_pos hk];simp
 ·rw[if_neg (not_and.mpr λa=>hk),if_neg hk]
theorem D8{p:Array Nat}{m:Nat}:(xg p 0 m).toList.Perm p.toList:=su.mp (mirror_perm _ _ _ _)
theorem H0{p:Array Nat}{m:Nat}(hm:m≤p.size)(h:HY c p m):vZ c (xg p 0 m) m:=by
 intro i j z hj;rw[D7 hm,D7 hm,if_pos (TW z hj),if_pos hj];exact h _ _ (CH (xL z (di hj)) z) (FB (oG _ _) (dh hj))
theorem Bv(O:yg c n){p:Array Nat}(A:Arr c n p)(q:1≤n):∃m p',Gives c n (kas_count n p) (m,p')/\1≤m/\m≤n/\Arr c n p'/\vZ c p' m:=by
 refine vA (zO A (n-1) 1 (gG q) (ii _) vZ.one) λm e z Z Y a4=>?_;by_cases hm:m=n
 ·exact Dl m p (e.bind (by rw[hm,if_pos (beq_self_eq_true _)];exact .ret _)) z Z A Y
 ·have u:¬(m==n)=true:=λh=>hm (eq_of_beq h);by_cases h1:m>1
  ·refine Dl m p (e.bind ?_) z Z A Y;rw[if_neg u,if_pos h1];exact .ask (A.lt _ q) (A.lt _ (Nat.sub_one_lt_of_le z Z)) (by rw[Y 0 (m-1) (Nat.zero_lt_sub_of_lt h1) (dh z),if_pos rfl];exact .ret _)
  ·have KC:m=1:=cZ (eD.mp h1) z;rw[KC]at e a4 hm u h1;have j:=bQ q hm;refine pP (D6 A (n-(1+1)) (1+1) (gG j) (br 1 1) (HY.one.step A j (ii _) (a4 j))) λk e2 b1 b2 b3=>?_;have A':Arr c n (xg p 0 k):=.of O (D8.trans A.perm);have N:=TE b1;refine pP (zO A' (n-k) k (gG b2) N (H0 (A.size▸b2) b3)) λm' e3 c1 c2 c3=>Dl m' (xg p 0 k) (e.bind ?_) (cr N c1) c2 A' c3.1;rw[if_neg u,if_neg h1];exact e2.bind (e3.bind (.ret _))
theorem ME{l r:Nat}(h:¬l≥r):l≤(l+r)/2/\(l+r)/2<r:=Z3 h
theorem Bw{p:Array Nat}(A:Arr c n p){k:Nat}(hk:k<n)(h:vZ c p k)(f l r:Nat)(hf:r-l≤f)(hl:l≤r)(Z:r≤k)(g1:∀i,i<l->c (p.getD i 0) (p.getD k 0)=true)(N:∀i,r≤i->i<k->c (p.getD k 0) (p.getD i 0)=true):
  ∃q,Gives c n (kas_place p k f l r) q/\q≤k/\(∀i,i<q->c (p.getD i 0) (p.getD k 0)=true)/\(∀i,q≤i->i<k->c (p.getD k 0) (p.getD i 0)=true):=by
 induction f generalizing l r with
 |zero=>exact⟨l,.ret _,cr hl Z,g1,λi hi=>N i (cr (ze (Nat.le_zero.mp hf)) hi)⟩
 |succ f ih=>
  unfold kas_place;by_cases Y:l≥r
  ·rw[if_pos Y];exact⟨l,.ret _,cr hl Z,g1,λi hi=>N i (cr Y hi)⟩
  ·rw[if_neg Y];have u:=ME Y;generalize (l+r)/2=mid at u⊢;have O:=xL u.2 Z;have z:=TW O hk;cases hc:c (p.getD k 0) (p.getD mid 0)with
   |true=>
    refine ah (ih l mid (AT (xL (A5 u.1 u.2) hf)) u.1 (Os O) g1 λi hi j=>?_) λq e x=>⟨q,.ask (A.lt _ hk) (A.lt _ z) (by rw[hc,if_pos rfl];exact e),x⟩;exact(jk hi).elim (λe=>e▸hc) λhi=>A.trans k mid i hk z (TW j hk) hc (h mid i hi j)
   |false=>
    have hd:=A.jF k mid hk z (gE O) hc;refine ah (ih (mid+1) r (AT (xL (CH (Nat.not_le.mp Y) (SL u.1)) hf)) u.2 Z (λi hi=>?_) N) λq e x=>⟨q,.ask (A.lt _ hk) (A.lt _ z) (by rw[hc,if_neg wP];exact e),x⟩;exact(jk (AT hi)).elim (λe=>e.symm▸hd) λhi=>A.trans i mid k (TW hi z) z hk (h i mid hi O) hd
theorem Ia{P B:Nat->Nat}{k q:Nat}(hq:q≤k)(O:∀i,B i=if i=q then P k else if q<i/\i≤k then P (i-1)else P i)(h:∀i j,i<j->j<k->c (P i) (P j)=true)(g1:∀i,i<q->c (P i) (P k)=true)(g2:∀i,q≤i->i<k->c (P k) (P i)=true)(i j:Nat)(Y:i<j)(hj:j<k+1):c (B i) (B j)=true:=by
 have Z:∀i,i<q->B i=P i:=λi hi=>by rw[O,if_neg (wn hi),if_neg λh=>O' hi h.1]
 have b2:B q=P k:=by rw[O,if_pos rfl]
 have b3:∀i,q<i->i≤k->B i=P (i-1):=λi hi hk=>by rw[O,if_neg (gE hi),if_pos ⟨hi,hk⟩]
 have N:=AT hj;refine(dj j q).elim (λh1=>?_) λh1=>h1.elim (λh1=>?_) λh1=>?_
 ·rw[Z i (TW Y h1),Z j h1];exact h i j Y (xL h1 hq)
 ·rw[h1,b2,Z i (h1▸Y)];exact g1 i (h1▸Y)
 ·have u:j-1<k:=xL (dh h1) N;rw[b3 j h1 N];refine(dj i q).elim (λz=>?_) λz=>z.elim (λz=>?_) λz=>?_
  ·rw[Z i z];exact h i (j-1) (xL z (di h1)) u
  ·rw[z,b2];exact g2 (j-1) (di h1) u
  ·rw[b3 i z (cr (Os Y) N)];exact h (i-1) (j-1) (A5 (kH z) Y) u
theorem Ib(O:yg c n)(f k:Nat){p:Array Nat}(A:Arr c n p)(hf:k+f=n)(h:vZ c p k):∃p',Gives c n (kas_bin f p k) p'/\Arr c n p'/\vZ c p' n:=by
 induction f generalizing k p with
 |zero=>exact⟨p,.ret _,A,(show k=n from hf)▸h⟩
 |succ f ih=>
  have hk:=MD hf;refine pP (Bw A hk h k 0 k (oG _ _) (np _) (ii _) (λi hi=>absurd hi (fZ _)) λi h1 z=>absurd z (eD.mpr h1)) λq e hq j u=>?_;refine ah (ih (k+1) (.of O ((su.mp (bubble_perm _ _ _)).trans A.perm)) ((pL k f).trans hf) (Ia (P:=λi=>p.getD i 0) (B:=λi=>(bubble p k (k-q)).getD i 0) hq (λi=>?_) h j u)) λp' e' x=>⟨p',e.bind e',x⟩;have hx:=getElem?_bubble (xs:=p) (src:=k) (by rw[A.size];exact hk) (k-q) (oG _ _) i;rw[Nat.sub_sub_self hq]at hx;show(bubble p k (k-q)).getD i 0=if i=q then p.getD k 0 else if q<i/\i≤k then p.getD (i-1) 0 else p.getD i 0
  rw[fK,fK,fK,fK,hx]
  repeat' split
  all_goals rfl
theorem D9(O:yg c n)(h1:1≤n):∃p,Gives c n (kas_sort n) p/\p.size=n/\p.toList.Perm (pc n)/\vZ c p n:=by
 refine cut λPP Y=>?_;have N:Arr c n (eu (pc n)):=.of O (by rfl);refine LP (Bv O N h1) λm p' e Z u A' z=>?_;refine Y ?_;by_cases hm:m<n
 ·refine bt (Ib O (n-m) m A' (gG u) z) λp e2 j q=>?_;refine(qI p (e.bind ?_) j.size j.perm q);rw[if_pos hm,sv Z];exact e2
 ·rw[cZ u (eD.mp hm)]at e z hm;refine(qI p' (e.bind ?_) A'.size A'.perm z);rw[if_neg hm];exact .ret _
end
end
section
section
variable {prog:EQ}{w:KB}{A:Da}{E:bm->bv->Prop}{s:bv}
noncomputable def ip(h:GM)(a:co)(vs:List bm):Heap:=((h.update a (bf λ_=>#[])).push (kW "tuple" vs.toArray 0)).push (kW "list" #[] 0)
theorem Bx{a:co}{vs:List bm}{n:Nat}{P:PySem.Fin->bv->Prop}{c:Nat->Nat->Bool}{κ:j8}(N:s.heap.get? a=some (kW "list" vs.toArray n))(Z:vs.length<64)
  (hk:2≤vs.length->∀Q:j8->bv->Prop,Q κ {s with heap:=ip s.heap a vs}->im (kt prog w) A (U4 vs.toArray) Q (λ_ _=>False) {s with heap:=ip s.heap a vs})
  (hc:2≤vs.length->∀(i j:Nat)(C:Bool->bv->Prop),i<vs.length->j<vs.length->C (c i j) {s with heap:=ip s.heap a vs}->kas_ask prog w A κ vs i j C {s with heap:=ip s.heap a vs})
  (O:yg c vs.length)
  (h:∀p:Array Nat,p.toList.Perm (pc vs.length)->vZ c p vs.length->P (.done (.ret .none)) {s with heap:=sortedHeap s.heap a vs (eu (p.toList.map λi=>vs.getD i Fa))}):
  im (kt prog w) A (Builtin.«list.sort» ⟨[.ref a],[]⟩) P E s:=by
 have ha:a<s.heap.objs.size:=ss N;rw[list_sort_plain];refine al (listItems_at N rfl ?_);refine al (A7 N rfl ?_ (by rw[UF,cP];exact LC Z) (np _));obtain⟨e1,u⟩:∃e1,(s.heap.update a (bf λ_=>#[])).get? a=some (kW "list" #[] e1):=⟨_,vq N (λ_=>#[])⟩
 refine al (G8 u rfl ?_);refine al (U5 ?_ (by refine(?_:vs.length≤_);rw[cP];exact LC Z));refine al (acN ?_ (np _));refine wv ?_;have Uo:(ip s.heap a vs).get? a=some (kW "list" #[] e1):=by
  unfold ip;rw[jJ _ _ _ (by rw[gH,hV];exact wn (UV ha)),jJ _ _ _ (by rw[hV];exact wn ha)];exact u
 refine(?_:im (kt prog w) A _ P E {s with heap:=ip s.heap a vs});dsimp only;have qk:vs.toArray.size=vs.length:=by rfl
 by_cases z:vs.toArray.size<2
 ·rw[if_pos z,if_pos z];refine al (am ?_);refine al (am ?_);dsimp only;refine al (G8 Uo rfl ?_);refine al (A7 Uo rfl ?_ (np _) (by rw[Array.size_map];show(pairsOf vs).size≤_;rw[pairsOf_size,cP];exact VD z qk));simp only[bne_self_eq_false,a9,if_false];have e:((vs.toArray.zip vs.toArray).map (·.2))=eu ((eu (pc vs.length)).toList.map λi=>vs.getD i Fa):=by
   have key:∀l:List bm,l.length<2->((l.toArray.zip l.toArray).map (·.2))=eu ((eu (pc l.length)).toList.map λi=>l.getD i Fa):=λl hl=>by
    match l,hl with
    |[],_=>simp
    |[v],_=>simp
    |_::_::_,z=>exact absurd z (by simp)
   exact key vs z
  refine am ?_;have g:=h (eu (pc vs.length)) (by rfl) (λi j mX hj=>by rw[qk]at z;exact(VE z hj mX).elim);rw[←e]at g;exact g
 ·rw[if_neg z,if_neg z];have Y:2≤vs.length:=by rw[qk]at z;exact fE z
  refine al (f8 (hk Y (λQR s'=>QR=κ/\s'={s with heap:=ip s.heap a vs}) ⟨rfl,rfl⟩) (λQR s0 jf=>?_) λ_ _ x=>x.elim);obtain⟨rfl,rfl⟩:=jf;refine pP (D9 O ((kH Y):1≤vs.length)) λp hg Mp hpp D'=>?_;refine al (f8 (kat_run (A:=A) (ks:=vs) (Q:=λq s'=>s'={s with heap:=ip s.heap a vs}/\arrOf q=p.map (kas_item (vs.toArray.zip vs.toArray))/\failedOf q=none) (G:=λp' s'=>p'=p/\s'={s with heap:=ip s.heap a vs})
   rfl Y Z (λp' q s' a1 a2 a3 a4=>⟨a4.2,a4.1▸a2,a3⟩) (hg.wp (hc Y) ⟨rfl,rfl⟩)) ?_ λ_ _ e=>e)
  rintro⟨⟨⟩,q⟩ s' ⟨rfl,har,hf⟩;have aa6:=kat_snds rfl har;rw[aa6];refine al (G8 Uo rfl ?_);refine al (A7 Uo rfl ?_ (np _) (by rw[UF,be,Ev,Mp,cP];exact VF Z));rw[hf];simp only[bne_self_eq_false,a9,if_false];exact am (h p hpp D')
theorem By{src:bm}{Q:bm->bv->Prop}(P:List bm->bv->Prop)
  (Ea:im (kt prog w) A.in1 (Oc src) P E s)
  (Eb:∀vs z,P vs z->∃(c:Nat->Nat->Bool)(κ:j8),vs.length<64/\yg c vs.length/\
   (2≤vs.length->∀h',(∀b o,z.heap.get? b=some o->h'.get? b=some o)->(∀Q:j8->bv->Prop,Q κ {z with heap:=h'}->im (kt prog w) A.in1.in1 (U4 vs.toArray) Q (λ_ _=>False) {z with heap:=h'})/\
    ∀(i j:Nat)(C:Bool->bv->Prop),i<vs.length->j<vs.length->C (c i j) {z with heap:=h'}->kas_ask prog w A.in1.in1 κ vs i j C {z with heap:=h'})/\
   ∀(p:Array Nat) h' e,p.toList.Perm (pc vs.length)->vZ c p vs.length->(∀b o,z.heap.get? b=some o->h'.get? b=some o)->h'.get? z.heap.objs.size=some (kW "list" (eu (p.toList.map λi=>vs.getD i Fa)) e)->Q (.ref z.heap.objs.size) {z with heap:=h'}):
  im (kt prog w) A (call (.builtin "sorted") [src]) Q E s:=by
 refine Calls.call_function_entry kind_sorted plain_sorted entry_sorted (args_sorted1 _) ?_;refine al (m:=checkCount "sorted" 1 1 _) (am ?_);refine al (f8 Ea (λvs z hp=>?_) λ_ _ e=>e);refine cut λPP kk=>?_;refine pR (Eb vs z hp) λc κ ui O hk h=>?_;refine kk ?_;refine al (acN ?_ (by rw[cP];exact LC ui));have u:(z.heap.push (kW "list" vs.toArray 0)).get? z.heap.objs.size=some (kW "list" vs.toArray 0):=g3 _ rfl;have Y:∀b o,z.heap.get? b=some o->b≠z.heap.objs.size:=λb o e=>wn (ss e);have se:∀b o,z.heap.get? b=some o->(ip (z.heap.push (kW "list" vs.toArray 0)) z.heap.objs.size vs).get? b=some o:=λb o e=>by
  have q:=ss e;unfold ip;rw[jJ _ _ _ (by rw[gH,hV,gH];exact wn (UV (UV q))),jJ _ _ _ (by rw[hV,gH];exact wn (UV q)),
   A8 _ _ _ _ (Y b o e)]
  exact dL _ e
 refine al (wv (NE slot_list_sort (ak _ u rfl) entry_list_sort (Bx (κ:=κ) (s:={z with heap:=z.heap.push (kW "list" vs.toArray 0)}) u ui
  (λN=>(hk N _ se).1) (λN=>(hk N _ se).2) O λp Z D'=>(ak _ rfl ?_)) (args_list_sort _)))
 obtain⟨e,he⟩:=sortedHeap_at (out:=eu (p.toList.map λi=>vs.getD i Fa)) u;refine am (ak _ rfl (h p _ e Z D' (λb o q=>?_) he));rw[sortedHeap_old (Y b o q) (by rw[gH];exact UV (ss q))];exact dL _ q
end
end
section
structure aB(n:Nat)(S:D->Prop):Prop where
 ok:∀a,S a->e8 n a=true
 Ec:∀a b,S a->S b->∃r,dX n a b=some r
 Ic:∀a b,S a->S b->∃r,f9 n a b=some r
 OA:∀a,S a->f9 n a a=some false
 jF:∀a b,S a->S b->a≠b->f9 n a b=some false->f9 n b a=some true
 trans:∀a b c,S a->S b->S c->f9 n a b=some true->f9 n b c=some true->f9 n a c=some true
theorem aB.mono{n:Nat}{S u:D->Prop}(T:aB n S)(h:∀a,u a->S a):aB n u:=
 ⟨λa ha=>T.ok a (h a ha),λa b ha z=>T.Ec a b (h a ha) (h b z),λa b ha z=>T.Ic a b (h a ha) (h b z),λa ha=>T.OA a (h a ha),λa b ha z=>T.jF a b (h a ha) (h b z),λa b c ha z hc=>T.trans a b c (h a ha) (h b z) (h c hc)⟩
theorem eU{n:Nat}{a b:Int}:f9 n (.int a) (.int b)=some (decide (a<b)):=by cases n<;>rfl
theorem g4{n:Nat}{a b:lm}:f9 n (.str a) (.str b)=some (decide (a.cps.toList<b.cps.toList)):=by cases n<;>rfl
noncomputable def qo(d:D):Prop:=∃i,d=.int i
noncomputable def Ie(d:D):Prop:=∃i,d=.str i
theorem aB.int{n:Nat}:aB n qo where
 ok _ ha:=ha.elim λi e=>by rw[e];exact vF
 Ec _ _ ha hb:=ha.elim λi e=>hb.elim λj e'=>by rw[e,e'];exact⟨_,nF⟩
 Ic _ _ ha hb:=ha.elim λi e=>hb.elim λj e'=>by rw[e,e'];exact⟨_,eU⟩
 OA _ ha:=ha.elim λi e=>by rw[e,eU,decide_eq_false (Od i)]
 jF _ _ ha hb:=ha.elim λi e=>hb.elim λj e'=>by
  rw[e,e',eU,eU];exactλu h=>congrArg _ (decide_eq_true (Int.lt_iff_le_and_ne.mpr ⟨jh.mp (of_decide_eq_false (db h)),λe=>u (congrArg _ e.symm)⟩))
 trans _ _ _ ha hb hc:=ha.elim λi e=>hb.elim λj e'=>hc.elim λk e2=>by
  rw[e,e',e2,eU,eU,eU];exactλh1 z=>congrArg _ (decide_eq_true (Pa (of_decide_eq_true (db h1)) (of_decide_eq_true (db z))))
theorem Ig{a b:lm}(h:a.cps.toList=b.cps.toList):a=b:=by
 cases a;cases b;congr;exact C7.mp h
theorem aB.str{n:Nat}:aB n Ie where
 ok _ ha:=ha.elim λi e=>by rw[e];exact qJ
 Ec _ _ ha hb:=ha.elim λi e=>hb.elim λj e'=>by rw[e,e'];exact⟨_,qL⟩
 Ic _ _ ha hb:=ha.elim λi e=>hb.elim λj e'=>by rw[e,e'];exact⟨_,g4⟩
 OA _ ha:=ha.elim λi e=>by rw[e,g4,decide_eq_false (List.lt_irrefl _)]
 jF _ _ ha hb:=ha.elim λi e=>hb.elim λj e'=>by
  rw[e,e',g4,g4];exactλu h=>congrArg _ (decide_eq_true (aey λh'=>u (congrArg _ (Ig (List.le_antisymm (Pb.mp h') (Pb.mp (of_decide_eq_false (db h))))))))
 trans _ _ _ ha hb hc:=ha.elim λi e=>hb.elim λj e'=>hc.elim λk e2=>by
  rw[e,e',e2,g4,g4,g4];exactλh1 z=>congrArg _ (decide_eq_true (List.lt_trans (of_decide_eq_true (db h1)) (of_decide_eq_true (db z))))
noncomputable def nR(n:Nat)(l m:List D):Option Bool:=Qv (f9 n) (decide (l.length<m.length)) (sG (dX n) l m)
theorem v7{n:Nat}{l m:List D}:f9 (n+1) (.tup l) (.tup m)=nR n l m:=rfl
theorem Ed{n:Nat}{m:List D}:nR n [] m=some (decide (0<m.length)):=rfl
theorem jO{n:Nat}{l:List D}:nR n l []=some false:=by cases l<;>rfl
theorem iI{n:Nat}{x:D}{l m:List D}(h:dX n x x=some true):nR n (x::l) (x::m)=nR n l m:=by
 show Qv _ _ (match dX n x x with|some true=>sG (dX n) l m|some false=>some (some (x,x))|none=>none)=_;rw[h,io,io,decide_eq_decide.mpr iz];rfl
theorem cR{n:Nat}{x y:D}{l m:List D}(h:dX n x y=some false):nR n (x::l) (y::m)=f9 n x y:=by
 show Qv _ _ (match dX n x y with|some true=>sG (dX n) l m|some false=>some (some (x,y))|none=>none)=_;rw[h];rfl
noncomputable def gf(S:Nat->D->Prop)(l:List D):Prop:=∀i x,l[i]?=some x->S i x
theorem gf.head{S:Nat->D->Prop}{x:D}{l:List D}(h:gf S (x::l)):S 0 x:=h 0 x rfl
theorem gf.tail{S:Nat->D->Prop}{x:D}{l:List D}(h:gf S (x::l)):gf (λi=>S (i+1)) l:=λi y e=>h (i+1) y (by simpa using e)
theorem aB.refl{n:Nat}{S:D->Prop}(T:aB n S){a:D}(h:S a):dX n a a=some true:=by
 refine bR (T.Ec a a h h) λr z=>?_;rw[z,(gb n a a r z).mpr rfl]
theorem aB.ne{n:Nat}{S:D->Prop}(T:aB n S){a b:D}(ha:S a)(u:S b)(h:a≠b):dX n a b=some false:=by
 refine bR (T.Ec a b ha u) λr z=>?_;cases r with
 |false=>exact z
 |true=>exact absurd ((gb n a b true z).mp rfl) h
section
variable {n:Nat}
theorem Ih(l:List D):∀{S:Nat->D->Prop}(h:∀i,aB n (S i)) (m:List D),gf S l->gf S m->∃r,nR n l m=some r:=by
 induction l with
 |nil=>exactλ_ _ _ _=>⟨_,Ed⟩
 |cons x l ih=>
  intro S h m hl hm;cases m with
  |nil=>exact⟨_,jO⟩
  |cons y m=>
   by_cases e:x=y
   ·rw[←e,iI ((h 0).refl hl.head)];exact ih (λi=>h (i+1)) m hl.tail hm.tail
   ·rw[cR ((h 0).ne hl.head hm.head e)];exact(h 0).Ic x y hl.head hm.head
theorem Ii(l:List D):∀{S:Nat->D->Prop}(h:∀i,aB n (S i)),gf S l->nR n l l=some false:=by
 induction l with
 |nil=>exactλ_ _=>rfl
 |cons x l ih=>exactλh hl=>(iI ((h 0).refl hl.head)).trans (ih (λi=>h (i+1)) hl.tail)
theorem Ij(l:List D):∀{S:Nat->D->Prop}(h:∀i,aB n (S i)) (m:List D),gf S l->gf S m->l≠m->nR n l m=some false->nR n m l=some true:=by
 induction l with
 |nil=>
  intro S h m _ _ z hf;cases m with
  |nil=>exact absurd rfl z
  |cons y m=>exact Ds (db hf)
 |cons x l ih=>
  intro S h m hl hm z hf;cases m with
  |nil=>rfl
  |cons y m=>
   by_cases e:x=y
   ·rw[←e]at hf z hm⊢;rw[iI ((h 0).refl hl.head)]at hf⊢;exact ih (λi=>h (i+1)) m hl.tail hm.tail (λe=>z (by rw[e])) hf
   ·rw[cR ((h 0).ne hl.head hm.head e)]at hf;rw[cR ((h 0).ne hm.head hl.head (cG e))];exact(h 0).jF x y hl.head hm.head e hf
theorem lex_trans(l:List D):∀{S:Nat->D->Prop}(h:∀i,aB n (S i)) (m k:List D),gf S l->gf S m->gf S k->nR n l m=some true->nR n m k=some true->nR n l k=some true:=by
 induction l with
 |nil=>
  intro S h m k _ _ _ h1 u;cases k with
  |nil=>rw[jO]at u;exact eR (db u)
  |cons z k=>rfl
 |cons x l ih=>
  intro S h m k hl hm hk h1 u;cases m with
  |nil=>rw[jO]at h1;exact eR (db h1)
  |cons y m=>
   cases k with
   |nil=>rw[jO]at u;exact eR (db u)
   |cons z k=>
    have T:=h 0;by_cases e:x=y
    ·rw[←e]at h1 u hm;rw[iI (T.refl hl.head)]at h1;by_cases e2:x=z
     ·rw[←e2]at u hk⊢;rw[iI (T.refl hl.head)]at u⊢;exact ih (λi=>h (i+1)) m k hl.tail hm.tail hk.tail h1 u
     ·rw[cR (T.ne hm.head hk.head e2)]at u;rw[cR (T.ne hl.head hk.head e2)];exact u
    ·rw[cR (T.ne hl.head hm.head e)]at h1;by_cases e2:y=z
     ·rw[←e2,cR (T.ne hl.head hm.head e)];exact h1
     ·rw[cR (T.ne hm.head hk.head e2)]at u;have j:=T.trans x y z hl.head hm.head hk.head h1 u;rw[cR (T.ne hl.head hk.head λe=>by rw[e,T.OA z hk.head]at j;exact eR (db j))];exact j
end
noncomputable def gh(S:Nat->D->Prop)(d:D):Prop:=∃l,d=.tup l/\gf S l
theorem gf.zip{S:Nat->D->Prop}{n:Nat}(h:∀i,aB n (S i)){l m:List D}(hl:gf S l)(hm:gf S m)(p:D×D)(hp:p∈l.zip m):∃r,dX n p.1 p.2=some r:=
 (xy.mp hp).elim λi e=>have e:=List.getElem?_zip_eq_some.mp e;(h i).Ec _ _ (hl i _ e.1) (hm i _ e.2)
theorem aB.tups{n:Nat}{S:Nat->D->Prop}(h:∀i,aB n (S i)):aB (n+1) (gh S)where
 ok _ ha:=ah ha λl e hl=>by rw[e];exact ut.mpr λx hx=>(xy.mp hx).elim λi hi=>(h i).ok x (hl i x hi)
 Ec _ _ ha hb:=ah ha λl e hl=>ah hb λm e' hm=>by rw[e,e'];exact qK (hl.zip h hm)
 Ic _ _ ha hb:=ah ha λl e hl=>ah hb λm e' hm=>by rw[e,e'];exact Ih l h m hl hm
 OA _ ha:=ah ha λl e hl=>by rw[e];exact Ii l h hl
 jF _ _ ha hb:=ah ha λl e hl=>ah hb λm e' hm=>by
  rw[e,e'];exactλz=>Ij l h m hl hm λe=>z (congrArg _ e)
 trans _ _ _ ha hb hc:=ah ha λl e hl=>ah hb λm e' hm=>ah hc λk e2 hk=>by
  rw[e,e',e2];exact lex_trans l h m k hl hm hk
noncomputable def Ik(n:Nat)(a b:D):Prop:=f9 n a b=some true
noncomputable def KD(n:Nat)(ds:List D)(i j:Nat):Bool:=f9 n (ds.getD i .none) (ds.getD j .none)==some true
theorem Ee{n:Nat}{S:D->Prop}(T:aB n S){ds:List D}(hs:∀d∈ds,S d)(nd:ds.Nodup):yg (KD n ds) ds.length:=by
 have z:∀i,i<ds.length->S (ds.getD i .none):=λi hi=>by
  rw[show ds.getD i .none=ds[i] by simp[hi]];exact hs _ (IN hi)
 refine⟨λi j hi hj Z h=>?_,λi j k hi hj hk h1 u=>?_⟩
 ·have Y:ds.getD i .none≠ds.getD j .none:=λe=>by
   rw[show ds.getD i .none=ds[i] by simp[hi],show ds.getD j .none=ds[j] by simp[hj]]at e;exact Z ((GF nd).mp e)
  refine bR (T.Ic _ _ (z i hi) (z j hj)) λr q=>?_;unfold KD at h⊢;rw[q]at h;cases r with
  |true=>simp at h
  |false=>rw[T.jF _ _ (z i hi) (z j hj) Y q];rfl
 ·unfold KD at h1 u⊢;rw[beq_iff_eq]at h1 u⊢;exact T.trans _ _ _ (z i hi) (z j hj) (z k hk) h1 u
end
section
structure gK(prog:EQ)(w:KB)(n:Nat)(S:D->Prop)(κ:j8):Prop where
 kind:∀(A:Da)(s:bv)(vs:List bm)(ds:List D)(Q:j8->bv->Prop),Rs (hv s.heap) vs ds->(∀d∈ds,S d)->2≤vs.length->Q κ s->im (kt prog w) A (U4 vs.toArray) Q (λ_ _=>False) s
 ask:∀(A:Da)(s:bv)(x y:D)(u v:bm)(r:Bool)(C:Bool->bv->Prop),S x->S y->R (hv s.heap) u x->R (hv s.heap) v y->f9 n x y=some r->A.units+n<cA->C r s->im (kt prog w) A (keyLt' κ u v) C (λ_ _=>False) s
section
variable {prog:EQ}{w:KB}
theorem Bz{h:GM}{i:Int}{t:Tok}:G1 (kt prog w) h (C8 (.int i t)) (.type "int"):=.of_pure rfl
theorem BA{h:GM}{i:lm}{t:Tok}:G1 (kt prog w) h (C8 (.str i t)) (.type "str"):=.of_pure rfl
theorem Rs.mem{F:aw}{vs:List bm}{ds:List D}(r:Rs F vs ds)(v:bm)(h:v∈vs):∃d∈ds,R F v d:=by
 induction vs generalizing ds with
 |nil=>exact absurd h cH
 |cons u Z ih=>
  refine r.le λd ds q j=>?_;exact(em.mp h).elim (λe=>(ak d (.head _) (e▸q))) λh=>ah (ih j h) λe Y z=>(ak e (.tail _ Y) z)
theorem Il{α:Type}{C:α->D}{T:bm}{F:GM}{vs:List bm}{ds:List D}(j:∀v i,R (hv F) v (C i)->G1 (kt prog w) F (C8 v) T)(r:Rs (hv F) vs ds)(hs:∀d∈ds,∃i,d=C i)(v:bm)(h:v∈vs):G1 (kt prog w) F (C8 v) T:=
 ah (r.mem v h) λd u z=>(hs d u).elim λi e=>j v i (e▸z)
theorem rj{h:GM}(v:bm)(i:Int)(r:R (hv h) v (.int i)):G1 (kt prog w) h (C8 v) (.type "int"):=r.el λt=>Bz
theorem yh{h:GM}(v:bm)(i:lm)(r:R (hv h) v (.str i)):G1 (kt prog w) h (C8 v) (.type "str"):=r.el λt=>BA
theorem lt_int{n:Nat}{i j:Int}{r:Bool}(h:f9 n (.int i) (.int j)=some r):decide (i<j)=r:=db (eU.symm.trans h)
theorem lt_str{n:Nat}{i j:lm}{r:Bool}(h:f9 n (.str i) (.str j)=some r):decide (i.cps.toList<j.cps.toList)=r:=db (g4.symm.trans h)
theorem gK.int{n:Nat}:gK prog w n qo oneType' where
 kind:=λA s vs ds Q r hs z q=>kas_kind (T:=.type "int") z (Il rj r hs) (by decide) (by decide) q
 ask A s x y u v r C hx hy ru rv h _ q:=hx.elim λi e=>hy.elim λj e'=>by
  rw[e]at h ru;rw[e']at h rv;rw[←lt_int h]at q;exact ru.el λt=>rv.el λY=>kat_lt_int q
section
variable {A:Da}{s:bv}{n:Nat}{b:Bool}{r:Bool}{Q:Bool->bv->Prop}
theorem Ef{E:bm->bv->Prop}{S:D->Prop}{x y:D}{u v:bm}(h:(∀x,S x->qo x)∨(∀x,S x->Ie x))(hx:S x)(hy:S y)(z:R (hv s.heap) u x)(rv:R (hv s.heap) v y)(hl:f9 n x y=some r)(q:Q r s):im (kt prog w) A (oneLt' true u v) Q E s:=
 h.elim (λh=>(h x hx).elim λi e=>(h y hy).elim λj e'=>by
   rw[e]at hl z;rw[e']at hl rv;rw[←lt_int hl]at q;exact z.el λt=>rv.el λY=>oneLt_int q) λh=>(h x hx).elim λi e=>(h y hy).elim λj e'=>by
   rw[e]at hl z;rw[e']at hl rv;rw[←lt_str hl]at q;exact z.el λt=>rv.el λY=>oneLt_str q
theorem Eh(N:A.units+n<cA){Y:Bool}(l:List D):∀{S:Nat->D->Prop}(T:∀i,aB n (S i)) (vs z:List bm) (m:List D) (i:Nat),
  Rs (hv s.heap) vs l->Rs (hv s.heap) z m->gf S l->gf S m->(i=0->((∀x,S 0 x->qo x)∨(∀x,S 0 x->Ie x)))->nR n l m=some r->(decide (l.length<m.length)=Y)->Q r s->
  KatLex prog w A b Y Q (vs.zip z) i s:=by
 induction l with
 |nil=>
  intro S T vs z m i rv _ _ _ _ h hf q;refine rv.el ?_;have h:decide (([]:List D).length<m.length)=r:=db h;rw[←h]at q;refine hf▸?_;exact kat_nil (i:=i) (b:=b) (A:=A) (prog:=prog) (w:=w) q
 |cons x l ih=>
  intro S T vs z m i rv O hl hm hb h hf q;refine rv.el λv vs h1 r1=>?_;cases m with
  |nil=>
   refine O.el ?_;rw[←db (jO.symm.trans h)]at q;refine hf▸?_;exact kat_nil (i:=i) (b:=b) (A:=A) (prog:=prog) (w:=w) q
  |cons y m=>
   refine O.el λu z Z r2=>kat_cons ?_;refine(T 0).Ec x y hl.head hm.head|>.elim λe j=>nE n A x y v u e _ j ((T 0).ok x hl.head) ((T 0).ok y hm.head) h1 Z N ?_;cases e with
   |true=>
    rw[←(gb n x y true j).mp rfl]at h j;rw[iI j]at h;exact kat_yes (ih (λi=>T (i+1)) vs z m (i+1) r1 r2 hl.tail hm.tail (λe=>nomatch e) h ((decide_eq_decide.mpr iz.symm).trans hf) q)
   |false=>
    rw[cR j]at h;refine kat_no ?_;cases hbb:(b&&i==0)with
    |true=>exact Ef (hb (eq_of_beq (u8 _ _▸hbb).2)) hl.head hm.head h1 Z h q
    |false=>exact kat_one _ _ (zA n A x y v u r _ h ((T 0).ok x hl.head) ((T 0).ok y hm.head) h1 Z N q)
end
theorem Im{h:GM}{S:Nat->D->Prop}{vs:List bm}:∀{ds:List D},Rs (hv h) vs ds->(∀d∈ds,gh S d/\∃x l,d=.tup (x::l))->∃z,KatTups h vs z/\z.length=vs.length/\∀f∈z,∃x,S 0 x/\R (hv h) f x:=by
 induction vs with
 |nil=>exactλ_ _=>(cY ([]) (.nil) rfl (λf h=>absurd h cH))
 |cons v vs ih=>
  intro ds r;refine r.le λd ds j r hs=>?_;refine bt (ih r λd Y=>hs d (.tail _ Y)) λz k hl hf=>?_;refine ah (hs _ (.head _)).1 λO e' ha=>mm (hs _ (.head _)).2 λx l e=>?_;rw[e',D.tup.injEq]at e;rw[e',e]at j;rw[e]at ha;refine j.el λa ws n e rs=>Rs.el (P:=λws=>hv h a=some (aE ws n)->_) rs (λu q rx Z e=>?_) e;exact(cY (u::z) (.cons (o:=aE (u::q) n) e rfl rfl rfl k) (congrArg (·+1) hl) (FM.mpr ⟨⟨x,ha.head,rx⟩,hf⟩))
theorem gK.tups{n:Nat}{S:Nat->D->Prop}(T:∀i,aB n (S i))(h0:(∀x,S 0 x->qo x)∨(∀x,S 0 x->Ie x)):gK prog w (n+1) (λd=>gh S d/\∃x l,d=.tup (x::l)) (tuples' true)where
 kind:=λA s vs ds Q r hs O q=>bt (Im r hs) λfs k hl hf=>
  h0.elim (λhI=>kat_kind (T:=.type "int") k (hl.symm▸gF O) (λf z=>ah (hf f z) λx hx rx=>(hI x hx).elim λi e=>rj f i (e▸rx)) (by decide) (by rw[show((aT "int"!=aT "tuple")=true) by decide];exact q))
   λhS=>kat_kind (T:=.type "str") k (hl.symm▸gF O) (λf z=>ah (hf f z) λx hx rx=>(hS x hx).elim λi e=>yh f i (e▸rx)) (by decide) (by rw[show((aT "str"!=aT "tuple")=true) by decide];exact q)
 ask A s x y u v r C hx hy ru rv h hu q:=ah hx.1 λl e hl=>ah hy.1 λm e' hm=>by
  rw[e]at h ru;rw[e']at h rv;refine ru.el λa vs na e1 Z=>rv.el λb j N e2 Y=>kat_lt (ox:=aE vs na) (oy:=aE j N) e1 rfl e2 rfl ?_;exact Eh (gF hu) l T vs j m 0 Z Y hl hm (λ_=>h0) h (by rw[←Z.length,←Y.length];rfl) q
end
section
variable {B:Base}{G:Fc B}{ρ:ag}{H:aa}{F:aw}
theorem az.mu{s:bv}(S:G.az F H s):F.le (hv s.heap):=λa o e=>(S.fz a o e).1
theorem Rx{h h':GM}(k:∀b o,h.get? b=some o->h'.get? b=some o):aw.le (hv h) (hv h'):=λa o e=>k a o e
theorem Rs.at'{vs:List bm}{ds:List D}(r:Rs F vs ds){i:Nat}(hi:i<ds.length):R F (vs.getD i Fa) (ds.getD i .none):=by
 refine ah (r.get (i:=i) (d:=ds[i]) (by simp[hi])) λv e h=>?_;rw[show ds.getD i .none=ds[i] by simp[hi],show vs.getD i Fa=v by simp[rc,e]];exact h
theorem Rs.pick{vs:List bm}{ds:List D}(r:Rs F vs ds):∀{p:List Nat},(∀i∈p,i<ds.length)->Rs F (p.map λi=>vs.getD i Fa) (p.map λi=>ds.getD i .none)
 |[],_=>.nil
 |i::p,h=>.cons (r.at' (h i (.head _))) (r.pick λj hj=>h j (.tail _ hj))
theorem BB(ds:List D){p:List Nat}(h:p.Perm (pc ds.length)):(p.map λi=>ds.getD i .none).Perm ds:=by
 have h1:=h.map λi=>ds.getD i .none;have e:(pc ds.length).map (λi=>ds.getD i .none)=ds:=by
  apply kv
  ·simp
  ·intro i h1 z;simp at h1;simp[h1]
 rwa [e]at h1
theorem v8{n:Nat}(ds:List D){p:Array Nat}(hs:vZ (KD n ds) p p.size):(p.toList.map λi=>ds.getD i .none).Pairwise (Ik n):=by
 rw[t5];intro i j hi hj u;have q:i<p.size:=by simpa using hi
 have z:j<p.size:=by simpa using hj
 have h:=hs i j u z;unfold KD at h;rw[beq_iff_eq,show p.getD i 0=p[i] by simp[kG,q],show p.getD j 0=p[j] by simp[kG,z]]at h;simpa[Ik]using h
theorem HV.sorted{src:bm}{n:Nat}{S:D->Prop}{κ:j8}{s:bv}{q:List D->aa->Prop}{Q:D->aa->Prop}(K:gK B.prog B.w n S κ)(T:aB n S)(hu:G.A.units+n+2<cA)
  (Ea:im (kt B.prog B.w) G.A.in1 (Oc src) (xN G F ρ λds H'=>(∀d∈ds,S d)/\ds.Nodup/\ds.length<64/\q ds H') bot s)
  (h:∀ds Y H',q ds H'->Y.Perm ds->Y.Pairwise (Ik n)->Q (.fl Y) H'):im (kt B.prog B.w) G.A (call (.builtin "sorted") [src]) (dY G F ρ Q) bot s:=by
 refine By _ Ea λvs aJ⟨F',ds,H',k,r,O,L1,⟨hs,nd,N,hq⟩⟩=>?_;have hl:vs.length=ds.length:=r.length;refine(Dk (KD n ds) κ (by rw[hl];exact N) (by rw[hl];exact Ee T hs nd) (λh2 h' hk=>?_) (λp h' e hp z hk he=>?_))
 ·have r':Rs (hv h') vs ds:=r.mono (O.mu.trans (Rx hk));refine⟨λQ' q'=>K.kind _ _ vs ds Q' r' hs h2 q',λi j C hi hj hc=>?_⟩;rw[hl]at hi hj;have u:∀i,i<ds.length->S (ds.getD i .none):=λi hi=>by
   rw[show ds.getD i .none=ds[i] by simp[hi]];exact hs _ (IN hi)
  refine bR (T.Ic _ _ (u i hi) (u j hj)) λb Z=>?_;refine K.ask _ _ _ _ _ _ b C (u i hi) (u j hj) (r'.at' hi) (r'.at' hj) Z (by refine(?_:G.A.units+1+1+n<cA);exact VG hu) ?_;have e:KD n ds i j=b:=by unfold KD;rw[Z];cases b<;>rfl
  rw[←e];exact hc
 ·rw[hl]at hp z;have Mp:p.size=ds.length:=by have:=hp.length_eq;simpa using this
  refine dY.fl (tk:=aJ.toks) (n:=e) k (r.pick (p:=p.toList) λi hi=>by simpa using hp.mem_iff.mp hi) O L1 hk he (aF _) (h ds _ H' hq (BB ds hp) (v8 ds (by rw[Mp];exact z)))
end
end
section
section
variable {B:Base}{G:Fc B}{ρ:ag}{H:aa}{F:aw}{mg mb:lm->Option bm}
noncomputable def nS(G:Fc B)(ρ:ag)(H:aa)(F:aw)(src:bm)(q:List D->aa->Prop):Prop:=∀(A:Da)(s:bv),A.handled=none->G.az F H s->G.Loc F ρ s->
 im (kt B.prog B.w) A (Oc src) (xN G F ρ q) bot s
theorem Vn.sortedBy{n:Nat}{S:D->Prop}{κ:j8}{d:D}{q:List D->aa->Prop}{Q:D->aa->Prop}(K:gK B.prog B.w n S κ)(T:aB n S)(Z:G.A.handled=none)(Y:G.A.units+n+2<cA)
  (Ea:∀F u,R F u d->nS G ρ H F u λds H'=>(∀d∈ds,S d)/\ds.Nodup/\ds.length<64/\q ds H')
  (h:∀ds z H',q ds H'->z.Perm ds->z.Pairwise (Ik n)->Q (.fl z) H'):Vn G ρ H (λvs=>call (.builtin "sorted") vs) [d] Q:=.one λF u j s O L=>by
 refine HV.sorted K T Y (Ea F u j G.A.in1 s Z O L) h
theorem lP{h:GM}{vs:List bm}:∀b o,h.get? b=some o->((h.push (kW "list" #[] 0)).update h.objs.size (bf (·++vs.toArray))).get? b=some o:=λb o e=>by
 rw[A8 _ _ _ _ (wn (ss e))];exact dL _ e
theorem nS.at{a:co}{vs:List bm}{n:Nat}{ds:List D}{q:List D->aa->Prop}(z:∀s,G.az F H s->s.heap.get? a=some (bz vs n))(r:Rs F vs ds)(hz:ds.length≤ga)(h:q ds H):nS G ρ H F (.ref a) q:=λA s _ S L=>
 aeA (vs:=vs) ⟨_,z s S,rfl,_,rfl⟩ ⟨F,ds,H,.refl F,r,S.keep (tk:=s.toks) (d:=s.drawn) lP,L.keep (.refl _) λb o _ e=>lP b o e,h⟩ (by rw[r.length];exact hz)
theorem nS.fl{u:bm}{ds:List D}{q:List D->aa->Prop}(z:R F u (.fl ds))(hz:ds.length≤ga)(h:q ds H):nS G ρ H F u q:=R.el z λa vs n e r=>.at (λs S=>(S.fz _ _ e).1) r hz h
theorem nS.list{a:co}{ds:List D}{q:List D->aa->Prop}(hl:H a=some (.list ds))(hz:ds.length≤ga)(h:q ds H):nS G ρ H F (.ref a) q:=λA s z S L=>by
 refine dW ((S.hp a _ hl).1) λvs n e r=>?_;exact aeA (vs:=vs) ⟨_,e,rfl,_,rfl⟩ ⟨F,ds,H,.refl F,r,S.keep (tk:=s.toks) (d:=s.drawn) lP,L.keep (.refl _) λb o _ e=>lP b o e,h⟩ (by rw[r.length];exact hz)
theorem ints_of{ns:List Int}:∀{vs:List bm},Rs F vs (ns.map .int)->IntsAre vs ns:=by
 induction ns with
 |nil=>intro vs r;cases r;exact .nil
 |cons n ns ih=>intro vs r;cases r with
  |cons h r=>cases h;exact .cons n _ (ih r)
theorem uj:∀{vs:List bm}{ns:List Int},IntsAre vs ns->Rs F vs (ns.map .int)
 |_,_,.nil=>.nil
 |_,_,.cons n t r=>.cons (.int n t) (uj r)
theorem uk{h:GM}{vs:List bm}{out:Array bm}:∀b o,h.get? b=some o->(sortedAll h vs out).get? b=some o:=λb o e=>sortedAll_old e
theorem Vn.rn{d:D}{ns:List Int}{Q:D->aa->Prop}(hl:d=.fl (ns.map .int)∨∃a,d=.ref a/\H a=some (.list (ns.map .int)))(Y:ns.length<64)(q:∀z:List Int,z.Perm ns->z.Pairwise (·≤·)->Q (.fl (z.map .int)) H):
  Vn G ρ H (λvs=>call (.builtin "sorted") vs) [d] Q:=.one λF u j s S L=>by
 have out:∀{a vs n},s.heap.get? a=some (bz vs n)->Rs F vs (ns.map .int)->im (kt B.prog B.w) G.A (call (.builtin "sorted") [.ref a]) (dY G F ρ Q) bot s:=λ{a vs n} e r=>by
  refine sorted_ints (vs:=vs) (ns:=ns) ⟨_,e,rfl,_,rfl⟩ (ints_of r) (by rw[r.length];simpa using Y) λout z hi hp hs=>?_;exact bR (sortedAll_at s.heap vs out) λe' Z=>dY.fl (tk:=s.toks) (n:=e') (vs:=out.toList) (.refl _) (uj hi) S L uk Z (Re (by exact b8 _)) (q z hp hs)
 refine hl.elim (λe=>?_) λe=>ah e λa e ha=>?_
 ·subst e;exact R.el j λa vs n e r=>out (S.fz _ _ e).1 r
 ·subst e;exact R.el j (dW ((S.hp a _ ha).1) λvs n e r=>out e r)
variable {Ky:Type}[DecidableEq Ky]{knd:ph B.prog B.w Ky}{kd:Ky->D}{ct:List (Ky×D)->ao}
theorem Rs.KG{vs:List bm}{ds:List D}(hl:vs.length=ds.length)(h:∀(i:Nat)(v:bm),vs[i]?=some v->∃d:D,ds[i]?=some d/\R F v d):Rs F vs ds:=by
 induction vs generalizing ds with
 |nil=>cases ds with
  |nil=>exact .nil
  |cons=>simp at hl
 |cons v vs ih=>
  cases ds with
  |nil=>simp at hl
  |cons d ds=>
   refine ah (h 0 v rfl) λz e r=>?_;simp at e;subst e;exact .cons r (ih (by simpa using hl) λi v e=>by simpa using h (i+1) v (by simpa using e))
theorem nS.keys{a:co}{es:List (Ky×D)}{q:List D->aa->Prop}(X:gd B knd kd ct)(K:Kb B mg mb)(h:fh H a (ct es))(hz:es.length≤ga)(hq:q (es.map λe=>kd e.1) H):nS G ρ H F (.ref a) q:=λA s Z S L=>by
 refine ah ((X.cont _ _ _ _).mp (h.at S).1) λkvs hm r=>?_;obtain⟨ep,CQ⟩:=hm.dictAt;refine kdu_collect (kdl_dict (knd:=knd) (kvs:=kvs) (ep:=ep) (h.sys K S)) Z CQ (by rw[r.length];exact hz) λh' tk acc hk z=>?_;refine⟨F,_,H,.refl F,Rs.KG (by rw[Ev,z.1,r.length,be]) λi v e=>?_,S.keep (tk:=tk) (d:=s.drawn) hk,L.keep (.refl _) λb o _ e=>hk b o e,hq⟩;refine cut λPP j=>?_;obtain⟨k,x,e1,e2⟩:=z.2 i v (by rw[←Op];exact e);have Y:=r.keys;have u:(kvs.map (·.1))[i]?=some k:=by rw[tz,e1];rfl
 rw[Y,tz]at u;refine ah (At.mp u) λp N O=>?_;refine j ?_;exact(ak (kd p.1) (by rw[tz,N];rfl) (X.val _ _ _ (O▸e2)))
end
end
section
noncomputable def v9(F:aw)(h h':GM):aw:=λa=>match h.get? a with|none=>h'.get? a|some _=>F a
section
variable {prog:EQ}{w:KB}{T:GM}{Ot:aw}{os:kL}{own:List co}{F:aw}{H:aa}{s:bv}
theorem az.BD(S:az prog w T Ot os own F H s){h':GM}{tk:Nat}{d:oC}(hk:∀b o,s.heap.get? b=some o->h'.get? b=some o):
  az prog w T Ot os own (v9 F s.heap h') H ⟨h',s.gens,d,tk,s.os⟩/\F.le (v9 F s.heap h')/\∀a o,s.heap.get? a=none->h'.get? a=some o->v9 F s.heap h' a=some o:=by
 have u:∀a,s.heap.get? a=none->H a=none:=λa hn=>by
  cases q:H a with
  |none=>rfl
  |some c=>obtain⟨o,e⟩:=(S.hp a c q).1.lt;rw[hn]at e;cases e
 have z:F.le (v9 F s.heap h'):=λb o' e=>by
  have:=(S.fz b o' e).1;unfold v9;rw[this];exact e
 refine⟨S.to (λb o e _=>hk b o e) (λb o' e=>?_) (λb c e=>⟨?_,.inl (by rw[e];rfl)⟩) λb o' e=>?_,z,λa o hn e=>by unfold v9;rw[hn];exact e⟩
 ·unfold v9 at e;cases q:s.heap.get? b with
  |none=>rw[q]at e;exact .inr ⟨e,rfl⟩
  |some o=>rw[q]at e;exact .inl e
 ·refine bR ((S.hp b c e).1.lt) λo' e'=>?_;exact(S.hp b c e).1.keep z ((hk _ _ e').trans e'.symm)
 ·unfold v9 at e;cases q:s.heap.get? b with
  |none=>exact u b q
  |some o=>rw[q]at e;exact(S.fz b o' e).2.1
end
section
variable {B:Base}{G:Fc B}{ρ:ag}{H:aa}{F:aw}{mg mb:lm->Option bm}
variable {Ky:Type}[DecidableEq Ky]{knd:ph B.prog B.w Ky}{kd:Ky->D}{ct:List (Ky×D)->ao}
theorem Rp.MG{F:aw}{K:Type}{vs:List (K×bm)}{ds:List (K×D)}(r:Rp F vs ds):∀{i:Nat}{k:K}{x:bm},vs[i]?=some (k,x)->∃d,ds[i]?=some (k,d)/\R F x d:=by
 induction r with
 |nil=>intro i k x e;simp at e
 |cons h1 _ ih=>
  intro i k x e;cases i with
  |zero=>simp at e;obtain⟨rfl,rfl⟩:=e;exact(ak _ rfl h1)
  |succ i=>simp at e;simpa using ih e
noncomputable abbrev gS(d:co):Obj:={cls:=.type "dict_items",data:=.fields #[.ref d]}
theorem nS.items{v a:co}{es:List (Ky×D)}{q:List D->aa->Prop}(X:gd B knd kd ct)(hv:H v=some (.raw (gS a)))(h:fh H a (ct es))(hz:es.length≤ga)(hq:q (es.map λe=>.tup [kd e.1,e.2]) H):
  nS G ρ H F (.ref v) q:=λA s Z S L=>by
 refine ah ((X.cont _ _ _ _).mp (h.at S).1) λkvs hm r=>?_;obtain⟨ep,CQ⟩:=hm.dictAt;have Qw:s.heap.get? v=some (gS a):=(S.hp v _ hv).1;refine kdx_collect (knd:=knd) (kvs:=kvs) (ep:=ep) Z (cY _ Qw rfl rfl) CQ (by rw[r.length];exact hz) λh' tk as hk hl g=>?_;refine ml (S.BD (h':=h') (tk:=tk) (d:=s.drawn) hk) λS' u N=>?_;refine⟨_,_,H,u,Rs.KG (by rw[be,hl,r.length,be]) λi v e=>?_,S',L.keep u λb o _ e=>hk b o e,hq⟩;rw[tz]at e;refine ah (At.mp e) λb j gc=>?_;rw[←gc];refine cut λPP Y=>?_;refine mn (g.pairs i b j) λz k x e2 e3 e4=>?_;refine ah (r.MG e2) λdd e5 e7=>?_;have O:s.heap.get? b=none:=Re (Os (g.above b (bk j)));refine Y ?_;refine(ak (.tup [kd k,dd]) (by rw[tz,e5];rfl) (.tup (n:=0) (vs:=[z,x]) (N b _ O e4) (.cons (X.val _ _ _ e3) (.cons (e7.mono u) .nil))))
theorem VM.MH{a:co}{es:List (Ky×D)}{Q:D->aa->Prop}(X:gd B knd kd ct)(K:Kb B mg mb)(h:fh H a (ct es))(q:∀v,H v=none->Q (.ref v) (upd H v (.raw (gS a)))):VM G ρ H "items" (.ref a) [] Q:=λF u z j s S L=>by
 refine R.el z ?_;refine ah ((X.cont _ _ _ _).mp (h.at S).1) λkvs hm _=>?_;refine(vB ("dict") ("dict.items") dq s7 PySem.F.type_dict_items hm.typeIs hm.mapOf.noDict (method_meetsIn s7 PySem.F.entry_dict_items rfl (TU ⟨rfl,hm.typeIs,PySem.F.args_dict_items_1 _,_,meets_dict_items knd a (h.sys K S),⟨_,hm⟩,?_⟩)));exact .new (c:=.raw (gS a)) (tk:=s.toks) (.refl _) S L au (show GG _ _=_ from g3 _ rfl) (aF _) (q _)
end
end
section
noncomputable def fO(xs:Array Nat):Prop:=∀i j(hi:i<xs.size)(hj:j<xs.size),i<j->xs[i]<xs[j]
theorem fO.of{xs:Array Nat}(h:xs.toList.Pairwise (·<·)):fO xs:=λi j hi hj z=>by
 have:=t5.mp h i j (by simpa using hi) (by simpa using hj) z;exact this
theorem rq{xs:Array Nat}(R:fO xs)(j:Nat):∀(fuel lo hi:Nat),hi-lo≤fuel->lo≤hi->hi≤xs.size->(∀i(h:i<xs.size),i<lo->xs[i]<j)->(∀i(h:i<xs.size),hi≤i->j≤xs[i])->
  ∃p,ie xs j fuel lo hi=p/\p≤xs.size/\(∀i(h:i<xs.size),i<p->xs[i]<j)/\(∀i(h:i<xs.size),p≤i->j≤xs[i])
 |0,lo,hi,hf,hl,hs,a,b=>(qI lo rfl (cr hl hs) a (λi h z=>b i h (VH hf z)))
 |fuel+1,lo,hi,hf,hl,hs,a,b=>by
  rw[show ie xs j (fuel+1) lo hi=(if lo<hi then(if xs.getD ((lo+hi)/2) j<j then ie xs j fuel ((lo+hi)/2+1) hi else ie xs j fuel lo ((lo+hi)/2))else lo)from rfl];by_cases u:lo<hi
  ·rw[if_pos u];have Z:lo≤(lo+hi)/2:=Qi u;have Y:(lo+hi)/2<hi:=Qj u;generalize (lo+hi)/2=m at Z Y;have q:m<xs.size:=xL Y hs;have e:xs.getD m j=xs[m]:=by simp[kG,q]
   refine e▸?_;by_cases hc:xs[m]<j
   ·rw[if_pos hc];refine rq R j fuel (m+1) hi (ZX hf Z) (by assumption) hs (λi h z=>?_) b;rcases bG i m with h1|h1
    ·exact TW (R i m h q h1) hc
    ·obtain rfl:i=m:=dQ h1 z;exact hc
   ·rw[if_neg hc];refine rq R j fuel lo m (ZY hf Y) Z (TE q) a λi h z=>?_;rcases bG m i with h1|h1
    ·exact Os (FB (eD.mp hc) (R m i q h h1))
    ·obtain rfl:i=m:=cZ h1 z;exact eD.mp hc
  ·rw[if_neg u];exact(qI lo rfl (cr hl hs) a (λi h z=>b i h (VJ z u)))
theorem dZ{xs:Array Nat}(R:fO xs)(j:Nat):bu xs j≤xs.size/\(∀i(h:i<xs.size),i<bu xs j->xs[i]<j)/\(∀i(h:i<xs.size),bu xs j≤i->j≤xs[i]):=by
 obtain⟨p,e,x⟩:=rq R j xs.size 0 xs.size (by simp) (np _) (ii _) (λi h hi=>VK hi) (λi h hi=>VL h hi);have e':bu xs j=p:=e;rw[e'];exact x
theorem yi{xs:Array Nat}(R:fO xs):bu xs 0=0:=by
 refine ml (dZ R 0) λa b c=>?_;refine j4 (Nat.eq_zero_or_pos (bu xs 0)) (λh=>?_) λh=>?_
 ·exact h
 ·exact absurd (b 0 (xL h a) h) (fZ _)
theorem yj{xs:Array Nat}(R:fO xs){i:Nat}(hi:i<xs.size):bu xs (xs[i]+1)=i+1:=by
 refine ml (dZ R (xs[i]+1)) λa b c=>?_;rcases dj (bu xs (xs[i]+1)) (i+1)with h|h|h
 ·exact absurd (c i hi (AT h)) (by simp)
 ·exact h
 ·have h1:i+1<xs.size:=xL h a;have:=b (i+1) h1 (jW h);have:=R i (i+1) hi h1 (by simp);exact VN this (by assumption)
theorem jv{α:Type}:∀{l:List α}{i:Nat}(h:i<l.length),(l[i]::l.eraseIdx i).Perm l
 |x::l,0,h=>by rfl
 |x::l,i+1,h=>by
  have ih:=jv (l:=l) (i:=i) (by simpa using h);exact(A9 x _ _).trans (kI _ ih)
theorem k9{α:Type}(next:Nat->Nat)(xs:Array α):(pn next xs).toList.Perm xs.toList:=by
 have z:∀(fuel k:Nat)(left:List α)(out:Array α),left.length=fuel->(sy next fuel k left out).toList.Perm (out.toList++left):=by
  intro fuel;induction fuel with
  |zero=>
   intro k left out hl;have:left=[]:=cg.mp hl;subst this;refine(?_:out.toList.Perm (out.toList++[]));rw[t3]
  |succ f ih=>
   intro k left out hl;rw[show sy next (f+1) k left out=(match left[next k%left.length]? with|some x=>sy next f (k+1) (left.eraseIdx (next k%left.length)) (out.push x)|none=>out)from rfl];have u:next k%left.length<left.length:=f5 _ (ma hl)
   rw[pi u];dsimp only;refine(ih (k+1) _ _ (by rw[List.length_eraseIdx];simp[u];exact zg (Ba hl.symm))).trans ?_;rw[jB,aU];refine aeB _ ?_;have:=jv u;exact this
 have:=z xs.size 0 xs.toList #[] (by rfl)
 simpa[pn]using this
section
variable {prog:EQ}{w:KB}{A:Da}{E:bm->bv->Prop}{s:bv}
theorem um{src:Source}{n:Nat}{Q:Nat->bv->Prop}(hn:n≠0)(h:∀i d,i<n->Q i {s with drawn:=d}):im (kt prog w) A (choose src n) Q E s:=λu p z=>by
 refine(?_:Sem.wp _ _ (.choose src n .pure) _ _ _ _);exact⟨hn,h _ _ (f5 _ (Nat.pos_of_ne_zero hn))⟩
theorem nT{α:Type}:∀(n:Nat)(xs:List α)(s:bv){Q:List α->bv->Prop},xs.length=n->(∀ys d,ys.Perm xs->Q ys {s with drawn:=d})->im (kt prog w) A (drawOrder n xs) Q E s
 |0,xs,s,Q,hl,h=>by
  have:xs=[]:=cg.mp hl;subst this;exact am (by cases s;exact h [] _ (.refl _))
 |n+1,[],s,Q,hl,h=>by simp at hl
 |n+1,x::xs,s,Q,hl,h=>by
  refine al (um (by simp) λi d hi=>?_);rw[pi hi];dsimp only;refine al (nT n _ _ (by rw[List.length_eraseIdx_of_lt hi];simpa using hl) λys z hp=>?_);refine am (h _ _ ?_);exact(kI _ hp).trans (jv hi)
theorem dw:Slot "set_iterator" "__next__" "set_iterator.__next__":=
 .of (owner:="set_iterator") (n:="__next__") (by rw[dz,ba];kernel_rfl) (by decide+kernel) (by decide+kernel) (by decide+kernel)
  (by first|exact .inl (by decide+kernel)|exact .inr (by decide+kernel)) (by rw[j9];kernel_rfl)
theorem lh:Slot "set_iterator" "__iter__" "set_iterator.__iter__":=
 .of (owner:="set_iterator") (n:="__iter__") (by rw[dz,ba];kernel_rfl) (by decide+kernel) (by decide+kernel) (by decide+kernel)
  (by first|exact .inl (by decide+kernel)|exact .inr (by decide+kernel)) (by rw[j9];kernel_rfl)
theorem kB:G9 table "set_iterator.__next__"=some Builtin.«set_iterator.__next__»:=Pc (by kernel_rfl)
theorem rA:G9 table "set.__iter__"=some Builtin.«frozenset.__iter__»:=
 U6 (id':="frozenset.__iter__") (by kernel_rfl) rfl (by decide+kernel) (by kernel_rfl)
theorem lj(a:bm):U7 "set_iterator.__next__" ⟨[a],[]⟩:=by unfold U7;kernel_rfl
end
end
section
noncomputable abbrev bg(es:Array (Int×bm))(ep:Nat)(t:AC):Obj:={cls:=.type "set",dict:=none,data:=.set es ep t}
noncomputable abbrev pC(f0:bm)(i:Nat)(a:co)(n ep:Nat):Obj:={cls:=.type "set_iterator",data:=.fields #[f0,.int i 0,.ref a,.int n 0,.int ep 0]}
section
variable {prog:EQ}{w:KB}{A:Da}{E:bm->bv->Prop}{s:bv}{a I:co}{es:Array (Int×bm)}{ep:Nat}{t:AC}
theorem bT{Q:(Array (Int×bm)×Nat×AC)->bv->Prop}(ha:s.heap.get? a=some (bg es ep t))(h1:t.place.size=es.size)(z:t.fill≤t.mask)(h:Q (es,ep,t) s):im (kt prog w) A (U8 a) Q E s:=
 Oe ha rfl (by simp[ja,h1,z]) h
noncomputable def kg(prog:EQ)(w:KB)(a:co)(es:Array (Int×bm))(ep:Nat)(t:AC)(f0:bm)(i:Nat)(r:Option (bm×bm))(s:bv):Prop:=
 (∃k:Nat,f0=.int k 0/\((r=none/\∀(A:Da)(E:bm->bv->Prop)(Q:Option (bm×Nat)->bv->Prop),Q none s->im (kt prog w) A (Of a k i ep) Q E s)∨
  (∃v k',r=some (v,.int (k':Nat) 0)/\∀(A:Da)(E:bm->bv->Prop)(Q:Option (bm×Nat)->bv->Prop),Q (some (v,k')) s->im (kt prog w) A (Of a k i ep) Q E s)))∨
 (∃u z,f0=.ref u/\s.heap.get? u=some (aE z 0)/\((r=none/\z[i]?=none)∨∃v j h,r=some (v,.ref u)/\z[i]?=some (.int (j:Nat) 0)/\es[j]?=some (h,v)))
theorem BE{f0 f1 v:bm}{i n:Nat}{Q:Option bm->bv->Prop}(u:s.heap.get? I=some (pC f0 i a n ep))(ha:s.heap.get? a=some (bg es ep t))(h1:t.place.size=es.size)(h2:t.fill≤t.mask)(hn:es.size=n)
  (hs:kg prog w a es ep t f0 i (some (v,f1)) s) (hQ:∀h',h'.get? I=some (pC f1 (i+1) a n ep)->Pv I s.heap h'->Q (some v) {s with heap:=h'}):im (kt prog w) A (hZ (.ref I)) Q E s:=by
 have hT:s.TypeIs (.ref I) "set_iterator":=⟨_,u,rfl⟩;refine al (i0 (aO (name:=t0 "__next__") hT dw (NE dw hT kB ?_ (lj _))));refine al (am (al (al (j5 u (am (al (al (bT ha h1 h2 (am ?_)))))))));refine iM (by simp[hn]) ?_;refine hs.elim (λhs=>ah hs λk ek hs=>hs.elim (λh=>fg h.1) λh=>dW h λq k' Z Ry=>t9 (db Z) λN ef=>?_) λhs=>cK hs λtp z ek CR hs=>hs.elim (λh=>fg h.1) λh=>mn h λq j hh Z hp hj=>t9 (db Z) λN ef=>?_
 ·rw[ek]at u⊢;refine al (Ry _ _ _ ?_);refine al (eQ u (ce rfl) λh3 e3 k3=>al (eQ e3 (ce rfl) λO e4 Y=>am (ak q rfl (am ?_))));rw[←N];exact hQ O (by rw[e4,ef];rfl) (k3.trans Y)
 ·rw[ek]at u⊢;refine al (eC CR rfl ?_);dsimp only;rw[show(z.toArray)[((i:Nat):Int).toNat]?=some (.int (j:Nat) 0)from Ch.trans hp];refine al (al (bT ha h1 h2 ?_));refine iM (by simp) ?_;simp only[jV,hj];refine am (al (eQ u (ce rfl) λO e4 Y=>am (ak q rfl (am ?_))));rw[←N];exact hQ O (by rw[e4,ef];rfl) Y
theorem BF{f0:bm}{i n:Nat}{Q:Option bm->bv->Prop}(Z:A.handled=none)(u:s.heap.get? I=some (pC f0 i a n ep))(ha:s.heap.get? a=some (bg es ep t))(h1:t.place.size=es.size)(h2:t.fill≤t.mask)(hn:es.size=n)
  (hs:kg prog w a es ep t f0 i none s) (hQ:∀h',jH I s.heap h'->Q none {s with heap:=h'}):im (kt prog w) A (hZ (.ref I)) Q E s:=by
 have hT:s.TypeIs (.ref I) "set_iterator":=⟨_,u,rfl⟩;refine al (i0 (aO (name:=t0 "__next__") hT dw (NE dw hT kB ?_ (lj _))));refine al (am (al (al (j5 u (am (al (al (bT ha h1 h2 (am ?_)))))))));refine iM (by simp[hn]) ?_;refine hs.elim (λhs=>ah hs λk ek hs=>hs.elim (λh=>?_) λh=>dW h λv' k' Y _=>bE Y) λhs=>cK hs λtp z ek CR hs=>hs.elim (λh=>?_) λh=>mn h λv' j Z Y _ _=>bE Y
 ·rw[ek]at u⊢;refine al (h.2 _ _ _ ?_);refine al (eQ u (ce rfl) λh3 e3 q=>?_);refine ug Z λe h' O hk=>al (SZ O xw (am (hQ _ λb o N e=>hk b o (q.extBut b o N e))))
 ·rw[ek]at u⊢;refine al (eC CR rfl ?_);dsimp only;rw[show(z.toArray)[((i:Nat):Int).toNat]?=none from Ch.trans h.2];refine al (eQ u (ce rfl) λh3 e3 q=>?_);refine al (eQ e3 (ce rfl) λh4 e4 k4=>?_);refine ug Z λe h' O hk=>al (SZ O xw (am (hQ _ λb o N e=>hk b o ((q.trans k4).extBut b o N e))))
end
end
section
theorem pU:G9 table "set_iterator.__iter__"=some Builtin.«dict_keyiterator.__iter__»:=
 U6 (id':="dict_keyiterator.__iter__") (by kernel_rfl) rfl (by decide+kernel) (by kernel_rfl)
theorem rB(a:bm):U7 "set_iterator.__iter__" ⟨[a],[]⟩:=by unfold U7;kernel_rfl
section
variable {prog:EQ}{w:KB}
noncomputable def cu(w:KB):Bool:=w.params.followText "set-order"
noncomputable def lQ(es:Array (Int×bm))(t:AC):Bool:=!t.plain&&decide (es.size>1)
noncomputable def g5(w:KB)(a:co)(es:Array (Int×bm))(ep:Nat)(t:AC)(h:GM)(f0:bm)(i:Nat)(u:List bm):Prop:=
 (∃k:Nat,f0=.int k 0/\((cu w=true/\u=(pn (w.params.setOrder a ep) es).toList.map (·.2))∨(cu w=false/\lQ es t=false/\bu t.place k=i/\u=es.toList.map (·.2))))∨
 (∃(q:co)(z:List bm),f0=.ref q/\h.get? q=some (aE z 0)/\z.length=es.size/\∀(i:Nat)(v:bm),u[i]?=some v->∃(j:Nat)(Y:Int),z[i]?=some (.int j 0)/\es[j]?=some (Y,v))
section
variable {A:Da}{E:bm->bv->Prop}{s:bv}{a:co}{es:Array (Int×bm)}{ep:Nat}{t:AC}
theorem uo{Q:Array (Int×bm)->bv->Prop}(ha:s.heap.get? a=some (bg es ep t))(h1:t.place.size=es.size)(u:t.fill≤t.mask)(z:cu w=true)(h:Q (pn (w.params.setOrder a ep) es) s):im (kt prog w) A (setWalk a) Q E s:=by
 refine al (bT ha h1 u ?_);refine al (al (cU (am ?_)));refine(?_:im _ _ (if cu w=true then _ else _) _ E s);refine vD z ?_;exact al (cU (am h))
theorem nU{k i:Nat}{Q:Option (bm×Nat)->bv->Prop}(ha:s.heap.get? a=some (bg es ep t))(h1:t.place.size=es.size)(u:t.fill≤t.mask)(z:cu w=true)(h:Q (((pn (w.params.setOrder a ep) es)[i]?).map λe=>(e.2,k)) s):
  im (kt prog w) A (Of a k i ep) Q E s:=by
 refine al (bT ha h1 u ?_);refine al (al (cU (am ?_)));refine(?_:im _ _ (if cu w=true then _ else _) _ E s);refine vD z ?_;refine iM (by simp) ?_;exact al (uo ha h1 u z (am h))
theorem nV{k i:Nat}{Q:Option (bm×Nat)->bv->Prop}(ha:s.heap.get? a=some (bg es ep t))(h1:t.place.size=es.size)(q:t.fill≤t.mask)(u:cu w=false)(z:lQ es t=false)(hl:t.led=true)
  (h:Q (match es[bu t.place k]?,t.place[bu t.place k]? with|some (_,x),some j=>some (x,j+1)|_,_=>none) s):
  im (kt prog w) A (Of a k i ep) Q E s:=by
 refine al (bT ha h1 q ?_);refine al (al (cU (am ?_)));refine(?_:im _ _ (if cu w=true then _ else _) _ E s);refine iM (by rw[u];simp) ?_;refine(?_:im _ _ (if(lQ es t)=true then _ else _) Q E s);refine iM (by rw[z];simp) ?_;refine al (Q:=λ_ s'=>_) ?_;refine(?_:im _ _ (if(!t.led&&!es.isEmpty)=true then _ else _) _ E s);refine iM (by rw[hl];simp) ?_;exact am (am h)
theorem g5.item{h:GM}{f0:bm}{i:Nat}{Y:List bm}{v:bm}(ha:s.heap.get? a=some (bg es ep t))(h1:t.place.size=es.size)(h2:t.fill≤t.mask)(hr:fO t.place)(hl:t.led=!cu w)(M:g5 w a es ep t s.heap f0 i Y)
  (hv:Y[i]?=some v):∃f1,kg prog w a es ep t f0 i (some (v,f1)) s/\∀h',(∀u o,f0=.ref u->s.heap.get? u=some o->h'.get? u=some o)->g5 w a es ep t h' f1 (i+1) Y:=by
 rcases M with⟨k,rfl,⟨Z,rfl⟩|⟨Z,hd,hk,rfl⟩⟩|⟨u,z,rfl,CR,OB,uq⟩
 ·refine cut λPP N=>?_;rw[tz]at hv;refine ah (At.mp hv) λe O e2=>?_;refine N ?_;refine(ak (.int k 0) (.inl ⟨k,rfl,.inr (pQ v k rfl (λA E Q q=>nU ha h1 h2 Z ?_))⟩) (λh' _=>.inl ⟨k,rfl,.inl ⟨Z,rfl⟩⟩));rw[←Op,O];simpa[e2]using q
 ·rw[tz]at hv;refine ah (At.mp hv) λe O e2=>?_;have hi:i<es.size:=by
   have:=(ww.mp O).1;exact this
  have yk:i<t.place.size:=KE hi h1.symm;refine(ak (.int ((t.place[i]+1:Nat)) 0) (.inl ⟨k,rfl,.inr (pQ v (t.place[i]+1) rfl (λA E Q q=>nV ha h1 h2 Z hd (by rw[hl,Z];rfl) ?_))⟩) (λh' _=>.inl ⟨t.place[i]+1,rfl,.inr ⟨Z,hd,yj hr yk,rfl⟩⟩));rw[hk,←Op,O,getElem?_pos t.place i yk];obtain⟨x,y⟩:=e;simp only at e2;subst e2;exact q
 ·refine cut λPP N=>?_;refine dW (uq i v hv) λj hh hp hj=>?_;refine N ?_;exact(ak (.ref u) (.inr (jo u z rfl CR (.inr (Hy v j hh rfl hp hj)))) (λh' k=>.inr (Dk u z rfl (k u _ rfl CR) OB uq)))
theorem g5.done{f0:bm}{j:List bm}(ha:s.heap.get? a=some (bg es ep t))(h1:t.place.size=es.size)(Y:t.fill≤t.mask)(hl:t.led=!cu w)(M:g5 w a es ep t s.heap f0 es.size j):kg prog w a es ep t f0 es.size none s:=by
 rcases M with⟨k,rfl,⟨u,rfl⟩|⟨u,O,hk,rfl⟩⟩|⟨Z,z,rfl,CR,N,uq⟩
 ·refine .inl ⟨k,rfl,.inl ⟨rfl,λA E Q q=>nU ha h1 Y u ?_⟩⟩;have:(pn (w.params.setOrder a ep) es)[es.size]?=none:=by
   have:=(k9 (w.params.setOrder a ep) es).length_eq;exact vr (IR this)
  rw[this];exact q
 ·refine .inl ⟨k,rfl,.inl ⟨rfl,λA E Q q=>nV ha h1 Y u O (by rw[hl,u];rfl) ?_⟩⟩;rw[hk,vr (ii _)];exact q
 ·exact .inr (jo Z z rfl CR (.inl ⟨rfl,by rw[←N];simp⟩))
end
theorem kg.ref{a:co}{es:Array (Int×bm)}{ep:Nat}{t:AC}{f0 v:bm}{i:Nat}{q:co}{s:bv}(h:kg prog w a es ep t f0 i (some (v,.ref q)) s):f0=.ref q:=
 h.elim (λh=>ah h λk _ h=>h.elim (λh=>fg h.1) λh=>dW h λY k' u _=>nomatch(gZ (db u)).2) λh=>cK h λZ z e _ h=>h.elim (λh=>fg h.1) λh=>mn h λY j O u _ _=>e.trans (gZ (db u)).2.symm
theorem Walks.set{A:Da}(hh:A.handled=none)(I a:co)(cj:a≠I){es:Array (Int×bm)}{ep:Nat}{t:AC}{u:List bm}{f0:bm}(h1:t.place.size=es.size)(Y:t.fill≤t.mask)(N:fO t.place)(hl:t.led=!cu w)
  (hlen:u.length=es.size) (fp:List co) (hI:I∈fp) (ha:a∈fp) (hf:∀z,f0=.ref z->z∈fp/\z≠I):
  UX prog w A I fp [I] es.size (λi v=>u[i]?=some v) (λi h=>h.get? a=some (bg es ep t)/\∃f,h.get? I=some (pC f i a es.size ep)/\g5 w a es ep t h f i u/\∀z,f=.ref z->z∈fp/\z≠I)where
 sub:=pu.mpr hI
 frame:=λi h h' st hk=>⟨hk a ha _ st.1,st.2.elim λf y=>⟨f,hk I hI _ y.1,y.2.1.elim .inl λM=>cK M λz j e CR M=>.inr (jo z j e (hk z (y.2.2 z e).1 _ CR) M),y.2.2⟩⟩
 item:=λi s Q E hi st q=>st.2.elim λf y=>
  have hv:u[i]?=some (u[i]'(KE hi hlen.symm)):=pi _
  ah (y.2.1.item (prog:=prog) (h:=s.heap) st.1 h1 Y N hl hv) λf1 O nx=>BE y.1 st.1 h1 Y rfl O λh' e hs=>
   q _ h' s.toks hv ⟨(hs.2 a cj).trans st.1,f1,e,nx h' λz o e1 e2=>(hs.2 z (y.2.2 z e1).2).trans e2,λz e=>y.2.2 z (kg.ref (e▸O))⟩ λb o Z e=>(hs.2 b λh=>Z (h▸.head _)).trans e
 done:=λs Q E st q=>st.2.elim λf y=>BF hh y.1 st.1 h1 Y rfl (y.2.1.done st.1 h1 Y hl) λh' k=>q h' s.toks λb o Z e=>k b o (λh=>Z (h▸.head _)) e
 self:=λi s Q E st q=>st.2.elim λf y=>so (T:="set_iterator") ⟨_,y.1,rfl⟩ lh (NE lh ⟨_,y.1,rfl⟩ pU (am ⟨_,rfl,"set_iterator",_,⟨_,y.1,rfl⟩,dw.lookup,q⟩) (rB _))
end
end
section
section
variable {prog:EQ}{w:KB}{A:Da}{E:bm->bv->Prop}{s:bv}{a:co}{es:Array (Int×bm)}{ep:Nat}{t:AC}
theorem Ei{r:co}(u:s.TypeIs (.ref r) "set"){Q:Bool->bv->Prop}(h:Q false s):im (kt prog w) A (dR (.ref r)) Q E s:=by
 unfold dR;refine al (bN u PySem.F.slot_set_len.lookup ?_);generalize j:("set.__len__":String)=id0
 wp_delta
 refine(show splitId id0=some ("set","__len__")from by subst j;decide+kernel)▸?_;subst j;refine al (SZ (T:="set") (b:=true) u (by rw[j9];kernel_rfl) ?_);refine aR (λz=>absurd z (by decide)) (λ_=>?_);refine aR (λ_=>?_) (λz=>absurd (by decide+kernel) z);refine al (dE u ?_);exact am h
theorem g5.push{h1:GM}{x:nh}{f0:bm}{u:List bm}(M:g5 w a es ep t h1 f0 0 u):g5 w a es ep t (h1.push x) f0 0 u:=M.elim (λM=>.inl M) λM=>pR M λj z e Z Y q=>.inr ⟨j,z,e,dL _ Z,Y,q⟩
theorem nW{Q:bm->bv->Prop}(ha:s.heap.get? a=some (bg es ep t))(h1:t.place.size=es.size)(j:t.fill≤t.mask){f0:bm}{z:List bm}(M:g5 w a es ep t s.heap f0 0 z)
  (h:s.heap.get? s.heap.objs.size=none->g5 w a es ep t (s.heap.push (pC f0 0 a es.size ep)) f0 0 z->Q (.ref s.heap.objs.size) {s with heap:=s.heap.push (pC f0 0 a es.size ep)}):
  im (kt prog w) A (do ret (←newFields "set_iterator" [f0,fq 0,.ref a,fq es.size,fq (←U9 a)])) (λr s'=>∃v,r=.done (.ret v)/\∃u r',s'.TypeIs v u/\fM (.type u) "__next__"=pure (some r')/\Q v s') E s:=by
 refine al (m:=U9 a) (al (bT ha h1 j (am (al ?_))));exact WF (am ⟨_,rfl,"set_iterator",_,(ak _ (g3 _ rfl) rfl),dw.lookup,h (Re (ii _)) M.push⟩) (by size_fits)
theorem yl{ys:List Nat}(hp:ys.Perm (pc es.size)):(ys.map λj=>(es.getD j (0,Fa)).2).Perm (es.toList.map (·.2)):=by
 have:=hp.map λj=>(es.getD j (0,Fa)).2;refine this.trans (aeC ?_);apply kv
 ·simp
 ·intro i h1 z;simp at h1;simp[h1]
theorem g5.drawn{ys:List Nat}(hp:ys.Perm (pc es.size)){h1:GM}{z:co}(ht:h1.get? z=some (aE (ys.map λ(i:Nat)=>fq i) 0)):g5 w a es ep t h1 (.ref z) 0 (ys.map λj=>(es.getD j (0,Fa)).2):=by
 refine .inr (Dk _ (ys.map λ(i:Nat)=>fq i) rfl ht (by rw[be,hp.length_eq,zn]) (λi v hv=>?_));rw[tz]at hv;refine ah (At.mp hv) λj u e2=>?_;have hj:j<es.size:=by simpa using hp.mem_iff.mp (bk u)
 refine(pQ j ((es[j]).1) (by rw[tz,u];rfl) ?_);rw[jl hj,←e2];simp[hj]
theorem Ej{Q:bm->bv->Prop}(ha:s.heap.get? a=some (bg es ep t))(h1:t.place.size=es.size)(Z:t.fill≤t.mask)(hr:fO t.place)(hl:t.led=!cu w)(hz:es.size≤ga)
  (h:∀(I:co)(fp:List co)(u:List bm)(f0:bm) h' d,u.Perm (es.toList.map (·.2))->s.heap.get? I=none->(∀b o,s.heap.get? b=some o->h'.get? b=some o)->I∈fp->a∈fp->(∀b∈fp,b<h'.objs.size/\(b=a∨s.heap.get? b=none))->
   h'.get? I=some (pC f0 0 a es.size ep)->g5 w a es ep t h' f0 0 u->(∀j,f0=.ref j->j∈fp/\j≠I)->Q (.ref I) {s with heap:=h',drawn:=d}):
  im (kt prog w) A (qz (.ref a)) Q E s:=by
 have hT:s.TypeIs (.ref a) "set":=(ak _ ha rfl);refine so hT u9 (NE u9 hT rA ?_ (PySem.F.args_set_iter_1 _));refine al (m:=Ha _ _) (am ?_);refine al (al (al (bT ha h1 Z (am (am ?_)))));refine al ?_;refine al (bT ha h1 Z ?_);refine al (al (cU (am ?_)));refine am ?_;refine(?_:im _ _ (if(!cu w&&lQ es t)=true then _ else _) _ _ s);have N:s.heap.get? s.heap.objs.size=none:=Re (ii _);by_cases O:(!cu w&&lQ es t)=true
 ·refine vD O ?_;refine al (nT es.size (pc es.size) _ (by rw[zn]) λys d hp=>?_);refine al (U5 ?_ (by rw[be,hp.length_eq,zn];exact hz));have ht:(s.heap.push (aE (ys.map λ(i:Nat)=>fq i) 0)).get? s.heap.objs.size=some _:=g3 _ rfl;have Y:(s.heap.push (aE (ys.map λ(i:Nat)=>fq i) 0)).objs.size=s.heap.objs.size+1:=gH ..;refine nW (dL _ ha) h1 Z (g5.drawn hp ht) λhn M=>?_;refine h _ [(s.heap.push (aE (ys.map λ(i:Nat)=>fq i) 0)).objs.size,a,s.heap.objs.size] _ _ _ d (yl hp) (Y▸Re (b8 _)) (λb o e=>dL _ (dL _ e)) (.head _) (.tail _ (.head _)) (λb z=>?_) (g3 _ rfl) M λj e=>?_
  ·refine(?_:b<((s.heap.push _).push _).objs.size/\_);rw[gH,Y];exact(em.mp z).elim (λq=>(q.trans Y).symm▸⟨bo _,.inr (Re (b8 _))⟩) λz=>(em.mp z).elim (λq=>q.symm▸⟨UV (UV (ss ha)),.inl rfl⟩) λz=>(bn.mp z).symm▸⟨UV (bo _),.inr N⟩
  ·cases e;exact⟨.tail _ (.tail _ (.head _)),Y▸wn (bo _)⟩
 ·refine iM O ?_;refine al (am ?_);have out:∀{u:List bm},u.Perm (es.toList.map (·.2))->g5 w a es ep t s.heap (.int 0 0) 0 u->im (kt prog w) A.in1 (do ret (←newFields "set_iterator" [.int 0 0,fq 0,.ref a,fq es.size,fq (←U9 a)])) (λr s'=>∃v,r=.done (.ret v)/\∃T' r',s'.TypeIs v T'/\fM (.type T') "__next__"=pure (some r')/\Q v s') E s:=λhp M=>
   nW ha h1 Z M λhn M=>h _ [s.heap.objs.size,a] _ _ _ s.drawn hp hn (λb o e=>dL _ e) (.head _) (.tail _ (.head _)) (λb z=>(em.mp z).elim (λq=>q.symm▸⟨KE (bo _) (gH ..).symm,.inr hn⟩) λz=>(bn.mp z).symm▸⟨KE (UV (ss ha)) (gH ..).symm,.inl rfl⟩) (g3 _ rfl) M λj e=>nomatch e
  have Io:(!cu w&&lQ es t)=false:=Sc.mpr O;cases z:cu w with
  |true=>exact out ((k9 _ _).map _) (.inl ⟨0,rfl,.inl ⟨z,rfl⟩⟩)
  |false=>
   rw[z]at Io;exact out (.refl _) (.inl ⟨0,rfl,.inr ⟨z,by simpa using Io,yi hr,rfl⟩⟩)
end
end
section
theorem Rs.perm{F:aw}{vs u:List bm}(p:u.Perm vs):∀{ds:List D},Rs F vs ds->∃z,z.Perm ds/\Rs F u z:=by
 induction p with
 |nil=>intro ds r;exact⟨ds,.refl _,r⟩
 |cons x _ ih=>
  intro ds r;cases r with
  |cons h r=>obtain⟨z,p',r'⟩:=ih r;exact(ak _ (.cons _ p') (.cons h r'))
 |swap x y l=>
  intro ds r;cases r with
  |cons h r=>cases r with
   |cons O r=>exact(ak _ (.swap _ _ _) (.cons O (.cons h r)))
 |trans _ _ MJ N=>
  intro ds r;refine ah (N r) λd1 Z q=>?_;refine ah (MJ q) λd2 Y j=>?_;exact(ak d2 (Y.trans Z) j)
section
variable {prog:EQ}{w:KB}{A:Da}{E:bm->bv->Prop}{s:bv}{a:co}{es:Array (Int×bm)}{ep:Nat}{t:AC}
theorem wa{R:List bm->bv->Prop}(hh:A.handled=none)(ha:s.heap.get? a=some (bg es ep t))(h1:t.place.size=es.size)(h2:t.fill≤t.mask)(hr:fO t.place)(hl:t.led=!cu w)(hz:es.size≤ga)
  (h:∀(h':GM)(tk:Nat)(d:oC)(u:List bm),(∀b o,s.heap.get? b=some o->h'.get? b=some o)->u.Perm (es.toList.map (·.2))->R u {s with heap:=h',toks:=tk,drawn:=d}):
  im (kt prog w) A (Oc (.ref a)) R E s:=by
 have halt:=ss ha;refine al (U' (dA entry_proto_collect' ?_));show im _ A.in1 (newList []>>=λl=>qb (.builtin "list.__iadd__" ⟨[l,.ref a],[]⟩)) _ _ s;refine al (WF ?_);refine am ⟨cQ PySem.F.plain_list_iadd _,dA entry_list_iadd' ?_⟩;generalize Ur:s.heap.push {cls:=.type "list",data:=.seq ([]:List bm).toArray}=h0;have tf:∀b o,s.heap.get? b=some o->h0.get? b=some o:=λb o e=>by subst Ur;exact dL _ e
 have zQ:h0.get? s.heap.objs.size=some {cls:=.type "list",data:=.seq #[]}:=by subst Ur;exact g3 _ rfl
 have cj:s.heap.objs.size≠a:=gE halt;generalize hSS:s.heap.objs.size=S at zQ cj⊢;have Ip:=tf _ _ ha;have hT:mO {s with heap:=h0} (.ref a) "set":=(ak _ Ip rfl)
 let RR:qB->bv->Prop:=λq s'=>∃(h':GM)(tk:Nat)(d:oC)(j:Array bm)(c':Nat),q=.ok (.ret (.ref S))/\s'={s with heap:=h',toks:=tk,drawn:=d}/\
   (∀b o,s.heap.get? b=some o->h'.get? b=some o)/\h'.get? S=some {cls:=.type "list",dict:=none,data:=.seq j c',slots:=#[]}/\j.toList.Perm (es.toList.map (·.2))
 have key:im (kt prog w) A.in1 (gQ (.ref S) (.ref a) (.ref S)) (λfin s'=>match fin with|.done f=>RR (.ok f) s'|.again c'=>c'.quiet=true/\bC (kt prog w) A c' RR s') (λe s'=>RR (.error e) s') {s with heap:=h0}:=by
  unfold gQ;refine al (dE (T:="set") hT ?_);have e1:eW (.ref S) (.ref a)=false:=by simp[eW,cj]
  have e2:(aT "set"==aT "list")=false:=by decide
  have e3:(aT "set"==aT "tuple")=false:=by decide
  simp only[e1,e2,e3,Lp,a9,if_false];refine al (Ej (s:={s with heap:=h0}) Ip h1 h2 hr hl hz λI fp u f0 h' d hp hI hk hIf haf RA hit M hf=>?_);have Z:u.length=es.size:=by have:=hp.length_eq;simpa using this
  have W:=Walks.set (prog:=prog) (w:=w) (A:=A.in1) (ep:=ep) (f0:=f0) hh I a (λe=>by subst e;rw[hI]at Ip;cases Ip) h1 h2 hr hl Z fp hIf haf hf;have KI:S∉fp:=λhm=>by
   rcases(RA S hm).2 with e|e
   ·exact cj e
   ·rw[e]at zQ;cases zQ
  have Y:∀(O:GM)(z:Nat)(tk:Nat),(O.get? a=some (bg es ep t)/\∃f,O.get? I=some (pC f 0 a es.size ep)/\g5 w a es ep t O f 0 u/\∀tp,f=.ref tp->tp∈fp/\tp≠I)->(∀b o,b≠S->h0.get? b=some o->O.get? b=some o)->
    O.get? S=some {cls:=.type "list",data:=.seq #[] z}->bC (kt prog w) A (.builtin "list.extend.loop" ⟨[.ref S,.ref I,.ref S],[]⟩) RR {s with heap:=O,drawn:=d,toks:=tk}:=by
   intro O z tk lN aa9 aba;refine Hb W.toS hz S KI (.ref S) es.size 0 _ #[] z rfl (np _) lN aba (ItemsOf.nil _) λs' j c' hm ML mU=>?_
   refine(Kg hm)▸?_;refine(aas s'.heap s'.toks d j c' rfl rfl (λb o e=>?_) ML ?_)
   ·refine hm.heap b o (λg6=>?_) (aa9 b o ?_ (tf _ _ e))
    ·rcases em.mp g6 with e'|g6
     ·rw[e',←hSS]at e;exact absurd (ss e) (ZB _)
     ·rw[bn.mp g6]at e;have:=tf _ _ e;rw[hI]at this;cases this
    ·intro e';rw[e',←hSS]at e;exact absurd (ss e) (ZB _)
   ·have:j.toList=u:=by
     apply C9;intro i;by_cases hi:i<j.size
     ·have e4:j.toList[i]?=some j[i]:=by simp[hi]
      rw[e4];exact(mU.2 i j[i] (by simp[hi])).symm
     ·have h6:j.size=es.size:=mU.1;rw[aW (by simp;exact fE hi),aW (VO h6 Z hi)]
    rw[this];exact hp
  have N:h'.get? S=some {cls:=.type "list",data:=.seq #[]}:=hk _ _ zQ
  refine al (wv (Ei (ak _ (hk _ _ Ip) rfl) ?_));refine aR (λ_=>?_) (λ_=>am ⟨cQ fe _,Y h' 0 s.toks ⟨hk _ _ Ip,f0,hit,M,hf⟩ (λb o _ e=>hk b o e) N⟩);refine al (bw ?_);refine al ?_;refine(?_:im _ _ (updateSeq S (·.push .none)>>=λ_=>updateSeq S (·.pop)) _ _ _);refine al (ni N rfl ?_);have Us:=Tl (bf (·.push Fa)) N rfl;refine ni (hz:=by seq_fits) Us rfl ?_;have hS4:=Tl (bf (·.pop)) Us rfl;have Ut:∀b o,b≠S->h'.get? b=some o->((h'.update S (bf (·.push Fa))).update S (bf (·.pop))).get? b=some o:=λb o hb e=>(KF _ _ (cG hb)).trans ((KF _ _ (cG hb)).trans e);refine am ⟨cQ fe _,Y _ _ s.toks (W.frame 0 _ _ ⟨hk _ _ Ip,f0,hit,M,hf⟩ λb hb o e=>Ut b o (λh=>KI (h▸hb)) e) (λb o hb e=>Ut b o hb (hk b o e)) hS4⟩
 refine f8 key (λfin s' x=>?_) λe s' x=>?_
 ·cases fin with
  |done f=>
   refine Qs x λh' tk d j c' e gc hk ML mU=>?_;subst gc;refine Qu e λqe=>?_;subst qe;refine al (j5 ML ?_);exact am (h h' tk d _ hk mU)
  |again z=>
   refine⟨x.1,ia x.2 λq aX y=>?_⟩;refine Qs y λh' tk d j c' jq js hk ML mU=>?_;subst jq;subst js;refine al (j5 ML ?_);exact am (h h' tk d _ hk mU)
 ·refine aar x λ_ _ _ _ _ e' _=>?_;cases e'
end
section
variable {B:Base}{G:Fc B}{ρ:ag}{H:aa}{F:aw}{mg mb:lm->Option bm}
theorem nS.set{a:co}{ds:List D}{q:List D->aa->Prop}(h:H a=some (.set ds))(hz:ds.length≤ga)(hq:∀z,z.Perm ds->q z H):nS G ρ H F (.ref a) q:=λA s O S L=>by
 refine cut λPP Y=>?_;obtain⟨o,ha,es,ep,t,rfl,r,h1,N,Z,hl⟩:=(S.hp a _ h).1;refine Y ?_;refine wa O ha h1 N (.of Z) hl (by have:=r.length;simp at this;exact VP this hz) λh' tk d j hk hp=>?_;refine ah (r.perm hp) λz u r'=>?_;exact⟨F,z,H,.refl F,r',S.keep (tk:=tk) (d:=d) hk,L.keep (.refl _) λb o _ e=>hk b o e,hq z u⟩
theorem Vn.MM{a:co}{ds:List D}{Q:D->aa->Prop}(h:H a=some (.set ds))(hz:ds.length≤ga)(q:Q (.int ds.length) H):Vn G ρ H (λvs=>call (.builtin "len") vs) [.ref a] Q:=.one λF u j s S L=>by
 refine R.el j ?_;refine cut λN Y=>?_;obtain⟨o,ha,es,ep,t,rfl,r,h1,Z,O,hl⟩:=(S.hp a _ h).1;have z:es.size=ds.length:=by have:=r.length;simpa using this
 have:ga=2^24:=rfl;refine Y ?_;refine call_len_set ha (Hv rfl rfl rfl) rfl (by simp[ja,h1,Z]) (by lia) (d6 ?_ S L q);rw[z];exact .int _ _
end
end
section
open SetTable
theorem jx{α:Type}(xs:Array α)(p:Nat)(x:α)(hp:p≤xs.size):(insertAt xs p x).toList=xs.toList.take p++x::xs.toList.drop p:=by
 unfold insertAt;rw[Array.toList_append,jB,xA,xA];simp only[List.extract,Kh,Nat.sub_zero,aU,fw,kS];congr 2;exact xh (by simp)
theorem insertAt_perm{α:Type}(xs:Array α)(p:Nat)(x:α)(hp:p≤xs.size):(insertAt xs p x).toList.Perm (x::xs.toList):=by
 rw[jx xs p x hp];have:=List.perm_middle (a:=x) (l₁:=xs.toList.take p) (l₂:=xs.toList.drop p)
 rwa [lF]at this
theorem eA{α:Type}(xs:Array α)(p:Nat)(x:α)(hp:p≤xs.size):(insertAt xs p x).size=xs.size+1:=by
 have:=(insertAt_perm xs p x hp).length_eq;simpa using this
theorem mD{xs:Array Nat}(h:xs.toList.Pairwise (·<·))(j:Nat)(hj:j∉xs.toList):(insertAt xs (below xs j) j).toList.Pairwise (·<·):=by
 refine ml (dZ (.of h) j) λa b c=>?_;rw[jx xs _ _ a];rw[bZ,List.pairwise_cons];refine⟨h.sublist (List.take_sublist _ _),⟨λy hy=>?_,h.sublist (List.drop_sublist _ _)⟩,λx hx y hy=>?_⟩
 ·obtain⟨i,hi,e⟩:=t6.mp hy;have q:below xs j+i<xs.size:=by rw[fD];simpa using hi
  have:=c _ q (br (below xs j) i);have e':xs[below xs j+i]=y:=by rw[←e];simp[fD]
  rw[e']at this;rcases bG j y with h1|h1
  ·exact h1
  ·obtain rfl:j=y:=cZ this h1;exact absurd (zd hy) hj
 ·have z:x<j:=by
   obtain⟨i,hi,e⟩:=List.mem_take_iff_getElem.mp hx;have u:i<below xs j/\i<xs.size:=by have:i<min (below xs j) xs.size:=(by simpa using hi);exact Nat.lt_min.mp hi
   have Y:=b i u.2 u.1;have Z:xs[i]'u.2=x:=by rw[←e];simp
   rw[Z]at Y;exact Y
  rcases em.mp hy with rfl|hy
  ·exact z
  ·obtain⟨i,hi,e⟩:=t6.mp hy;have q:below xs j+i<xs.size:=by rw[fD];simpa using hi
   have:=c _ q (br (below xs j) i);have e':xs[below xs j+i]=y:=by rw[←e];simp[fD]
   rw[e']at this;exact xL z this
noncomputable def wb(m:Nat)(p:Probe):Probe:=
 if p.more>0 then{p with j:=p.j+1,more:=p.more-1}else
 {p with j:=(leap m p.i p.perturb).1,more:=runEnd m (leap m p.i p.perturb).1-(leap m p.i p.perturb).1,i:=(leap m p.i p.perturb).1,perturb:=(leap m p.i p.perturb).2}
theorem ym(t:AC)(p:Probe):t.advance p=wb t.mask p:=by
 unfold ag3 wb;split<;>rfl
noncomputable def nX(m i q:Nat):Probe:={j:=i,more:=runEnd m i-i,i:=i,perturb:=q,dummy:=none}
theorem Ek(t:AC)(h:Int):t.probeStart h=nX t.mask (bits h%(t.mask+1)) (bits h):=rfl
noncomputable def it(m:Nat):Nat->Probe->Probe
 |0,p=>p
 |k+1,p=>it m k (wb m p)
theorem mY(m:Nat):∀(a b:Nat)(p:Probe),it m (a+b) p=it m b (it m a p)
 |0,b,p=>by rw[kX];rfl
 |a+1,b,p=>by rw[eE];exact mY m a b _
theorem Iq(m k:Nat)(p:Probe):it m (k+1) p=wb m (it m k p):=mY m k 1 p
theorem yn(m:Nat):∀(r:Nat)(p:Probe),p.more=r->p.dummy=none->it m (r+1) p=nX m (leap m p.i p.perturb).1 (leap m p.i p.perturb).2
 |0,p,h,z=>by
  refine(?_:wb m p=_);unfold wb;rw[if_neg (Std.Rxo.size_eq_zero_iff_not_le.mp h)];unfold nX;rw[z]
 |r+1,p,h,z=>by
  refine(?_:it m (r+1) (wb m p)=_);have e:wb m p={p with j:=p.j+1,more:=p.more-1}:=by unfold wb;rw[if_pos (VQ h)]
  rw[yn m r (wb m p) (by rw[e];simp;exact zg (Ba h.symm)) (by rw[e];exact z),e]
theorem BG(m i:Nat):runEnd m i-i≤9:=by unfold runEnd;split<;>first|exact VR|exact VS
theorem zR(m i q:Nat):∃k,1≤k/\k≤10/\it m k (nX m i q)=nX m (leap m i q).1 (leap m i q).2:=
 (cY (runEnd m i-i+1) (by simp) (by have:=BG m i;exact dP this) (yn m _ (nX m i q) rfl rfl))
theorem zS(m:Nat):∀(c i q:Nat),q<32^c->i≤m->∃k z,k≤10*c/\z≤m/\it m k (nX m i q)=nX m z 0
 |0,i,q,hq,hi=>(jo 0 i (by simp) hi (by rw[show q=0 by simpa using hq];rfl))
 |c+1,i,q,hq,hi=>by
  refine cut λN j=>?_;refine bt (zR m i q) λk h1 O e=>?_;have u:q/32<32^c:=by rw[pN]at hq;exact Qk hq
  obtain⟨k',z,Z,Y,e'⟩:=zS m c (leap m i q).1 (q/32) u (by refine(?_:(i*5+1+q/32)%(m+1)≤m);have:=f5 (i*5+1+q/32) (show 0<m+1 by simp);exact AT this);refine j ?_;refine(jo (k+k') z (Pm O Z) Y ?_);rw[mY,e];exact e'
noncomputable def OC(m i:Nat):Nat:=(i*5+1)%(m+1)
noncomputable def El(m:Nat):Nat->Nat->Nat
 |0,i=>i
 |c+1,i=>El m c (OC m i)
theorem Em(m:Nat):∀(c i:Nat),i≤m->∃k,k≤10*c/\it m k (nX m i 0)=nX m (El m c i) 0
 |0,i,hi=>(ak 0 (by simp) rfl)
 |c+1,i,hi=>by
  refine cut λq z=>?_;refine bt (zR m i 0) λk h1 j e=>?_;obtain⟨k',u,e'⟩:=Em m c (OC m i) (by unfold OC;have:=f5 (i*5+1) (show 0<m+1 by simp);exact AT this);refine z ?_;exact(ak (k+k') (Pm j u) (by rw[mY,e];exact e'))
noncomputable def qp(m:Nat):Bool:=(pc (m+1)).all λi=>(pc (m+1)).all λj=>(pc (m+1)).any λc=>El m c i==j
theorem Ir:qp 7=true:=by decide+kernel
theorem En:qp 31=true:=by decide+kernel
theorem Eo{m i j:Nat}(hm:m=7∨m=31)(hi:i≤m)(hj:j≤m):∃c,c≤m/\El m c i=j:=by
 have h:qp m=true:=by rcases hm with rfl|rfl;exact Ir;exact En
 unfold qp at h;have h1:=ut.mp h i (by simpa using SL hi);have z:=ut.mp h1 j (by simpa using SL hj);refine ah (fy.mp z) λc hc e=>?_;exact⟨c,by have:c<m+1:=(by simpa using hc);exact AT this,by simpa using e⟩
theorem zT(h:Int):bits h<32^13:=by
 unfold bits;have z:(32:Nat)^13=36893488147419103232:=by decide
 rw[z];lia
theorem It{m:Nat}(hm:m=7∨m=31)(h:Int){j:Nat}(hj:j≤m):∃k,k≤10*(13+m)/\(it m k (nX m (bits h%(m+1)) (bits h))).j=j:=by
 refine cut λZ u=>?_;obtain⟨k,i,h1,z,e⟩:=zS m 13 (bits h%(m+1)) (bits h) (zT h) (by have:=f5 (bits h) (show 0<m+1 by simp);exact AT this);refine ah (Eo hm z hj) λc hc Y=>?_;refine ah (Em m c i z) λk' q e'=>?_;refine u ?_;exact(ak (k+k') (VT h1 q hc) (by rw[mY,e,e',Y];rfl))
end
section
open SetTable
theorem oR(j:Nat):has #[] j=false:=by unfold has;simp
theorem oS{t:AC}(z:t.place.toList.Pairwise (·<·)){i:Nat}(hi:i<t.place.size):t.slot t.place[i]=.live i:=by
 refine ml (dZ (.of z) t.place[i]) λa b c=>?_;have e:below t.place t.place[i]=i:=by
  rcases dj (below t.place t.place[i]) i with h|h|h
  ·have h1:=c (below t.place t.place[i]) (TW h hi) (ii _);have u:=(fO.of z) (below t.place t.place[i]) i (TW h hi) hi h;exact VU u h1
  ·exact h
  ·exact absurd (b i hi h) (ZB _)
 unfold r8;simp only[e];simp
theorem yo{t:AC}(z:t.dummies=#[]) {j:Nat} (hj:j∉t.place.toList):t.slot j=.empty:=by
 unfold r8;have:¬(t.place[below t.place j]?==some j)=true:=λe=>by
  rw[beq_iff_eq]at e;rw[←Op]at e;exact hj (bk e)
 simp only[this,if_false,z,oR];rfl
noncomputable def Way(m:Nat)(place:List Nat)(h:Int)(j:Nat):Prop:=∃k,(it m k (nX m (bits h%(m+1)) (bits h))).j=j/\∀k',k'<k->(it m k' (nX m (bits h%(m+1)) (bits h))).j∈place
theorem Way.mono{m:Nat}{place z:List Nat}{h:Int}{j:Nat}(W:Way m place h j)(hs:∀x∈place,x∈z):Way m z h j:=by
 obtain⟨k,e,x⟩:=W;exact(ak k e (λk' hk=>hs _ (x k' hk)))
structure Tab(es:Array (Int×bm))(t:AC):Prop where
 nt:t.place.size=es.size
 xk:t.dummies=#[]
 Uu:(t.mask=7/\es.size≤4)∨(t.mask=31/\es.size≤18)
 sJ:t.place.toList.Pairwise (·<·)
 le:∀j∈t.place.toList,j≤t.mask
 path:∀(i:Nat)(h:i<es.size),Way t.mask t.place.toList es[i].1 (t.place[i]'(by rw[nt];exact h))
theorem aq{α:Type}[BEq α][LawfulBEq α]:∀{l r:List α},l.Nodup->(∀x∈l,x∈r)->l.length≤r.length
 |[],_,_,_=>np _
 |x::l,r,nd,hs=>by
  have hx:=hs x (.head _);refine dv (Db.mp nd) λhn z=>?_;have ih:=aq (r:=r.erase x) z λy hy=>by
   have u:y≠x:=λe=>hn (e▸hy);exact(mA u).mpr (hs y (.tail _ hy))
  rw[u' hx]at ih;have:=List.length_pos_of_mem hx;simp only[io];exact Nat.add_le_of_le_sub this ih
theorem MN:∀(l:List Nat)(m:Nat),l.Nodup->l.length≤m->∃j,j≤m/\j∉l:=λl m nd hl=>by
 apply cJ;intro hc;have z:∀j,j≤m->j∈l:=λj hj=>cJ λhn=>hc (ak j hj hn);have:=aq (l:=pc (m+1)) (r:=l) qf λj hj=>z j (by have:j<m+1:=(by simpa using hj);exact AT this);simp at this;exact VV this hl
section
variable {es:Array (Int×bm)}{t:AC}
theorem Tab.m(T:Tab es t):t.mask=7∨t.mask=31:=by rcases T.Uu with h|h;exact .inl h.1;exact .inr h.1
theorem Tab.size(T:Tab es t):es.size≤t.mask:=by rcases T.Uu with h|h<;>first|exact VW h|exact VX h
noncomputable def eJ(t:AC)(h:Int)(k:Nat):Probe:=it t.mask k (nX t.mask (bits h%(t.mask+1)) (bits h))
theorem rC(t:AC)(h:Int)(k:Nat):t.advance (eJ t h k)=eJ t h (k+1):=by rw[ym];exact(Iq _ _ _).symm
theorem tg(m:Nat)(p:Probe):(wb m p).dummy=p.dummy:=by unfold wb;split<;>rfl
theorem th(t:AC)(h:Int):∀k,(eJ t h k).dummy=none
 |0=>rfl
 |k+1=>by rw[←rC,ym,tg];exact th t h k
theorem Tab.first(T:Tab es t)(h:Int):∃K,K≤10*(13+t.mask)/\(eJ t h K).j∉t.place.toList/\∀k,k<K->(eJ t h k).j∈t.place.toList:=by
 refine cut λY q=>?_;obtain⟨j,hj,hn⟩:=MN t.place.toList t.mask (T.sJ.imp (λh=>wn h)) (by rw[Ev,T.nt];exact T.size);refine q ?_;refine ah (It T.m h hj) λk hk e=>?_;have z:∀n,(∀k,k<n->(eJ t h k).j∈t.place.toList)∨∃K,K<n/\(eJ t h K).j∉t.place.toList/\∀k,k<K->(eJ t h k).j∈t.place.toList:=by
  intro n;induction n with
  |zero=>exact .inl λk hk=>(LD hk).elim
  |succ n ih=>
   rcases ih with h1|⟨K,a,b,c⟩
   ·by_cases hm:(eJ t h n).j∈t.place.toList
    ·exact .inl λk hk=>by
      refine j4 (bG k n) (λu=>?_) λu=>?_
      ·exact h1 k u
      ·obtain rfl:k=n:=dQ u hk;exact hm
    ·exact .inr (cY n (t7 n) hm h1)
   ·exact .inr (cY K (ig 1 a) b c)
 rcases z (k+1)with h1|⟨K,a,b,c⟩
 ·exact absurd (h1 k (t7 k)) (by show(it t.mask k (nX t.mask (bits h%(t.mask+1)) (bits h))).j∉_;rw[e];exact hn)
 ·exact(cY K (VY a hk) b c)
theorem Tab.at(T:Tab es t){j:Nat}(hj:j∈t.place.toList):∃(i:Nat)(hi:i<t.place.size),t.place[i]=j:=by
 obtain⟨i,hi,e⟩:=dH hj;exact⟨i,by simpa using hi,by simpa using e⟩
theorem Tab.go(T:Tab es t)(h:Int){K:Nat}(hK:(eJ t h K).j∉t.place.toList)(hb:∀k,k<K->(eJ t h k).j∈t.place.toList)(kY:Nat->Int):∀(fuel k:Nat),k≤K->K-k<fuel->
  (probe.go t kY h fuel (eJ t h k)=some (.empty (eJ t h K).j none)/\∀z,k≤z->z<K->∀i(hi:i<t.place.size),t.place[i]=(eJ t h z).j->kY i≠h)∨
  ∃Y i,∃hi:i<t.place.size,k≤Y/\Y<K/\t.place[i]=(eJ t h Y).j/\kY i=h/\probe.go t kY h fuel (eJ t h k)=some (.candidate (eJ t h Y).j i (eJ t h (Y+1)))/\
   ∀z,k≤z->z<Y->∀i(hi:i<t.place.size),t.place[i]=(eJ t h z).j->kY i≠h
 |0,k,hk,hf=>(VZ hf).elim
 |fuel+1,k,hk,hf=>by
  rw[show probe.go t kY h (fuel+1) (eJ t h k)=(match t.slot (eJ t h k).j with|.empty=>some (.empty (eJ t h k).j (eJ t h k).dummy)|.dummy=>probe.go t kY h fuel (t.advance {eJ t h k with dummy:=some (eJ t h k).j})|.live i=>if kY i==h then some (.candidate (eJ t h k).j i (t.advance (eJ t h k)))else probe.go t kY h fuel (t.advance (eJ t h k)))from rfl];by_cases e:k=K
  ·subst e;rw[yo T.xk hK];exact .inl ⟨by simp[th],λz h1 Z=>(Pn Z h1).elim⟩
  ·obtain⟨i,hi,ei⟩:=T.at (hb k (bQ hk e));rw[←ei,oS T.sJ hi];dsimp only;have O:∀u(q:u<t.place.size),t.place[u]=(eJ t h k).j->u=i:=λu q e'=>by
    rcases dj u i with h1|h1|h1
    ·have:=(fO.of T.sJ) u i q hi h1;exact Hr this e' ei
    ·exact h1
    ·have:=(fO.of T.sJ) i u hi q h1;exact Hr this ei e'
   by_cases N:kY i=h
   ·rw[if_pos (by simpa using N),rC];exact .inr ⟨k,i,hi,ii _,bQ hk e,ei,N,by rw[ei],λz h1 Z=>(Pn Z h1).elim⟩
   ·rw[if_neg (by simpa using N),rC];rcases T.go h hK hb kY fuel (k+1) (V0 hk e) (V3 hf hk e)with⟨a,b⟩|⟨Y,i1,hi1,a1,a2,a3,a4,a5,a6⟩
    ·refine .inl ⟨a,λz h1 Z u q e'=>?_⟩;refine j4 (jk h1) (λh3=>?_) λh3=>?_
     ·subst h3;rw[O u q e'];exact N
     ·exact b z (by assumption) Z u q e'
    ·refine .inr ⟨Y,i1,hi1,TE a1,a2,a3,a4,a5,λz h1 Z u q e'=>?_⟩;refine j4 (jk h1) (λh3=>?_) λh3=>?_
     ·subst h3;rw[O u q e'];exact N
     ·exact a6 z (by assumption) Z u q e'
end
end
section
open SetTable
section
variable {prog:EQ}{w:KB}{A:Da}{E:bm->bv->Prop}{s:bv}{a:co}{es:Array (Int×bm)}{ep:Nat}{t:AC}
theorem Tab.fill(T:Tab es t):t.fill=es.size:=by unfold r9;rw[T.xk,T.nt];rfl
theorem Tab.state(T:Tab es t){Q:(Array (Int×bm)×Nat×AC)->bv->Prop}(ha:s.heap.get? a=some (bg es ep t))(h:Q (es,ep,t) s):im (kt prog w) A (U8 a) Q E s:=
 bT ha T.nt (by rw[T.fill];exact T.size) h
theorem ur{i:Nat}(hi:i<es.size):(es[i]?.map (·.1)).getD 0=es[i].1:=by rw[getElem?_pos es i hi];rfl
theorem same_self{v:bm}{b:co}{Q:Bool->bv->Prop}(e:v=.ref b)(q:Q true s):im (kt prog w) A (isSame v v) Q E s:=e▸wpAny_isSame_ref_self q
theorem wc(T:Tab es t)(ha:s.heap.get? a=some (bg es ep t)){x:bm}{h:Int}{v:Bool}{Q:SetFound->bv->Prop}{i j fuel:Nat}{nx:Probe}(hi:i<es.size)(hs:t.slot j=.live i)(Er:∃b,es[i].2=.ref b)
  (heq:∀(Q:Bool->bv->Prop),Q v s->im (kt prog w) A (Lh es[i].2 x) Q E s)
  (hv1:v=true->Q (.there none) s) (hv2:v=false->im (kt prog w) A (qg a x h true fuel (some nx)) Q E s):im (kt prog w) A (do
     let some (_,y):=es[i]?|unsupported "internal:set-entry"
     let z←mM [y] (Lh y x)
     let(N,_,Z)←U8 a
     if true&&z then return .there none
     let some q:=Z.sameMemory t.moves t.mask|unsupported "set.changed-during-lookup:is-the-new-block-at-the-old-address"
     let RB←match(if q then Z.slot j else .empty)with
      |.live u=>match N[u]? with
       |some (_,O)=>do pure (if←isSame O y then some u else none)
       |none=>pure none
      |_=>pure none
     match RB with
     |none=>rule "set.search.anew";qg a x h true fuel none
     |some u=>if z then return .there (some u)else qg a x h true fuel (some nx)) Q E s:=by
 rw[getElem?_pos es i hi];refine al (wv (heq _ (al (T.state ha ?_))));cases v with
 |true=>exact am (hv1 rfl)
 |false=>
  have RC:t.sameMemory t.moves t.mask=some true:=by unfold ag4;simp
  refine bR Er λb' Y=>?_;have h2:=hv2 rfl;refine iM wP ?_;rw[RC];simp only[if_true];rw[hs];dsimp only;rw[getElem?_pos es i hi];dsimp only;refine al (same_self Y ?_);exact al (am h2)
theorem BH(T:Tab es t){h:Int}{eqv:Nat->Bool}{k Y i:Nat}{hi:i<t.place.size}(nr:∀z,z<k->∀i(hi:i<es.size),(t.place[i]'(by rw[T.nt];exact hi))=(eJ t h z).j->es[i].1=h->eqv i=false) (cj:∀z,k≤z->z<Y->∀i(hi:i<t.place.size),t.place[i]=(eJ t h z).j->(es[i]?.map (·.1)).getD 0≠h) (h3:t.place[i]=(eJ t h Y).j) (hv:eqv i=false):
  ∀z,z<Y+1->∀i(hi:i<es.size),(t.place[i]'(by rw[T.nt];exact hi))=(eJ t h z).j->es[i].1=h->eqv i=false:=λz RD u q O Z=>by
 refine j4 (bG z k) (λh5=>?_) λh5=>?_
 ·exact nr z h5 u q O Z
 ·rcases bG z Y with h6|h6
  ·exact absurd ((ur q).trans Z) (cj z h5 h6 u (by rw[T.nt];exact q) O)
  ·obtain rfl:z=Y:=dQ h6 RD;have N:u=i:=by
    rcases dj u i with h7|h7|h7
    ·have:=(fO.of T.sJ) u i (by rw[T.nt];exact q) hi h7;exact Hr this O h3
    ·exact h7
    ·have:=(fO.of T.sJ) i u hi (by rw[T.nt];exact q) h7;exact Hr this h3 O
   rw[N];exact hv
theorem we(T:Tab es t)(ha:s.heap.get? a=some (bg es ep t)){x:bm}{h:Int}{eqv:Nat->Bool}{Q:SetFound->bv->Prop}{K:Nat}(hK:(eJ t h K).j∉t.place.toList)(hb:∀k,k<K->(eJ t h k).j∈t.place.toList)(OD:K≤10*(13+t.mask))
  (Er:∀(i:Nat)(hi:i<es.size),∃b,es[i].2=.ref b)
  (heq:∀(i:Nat)(hi:i<es.size)(Q:Bool->bv->Prop),es[i].1=h->Q (eqv i) s->im (kt prog w) A (Lh es[i].2 x) Q E s)
  (Et:∀(l:List bm)(Q:Bool->bv->Prop),(∀v∈l,∃i,∃hi:i<es.size,v=es[i].2)->Q false s->im (kt prog w) A (ij x l) Q E s)
  (rD:(∃i,∃hi:i<es.size,es[i].1=h/\eqv i=true)->Q (.there none) s)
  (mE:(∀z,z<K->∀i(hi:i<es.size),(t.place[i]'(by rw[T.nt];exact hi))=(eJ t h z).j->es[i].1=h->eqv i=false)->Q (.free (eJ t h K).j false) s):
  ∀(fuel k:Nat)(O:Option Probe),O.getD (t.probeStart h)=eJ t h k->k≤K->K-k<fuel->(∀z,z<k->∀i(hi:i<es.size),(t.place[i]'(by rw[T.nt];exact hi))=(eJ t h z).j->es[i].1=h->eqv i=false)->
  im (kt prog w) A (qg a x h true fuel O) Q E s:=by
 have hgw:t.gaveWay=false:=by unfold ag5;rcases T.m with e|e<;>rw[e]<;>rfl
 intro fuel;induction fuel with
 |zero=>exactλk O _ _ h=>absurd h (fZ _)
 |succ fuel ih=>
  intro k O lN hk hf nr;refine al (T.state ha (iM (Sc.mp hgw) ?_));rw[lN];refine(T.go h hK hb (λi=>(es[i]?.map (·.1)).getD 0) (10*turns t.mask) k hk (by unfold turns;exact V4 OD)).elim (λN=>?_) λN=>N.elim λu q=>q.elim λi q=>aaa q λhi h1 h2 h3 h4 e cj=>?_
  ·have e':t.probe (λi=>(es[i]?.map (·.1)).getD 0) h (eJ t h k)=some (.empty (eJ t h K).j none):=N.1;refine(?_:im _ _ (match t.probe (λi=>(es[i]?.map (·.1)).getD 0) h (eJ t h k)with|some met=>_|_=>_) Q E s);refine e'▸?_;refine(am (mE λz RD i hi ep Z=>?_));rcases bG z k with h5|h5
   ·exact nr z h5 i hi ep Z
   ·exact absurd ((ur hi).trans Z) (N.2 z h5 RD i (by rw[T.nt];exact hi) ep)
  ·have e':t.probe (λi=>(es[i]?.map (·.1)).getD 0) h (eJ t h k)=some (.candidate (eJ t h u).j i (eJ t h (u+1))):=e;have Y:i<es.size:=KE hi T.nt;have Z:es[i].1=h:=(ur Y).symm.trans h4;have hs:t.slot (eJ t h u).j=.live i:=h3▸oS T.sJ hi;have next:=wc (fuel:=fuel) (nx:=eJ t h (u+1)) T ha Y hs (Er i Y) (λQ q=>heq i Y Q Z q) (λhv=>rD ⟨i,Y,Z,hv⟩) λhv=>ih (u+1) (some (eJ t h (u+1))) rfl (Nat.succ_le_of_lt h2) (V5 hf h1 h2) (BH T nr cj h3 hv)
   refine(?_:im _ _ (match t.probe (λi=>(es[i]?.map (·.1)).getD 0) h (eJ t h k)with|some met=>_|_=>_) Q E s);refine e'▸?_;refine(?_:im _ _ (if(!t.led)=true then _ else _) Q E s);cases BI:t.led with
   |true=>exact next
   |false=>
    refine al (Et _ _ (λv hv=>ah (lc.mp hv) λe he ev=>?_) (iM wP next));refine bR (Array.getElem_of_mem (Array.mem_filter.mp (Array.mem_toList_iff.mp he)).1) λj q=>q.elim λhj ej=>⟨j,hj,ev.symm.trans (congrArg _ ej.symm)⟩
end
end
section
open SetTable
theorem nY{α:Type}(xs:Array α)(p:Nat)(x:α)(hp:p≤xs.size)(i:Nat):(insertAt xs p x)[i]?=if i<p then xs[i]? else if i=p then some x else xs[i-1]?:=by
 rw[←Op,jx xs p x hp];by_cases h1:i<p
 ·rw[if_pos h1,TT (by simp;exact V6 h1 hp),List.getElem?_take_of_lt h1,Op]
 ·rw[if_neg h1,bD (by simp;exact V7 h1)];have hl:(Va p xs.toList).length=p:=by simp;exact lG hp
  rw[hl];by_cases z:i=p
  ·rw[if_pos z,z,i8];rfl
  ·rw[if_neg z];refine cut λq j=>?_;obtain⟨d,u⟩:∃d,i-p=d+1:=⟨i-p-1,V8 h1 z⟩;refine j ?_;rw[u,kx,List.getElem?_drop,←Op];congr 1;exact ZS u
structure yp(es:Array (Int×bm))(t:AC):Prop where
 nt:t.place.size=es.size
 xk:t.dummies=#[]
 sJ:t.place.toList.Pairwise (·<·)
 le:∀j∈t.place.toList,j≤t.mask
 path:∀(i:Nat) e j,es[i]?=some e->t.place[i]?=some j->Way t.mask t.place.toList e.1 j
theorem yp.tab{es:Array (Int×bm)}{t:AC}(T:yp es t)(hm:(t.mask=7/\es.size≤4)∨(t.mask=31/\es.size≤18)):Tab es t:=
 ⟨T.nt,T.xk,hm,T.sJ,T.le,λi h=>T.path i _ _ (getElem?_pos es i h) (getElem?_pos _ _ _)⟩
theorem Tab.abe{es:Array (Int×bm)}{t:AC}(T:Tab es t):yp es t:=
 ⟨T.nt,T.xk,T.sJ,T.le,λi e j h1 z=>by
  obtain⟨hi,u⟩:=eY.mp h1;obtain⟨q,e2⟩:=eY.mp z;rw[←u,←e2];exact T.path i hi⟩
theorem Eu{t:AC}(z:t.dummies=#[]) (j:Nat):t.put j=({t with place:=insertAt t.place (below t.place j) j},below t.place j):=by
 unfold ag6;rw[z,oR];rfl
theorem yp.put{es:Array (Int×bm)}{t:AC}(T:yp es t){h:Int}{x:bm}{j:Nat}(hj:j∉t.place.toList)(N:j≤t.mask)(W:Way t.mask t.place.toList h j)(Z:Bool):
  yp (insertAt es (below t.place j) (h,x)) {t with place:=insertAt t.place (below t.place j) j,plain:=Z}:=by
 have u:=(dZ (.of T.sJ) j).1;have Y:below t.place j≤es.size:=by rw[←T.nt];exact u
 have hp:=insertAt_perm t.place (below t.place j) j u;have q:∀y∈t.place.toList,y∈(insertAt t.place (below t.place j) j).toList:=λy hy=>hp.mem_iff.mpr (.tail _ hy);refine⟨by refine(?_:(insertAt t.place _ j).size=_);rw[eA _ _ _ u,eA _ _ _ Y,T.nt],T.xk,mD T.sJ j hj,λy hy=>?_,λi e y h1 O=>?_⟩
 ·rcases em.mp (hp.mem_iff.mp hy)with rfl|hy
  ·exact N
  ·exact T.le y hy
 ·have z:(insertAt t.place (below t.place j) j)[i]?=some y:=O;rw[nY _ _ _ Y]at h1;rw[nY _ _ _ u]at z;refine(?_:Way t.mask (insertAt t.place (below t.place j) j).toList e.1 y);by_cases c1:i<below t.place j
  ·rw[if_pos c1]at h1 z;exact(T.path i e y h1 z).mono q
  ·rw[if_neg c1]at h1 z;by_cases c2:i=below t.place j
   ·rw[if_pos c2]at h1 z;cases h1;cases z;exact W.mono q
   ·rw[if_neg c2]at h1 z;exact(T.path _ e y h1 z).mono q
section
variable {m:Nat}
theorem KJ(m:Nat):∀(k:Nat)(p:Probe),k≤p.more->it m k p={p with j:=p.j+k,more:=p.more-k}
 |0,p,h=>rfl
 |k+1,p,h=>by
  refine(?_:it m k (wb m p)=_);have e:wb m p={p with j:=p.j+1,more:=p.more-1}:=by unfold wb;rw[if_pos (Nat.zero_lt_of_lt h)]
  rw[KJ m k (wb m p) (by rw[e];simp;exact di h),e];lia
noncomputable def Own(owner:Array (Option Nat))(j:Nat):Prop:=(owner.getD j (some 0)).isNone=false
theorem wg{owner:Array (Option Nat)}:∀(fuel i q:Nat)(j:Nat),layClean.free m owner fuel i q=some j->(owner.getD j (some 0)).isNone=true/\∃k,(it m k (nX m i q)).j=j/\∀k',k'<k->Own owner (it m k' (nX m i q)).j
 |0,i,q,j,h=>bE h
 |fuel+1,i,q,j,h=>by
  have h:(match(pc (runEnd m i+1-i)).find? λk=>(owner.getD (i+k) (some 0)).isNone with|some k=>some (i+k)|none=>layClean.free m owner fuel (leap m i q).1 (leap m i q).2)=some j:=h;have hre:i≤runEnd m i:=by unfold runEnd;split<;>first|exact Po|exact Pp
  have pin:∀k,k≤runEnd m i-i->(it m k (nX m i q)).j=i+k:=λk hk=>by rw[KJ m k (nX m i q) hk];rfl
  cases hf:(pc (runEnd m i+1-i)).find? (λk=>(owner.getD (i+k) (some 0)).isNone)with
  |some k=>
   rw[hf]at h;refine zt h λqe=>?_;rw[←qe];refine ml (List.find?_range_eq_some.mp hf) λh1 h2 hn=>?_;have hk:k<runEnd m i+1-i:=by simpa using h2
   refine⟨by simpa using h1,k,pin k (Qh hk),λk' jf=>?_⟩;rw[pin k' (ZZ jf hk)];have:=hn k' jf;unfold Own;cases hq:(owner.getD (i+k') (some 0)).isNone with
   |false=>rfl
   |true=>rw[hq]at this;cases this
  |none=>
   rw[hf]at h;dsimp only at h;have uq:∀k,k<runEnd m i+1-i->Own owner (i+k):=λk hk=>by
    have:=CI.mp hf k (by simpa using hk);unfold Own;cases hq:(owner.getD (i+k) (some 0)).isNone with
    |false=>rfl
    |true=>exact absurd hq this
   refine cut λPP kk=>?_;obtain⟨a,k,e,b⟩:=wg fuel _ _ j h;have RE:it m (runEnd m i-i+1) (nX m i q)=nX m (leap m i q).1 (leap m i q).2:=yn m _ (nX m i q) rfl rfl;refine kk ?_;refine⟨a,runEnd m i-i+1+k,by rw[mY,RE];exact e,λk' jf=>?_⟩;rcases bG k' (runEnd m i-i+1)with h1|h1
   ·rw[pin k' (AT h1)];exact uq k' (V9 h1 hre)
   ·obtain⟨d,rfl⟩:∃d,k'=runEnd m i-i+1+d:=⟨k'-(runEnd m i-i+1),zg (gG h1)⟩;rw[mY,RE];exact b d (Nat.lt_of_add_lt_add_left jf)
theorem ti{owner:Array (Option Nat)}:∀(fuel i q:Nat),layClean.free m owner fuel i q=none->∀c,c<fuel->∀i' q',(i',q')=(pc c).foldl (λ(s:Nat×Nat) _=>leap m s.1 s.2) (i,q)->Own owner i'
 |0,i,q,_,c,hc,_,_,_=>(LD hc).elim
 |fuel+1,i,q,h,c,hc,i',q',e=>by
  have h:(match(pc (runEnd m i+1-i)).find? λk=>(owner.getD (i+k) (some 0)).isNone with|some k=>some (i+k)|none=>layClean.free m owner fuel (leap m i q).1 (leap m i q).2)=none:=h;have hre:i≤runEnd m i:=by unfold runEnd;split<;>first|exact Po|exact Pp
  cases hf:(pc (runEnd m i+1-i)).find? (λk=>(owner.getD (i+k) (some 0)).isNone)with
  |some k=>rw[hf]at h;cases h
  |none=>
   rw[hf]at h;dsimp only at h;cases c with
   |zero=>
    cases e;have:=CI.mp hf 0 (by simp;exact V' hre);unfold Own;cases hq:(owner.getD i (some 0)).isNone with
    |false=>rfl
    |true=>exact absurd (by simpa using hq) this
   |succ c=>
    refine ti fuel _ _ h c (iz.mp hc) i' q' ?_;rw[e,xi,kZ,Ki]
end
end
section
open SetTable
theorem tj{m i:Nat}(h:i≤m):i≤runEnd m i/\runEnd m i≤m:=by unfold runEnd;split<;>first|exact Wa (by assumption)|exact Wb h
theorem KL{m:Nat}:∀(k:Nat)(p:Probe),p.j+p.more≤m->(it m k p).j≤m
 |0,p,h=>by refine(?_:p.j≤m);exact cD h
 |k+1,p,h=>by
  refine KL k _ ?_;unfold wb;split
  ·simp only;exact Wc h (by assumption)
  ·simp only;have h1:(leap m p.i p.perturb).1≤m:=by
    have:=f5 (p.i*5+1+p.perturb/32) (show 0<m+1 by simp);exact AT this
   have:=tj h1;exact Pq this
theorem lr(m:Nat)(h:Int)(k:Nat):(it m k (nX m (bits h%(m+1)) (bits h))).j≤m:=by
 refine KL k _ ?_;have h1:bits h%(m+1)≤m:=by have:=f5 (bits h) (show 0<m+1 by exact LF);exact AT this
 have:=tj h1;refine(?_:bits h%(m+1)+(runEnd m (bits h%(m+1))-bits h%(m+1))≤m);exact Pq this
noncomputable def Ex(m c:Nat)(s:Nat×Nat):Nat×Nat:=(pc c).foldl (λ(s:Nat×Nat) _=>leap m s.1 s.2) s
theorem nZ(m c:Nat)(s:Nat×Nat):Ex m (c+1) s=Ex m c (leap m s.1 s.2):=by
 unfold Ex;rw[xi,kZ,Ki]
theorem wh(m:Nat):∀(c i q:Nat),q<32^c->i≤m->∃z,z≤m/\Ex m c (i,q)=(z,0)
 |0,i,q,hq,hi=>(ak i hi (by rw[show q=0 by simpa using hq];rfl))
 |c+1,i,q,hq,hi=>by
  rw[nZ];refine wh m c _ (q/32) (by rw[pN]at hq;exact Qk hq) ?_;have:=f5 (i*5+1+q/32) (show 0<m+1 by exact LF);exact AT this
theorem zW(m:Nat):∀(c i:Nat),Ex m c (i,0)=(El m c i,0)
 |0,i=>rfl
 |c+1,i=>by
  rw[nZ,show leap m (i,0).1 (i,0).2=(OC m i,0) by unfold leap OC;simp];exact zW m c (OC m i)
theorem zX(m:Nat):∀(a b:Nat)(s:Nat×Nat),Ex m (a+b) s=Ex m b (Ex m a s)
 |0,b,s=>by rw[kX];rfl
 |a+1,b,s=>by rw[eE,nZ,nZ];exact zX m a b _
theorem BJ{m:Nat}(hm:m=7∨m=31){owner:Array (Option Nat)}(h:Int){e:Nat}(he:e≤m)(hn:¬Own owner e):∃j,layClean.free m owner (turns m) (bits h%(m+1)) (bits h)=some j:=by
 cases hf:layClean.free m owner (turns m) (bits h%(m+1)) (bits h)with
 |some j=>exact⟨j,rfl⟩
 |none=>
  obtain⟨i,hi,e1⟩:=wh m 13 (bits h%(m+1)) (bits h) (zT h) (by have:=f5 (bits h) (show 0<m+1 by exact LF);exact AT this);refine ah (Eo hm hi he) λc hc ec=>?_;refine absurd (ti (turns m) _ _ hf (13+c) (by unfold turns;exact Wd hc) e 0 ?_) hn;refine(?_:(e,0)=Ex m (13+c) _);rw[zX,e1,zW,ec]
structure Ey(m:Nat)(hs:List Int)(owner:Array (Option Nat)):Prop where
 size:owner.size=m+1
 perm:(owner.toList.filterMap id).Perm (pc hs.length)
 way:∀j i,owner[j]?=some (some i)->∃h k,hs[i]?=some h/\(it m k (nX m (bits h%(m+1)) (bits h))).j=j/\∀k',k'<k->∃i',owner[(it m k' (nX m (bits h%(m+1)) (bits h))).j]?=some (some i')
theorem mF:∀(l:List (Option Nat))(j k:Nat),l[j]?=some none->((l.set j (some k)).filterMap id).Perm (k::l.filterMap id)
 |[],j,k,h=>by simp at h
 |x::l,0,k,h=>by simp at h;subst h;simp
 |x::l,j+1,k,h=>by
  have ih:=mF l j k (by simpa using h);cases x with
  |none=>simpa using ih
  |some y=>
   have:=(kI y ih).trans (A9 k y _);exact this
noncomputable def Ez(m:Nat)(acc:Option (Array (Option Nat)×Nat))(h:Int):Option (Array (Option Nat)×Nat):=do
  let(owner,k)←acc
  let j←layClean.free m owner (turns m) (bits h%(m+1)) (bits h)
  pure (owner.setIfInBounds j (some k),k+1)
set_option tactic.hygienic true in
theorem wi{m:Nat}(hm:m=7∨m=31):∀(hs pre:List Int)(owner:Array (Option Nat)),Ey m pre owner->pre.length+hs.length≤m->∃uu,hs.foldl (Ez m) (some (owner,pre.length))=some (uu,(pre++hs).length)/\Ey m (pre++hs) uu
 |[],pre,owner,L,hl=>(ak owner (by simp) (by simpa using L))
 |h::hs,pre,owner,L,hl=>by
  rw[kZ];refine cut λPP kk=>?_;have mE:∃e,e≤m/\owner[e]?=some none:=by
   have hlen:(owner.toList.filterMap id).length<owner.toList.length:=by
    have h9:owner.toList.length=m+1:=by rw[Ev,L.size]
    rw[L.perm.length_eq,zn,h9];simp at hl;exact We hl
   apply cJ;intro hc;have:∀x∈owner.toList,x≠none:=λx hx hxn=>by
    obtain⟨i,hi,e⟩:=dH hx;have iw:i<owner.size:=by simpa using hi
    exact hc ⟨i,by rw[L.size]at iw;exact AT iw,by rw[getElem?_pos owner i iw];simp at e;rw[e,hxn]⟩
   have h2:(owner.toList.filterMap id).length=owner.toList.length:=by
    generalize owner.toList=l at this;clear hlen hc;induction l with
    |nil=>rfl
    |cons x l ih=>
     cases x with
     |none=>exact absurd rfl (this _ (.head _))
     |some y=>simp[ih λx hx=>this x (.tail _ hx)]
   exact Pr hlen h2
  refine ah mE λe he hen=>?_;obtain⟨j,hj⟩:=BJ hm (owner:=owner) h he (by unfold Own;rw[fK,hen];simp);obtain⟨h1,k,h2,h3⟩:=wg _ _ _ _ hj;have OE:j≤m:=by rw[←h2];exact lr m h k
  have hjs:j<owner.size:=by rw[L.size];exact SL OE
  have hjn:owner[j]?=some none:=by
   rw[fK]at h1;rw[getElem?_pos owner j hjs]at h1⊢;cases q:owner[j]with
   |none=>rfl
   |some y=>rw[q]at h1;cases h1
  have e1:Ez m (some (owner,pre.length)) h=some (owner.setIfInBounds j (some pre.length),(pre++[h]).length):=by
   unfold Ez;simp[hj]
  refine kk ?_;refine e1▸?_;have MO:∀j',(owner.setIfInBounds j (some pre.length))[j']?=if j=j' then some (some pre.length)else owner[j']?:=λj'=>by
   rw[Array.getElem?_setIfInBounds];split
   ·rename_i q;subst q;simp[hjs]
   ·rfl
  have L':Ey m (pre++[h]) (owner.setIfInBounds j (some pre.length)):=by
   refine⟨by simp[L.size],?_,λj' i hi=>?_⟩
   ·rw[Array.toList_setIfInBounds];refine(mF _ j _ (by simpa using hjn)).trans ?_;rw[ci,pp,sb];exact(kI _ L.perm).trans (xB (l₁:=[pre.length]))
   ·rw[MO]at hi;have occ:∀y:Nat,(∃i':Nat,owner[y]?=some (some i'))->∃i':Nat,(owner.setIfInBounds j (some pre.length))[y]?=some (some i'):=λy gc=>bR gc λi' hy=>by
     by_cases q:j=y
     ·exact⟨_,by rw[MO,if_pos q]⟩
     ·exact⟨i',by rw[MO,if_neg q];exact hy⟩
    by_cases q:j=j'
    ·rw[if_pos q]at hi;cases hi;subst q;refine(jo h k (by simp) h2 (λk' jf=>occ _ ?_));have ho:=h3 k' jf;have hle:=lr m h k';unfold Own at ho;rw[fK,getElem?_pos owner _ (by rw[L.size];exact SL hle)]at ho;rw[getElem?_pos owner _ (by rw[L.size];exact SL hle)];cases q:owner[(it m k' (nX m (bits h%(m+1)) (bits h))).j]'(by rw[L.size];exact SL hle)with
     |none=>rw[q]at ho;cases ho
     |some y=>exact⟨y,rfl⟩
    ·rw[if_neg q]at hi;refine cK (L.way j' i hi) λh' k2 a b c=>?_;have hil:i<pre.length:=(ww.mp a).1;exact(jo h' k2 (by rw[TT hil];exact a) b (λk' jf=>occ _ (c k' jf)))
  obtain⟨uu,e2,L2⟩:=wi hm hs (pre++[h]) _ L' (by simp at hl⊢;exact Wf hl);exact⟨uu,by rw[e2];simp,by simpa using L2⟩
theorem BK{m:Nat}(hm:m=7∨m=31)(hs:Array Int)(hl:hs.size≤m):∃owner,layClean m hs=some owner/\Ey m hs.toList owner:=by
 have L0:Ey m [] (qE (m+1) none):=by
  refine⟨by simp,?_,λj i h=>?_⟩
  ·rw[Array.toList_replicate];have:(List.replicate (m+1) (none:Option Nat)).filterMap id=[]:=by
    rw[List.filterMap_eq_nil_iff];intro x hx;rw[List.eq_of_mem_replicate hx];rfl
   rw[this];exact .refl _
  ·rw[Array.getElem?_replicate]at h;split at h<;>simp at h
 refine ah (wi hm hs.toList [] _ L0 (by simpa using hl)) λowner e L=>?_;refine(ak owner ?_ (by simpa using L));unfold layClean;rw[←Array.foldl_toList];have e':hs.toList.foldl (Ez m) (some (qE (m+1) none,0))=_:=e;refine(?_:(hs.toList.foldl (Ez m) (some (qE (m+1) none,0))).map (·.1)=_);rw[e'];rfl
end
section
open SetTable
theorem gT{β:Type}{f:Nat->Option (Nat×β)}(hf:∀j p,f j=some p->p.1=j):∀l:List Nat,((l.filterMap f).map (·.1)).Sublist l
 |[]=>.slnil
 |j::l=>by
  rw[bF];cases h:f j with
  |none=>exact(gT hf l).cons j
  |some p=>
   simp only[jp];rw[hf j p h];exact(gT hf l).cons_cons j
theorem range_getD{α:Type}(xs:Array α)(d:α):(pc xs.size).map (λj=>xs.getD j d)=xs.toList:=by
 apply kv
 ·simp
 ·intro i h1 z;simp at h1;simp[h1]
theorem pV(owner:Array (Option Nat)):((pc owner.size).filterMap λj=>(owner.getD j none).map (j,·)).map (·.2)=owner.toList.filterMap id:=by
 rw[List.map_filterMap];have:(λj=>bL (λx:Nat×Nat=>x.2) ((owner.getD j none).map (j,·)))=λj=>id (owner.getD j none):=by
  funext j;cases owner.getD j none<;>rfl
 rw[this,←range_getD owner none,CJ];rfl
theorem yq{es:Array (Int×bm)}{t:AC}(hn:es.size≤18):∃O z,t.relaid (es.map (·.1)) 20=some (O,z)/\(z.filterMap (es[·]?)).size=es.size/\(z.filterMap (es[·]?)).toList.Perm es.toList/\Tab (z.filterMap (es[·]?)) O/\O.led=t.led:=by
 refine cut λPP N=>?_;obtain⟨owner,e,L⟩:=BK (m:=31) (.inr rfl) (es.map (·.1)) (by simp;exact Wg hn);have hsa:sizeAbove 20-1=31:=by decide+kernel
 refine N ?_
 let live:=(pc (31+1)).filterMap λj=>(owner.getD j none).map (j,·)
 have RF:∀p∈live,owner[p.1]?=some (some p.2):=λp hp=>by
  refine ah (ou.mp hp) λj hj hq=>?_;refine ah (At.mp hq) λi h1 Y=>?_;rw[←Y];rw[fK]at h1;cases q:owner[j]? with
  |none=>rw[q]at h1;cases h1
  |some y=>rw[q]at h1;exact congrArg some h1
 have MP:(live.map (·.2)).Perm (pc es.size):=by
  have h1:live.map (·.2)=owner.toList.filterMap id:=by
   have:=pV owner;rw[L.size]at this;exact this
  rw[h1];have:=L.perm;simpa using this
 have se:∀p∈live,p.2<es.size:=λp hp=>by
  have:p.2∈live.map (·.2):=wS hp;simpa using MP.mem_iff.mp this
 have Z:((live.map (·.2)).toArray.filterMap (es[·]?)).toList=live.map λp=>es.getD p.2 (0,.none):=by
  rw[Array.toList_filterMap,CJ];have:∀l:List (Nat×Nat),(∀p∈l,p.2<es.size)->l.filterMap ((λx=>es[x]?)∘λx=>x.2)=l.map λp=>es.getD p.2 (0,.none):=by
   intro l;induction l with
   |nil=>intro _;rfl
   |cons p l ih=>
    intro h;have hp:=h p (.head _);rw[bF,jp];simp only[ag7];rw[getElem?_pos es p.2 hp];simp only;rw[show es.getD p.2 (0,Fa)=es[p.2] by simp[kG,hp]];congr 1;exact ih λq hq=>h q (.tail _ hq)
  exact this live se
 have u:live.length=es.size:=by have:=MP.length_eq;simpa using this
 refine(Dl ({mask:=31,place:=(live.map (·.1)).toArray,dummies:=#[],finger:=t.finger,led:=t.led,moves:=t.movedTo 31,plain:=t.plain}) ((live.map (·.2)).toArray) (by unfold Bb;rw[hsa];unfold laid;rw[e];rfl) ?_ ?_ ?_ rfl)
 ·have:=congrArg d5 Z;rw[Ev,be,u]at this;exact this
 ·rw[Z];have h1:(live.map λp=>es.getD p.2 (0,Fa))=(live.map (·.2)).map λi=>es.getD i (0,Fa):=by rw[li];rfl
  rw[h1];have Y:=MP.map λi=>es.getD i (0,Fa)
  rwa [range_getD]at Y
 ·have lq:(live.map (·.1)).Sublist (pc (31+1)):=gT (λj p h=>by
   refine ah (At.mp h) λi _ Y=>?_;rw[←Y]) _
  have qk:((live.map (·.2)).toArray.filterMap (es[·]?)).size=es.size:=by
   have:=congrArg d5 Z;rw[Ev,be,u]at this;exact this
  refine yp.tab ⟨?_,rfl,?_,λj hj=>?_,λi x j h1 Y=>?_⟩ (.inr ⟨rfl,by rw[qk];exact hn⟩)
  ·refine(?_:(live.map (·.1)).toArray.size=_);rw[qk];simpa using u
  ·exact kN.sublist lq
  ·have:j∈pc (31+1):=lq.subset (by simpa using hj);have:j<31+1:=by simpa using this
   refine(?_:j≤31);exact AT this
  ·refine cut λPP N=>?_;rw[←Op,Z,tz]at h1;refine ah (At.mp h1) λp hp ep=>?_;have lJ:(live.map (·.1))[i]?=some j:=by simpa using Y
   rw[tz,hp]at lJ;have abg:p.1=j:=db lJ;have g6:p∈live:=bk hp;refine cK (L.way p.1 p.2 (RF p g6)) λh k a b c=>?_;have xl:=se p g6;have hh:h=x.1:=by
    rw[←ep,show es.getD p.2 (0,Fa)=es[p.2] by simp[kG,xl]];have:(es.map (·.1)).toList[p.2]?=some (es[p.2]).1:=by simp[xl]
    rw[this]at a;exact(db a).symm
   refine N ?_;refine hh▸?_;refine(ak k (by rw[←abg];exact b) (λk' jf=>?_));obtain⟨i',iw⟩:=c k' jf;refine lc.mpr ⟨((it 31 k' (nX 31 (bits h%(31+1)) (bits h))).j,i'),?_,rfl⟩;refine ou.mpr ⟨(it 31 k' (nX 31 (bits h%(31+1)) (bits h))).j,cL.mpr (by have:=lr 31 h k';exact SL this),?_⟩;rw[fK,iw];rfl
end
section
open SetTable
section
variable {prog:EQ}{w:KB}{A:Da}{E:bm->bv->Prop}{s:bv}{a:co}{es:Array (Int×bm)}{ep:Nat}{t:AC}
theorem n0{z:Array (Int×bm)}{u:AC}{Q:Unit->bv->Prop}(ha:s.heap.get? a=some (bg es ep t))(hz:z.size≤ga)
  (h:∀h',h'.get? a=some (bg z (ep+1) u)->Pv a s.heap h'->Q () {s with heap:=h'}):im (kt prog w) A (Hc a z u) Q E s:=by
 refine wpAny_storeSet_of ha rfl (h _ ?_ (TI _ a _)) hz;have:=Tl (Obj.putSet z u) ha (by rw[putSet_of z u rfl];rfl);rw[putSet_of z u rfl]at this;exact this
theorem MQ(T:Tab es t){h:Int}{eqv:Nat->Bool}{K:Nat}(q:(eJ t h K).j∉t.place.toList)(Z:∀u,u<K->∀i(hi:i<es.size),(t.place[i]'(by rw[T.nt];exact hi))=(eJ t h u).j->es[i].1=h->eqv i=false):∀i(hi:i<es.size),es[i].1=h->eqv i=false:=λi hi Y=>by
 refine ah (T.path i hi) λk z e2=>?_;rw[Y]at z e2;have hk:k<K:=by
  rcases dj k K with h1|h1|h1
  ·exact h1
  ·subst h1;refine absurd ?_ q;show(it t.mask k (nX t.mask (bits h%(t.mask+1)) (bits h))).j∈_;rw[z];exact t4 _
  ·exact absurd (e2 K h1) q
 exact Z k hk i hi z.symm Y
theorem BL(T:Tab es t)(hn:es.size+1≤18)(ha:s.heap.get? a=some (bg es ep t)){b:co}{h:Int}{Q:Bool->bv->Prop}{K:Nat}(hK:(eJ t h K).j∉t.place.toList)(hb:∀k,k<K->(eJ t h k).j∈t.place.toList)
  (mE:∀O RG u h',Tab O u->O.toList.Perm ((h,.ref b)::es.toList)->u.led=t.led->h'.get? a=some (bg O RG u)->Pv a s.heap h'->Q true {s with heap:=h'}) (pl:Bool):im (kt prog w) A (do
    Hc a (insertAt es (below t.place (eJ t h K).j) (h,.ref b)) {t with place:=insertAt t.place (below t.place (eJ t h K).j) (eJ t h K).j,plain:=pl}
    if(!false&&({t with place:=insertAt t.place (below t.place (eJ t h K).j) (eJ t h K).j,plain:=pl}:AC).tooFull)=true then do
      setRelay a (eO (es.size+1))
      return true
     else return true) Q E s:=by
 have OE:(eJ t h K).j≤t.mask:=lr t.mask h K;have xl:below t.place (eJ t h K).j≤es.size:=by rw[←T.nt];exact(dZ (.of T.sJ) _).1
 have T1:=T.abe.put (x:=.ref b) hK OE (ak K rfl hb) pl;have Y:(insertAt es (below t.place (eJ t h K).j) (h,dC b)).size=es.size+1:=eA _ _ _ xl;have RH:=insertAt_perm es (below t.place (eJ t h K).j) (h,dC b) xl;refine al (n0 ha (by rw[Y,cP];exact Wh hn) λh1 N k1=>?_);have EA:({t with place:=insertAt t.place (below t.place (eJ t h K).j) (eJ t h K).j,plain:=pl}:AC).fill=es.size+1:=by
  show(insertAt t.place _ _).size+t.dummies.size=_;rw[T.xk,eA _ _ _ (dZ (.of T.sJ) _).1,T.nt];rfl
 by_cases hf:({t with place:=insertAt t.place (below t.place (eJ t h K).j) (eJ t h K).j,plain:=pl}:AC).tooFull=true
 ·refine vD (by rw[hf];rfl) ?_;have h5:es.size=4:=by
   unfold zh at hf;rw[EA]at hf;have MF:(es.size+1)*5≥t.mask*3:=by simpa using hf
   rcases T.Uu with⟨q,Z⟩|⟨q,Z⟩<;>lia
  refine cut λPP kk=>?_;obtain⟨u,z,er,vg,sg,T',hl⟩:=yq (es:=insertAt es (below t.place (eJ t h K).j) (h,dC b)) (t:={t with place:=insertAt t.place (below t.place (eJ t h K).j) (eJ t h K).j,plain:=pl}) (by rw[Y];exact hn);refine kk ?_;refine al ?_;refine al (bT N T1.nt (by rw[EA];show es.size+1≤t.mask;rcases T.m with e|e<;>first|exact Wi h5 e|exact Wj e h5) ?_);dsimp only;have hg:eO (es.size+1)=20:=by rw[h5];decide
  refine hg▸?_;refine al ?_;rw[er];show im _ _ (if((z.filterMap ((insertAt es (below t.place (eJ t h K).j) (h,dC b))[·]?)).size !=(insertAt es (below t.place (eJ t h K).j) (h,dC b)).size)=true then _ else pure (z.filterMap ((insertAt es (below t.place (eJ t h K).j) (h,dC b))[·]?),u)) _ _ _;refine iM (by rw[vg];simp) ?_;refine am ?_;refine n0 N (by rw[vg,Y,cP];exact Wk h5) λh2 e2 k2=>?_;exact am (mE _ _ _ h2 T' (sg.trans RH) (hl.trans rfl) e2 (k1.trans k2))
 ·refine iM (by simpa using hf) ?_;refine am (mE _ _ _ h1 (T1.tab ?_) RH rfl N k1);refine(?_:(t.mask=7/\_)∨(t.mask=31/\_));refine Y▸?_;unfold zh at hf;rw[EA]at hf;rcases T.Uu with⟨q,Z⟩|⟨q,Z⟩
  ·exact .inl ⟨q,by lia⟩
  ·exact .inr ⟨q,hn⟩
theorem Iu(T:Tab es t)(hn:es.size+1≤18)(ha:s.heap.get? a=some (bg es ep t)){b:co}{h:Int}{eqv:Nat->Bool}{Q:Bool->bv->Prop}
  (Er:∀(i:Nat)(hi:i<es.size),∃b,es[i].2=.ref b)
  (heq:∀(i:Nat)(hi:i<es.size)(Q:Bool->bv->Prop),es[i].1=h->Q (eqv i) s->im (kt prog w) A (Lh es[i].2 (.ref b)) Q E s)
  (Et:∀(l:List bm)(Q:Bool->bv->Prop),(∀v∈l,∃i,∃hi:i<es.size,v=es[i].2)->Q false s->im (kt prog w) A (ij (.ref b) l) Q E s)
  (hbv:∀(Q:Bool->bv->Prop),(∀r,Q r s)->im (kt prog w) A (Hd 8 (.ref b)) Q E s)
  (rD:(∃i,∃hi:i<es.size,es[i].1=h/\eqv i=true)->Q false s)
  (mE:(∀i(hi:i<es.size),es[i].1=h->eqv i=false)->∀q RG u h',Tab q u->q.toList.Perm ((h,.ref b)::es.toList)->u.led=t.led->h'.get? a=some (bg q RG u)->Pv a s.heap h'->Q true {s with heap:=h'}):
  im (kt prog w) A (aeD a (.ref b) h) Q E s:=by
 refine cut λPP kk=>?_;refine bt (T.first h) λK N Z hb=>?_;refine kk ?_;refine wv (al (T.state ha ?_));dsimp only;have Y:byScan (.ref b) es=false:=rfl;rw[Y];refine al ?_;refine we (eqv:=eqv) (Q:=λr s'=>_) T ha Z hb N Er heq Et ?rD ?mE 100000 0 none rfl (np _) (by rcases T.m with e|e<;>first|exact Wl e N|exact Wm e N) (λk2 h2=>(LD h2).elim)
 case rD=>exactλx=>am (rD x)
 case mE=>
  intro nr;have O:=MQ T Z nr;have OE:(eJ t h K).j≤t.mask:=lr t.mask h K;refine al (T.state ha ?_);rw[Eu T.xk];dsimp only;have xl:below t.place (eJ t h K).j≤es.size:=by rw[←T.nt];exact(dZ (.of T.sJ) _).1
  have z:=λpl=>BL (prog:=prog) (w:=w) (A:=A) (E:=E) (b:=b) T hn ha Z hb (mE O) pl;cases OB:t.plain with
  |true=>
   refine al (hbv _ λr=>?_);cases r with
   |true=>
    exact z true
   |false=>
    exact z false
  |false=>
   refine al (am ?_);exact z false
end
end
section
open SetTable
theorem uv{α β:Type}{f:α->β}{l Y:List β}(p:Y.Perm l):∀{zs:List α},l=zs.map f->∃j:List α,j.Perm zs/\Y=j.map f:=by
 induction p with
 |nil=>intro zs e;exact(ak zs (.refl _) e)
 |cons x _ ih=>
  intro zs e;cases zs with
  |nil=>cases e
  |cons z zs=>
   injection e with u e2;refine ah (ih e2) λj p' e'=>?_;exact⟨z::j,.cons _ p',by rw[jp,←e',u]⟩
 |swap x y l=>
  intro zs e
  match zs,e with
  |z1::q::zs,e=>
   injection e with u e2;injection e2 with e2 N;exact(ak (q::z1::zs) (.swap _ _ _) (by simp[u,e2,N]))
 |trans _ _ MJ MK=>
  intro zs e;refine ah (MK e) λz1 O u=>?_;refine ah (MJ u) λq Z e2=>?_;exact⟨q,Z.trans O,e2⟩
structure oT(prog:EQ)(w:KB)(S:D->Prop)(J:aw->GM->co->List D->Prop):Prop where
 fresh:∀F h a,h.get? a=some (bg #[] 0 (.fresh 0 0 (!cu w)))->J F h a []
 frame:∀F h h' a ds,J F h a ds->h'.get? a=h.get? a->J F h' a ds
 add:∀(A:Da)(F:aw)(s:bv)(a:co)(ds:List D)(x:D)(v:bm)(E:bm->bv->Prop)(Q:Bool->bv->Prop),A.units+12<cA->F.le (hv s.heap)->J F s.heap a ds->ds.length+1≤18->S x->R F v x->
  (∀h' tk b ju,Pv a s.heap h'->J F h' a ju->ju.length≤ds.length+1->(∀y,y∈ju↔y∈ds∨y=x)->Q b {s with heap:=h',toks:=tk})->im (kt prog w) A (setAdd a v) Q E s
 set:∀F h a ds,J F h a ds->ds.Nodup/\∃o,h.get? a=some o/\vK w F o ds
section
variable {prog:EQ}{w:KB}
set_option smartUnfolding false in
theorem tm:∀(n m:Nat)(A:Da)(s:bv)(x:D)(v:bm)(E:bm->bv->Prop)(Q:Bool->bv->Prop),n≤m->e8 n x=true->R (hv s.heap) v x->Q false s->im (kt prog w) A (sA m v) Q E s:=sF λn ih m A s x v E Q hm j z q=>by
 revert z;refine nD j (λi z=>z.el λt=>?_) (λi z=>z.el λt=>?_) λk ds u hk z=>z.el λa vs N e rs=>?_
 ·cases m<;>exact am q
 ·cases m<;>exact am q
 ·cases m with
  |zero=>exact absurd (cr (IR u.symm) hm) (iy _)
  |succ m=>
   have O:s.TypeIs (.ref a) "tuple":=⟨_,e,rfl⟩;delta sA;dsimp only;refine al (dE O ?_);dsimp only;refine al (am ?_);refine al (eC e rfl ?_);refine al ((qj (λ_(r:Option Bool×Unit) s'=>r=(none,())/\s'=s) rs ⟨rfl,rfl⟩ (λd v done b Y Z r i=>?_) λb Y i=>?_))
   ·rw[i.2];exact al (m:=sA m v) (ih k u m A s d v E _ (kQ (cr (IR u.symm) hm)) (hk d Z) r (am ⟨rfl,rfl⟩))
   ·rw[i.1,i.2];exact am q
end
end
section
open SetTable
section
variable {prog:EQ}{w:KB}{A:Da}{E:bm->bv->Prop}{s:bv}
theorem MR:∀(n:Nat)(x:D)(v:bm)(Q:Bool->bv->Prop),e8 n x=true->R (hv s.heap) v x->(∀r,Q r s)->im (kt prog w) A (Hd n v) Q E s:=sF λn ih x v Q j z h=>by
 revert z;refine nD j (λi z=>z.el λt=>?_) (λi z=>z.el λt=>?_) λk ds u hk z=>z.el λa vs N e rs=>?_
 ·cases n<;>exact am (h _)
 ·cases n<;>exact am (h _)
 ·rw[u];refine al (bN (T:="tuple") ⟨_,e,rfl⟩ F.slot_tuple_hash.lookup (al (eC e rfl (al (qj (λ_(r:Option Bool×Unit) s'=>r.1=none/\s'=s) rs ⟨rfl,rfl⟩ (λd v done b q Z r i=>?_) λb q i=>?_)))))
  ·rw[i.2];refine al (ih k u d v _ (hk d Z) r λb=>?_);cases b with
   |true=>exact am ⟨rfl,rfl⟩
   |false=>exact am (am (h _))
  ·obtain⟨Y,O⟩:=b;rw[i.2];cases show Y=none from i.1;exact am (h _)
noncomputable def JT(w:KB)(S:D->Prop)(F:aw)(h:GM)(a:co)(ds:List D):Prop:=
 ∃es ep t,∃zs:List ((Int×bm)×D),h.get? a=some (bg es ep t)/\Tab es t/\t.led=!cu w/\es.toList=zs.map (·.1)/\ds=zs.map (·.2)/\ds.Nodup/\∀z∈zs,S z.2/\R F z.1.2 z.2/\z.1.1=fF w 8 z.2/\∃b,z.1.2=.ref b
theorem EB{F:aw}{x:D}{v:bm}{S:D->Prop}(j:F.le (hv s.heap))(hx:e8 8 x=true)(rx:R F v x):∀(l:List bm)(Q:Bool->bv->Prop),(∀u∈l,∃y,e8 8 y=true/\R F u y)->Q false s->im (kt prog w) A (ij v l) Q E s:=by
 intro l Q hl q;have go:im (kt prog w) A (ij v l) (λb s'=>b=false/\s'=s) E s:=by
  unfold ij;refine al ?_;refine tX _ (λz(r:Option Bool×Unit) s'=>r.1=none/\s'=s/\∀u∈z,∃y,e8 8 y=true/\R F u y) _ ?_ ?_ _ _ ⟨rfl,rfl,hl⟩
  ·intro u z r s' qQ;refine ml qQ λY nK hl=>?_;subst nK;refine ah (hl u (.head _)) λy O N=>?_;have Z:∀u∈z,∃y,e8 8 y=true/\R F u y:=λu hu=>hl u (.tail _ hu);refine aR (λ_=>am ⟨rfl,rfl,Z⟩) λ_=>?_;refine al (oM 8 x v _ hx (rx.mono j) ?_);refine al (oM 8 y u _ O (N.mono j) ?_);refine al (tm 8 8 A _ x v E _ (ii _) hx (rx.mono j) ?_);refine al (tm 8 8 A _ y u E _ (ii _) O (N.mono j) ?_);exact am ⟨rfl,rfl,Z⟩
  ·rintro⟨r1,r2⟩ s' ⟨Y,rfl,_⟩;simp only at Y;subst Y;exact am ⟨rfl,rfl⟩
 refine f8 go (λb s' HN=>dv HN λe1 e2=>by subst e1;subst e2;exact q) λ_ _ e=>e
theorem Iv{S:D->Prop}(T8:aB 8 S)(ht:∀x,S x->∃l,x=.tup l):oT prog w S (JT w S)where
 fresh:=λF h a e=>by
  refine(Dr (#[]) 0 (.fresh 0 0 (!cu w)) ([]) e ⟨rfl,rfl,.inl ⟨rfl,by simp⟩,by simp[CK],by simp[CK],λi h=>by simp at h⟩ rfl rfl rfl (.nil) (by simp))
 frame:=λF h h' a ds abi=>aak abi λes ep t zs e x e'=>(aal es ep t zs (e'.trans e) x)
 set:=λF h a ds abj=>Dq abj λes ep t zs e T hl Y e2 nd hz=>by
  refine⟨nd,_,e,es,ep,t,rfl,?_,T.nt,by rw[T.fill];exact T.size,T.sJ,hl⟩;rw[Y,e2];clear Y e2 nd;induction zs with
  |nil=>exact .nil
  |cons z zs ih=>exact .cons (hz z (.head _)).2.1 (ih λz h=>hz z (.tail _ h))
 add:=by
  intro A F s a ds x v E Q hu hF Iw;refine Dq Iw λes ep t zs ha T BI Y e2 nd hz=>?_;rintro N Z rx q;obtain⟨l,rfl⟩:=ht x Z;have tx:=T8.ok _ Z;have qk:es.size=ds.length:=by have:=congrArg d5 Y;rw[e2];simpa using this
  obtain⟨b,rfl⟩:∃b,v=.ref b:=by cases rx;exact⟨_,rfl⟩
  have RJ:∀i(hi:i<es.size),∃z,zs[i]?=some z/\z.1=es[i]/\z∈zs:=λi hi=>by
   have:es.toList[i]?=some es[i]:=by simp[hi]
   rw[Y,tz]at this;refine ah (At.mp this) λz h1 j=>?_;exact(cY z h1 j (bk h1))
  refine wv (al (vG 8 A s (.tup l) _ _ tx (rx.mono hF) (Pt hu) ?_));refine Iu (s:={s with toks:=s.toks+fN 8 (.tup l)}) (eqv:=λi=>dX 8 (ds.getD i .none) (.tup l)==some true) T (le_of_eq_of_le (congrFun (congrArg qh qk) 1) N) ha (λi hi=>?_) (λi hi Q' eh q'=>?_) (λl' Q' vc q'=>?_) (λQ' q'=>MR (s:={s with toks:=s.toks+fN 8 (.tup l)}) 8 _ _ _ tx (rx.mono hF) q') ?_ ?_
  ·refine bt (RJ i hi) λz _ j hm=>?_;rw[←j];exact(hz z hm).2.2.2
  ·refine cut λPP kk=>?_;refine bt (RJ i hi) λz h1 j hm=>?_;refine Hw (hz z hm) λsz rz hhz _=>?_;have hd:ds.getD i .none=z.2:=by rw[e2];simp[rc,h1]
   obtain⟨r,hr⟩:=T8.Ec z.2 (.tup l) sz Z;refine kk ?_;refine j▸?_;refine nE (s:={s with toks:=s.toks+fN 8 (.tup l)}) 8 A z.2 (.tup l) _ _ r _ hr (T8.ok _ sz) tx (rz.mono hF) (rx.mono hF) (Pt hu) ?_;rw[hd,hr]at q';cases r<;>exact q'
  ·refine EB (s:={s with toks:=s.toks+fN 8 (.tup l)}) (S:=S) hF tx rx l' Q' (λu hu'=>?_) q';obtain⟨i,hi,rfl⟩:=vc u hu';refine bt (RJ i hi) λz _ j hm=>?_;refine j▸?_;exact⟨z.2,T8.ok _ (hz z hm).1,(hz z hm).2.1⟩
  ·rintro⟨i,hi,eh,he⟩;obtain⟨z,h1,j,hm⟩:=RJ i hi;have hd:ds.getD i .none=z.2:=by rw[e2];simp[rc,h1]
   rw[beq_iff_eq,hd]at he;have MC:z.2=.tup l:=(gb 8 _ _ true he).mp rfl;have se:D.tup l∈ds:=by rw[←MC,e2];exact wS hm
   exact q s.heap _ false ds (lH a s.heap) (Dr es ep t zs ha T BI Y e2 nd hz) (br ds.length 1) λy=>⟨.inl,λh=>h.elim id λe=>e▸se⟩
  ·intro nr il RG t' h' T' hp vc ha' hs;refine ah (uv (f:=λz:(Int×bm)×D=>z.1) hp (zs:=((fF w 8 (.tup l),.ref b),.tup l)::zs) (by rw[jp,←Y])) λKN O hz'=>?_;have abp:D.tup l∉ds:=λse=>by
    rw[e2]at se;refine ah (lc.mp se) λz hm MC=>?_;obtain⟨i,hi,ei⟩:=dH hm;have iw:i<es.size:=by have:=congrArg d5 Y;simp at this;exact KE hi this.symm
    have h1:zs[i]?=some z:=by rw[←ei];exact pi hi
    refine bt (RJ i iw) λz2 h3 h4 _=>?_;rw[h1]at h3;cases h3;have hh:es[i].1=fF w 8 (.tup l):=by rw[←h4,(hz z hm).2.2.1,MC]
    have:=nr i iw hh;have hd:ds.getD i .none=.tup l:=by rw[e2,←MC];simp[rc,h1]
    rw[hd,T8.refl Z]at this;simp at this
   have g6:(KN.map (·.2)).Perm (.tup l::ds):=by
    have:=O.map (λz:(Int×bm)×D=>z.2)
    rwa [jp,←e2]at this
   refine q h' _ true (KN.map (·.2)) hs (Dr il RG t' KN ha' T' (vc.trans BI) hz' rfl (g6.nodup_iff.mpr (Db.mpr ⟨abp,nd⟩)) (λz hzm=>?_)) (by rw[g6.length_eq];simp) λy=>?_
   ·rcases em.mp (O.mem_iff.mp hzm)with rfl|hm
    ·exact⟨Z,rx,rfl,_,rfl⟩
    ·exact hz z hm
   ·rw[g6.mem_iff,em];exact TV
end
end
section
open SetTable
structure mw(es:Array (Int×bm))(t:AC):Prop where
 nt:t.place.size=es.size
 xk:t.dummies=#[]
 sJ:t.place.toList.Pairwise (·<·)
 fit:es.size≤t.mask
theorem BM{t:AC}(Y:t.dummies=#[]) (u:t.place.toList.Pairwise (·<·)) {j:Nat} (e:t.slot j=.empty):j∉t.place.toList:=λz=>
 (dH z).elim λi h=>h.elim λhi q=>by
  have:=oS u (i:=i) hi;rw[show t.place[i]'hi=j from q,e]at this
  exact nomatch this
theorem yr{t:AC}(z:t.dummies=#[]) {j:Nat} {P:Prop} (e:t.slot j=.dummy):P:=by
 unfold r8 at e;rw[z]at e;simp only[oR]at e;split at e<;>cases e
theorem EC{t:AC}(z:t.dummies=#[]) (u:t.place.toList.Pairwise (·<·)) {f:Nat->Int} {h:Int} (fuel:Nat) (p:Probe) (j:Nat) (d:Option Nat) (hp:p.dummy=none) (e:probe.go t f h fuel p=some (.empty j d)):d=none/\j∉t.place.toList:=by
 induction fuel generalizing p with
 |zero=>exact bE e
 |succ fuel ih=>
  have e:(match t.slot p.j with|.empty=>some (.empty p.j p.dummy)|.dummy=>probe.go t f h fuel (t.advance {p with dummy:=some p.j})|.live i=>if f i==h then some (.candidate p.j i (t.advance p))else probe.go t f h fuel (t.advance p))=some (.empty j d):=e;cases hs:t.slot p.j with
  |empty=>
   rw[hs]at e;injection db e with q e2;exact⟨e2.symm.trans hp,q▸BM z u hs⟩
  |dummy=>exact yr z hs
  |live i=>
   rw[hs]at e;dsimp only at e;split at e
   ·exact nomatch e
   ·exact ih _ (by rw[ym,tg];exact hp) e
theorem mw.free{es:Array (Int×bm)}{t:AC}(T:mw es t){h:Int}{j:Nat}{z:Bool}(e:t.freeSlot h=some (j,z)):z=false/\j∉t.place.toList:=by
 unfold ag8 at e;cases hp:t.probe (λ_=>h+1) h (t.probeStart h)with
 |none=>rw[hp]at e;exact bE e
 |some m=>
  rw[hp]at e;cases m with
  |candidate=>exact bE e
  |empty q d=>
   have g:=EC T.xk T.sJ _ _ _ _ (by rw[Ek];rfl) hp;rw[g.1]at e;exact t9 (db e) λu e2=>⟨e2.symm,u▸g.2⟩
theorem lR{es:Array (Int×bm)}(t:AC)(z:t.dummies=#[]) {n:Nat} (hn:es.size=n):mw es (t.standIn n):=
 ⟨by show(Og n).size=_;simp[hn],rfl,by show(Og n).toList.Pairwise _;rw[Array.toList_range];exact kN,by show _≤4*n+4;exact Wn hn⟩
set_option tactic.hygienic true in
set_option tactic.hygienic true in
theorem BN{es:Array (Int×bm)}{t:AC}{n:Nat}(hs:t.place.size=es.size)(z:t.dummies=#[]) (u:t.place.toList.Pairwise (·<·)) (hn:es.size=n):mw es (t.orStandIn n)/\(t.orStandIn n).led=t.led:=by
 unfold ag9;split
 ·rename_i hf;unfold ja r9 at hf;rw[u8]at hf;have h:=of_decide_eq_true hf.2;rw[z,hs]at h;exact⟨⟨hs,z,u,h⟩,rfl⟩
 ·exact⟨lR _ z hn,rfl⟩
theorem yt{es:Array (Int×bm)}{t:AC}(T:mw es t)(h:Int)(x:bm):mw (C' t es h x).1 (C' t es h x).2.1/\(C' t es h x).2.1.led=t.led/\(C' t es h x).2.2.1=false:=by
 unfold C';cases e:t.freeSlot h with
 |none=>exact⟨lR t T.xk (Array.size_push _),rfl,rfl⟩
 |some r=>
  obtain⟨j,u⟩:=r;have f:=T.free e;rw[f.1];dsimp only;rw[Eu T.xk];have z:=(dZ (.of T.sJ) j).1;have S:=BN (t:={t with place:=insertAt t.place (below t.place j) j}) (es:=insertAt es (below t.place j) (h,x)) ((eA _ _ _ z).trans (by rw[T.nt];exact(eA _ _ _ (T.nt▸z)).symm)) T.xk (mD T.sJ j f.2) rfl;exact⟨S.1,S.2,rfl⟩
set_option tactic.hygienic true in
theorem uw{es:Array (Int×bm)}{t:AC}(T:mw es t)(n:Nat):mw (oH t es n).1 (oH t es n).2.1/\(oH t es n).2.1.led=t.led:=by
 unfold oH;cases e:t.relaid (es.map (·.1)) n with
 |none=>exact⟨lR t T.xk rfl,rfl⟩
 |some r=>
  obtain⟨Y,u⟩:=r;dsimp only;split
  ·rename_i hc;unfold Bb laid at e;cases eo:layClean (sizeAbove n-1) (es.map (·.1))with
   |none=>rw[eo]at e;exact bE e
   |some owner=>
    rw[eo]at e;injection db e with q e2;have hf:=(u8 _ _▸hc:_/\_).2;unfold ja r9 at hf;rw[u8]at hf;have h1:=beq_iff_eq.mp hf.1;have z:=of_decide_eq_true hf.2;rw[←q]at h1 z⊢;exact⟨⟨h1,rfl,kN.sublist (gT (λj p h=>ah (At.mp h) λi _ z=>by rw[←z]) _),h1▸z⟩,rfl⟩
  ·exact⟨lR t T.xk rfl,rfl⟩
noncomputable def iv(e:Int×bm):D:=match e.2 with
 |.int i _=>.int i
 |_=>.none
noncomputable def II(w:KB)(e:Int×bm):Prop:=∃i u,e=(fF w 8 (.int i),.int i u)
noncomputable def JI(prog:EQ)(w:KB)(F:aw)(h:GM)(a:co)(ds:List D):Prop:=
 ∃es ep t,h.get? a=some (bg es ep t)/\mw es t/\t.led=!cu w/\ds=es.toList.map iv/\ds.Nodup/\∀e∈es.toList,II w e
theorem RK{w:KB}{F:aw}{l:List (Int×bm)}(h:∀e∈l,II w e):Rs F (l.map (·.2)) (l.map iv):=by
 induction l with
 |nil=>exact .nil
 |cons e l ih=>exact mm (h e (.head _)) λi u q=>by rw[q];exact .cons (.int i u) (ih λe z=>h e (.tail _ z))
section
variable {prog:EQ}{w:KB}
theorem mw.fill{es:Array (Int×bm)}{t:AC}(T:mw es t):t.fill≤t.mask:=by
 refine(?_:t.place.size+t.dummies.size≤t.mask);rw[T.xk,T.nt];exact T.fit
theorem mw.state{es:Array (Int×bm)}{t:AC}(T:mw es t):t.fits es.size=true:=by
 unfold ja;rw[u8];exact⟨beq_iff_eq.mpr T.nt,decide_eq_true T.fill⟩
theorem KO{e:Int×bm}{i:Int}(h:II w e):(mK prog w).is i e.2=true↔iv e=.int i:=mm h λk u q=>by
 rw[q];exact⟨λh=>congrArg D.int (KeyKind.inj (mK prog w) _ k i (mN _ _ _ _) h),λh=>D.int.inj h▸mN _ _ _ _⟩
theorem MS{F:aw}{h':GM}{a:co}{es z:Array (Int×bm)}{Y:Nat}{j:AC}{i:Int}{u:Tok}(hp:z.toList.Perm ((fF w 8 (.int i),.int i u)::es.toList))(ha:h'.get? a=some (bg z Y j))(O:mw z j)(hl:j.led=!cu w)(nd:(es.toList.map iv).Nodup)(hz:∀e∈es.toList,II w e)(hn:D.int i∉es.toList.map iv):
  JI prog w F h' a (z.toList.map iv)/\(z.toList.map iv).length≤(es.toList.map iv).length+1/\∀y,y∈z.toList.map iv↔y∈es.toList.map iv∨y=.int i:=by
 have hm:(z.toList.map iv).Perm (.int i::es.toList.map iv):=hp.map iv;exact⟨⟨z,Y,j,ha,O,hl,rfl,hm.nodup_iff.mpr (Db.mpr ⟨hn,nd⟩),λe Z=>(em.mp (hp.mem_iff.mp Z)).elim (λq=>⟨i,u,q⟩) (hz e)⟩,IR hm.length_eq,λy=>by rw[hm.mem_iff,em];exact TV⟩
section
variable {A:Da}{E:bm->bv->Prop}{s:bv}
noncomputable def gv(b:Bool):sY Unit:=match b with
 |true=>rule "set.scan.the-table-gave-way"
 |false=>pure ()
theorem zY{b:Bool}{Q:Unit->bv->Prop}(h:Q () s):im (kt prog w) A (gv b) Q E s:=by
 cases b with
 |true=>exact bw h
 |false=>exact am h
theorem BO{a:co}{es z:Array (Int×bm)}{ep:Nat}{t t1:AC}{Z:Option Bool->bv->Prop}(ha:s.heap.get? a=some (bg es ep t))(T1:mw z t1)(hz:z.size≤ga)(u:∀(q:Array (Int×bm))(j:AC)(GP:Nat)(h':GM),q.toList.Perm z.toList->mw q j->j.led=t1.led->h'.get? a=some (bg q GP j)->Pv a s.heap h'->Z (some true) {s with heap:=h'}):
  im (kt prog w) A (Hc a z t1>>=λ_=>if(!false&&t1.tooFull)=true then(gv (oH t1 z (eO z.size)).2.2>>=λ_=>Hc a (oH t1 z (eO z.size)).1 (oH t1 z (eO z.size)).2.1>>=λ_=>pure (some true))else pure (some true)) Z E s:=by
 have N:=uw T1 (eO z.size);have hp:=relayAll_perm t1 z (eO z.size);refine al (n0 ha hz λh1 O Y=>aR (λ_=>al (zY (al (n0 (s:={s with heap:=h1}) O ?_ λh2 e4 k2=>am (u _ _ _ h2 hp N.1 N.2 e4 (Y.trans k2)))))) λ_=>am (u z t1 _ h1 (.refl _) T1 rfl O Y));rw[←Ev,hp.length_eq,Ev];exact hz
theorem ED{β:Type}{c:Bool}{x:bm}(hx:x.scannable=true)(hp:plainKind x=true){k:Bool->sY β}{Q:β->bv->Prop}(h:im (kt prog w) A (k true) Q E s):im (kt prog w) A (if c=true then Hd 8 x>>=k else pure true>>=k) Q E s:=by
 rw[hashByValue_scannable 8 hx,hp];exact aR (λ_=>al (am h)) λ_=>al (am h)
end
theorem Iy:oT prog w qo (JI prog w)where
 fresh:=λF h a e=>⟨#[],0,.fresh 0 0 (!cu w),e,⟨rfl,rfl,.nil,np _⟩,rfl,rfl,.nil,λ_ h=>absurd h cH⟩
 frame:=λF h h' a ds q e'=>Hx q λes ep t x=>⟨es,ep,t,e'.trans x.1,x.2⟩
 set:=λF h a ds q=>xH q λes ep t e T hl ed nd hz=>⟨nd,_,e,es,ep,t,rfl,ed▸RK hz,T.nt,T.fill,T.sJ,hl⟩
 add:=λA F s a ds x v E Q hu hF J z hx rx q=>xH J λes ep t ha T BI ed nd hz=>hx.elim λi ei=>(ei▸rx:R F v (.int i)).el λu=>by
  rw[ed]at nd z q;rw[ei]at q;rw[be,Ev]at z;have Y:ElemsOf (mK prog w) es.toList:=λe Z=>mm (hz e Z) λk u q=>by rw[q];exact⟨⟨k,mN _ _ _ _,by rw[oL];rfl⟩,rfl⟩
  have hs:{s with toks:=s.toks+1}.heap.get? a=some (bg es ep t):=ha;unfold setAdd;refine wv (al ((mK prog w).pyHash (k:=i) (mN _ _ _ _) ?_));rw[show(mK prog w).hash i=fF w 8 (.int i) by rw[oL];rfl];unfold aeD setAddHashedIn;refine wv (al (Oe (s:={s with toks:=s.toks+1}) ha rfl T.state ?_));refine vD (byScan_of rfl (xL z (ce rfl)) Y) ?_;refine al (f8 (Q:=λr s'=>match r with|some b=>Q b s'|none=>False) ?_ (λr s' p=>?_) λ_ _ e=>e)
  ·unfold setAddByScan;refine al (bw (al (wpAny_setScan_of (knd:=mK prog w) (s:={s with toks:=s.toks+1}) (mN _ _ _ _) ha rfl T.state Y ?_)));cases hr:List.findIdx? (λe=>(mK prog w).is i e.2) es.toList with
   |some j=>
    refine am (q s.heap _ false _ (lH a s.heap) ⟨es,ep,t,ha,T,BI,rfl,nd,hz⟩ (b8 _) λy=>⟨.inl,λh=>h.elim id λe=>e▸?_⟩);refine(List.findIdx?_eq_some_iff_getElem.mp hr).elim λhj hp=>?_;exact(KO (prog:=prog) (hz _ (IN hj))).mp hp.1▸wS (IN hj)
   |none=>
    have hn:D.int i∉es.toList.map iv:=λh=>ah (lc.mp h) λe Z ee=>Ds (((KO (prog:=prog) (hz e Z)).mpr ee).symm.trans (jA.mp hr e Z));have O:=yt T (fF w 8 (.int i)) (.int i u);have hp:=layNew_perm t es (fF w 8 (.int i)) (.int i u);rw[jB]at hp;have hp:=hp.trans xB;generalize C' t es (fF w 8 (.int i)) (.int i u)=L at hp O⊢;obtain⟨vg,t1,wd,afA⟩:=L;cases show wd=false from O.2.2;refine al (zY (ED rfl rfl (BO (t1:=t1) ha O.1 ?_ λsg t2 GP h' xl T2 ve N MT=>?_)))
    ·rw[←Ev,hp.length_eq];exact cr z (ce rfl)
    ·have J:=MS (prog:=prog) (F:=F) (xl.trans hp) N T2 (ve.trans (O.2.1.trans BI)) nd hz hn;exact q h' _ true _ MT J.1 J.2.1 J.2.2
  ·cases r with
   |none=>exact p.elim
   |some b=>exact am p
end
end
section
section
variable {prog:EQ}{w:KB}{A:Da}{E:bm->bv->Prop}{s:bv}{R':qB->bv->Prop}{I:co}{fp wr:List co}{G:Array me->Array me->Prop}{n:Nat}{P:Nat->bm->Prop}{St:Nat->bv->Prop}{S:D->Prop}{J:aw->GM->co->List D->Prop}
theorem EE(q:oT prog w S J)(W:Vb prog w A.in1 I fp wr G n P St)(a:co)(KI:a∉fp)(hu:A.units+20<cA){F:aw}(RL:∀b o,F b=some o->b∉a::wr){xs:List D}(hl:xs.length=n)(hn:n≤18)(GN:∀d∈xs,S d)(hP:∀i v,P i v->∃d,xs[i]?=some d/\R F v d):
  ∀(k i:Nat)(s:bv)(ds:List D),n-i=k->i≤n->St i s->F.le (hv s.heap)->J F s.heap a ds->ds.length≤i->(∀y,y∈ds↔y∈xs.take i)->
   (∀s' Y,Moved (a::wr) G s s'->J F s'.heap a Y->(∀y,y∈Y↔y∈xs)->R' (.ok (.ret .none)) s')->
   bC (kt prog w) A (.builtin "set.update.loop" ⟨[.ref a,.ref I],[]⟩) R' s:=by
 have RM:a∉wr:=λh=>KI (W.sub _ h);have O:∀b∈wr,b∈a::wr:=λb u=>zi _ u;intro k;induction k with
 |zero=>
  intro i s ds hk hi N hF j z g6 hR;refine cut λPP kk=>?_;have se:i=n:=Wo hk hi;subst se;refine kk ?_;refine dA jX ?_;show im _ A.in1 (hZ (.ref I)>>=_) _ _ s;refine al (W.done s _ _ N λs' hm=>?_);refine am (hR s' ds (hm.mono O) (q.frame _ _ _ _ _ j ?_) λy=>by rw[g6,←hl,ku]);obtain⟨_,o,e,_⟩:=q.set _ _ _ _ j;rw[e];exact hm.heap a _ RM e
 |succ k ih=>
  intro i s ds hk hi N hF j z g6 hR;have fj:i<n:=ma hk;refine dA jX ?_;show im _ A.in1 (hZ (.ref I)>>=_) _ _ s;refine al (W.item i s _ _ fj N λv s' hp ud hm=>?_);refine ah (hP i v hp) λd hd rd=>?_;have RN:F.le (hv s'.heap):=λb o e=>hm.heap b o (λu=>RL b o e (O b u)) (hF b o e);have hJ':J F s'.heap a ds:=q.frame _ _ _ _ _ j (by
   obtain⟨_,o,e,_⟩:=q.set _ _ _ _ j;rw[e];exact hm.heap a _ RM e)
  refine al (wv ?_);refine TX (ii s'.toks) (q.add A.in1 F s' a ds d v _ _ (by refine(?_:A.units+1+12<cA);exact Wq hu) RN hJ' (Ws fj hn z) (GN d (bk hd)) rd λh' tk b Y Z hJ2 RO RP=>?_);intro RQ;refine am ⟨cQ Oh _,ih (i+1) _ Y (Z0 hk) fj (W.frame _ s' _ _ ud RQ λb u o e=>(Z.2 b (λh=>KI (h▸u))).trans e)
   (λb o e=>(Z.2 b (λh=>RL b o e (h▸jb))).trans (RN b o e)) hJ2 (Df z RO) (λy=>?_) λmT abq xX abr MU=>?_⟩
  ·rw[RP,g6,jI,hd];simp[or_comm]
  ·exact hR mT abq (Oi W.gtrans ((hm.mono O).then_heap RQ λb o u e=>(Z.2 b (λh=>u (h▸jb))).trans e) xX) abr MU
end
end
section
section
variable {prog:EQ}{w:KB}{A:Da}{E:bm->bv->Prop}{s:bv}{S:D->Prop}{J:aw->GM->co->List D->Prop}
noncomputable abbrev jP(w:KB):Obj:=bg #[] 0 (.fresh 0 0 (!cu w))
theorem Iz(a:bm){Q₁:bm->bv->Prop}(h:Q₁ (.ref s.heap.objs.size) {s with heap:=s.heap.push (jP w)}):
  bC (kt prog w) A (.call (.builtin "set.__new__") ⟨[.type "set",a],[]⟩) (wants Q₁ E) s:=by
 refine vt ?_;refine al (i7 (PySem.F.newCall_set_1 a) (am ⟨cQ PySem.F.plain_set_new _,dA PySem.F.entry_set_new ?_⟩));have z:=sub_set_self;obtain⟨hp,g,d,tk,os⟩:=s;wp_walk;refine cU (am ?_);refine al (G6 (am ?_));exact am h
theorem tn{s s':bv}(h1:s'.gens=s.gens)(u:s'.drawn=s.drawn)(z:s'.os=s.os):{s with heap:=s'.heap,toks:=s'.toks}=s':=by rw[←h1,←u,←z]
theorem mG{u:_}{c:_}{R:_}(h:bC u A c (wants (λv s=>R (.ok (.ret v)) s) (λe s=>R (.error e) s)) s):bC u A c R s:=ia h λr j z=>by
 cases r with
 |error e=>exact z
 |ok f=>cases f<;>first|exact z|exact z.elim
theorem EF(SA:oT prog w S J){l a:co}{items:List bm}{nl:Nat}{F:aw}{xs:List D}{Q:Fin->bv->Prop}{E:bm->bv->Prop}(hh:A.handled=none)(hu:A.units+20<cA)(hF:F.le (hv s.heap))(O:F a=none)(Y:s.heap.get? a=some (jP w))(IA:s.heap.get? l=some (bz items nl))(Uv:a≠l)(z:Rs F items xs)(hn:xs.length≤18)(GN:∀d∈xs,S d)
  (h:∀h' tk ds,(∀b o,b≠a->s.heap.get? b=some o->h'.get? b=some o)->J F h' a ds->(∀y,y∈ds↔y∈xs)->Q (.done (.ret .none)) {s with heap:=h',toks:=tk}):
  im (kt prog w) A (Builtin.«set.__init__» ⟨[.ref a,.ref l],[]⟩) Q E s:=by
 have afE:=PySem.F.sub_list_set;have afF:=PySem.F.sub_list_frozenset;have N:s.heap.IsList l items.toArray:=⟨_,IA,rfl,nl,rfl⟩;have hT:mO s (.ref a) "set":=(ak _ Y rfl);unfold Builtin.«set.__init__» noKeywords He;generalize Z:qz=PI;wp_walk;subst Z;refine dG N (al (U' ?_));have RT:l≠s.heap.objs.size:=wn (ss IA);have j:a≠s.heap.objs.size:=wn (ss Y);have hI:s.heap.get? s.heap.objs.size=none:=Re (ii _);refine EE SA ((kE (A:=A.in1) hh _ l RT items.toArray).toS) a (λq=>(em.mp q).elim j λq=>Uv (bn.mp q)) hu (F:=F) (λb o e u=>(em.mp u).elim (λq=>fg (e.symm.trans (q▸O))) λq=>fg ((hF b o e).symm.trans (bn.mp q▸hI))) (xs:=xs) z.length.symm (cr (IR z.length) hn) GN
  (λi v hv=>?_) (items.toArray.size-0) 0 _ [] rfl (np _) ⟨(cY _ (g3 _ rfl) rfl rfl),(N.push _)⟩ (λb o e=>dL _ (hF b o e)) (SA.fresh _ _ _ (dL _ Y)) (ii _) (λy=>xu) λs' ds hm hJ g6=>?_
 ·have hv:items[i]?=some v:=Ch.symm.trans hv;have hi:i<xs.length:=KE (ww.mp hv).1 z.length;refine ah (z.get (pi hi)) λv' e1 r1=>(ak (xs[i]) (pi hi) ?_);exact db (e1.symm.trans hv)▸r1
 ·exact am (am (tn hm.gens hm.drawn hm.os▸h s'.heap s'.toks ds (λb o u e=>hm.heap b o (λq=>(em.mp q).elim u λq=>fg (e.symm.trans (bn.mp q▸hI))) (dL _ e)) hJ g6))
set_option maxHeartbeats 3200000 in
theorem EG(SA:oT prog w S J){l:co}{items:List bm}{nl:Nat}{F:aw}{xs:List D}{Q:bm->bv->Prop}(N:A.handled=none)(Y:A.units+30<cA)(u:F.le (hv s.heap))(j:s.heap.get? l=some (bz items nl))(Z:Rs F items xs)(hn:xs.length≤18)(GN:∀d∈xs,S d)
  (h:∀h' tk ds,(∀b o,s.heap.get? b=some o->h'.get? b=some o)->J F h' s.heap.objs.size ds->(∀y,y∈ds↔y∈xs)->Q (.ref s.heap.objs.size) {s with heap:=h',toks:=tk}):
  im (kt prog w) A (call (.type "set") [.ref l]) Q E s:=by
 refine mm dU.mro λc tl afH=>?_;have adn:=dU.made;have lq:=dU.sub;refine xq (vt ?_);refine am ⟨Code.quiet_builtin _ (by decide+kernel),dA PySem.F.entry_type_call ?_⟩;refine(Around.under_plain (weight_type_call_type "set" [.ref l] []) rfl)▸?_;have hct:=PySem.F.typeCall_set_1 (.ref l);repeat (any_goals(first|assumption|wp_step))
 refine mG (Iz (.ref l) ?_);have z:(s.heap.push (jP w)).get? s.heap.objs.size=some (jP w):=g3 _ rfl;have hT:mO {s with heap:=s.heap.push (jP w)} (.ref s.heap.objs.size) "set":=(ak _ z rfl);have O:=dU.init.lookup;have Q7:=dU.init.bind (.ref s.heap.objs.size);repeat (any_goals(first|assumption|wp_step))
 have h0:s.heap.get? s.heap.objs.size=none:=Re (ii _);refine mG (oI dU.init.plain PySem.F.entry_set_init (check_set_init_1 hT (EF SA N (by refine(?_:A.units+1+1+20<cA);exact Wt Y) (λb o e=>dL _ (u b o e)) ?_ z (dL _ j) (gE (ss j)) Z hn GN λh' tk ds hk hJ g6=>?_)))
 ·cases e:F s.heap.objs.size with
  |none=>rfl
  |some o=>exact fg ((u _ _ e).symm.trans h0)
 repeat (any_goals(first|assumption|wp_step))
 exact h _ _ _ (λb o e=>hk b o (ne_of_apply_ne s.heap.get? λq=>fg (e.symm.trans (q.trans h0))) (dL _ e)) hJ g6
end
section
variable {B:Base}{G:Fc B}{ρ:ag}{H:aa}{F:aw}
theorem Vn.zZ{S:D->Prop}{J:aw->GM->co->List D->Prop}(j:oT B.prog B.w S J){xs:List D}{Q:D->aa->Prop}(N:G.A.handled=none)(Z:G.A.units+30<cA)(hn:xs.length≤18)(GN:∀d∈xs,S d)
  (q:∀a ds,H a=none->ds.Nodup->(∀y,y∈ds↔y∈xs)->Q (.ref a) (upd H a (.set ds))):Vn G ρ H (λvs=>call (.type "set") vs) [.fl xs] Q:=.one λF u Y s z L=>by
 refine R.el Y λ_ _ _ e r=>?_
 ·refine EG j N Z (az.mu z) (z.fz _ _ e).1 r hn GN λh' tk ds hk hJ g6=>?_;refine dv (j.set _ _ _ _ hJ) λnd q'=>ah q' λo O hs=>?_;exact .new (c:=.set ds) (tk:=tk) (.refl _) z L hk (ak o O hs) (aF _) λh0=>q _ ds h0 nd g6
end
end
section
section
variable {B:Base}{G:Fc B}{ρ:ag}{H:aa}{F:aw}
noncomputable def IsL(H:aa)(d:D)(ds:List D):Prop:=d=.fl ds∨∃a,d=.ref a/\fh H a (.list ds)
theorem IsL.at{d:D}{ds:List D}{u:bm}{s:bv}(h:IsL H d ds)(r:R F u d)(S:G.az F H s):∃a vs n,u=.ref a/\s.heap.get? a=some (bz vs n)/\Rs F vs ds:=by
 rcases h with rfl|⟨a,rfl,h⟩
 ·cases r with
  |fl e rs=>exact(Hy _ _ _ rfl ((S.fz _ _ e).1) rs)
 ·refine R.el r ?_;refine dW ((h.at S).1) λvs n e rs=>?_;exact(Hy a vs n rfl e rs)
theorem EqAt.of{n:Nat}{A:Da}{s:bv}{x y:D}{u v:bm}{r:Bool}(Z:dX n x y=some r)(j:e8 n x=true)(z:e8 n y=true)(q:R (hv s.heap) u x)(rv:R (hv s.heap) v y)(Y:A.units+n<cA):EqAt A s u v r:=
 λprog w E Q h=>nE n A x y u v r Q Z j z q rv Y h
noncomputable def eqs(n:Nat)(ds es:List D)(j:Nat):Bool:=dX n (ds.getD j .none) (es.getD j .none)==some true
theorem yu{n:Nat}{S:D->Prop}(T:aB n S){A:Da}{s:bv}{vs ws:List bm}{ds es:List D}(N:Rs (hv s.heap) vs ds)(O:Rs (hv s.heap) ws es)(hd:∀d∈ds,S d)(he:∀d∈es,S d)(hu:A.units+n<cA):
  ∀j(h1:j<vs.toArray.size)(Z:j<ws.toArray.size),EqAt A s vs.toArray[j] ws.toArray[j] (eqs n ds es j):=λj h1 Z=>by
 have z:j<ds.length:=by rw[←N.length];simpa using h1
 have u:j<es.length:=by rw[←O.length];simpa using Z
 have e1:ds.getD j .none=ds[j]:=by simp[z]
 have e2:es.getD j .none=es[j]:=by simp[u]
 refine bR (T.Ec _ _ (hd _ (IN z)) (he _ (IN u))) λr hr=>?_;have Y:=N.at' z;have q:=O.at' u;rw[e1]at Y;rw[e2]at q;have e3:vs.getD j Fa=vs.toArray[j]:=by have:j<vs.length:=(by simpa using h1);simp[this]
 have e4:ws.getD j Fa=ws.toArray[j]:=by have:j<ws.length:=(by simpa using Z);simp[this]
 rw[e3]at Y;rw[e4]at q;have e5:eqs n ds es j=r:=by unfold eqs;rw[e1,e2,hr];cases r<;>rfl
 rw[e5];exact EqAt.of hr (T.ok _ (hd _ (IN z))) (T.ok _ (he _ (IN u))) Y q hu
theorem ux{n:Nat}{S:D->Prop}(T:aB n S){ds es:List D}(z:∀d∈ds,S d)(j:∀d∈es,S d)(hl:ds.length=es.length):(pc ds.length).all (eqs n ds es)=true↔ds=es:=by
 constructor
 ·intro h;apply kv hl;intro i h1 u;have:=ut.mp h i (by simpa using h1);unfold eqs at this;rw[beq_iff_eq,show ds.getD i .none=ds[i] by simp[h1],show es.getD i .none=es[i] by simp[u]]at this;exact(gb n _ _ true this).mp rfl
 ·rintro rfl;refine ut.mpr λi hi=>?_;have h1:i<ds.length:=by simpa using hi
  unfold eqs;rw[beq_iff_eq,show ds.getD i .none=ds[i] by simp[h1]];exact T.refl (z _ (IN h1))
theorem V2.IB{n:Nat}{S:D->Prop}(T:aB n S){a b:D}{ds es:List D}{Q:D->aa->Prop}(ha:IsL H a ds)(hb:IsL H b es)(N:ds.length=es.length->∀d∈ds,S d)(O:∀d∈es,S d)(Z:G.A.units+n+2<cA)
  (q:∀r:Bool,(r=true↔ds≠es)->Q (.bool r) H):V2 G ρ H (M2 .NotEq) a b Q:=λF u v ru rv s z L=>by
 refine cut λPP kk=>?_;refine mn (ha.at ru z) λl1 vs n1 gc e1 j=>?_;subst gc;refine mn (hb.at rv z) λl2 ws n2 jq e2 Y=>?_;subst jq;have h1:s.heap.IsList l1 vs.toArray:=⟨_,e1,rfl,_,rfl⟩;have h2:s.heap.IsList l2 ws.toArray:=⟨_,e2,rfl,_,rfl⟩;refine kk ?_;by_cases hl:ds.length=es.length
 ·have qk:vs.toArray.size=ws.toArray.size:=by simp[j.length,Y.length,hl]
  refine RcNeAt.lists h1 h2 qk (Dh Z) (e:=eqs n ds es) (yu T (j.mono (az.mu z)) (Y.mono (az.mu z)) (N hl) O (by refine(?_:G.A.units+1+n<cA);exact Di Z)) _ _ _ _ (.here (.bool _) z L (q _ ?_));have:=ux T (N hl) O hl;rw[UF,j.length];rw[ne_eq,←this];cases (pc ds.length).all (eqs n ds es)<;>simp
 ·refine RcNeAt.lists_lengths h1 h2 (by simp[j.length,Y.length,hl]) (Dh Z) _ _ _ _ (.here (.bool _) z L (q _ ?_));simp only[true_iff];exactλe=>hl (by rw[e])
theorem V2.IC{n:Nat}{S:D->Prop}(T:aB n S){a b:D}{ds es:List D}{Q:D->aa->Prop}(ha:IsL H a ds)(hb:IsL H b es)(N:∀d∈ds,S d)(O:∀d∈es,S d)(Z:G.A.units+n+2<cA)
  (q:∀r:Bool,(r=true↔ds=es)->Q (.bool r) H):V2 G ρ H (M2 .Eq) a b Q:=λF u v ru rv s z L=>by
 refine cut λPP kk=>?_;refine mn (ha.at ru z) λl1 vs n1 js e1 j=>?_;subst js;refine mn (hb.at rv z) λl2 ws n2 nK e2 Y=>?_;subst nK;have h1:s.heap.IsList l1 vs.toArray:=⟨_,e1,rfl,_,rfl⟩;have h2:s.heap.IsList l2 ws.toArray:=⟨_,e2,rfl,_,rfl⟩;refine kk ?_;by_cases hl:ds.length=es.length
 ·have qk:vs.toArray.size=ws.toArray.size:=by simp[j.length,Y.length,hl]
  refine RcAt.lists h1 h2 qk (Dh Z) (e:=eqs n ds es) (yu T (j.mono (az.mu z)) (Y.mono (az.mu z)) N O (by refine(?_:G.A.units+1+n<cA);exact Di Z)) _ _ _ _ (.here (.bool _) z L (q _ ?_));rw[UF,j.length];exact ux T N O hl
 ·refine RcAt.lists_lengths h1 h2 (by simp[j.length,Y.length,hl]) (Dh Z) _ _ _ _ (.here (.bool _) z L (q _ ?_));simp only[a9,false_iff];exactλe=>hl (by rw[e])
theorem V2.Ik{n:Nat}{S:D->Prop}(T:aB n S){a b:D}{Q:D->aa->Prop}(ha:S a)(Y:S b)(O:G.A.units+n<cA)(q:∀r,f9 n a b=some r->Q (.bool r) H):V2 G ρ H (M2 .Lt) a b Q:=λF u v Z rv s z L=>by
 refine bR (T.Ic a b ha Y) λr j=>?_;exact zA n G.A a b u v r _ j (T.ok _ ha) (T.ok _ Y) (Z.mono (az.mu z)) (rv.mono (az.mu z)) O (.here (.bool _) z L (q r j))
set_option tactic.hygienic true in
theorem V2.MV{n:Nat}{S:D->Prop}(T:aB n S){ds es:List D}{Q:D->aa->Prop}(hd:∀d∈ds,S d)(N:∀d∈es,S d)(O:G.A.units+n+2<cA)
  (q:∀r:Bool,(r=true↔ds=es)->Q (.bool r) H):V2 G ρ H (M2 .Eq) (.tup ds) (.tup es) Q:=λF u v ru rv s z L=>by
 refine R.el ru λ_ _ _ e1 Y=>?_;cases rv with
 |tup e2 j=>
  rename_i Z vs n1 l2 ws n2;have h1:s.heap.IsTuple Z vs.toArray:=⟨_,(z.fz _ _ e1).1,rfl,_,rfl⟩;have h2:s.heap.IsTuple l2 ws.toArray:=⟨_,(z.fz _ _ e2).1,rfl,_,rfl⟩;show im _ _ (richCompare .Eq (.ref Z) (.ref l2)) _ _ s;refine RcAt.tuples h1 h2 (Dh O) (e:=eqs n ds es) (yu T (Y.mono (az.mu z)) (j.mono (az.mu z)) hd N (by show G.A.units+1+n<cA;exact Di O)) _ _ _ _ (.here (.bool _) z L (q _ ?_));rw[UF,UF,Y.length,j.length];by_cases hl:ds.length=es.length
  ·have:=ux T hd N hl;rw[←this];simp[hl]
  ·simp only[u8,beq_iff_eq,hl,and_false,false_iff];exactλe=>hl (by rw[e])
end
end
section
section
variable {B:Base}{G:Fc B}{ρ:ag}{H:aa}{F:aw}
noncomputable def RU(F:aw)(x:D)(y:bm):Bool:=@decide (R F y x) (a7 _)
theorem EH{n:Nat}{S:D->Prop}(T:aB n S){A:Da}{s:bv}{vs:List bm}{ds:List D}{x:D}{v:bm}(r:Rs (hv s.heap) vs ds)(u:∀d∈ds,S d)(hx:S x)(rx:R (hv s.heap) v x)(Y:A.units+n<cA):
  ∀y,y∈vs.toArray->EqAt A s y v (RU (hv s.heap) x y):=λy hy=>by
 have Z:y∈vs:=by simpa using hy
 refine ah (r.mem y Z) λd q z=>?_;obtain⟨b,j⟩:=T.Ec d x (u d q) hx;have e:RU (hv s.heap) x y=b:=by
  cases b with
  |true=>
   have:=(gb n d x true j).mp rfl;rw[←this];exact@decide_eq_true _ (a7 _) z
  |false=>
   refine@decide_eq_false _ (a7 _) λh=>?_;have:=zw n d (T.ok d (u d q)) y n x (T.ok x hx) z h;have:=(gb n d x false j).mpr this;exact eR this
 rw[e];exact EqAt.of j (T.ok d (u d q)) (T.ok x hx) z rx Y
theorem z'{n:Nat}{S:D->Prop}(T:aB n S){F:aw}{vs:List bm}{ds:List D}{x:D}(r:Rs F vs ds)(Y:∀d∈ds,S d)(hx:S x):vs.toArray.any (RU F x)=true↔x∈ds:=by
 rw[List.any_toArray,fy];constructor
 ·intro Z;refine ah Z λy hy e=>?_;have h:R F y x:=@of_decide_eq_true _ (a7 _) e;refine ah (r.mem y hy) λd z j=>?_;rw[zw n x (T.ok x hx) y n d (T.ok d (Y d z)) h j];exact z
 ·intro u;refine cut λN q=>?_;obtain⟨i,hi,e⟩:=dH u;obtain⟨v,O,rv⟩:=r.get (i:=i) (d:=x) (by rw[←e];simp[hi]);refine q ?_;exact(ak v (bk O) (@decide_eq_true _ (a7 _) rv))
theorem V2.MW{n:Nat}{S:D->Prop}(T:aB n S){a x:D}{ds:List D}{Q:D->aa->Prop}(ha:IsL H a ds)(j:∀d∈ds,S d)(hx:S x)(hu:G.A.units+n+2<cA)
  (q:∀r:Bool,(r=true↔x∈ds)->Q (.bool r) H):V2 G ρ H (M2 .In) x a Q:=λF u v Z rv s z L=>by
 refine mn (ha.at rv z) λN vs n1 jq e1 O=>?_;subst jq;have h1:s.heap.IsList N vs.toArray:=⟨_,e1,rfl,_,rfl⟩;have Y:=O.mono (az.mu z);exact in_listAt (RU (hv s.heap) x) h1 (EH T Y j hx (Z.mono (az.mu z)) (by refine(?_:G.A.units+1+n<cA);exact Di hu)) (.here (.bool _) z L (q _ (z' T Y j hx)))
theorem V2.BP{n:Nat}{S:D->Prop}(T:aB n S){a x:D}{ds:List D}{Q:D->aa->Prop}(ha:IsL H a ds)(j:∀d∈ds,S d)(hx:S x)(hu:G.A.units+n+2<cA)
  (q:∀r:Bool,(r=true↔x∉ds)->Q (.bool r) H):V2 G ρ H (M2 .NotIn) x a Q:=λF u v Z rv s z L=>by
 refine mn (ha.at rv z) λN vs n1 js e1 O=>?_;subst js;have h1:s.heap.IsList N vs.toArray:=⟨_,e1,rfl,_,rfl⟩;have Y:=O.mono (az.mu z);refine notIn_listAt (RU (hv s.heap) x) h1 (EH T Y j hx (Z.mono (az.mu z)) (by refine(?_:G.A.units+1+n<cA);exact Di hu)) (.here (.bool _) z L (q _ ?_));rw[←z' T Y j hx];simp
end
end
section
section
variable {B:Base}{G:Fc B}{ρ:ag}{H:aa}{F:aw}
noncomputable def isK(k:Int):bm->Bool
 |.int i _=>i==k
 |_=>false
theorem pD(k:Int):∀ns:List Int,k∈ns->∃j,∃hj:j<ns.length,ns[j]=k/\(∀m(hm:m<ns.length),m<j->ns[m]≠k)/\ns.eraseIdx j=ns.erase k
 |[],h=>by simp at h
 |x::ns,h=>by
  by_cases e:x=k
  ·exact⟨0,by simp,by simp[e],λm hm h=>Wu h,by simp[e]⟩
  ·refine cut λq u=>?_;obtain⟨j,hj,a,b,c⟩:=pD k ns ((em.mp h).resolve_left (cG e));refine u ?_;refine⟨j+1,by simpa using hj,by simpa using a,λm hm z=>?_,by simp[e,c,List.erase_cons]⟩;cases m with
   |zero=>simpa using e
   |succ m=>simpa using b m (by simpa using hm) (iz.mp z)
theorem Rs.eraseIdx:∀{vs:List bm}{ds:List D}(_:Rs F vs ds)(j:Nat),Rs F (vs.eraseIdx j) (ds.eraseIdx j)
 |_,_,.nil,j=>by simpa using Rs.nil
 |_,_,.cons h r,0=>r
 |_,_,.cons h r,j+1=>.cons h (r.eraseIdx j)
theorem tq{α β:Type}(f:α->β):∀(l:List α)(j:Nat),(l.eraseIdx j).map f=(l.map f).eraseIdx j
 |[],j=>rfl
 |x::l,0=>rfl
 |x::l,j+1=>by simp[tq f l j]
theorem VM.BR{l:co}{e:lv}{Q:D->aa->Prop}(h0:∃ds,H l=some (.list ds))(h:HE G ρ H e λd H1=>∃(ns:List Int)(k:Int),d=.int k/\k∈ns/\H1 l=some (.list (ns.map .int))/\ns.length≤1000000/\Q .none (upd H1 l (.list ((ns.erase k).map .int))))
  (ht:∀Z,Wp Z (Do [e] G.env)=[(false,eval e G.env)]:=by intro _;rfl):VM G ρ H "remove" (.ref l) [e] Q:=λF u ru Z s S L=>by
 refine R.el ru ?_;refine cut λPP N=>?_;refine h0.elim λds h0=>?_;refine dW (cq S h0) λvs n hl r=>?_;refine N ?_;rw[ht];refine⟨"list",_,a8,PySem.F.slot_list_remove,PySem.F.type_list_remove,(ak _ hl rfl),noDict hl,P.remove_list (h.then S L λF1 d H1 v s1 k1 r1 S1 L1 gc=>LP gc λns k ed hk h1 hz q=>?_)⟩;subst ed;refine R.el r1 λt=>?_;refine cut λPP N=>?_;refine dW (cq S1 h1) λws m oQ O=>?_;have z:ws.length=ns.length:=by rw[O.length];simp
 obtain⟨j,hj,ej,nr,her⟩:=pD k ns hk;have CQ:∀i(hi:i<ws.length),∃t,ws[i]=TS (ns[i]'(by exact Pu hi z)) t:=λi hi=>by
  obtain⟨t,e⟩:=O.ints i ws[i] (by simp[hi]);refine⟨t,?_⟩;rw[e];congr 1;simp[show i<ns.length by exact Pu hi z]
 have Y:j<ws.length:=KE hj z.symm;refine N ?_;refine⟨ws.toArray,m,isK k,j,by simpa using Y,(by simp only[UF];rw[z,cP];exact Wv hz),oQ,λy hy=>?_,?_,λi hi mX=>?_,.oP k1 S1 L1 h1 oQ (ws:=ws.eraseIdx j) ?_ ?_ .none q⟩
 ·obtain⟨i,hi,e⟩:=dH (show y∈ws by simpa using hy);obtain⟨t',e'⟩:=CQ i hi;rw[←e,e'];exact Kj _ _ _ _
 ·refine bR (CQ j Y) λt' e'=>?_;have:ws.toArray[j]'(by simpa using Y)=ws[j]:=by rfl
  rw[this,e',ej];exact beq_self_eq_true k
 ·have iw:i<ws.length:=by simpa using hi
  obtain⟨t',e'⟩:=CQ i iw;have:ws.toArray[i]'hi=ws[i]:=by rfl
  rw[this,e'];exact beq_eq_false_iff_ne.mpr (nr i (TW mX hj) mX)
 ·rw[List.eraseIdxIfInBounds_toArray]
 ·rw[←her,tq];exact O.eraseIdx j
end
end
section
section
variable {prog:EQ}{w:KB}{A:Da}{E:bm->bv->Prop}{s:bv}
theorem WalksS.shift{I:co}{fp wr:List co}{Gg:Array me->Array me->Prop}{n:Nat}{P:Nat->bm->Prop}{St:Nat->bv->Prop}(W:Vb prog w A I fp wr Gg n P St)(z:List bm):
  Vb prog w A I fp wr Gg (z.length+n) (λj v=>if j<z.length then z[j]?=some v else P (j-z.length) v) (λj s=>z.length≤j/\St (j-z.length) s)where
 sub:=W.sub
 grefl:=W.grefl
 gtrans:=W.gtrans
 frame:=λi s h' tk⟨a,st⟩ ht hk=>⟨a,W.frame _ s h' tk st ht hk⟩
 item:=λi s Q E hi⟨a,st⟩ u=>W.item (i-z.length) s Q E (Nat.sub_lt_left_of_lt_add a hi) st λv s' hp q hm=>u v s' (by rw[if_neg (eD.mpr a)];exact hp) ⟨(cE a),by rw[show i+1-z.length=i-z.length+1 by exact Ww a];exact q⟩ hm
 done:=λs Q E Z=>dv Z λa st u=>W.done s Q E (by rw[show z.length+n-z.length=n by simp]at st;exact st) u
 self:=λi s Q E Y=>dv Y λa st u=>W.self _ s Q E st u
theorem ID:fM (.type "list_reverseiterator") "__len__"=pure none:=by rw[dz,ba];kernel_rfl
theorem EJ:fM (.type "list_reverseiterator") "__length_hint__"=pure (some (.builtin "list_reverseiterator.__length_hint__")):=by rw[dz,ba];kernel_rfl
theorem EK{r:co}(u:s.TypeIs (.ref r) "list_reverseiterator"){Q:Bool->bv->Prop}(h:Q false s):im (kt prog w) A (dR (.ref r)) Q E s:=by
 unfold dR;refine al (bN u ID ?_);refine aR (λz=>absurd z (by decide+kernel)) (λ_=>?_);refine aR (λz=>absurd z (by decide)) (λ_=>?_);refine al (bN u EJ ?_);generalize j:("list_reverseiterator.__length_hint__":String)=id0
 wp_delta
 refine(show splitId id0=some ("list_reverseiterator","__length_hint__")from by subst j;decide+kernel)▸?_;subst j;refine al (SZ (T:="list_reverseiterator") (b:=true) u (by rw[j9];kernel_rfl) ?_);refine aR (λz=>absurd z (by decide)) (λ_=>?_);refine aR (λ_=>?_) (λz=>absurd (by decide+kernel) z);refine aR (λz=>absurd z (by decide)) (λ_=>?_);exact am h
theorem yv(l I src:co)(vs z:List bm)(n m:Nat)(RT:l≠I)(N:l≠src)(hIs:src≠I)(hz:vs.length+z.length+2≤ga):
  MeetsIn prog w (Builtin.«list.extend» ⟨[.ref l,.ref I],[]⟩) (λA R s=>A.handled=none/\s.heap.get? l=some (bz vs n)/\s.heap.get? I=some (revObj src ((z.length:Int)-1))/\s.heap.get? src=some (bz z m)/\
   ∀h' tk c,(∀b o,b≠l->b≠I->s.heap.get? b=some o->h'.get? b=some o)->h'.get? l=some (bz (vs++z.reverse) c)->R (.ok (.ret .none)) {s with heap:=h',toks:=tk}):=by
 intro A R s qQ;refine Z9 qQ λhh hl hI abw hR=>?_;have hT:s.TypeIs (.ref I) "list_reverseiterator":=(ak _ hI rfl);have hRI:s.heap.IsRevIter I src ((z.length:Int)-1):=(cY _ hI rfl rfl);refine(?_:im _ A.in1 (gQ (.ref l) (.ref I) .none) _ _ s);refine al (dE (T:="list_reverseiterator") hT ?_);have e1:eW (.ref l) (.ref I)=false:=by simp[eW,RT]
 have e2:(aT "list_reverseiterator"==aT "list")=false:=by decide
 have e3:(aT "list_reverseiterator"==aT "tuple")=false:=by decide
 simp only[e1,e2,e3,Lp,a9,if_false];refine al (wpAny_pyIter_revIter hRI ?_);have W:=(WalksS.shift (Walks.listRev (prog:=prog) (w:=w) (A:=A.in1) hh I src hIs z.toArray).toS vs);have Y:∀(vP:GM)(q tk:Nat),(∀b o,b≠l->s.heap.get? b=some o->vP.get? b=some o)->vP.get? l=some (bz vs q)->bC (kt prog w) A (.builtin "list.extend.loop" ⟨[.ref l,.ref I,.none],[]⟩) R {s with heap:=vP,toks:=tk}:=by
  intro vP q tk hk abx;have u:z.toArray.size=z.length:=by rfl
  refine Hb W (by rw[u];exact cD hz) l (by simp only[em,cH,or_false,not_or];exact⟨RT,N⟩) .none z.toArray.size vs.length _ vs.toArray q (Nat.add_sub_self_left vs.length z.toArray.size) (br vs.length z.toArray.size)
   ⟨ii _,by rw[i8];exact⟨np _,by rw[u];simpa using hRI.at λo e=>hk I o RT.symm e,⟨_,hk src _ N.symm abw,rfl,_,rfl⟩⟩⟩ abx ⟨by rfl,λj v hv=>by
    have hj:j<vs.length:=by
     have:=(eY.mp hv).1;exact this
    refine(?_:if j<vs.length then vs[j]?=some v else _);rw[if_pos hj];simpa using hv⟩ λs' Z c' hm ML mU=>?_
  rw[Kg hm];refine hR s'.heap s'.toks c' (λb o hb Ew e=>hm.heap b o (λg6=>?_) (hk b o hb e)) ?_
  ·rcases em.mp g6 with e'|g6
   ·exact hb e'
   ·exact Ew (bn.mp g6)
  ·have RW:Z=(vs++z.reverse).toArray:=by
    apply C7.mp;apply C9;intro i;have qk:Z.size=vs.length+z.length:=by rw[mU.1,u]
    by_cases hi:i<Z.size
    ·have hv:(if i<vs.length then vs[i]?=some Z[i]else z.toArray[z.toArray.size-1-(i-vs.length)]?=some Z[i]):=mU.2 i Z[i] (by simp[hi]);have e4:Z.toList[i]?=some Z[i]:=by simp[hi]
     rw[e4];show _=(vs++z.reverse)[i]?;by_cases O:i<vs.length
     ·rw[if_pos O]at hv;rw[TT O,hv]
     ·rw[if_neg O]at hv;rw[bD (fE O),List.getElem?_reverse (Wx hi qk O)];rw[u]at hv;simpa using hv.symm
    ·rw[aW (by simp;exact fE hi),aW (by simp;exact Wy qk hi)]
   rw[ML,RW]
 refine al (wv (EK hT ?_));refine aR (λ_=>?_) (λ_=>am ⟨cQ fe _,Y s.heap n s.toks (λb o _ e=>e) hl⟩);refine al (bw ?_);refine al ?_;refine al (ni (hz:=by simp;exact Wz hz) hl rfl ?_);have Us:=Tl (bf (·.push Fa)) hl rfl;refine ni (hz:=by simp;exact WA hz) Us rfl ?_;have Ut:∀b o,b≠l->s.heap.get? b=some o->((s.heap.update l (bf (·.push Fa))).update l (bf (·.pop))).get? b=some o:=λb o hb e=>(KF _ _ (cG hb)).trans ((KF _ _ (cG hb)).trans e);obtain⟨c,hc⟩:∃c,((s.heap.update l (bf (·.push Fa))).update l (bf (·.pop))).get? l=some (bz vs c):=by
  obtain⟨c1,h1⟩:∃c1,(s.heap.update l (bf (·.push Fa))).get? l=some (kW "list" (vs.toArray.push Fa) c1):=⟨_,vq hl (·.push Fa)⟩;have e5:=vq h1 (λx=>x.pop);have e6:(vs.toArray.push Fa).pop=vs.toArray:=by trivial
  simp only[e6]at e5;exact⟨_,e5⟩
 exact am ⟨cQ fe _,Y _ c s.toks Ut hc⟩
end
end
section
section
variable {B:Base}{G:Fc B}{ρ:ag}{H:aa}{F:aw}
set_option tactic.hygienic true in
theorem Vn.reversed{ds:List D}{Q:D->aa->Prop}(q:∀a,H a=none->Q (.ref a) (upd H a (.rev ds))):Vn G ρ H (λvs=>call (.type "reversed") vs) [.fl ds] Q:=.one λF u z s S L=>by
 refine R.el z λl vs n e r=>?_;have hl:s.heap.IsList l vs.toArray:=⟨_,(S.fz _ _ e).1,rfl,_,rfl⟩;refine call_reversed_list hl ?_;exact .new (c:=.rev ds) (tk:=s.toks) (.refl _) S L au ⟨l,vs,n,by simpa using g3 s.heap (o:=revObj l ((vs.length:Int)-1)) rfl,e,r⟩ (aF _) (q _)
noncomputable def del(H:aa)(a:co):aa:=λb=>if b=a then none else H b
theorem yw{H:aa}{a b:co}{c:ao}(h:H a=none)(h':H b=some c):a≠b:=λe=>bE (h.symm.trans (e▸h'))
theorem VM.BS{l:co}{e:lv}{Q:D->aa->Prop}(hh:G.A.handled=none)(h0:∃ds,H l=some (.list ds))(h:HE G ρ H e λd H1=>∃I ds es,d=.ref I/\I≠l/\H1 I=some (.rev es)/\H1 l=some (.list ds)/\ds.length+es.length≤1000000/\Q .none (upd (del H1 I) l (.list (ds++es.reverse))))
  (ht:∀Z,Wp Z (Do [e] G.env)=[(false,eval e G.env)]:=by intro _;rfl):VM G ρ H "extend" (.ref l) [e] Q:=λF u O Z s S L=>O.el (h0.elim λds h0=>dW (cq S h0) λvs n hl r=>by
 rw[ht];refine⟨"list",_,a8,bM,fC,(ak _ hl rfl),noDict hl,vp bM r6 (h.then S L λF1 d H1 v s1 k1 r1 z L1 q=>xH q λI ds es ed hIl hI h1 hz q=>(ed▸r1:R F1 v (.ref I)).el
  (dW (cq z h1) λws m oQ vd=>mn (z.hp I _ hI).1 λsrc us k eI il O=>?_))⟩
 have n1:=yw (z.fz _ _ il).2.1 h1;have n2:=yw (z.fz _ _ il).2.1 hI;refine⟨⟨_,oQ,rfl⟩,qD _ _,_,yv l I src ws us m k hIl.symm n1.symm n2 (by rw[vd.length,O.length];exact cr (fu hz 2) (ce rfl)),hh,oQ,eI,(z.fz _ _ il).1,λh' tk c hk vc=>
  ⟨F1,.none,_,k1,.none,z.to (F':=F1) (H':=upd (del H1 I) l (.list (ds++es.reverse))) (h':=h') (tk:=tk) (d:=s1.drawn) (λb o e j=>hk b o (yw j h1) (yw j hI) e) (λb o e=>.inl e) (λb c' e=>?_) (λb o e=>?_),L1.keep (.refl _) λb o j e=>hk b o (yw (qM z j) h1) (yw (qM z j) hI) e,q⟩⟩
 ·by_cases N:b=l
  ·rw[N,af]at e;rw[←db e,N];exact⟨pQ _ _ vc (vd.append O.reverse),.inl (by rw[h1];rfl)⟩
  ·rw[aj N]at e;unfold del at e;by_cases Y:b=I
   ·rw[if_pos Y]at e;exact bE e
   ·rw[if_neg Y]at e;exact(z.hp b c' e).1.lt.elim λo e'=>⟨(z.hp b c' e).1.keep (.refl _) ((hk b o N Y e').trans e'.symm),.inl (by rw[e];rfl)⟩
 ·have j:=(z.fz b o e).2.1;rw[aj (yw j h1)];unfold del;by_cases Y:b=I
  ·rw[if_pos Y]
  ·rw[if_neg Y];exact j)
end
end
section
section
variable {prog:EQ}{w:KB}{A:Da}{E:bm->bv->Prop}{s:bv}
theorem BU{it l:co}{items:Array bm}(Z:l≠it)(n i:Nat)(s:bv)(Q:List bm->bv->Prop)(u:s.heap.IsListIter it l i)(ht:s.heap.IsList l items)(z:i+n≤items.size)
  (hQ:∀h',h'.IsListIter it l (i+n)->Pv it s.heap h'->Q ((items.toList.drop i).take n) {s with heap:=h'}):im (kt prog w) A (draw (.ref it) n) Q E s:=by
 induction n generalizing i s Q with
 |zero=>exact am (hQ s.heap u (lH ..))
 |succ n ih=>
  have q:i<items.size:=xL (xf (O9 n)) z;refine al (wpAny_pyNext_list_item u ht (x:=items[i]) (jl q) λh₁ Y j=>
   al (wv (ih (i+1) _ _ Y (ht.extBut j.extBut Z) (by rw[eE];exact z) λDK N O=>am ?_)))
  have h:=hQ DK (by rw[←om,eE];exact N) (j.trans O);rw[fB (by rw[Ev];exact q),List.take_succ_cons]at h;exact h
theorem wj{l:co}{items:Array bm}{z:List (Bool×(bm->sY Unit))}{Q:Unit->bv->Prop}(N:A.handled=none)(ht:s.heap.IsList l items)
  (hn:z.length=items.size) (RY:z.findIdx? (·.1)=none)
  (h:∀h',jH s.heap.objs.size s.heap h'->im (kt prog w) A (AS (z.map (·.2)) items.toList) Q E {s with heap:=h'}):
  im (kt prog w) A (unpack (.ref l) z) Q E s:=by
 have q:l≠s.heap.objs.size:=by obtain⟨o,O,_⟩:=ht;exact wn (ss O)
 unfold unpack;rw[hn,RY];refine al (wv ?_);refine al ?_;refine al (bN ht.typeIs PySem.F.slot_list_iter.lookup ?_);refine am ?_;refine al (wv (dG ht ?_));refine al (wv (BU q items.size 0 _ _ (cY _ (g3 _ rfl) rfl rfl) (ht.push _) (by simp) λh₁ Y u=>?_));have Z:Va items.size (Vc 0 items.toList)=items.toList:=by
  rw[Kh];exact xh (by simp)
 rw[Z];refine iM (by simp) ?_;have RZ:h₁.IsList l items:=(ht.push _).extBut u.extBut q;refine al (wv (wpAny_pyNext_list_end N Y RZ (by simp) λDK R0=>?_));exact am (h DK λb o j e=>R0 b o j (u.extBut b o j (dL _ e)))
end
section
variable {B:Base}{G:Fc B}{ρ:ag}{H:aa}{F:aw}
theorem HA.fl{xs:List (lm×cx)}{k}{z:cx}{ds:List D}{Q:ag->aa->Prop}(Y:G.A.handled=none)(hl:xs.length=ds.length)(hx:∀p∈xs,G.St p.1)(q:Q (ir (xs.map (·.1)) ds ρ) H):
  HA G ρ H (.Tuple (xs.map λp=>cf p.1 p.2) k z) (.fl ds) Q:=λF u j s S L=>
 j.el λa vs n e r=>al (cN (wj (items:=vs.toArray) Y ⟨_,(S.fz _ _ e).1,rfl,_,rfl⟩ (by rw[gI,be,hl,←r.length];rfl) (by rw[gI];simp[jA]) λh' hk=>by
  rw[gI,li];exact inOrder (P:=Dw G F Q) (·.1) (λp=>hW (.Name p.1 p.2) G.env) (λ_ _ _ _ h=>kM h) xs ρ _ _ _ hx r hl (az.mS S hk) (Loc.mS L hk) λs' Z O=>⟨F,_,H,.refl F,Z,O,q⟩))
end
end
section
open AutoSeq1 (wpAny_loadPart')
theorem EL{α:Type}{prog:EQ}{w:KB}{A:Da}{x:α}{Q:α->bv->Prop}{E:bm->bv->Prop}{s:bv}(h:∀a,Q a s):im (kt prog w) A (pure x) Q E s:=am (h x)
set_option tactic.hygienic true in
theorem rE(l:co)(items:Array bm)(n:Nat):
  Meets (Builtin.«enumerate.__new__» ⟨[.type "enumerate",.ref l],[]⟩) (λ_ R s=>s.heap.get? l=some {cls:=.type "tuple",dict:=none,data:=.seq items n,slots:=#[]}/\
   R (.ok (.ret (.ref (s.heap.push {cls:=.type "tuple_iterator",data:=.fields #[.ref l,.int 0 0]}).objs.size)))
    {s with heap:=(s.heap.push {cls:=.type "tuple_iterator",data:=.fields #[.ref l,.int 0 0]}).push {cls:=.type "enumerate",data:=.fields #[.none,.bool false,.ref s.heap.objs.size,fq 0,.none,.none]}}):=
 .of_wp λprog w A R s h=>by
  obtain⟨hp,g,d,tk,os⟩:=s;obtain⟨hl,h⟩:=h;have u:=sub_enumerate;have z:Heap.IsTuple (Shared.heap ⟨hp,g,d,tk,os⟩) l items:=⟨_,hl,rfl,n,rfl⟩;wp_walk using vu hl;refine wpAny_stack_any λst=>EL λc=>?_;cases c
  ·wp_walk using vu hl,j6 z;exact⟨_,rfl,h⟩
  ·wp_walk using vu hl,j6 z;exact⟨_,rfl,h⟩
end
section
section
variable {prog:EQ}{w:KB}{A:Da}{E:bm->bv->Prop}{s:bv}
theorem pW{it t:co}{i:Nat}{items}{x:bm}{Q:bm->bv->Prop}(z:s.heap.IsTupleIter it t i)(ht:s.heap.IsTuple t items)(hx:items[i]?=some x)
  (hQ:∀h',h'.IsTupleIter it t (i+1)->Pv it s.heap h'->Q x {s with heap:=h'}):im (kt prog w) A (mf (.ref it)) Q E s:=by
 refine cut λO Y=>?_;refine bt (id z) λo j hc u=>?_;obtain⟨ol,q,_,nl,Z⟩:=ht;refine Y ?_;refine al (aO (name:=t0 "__next__") z.typeIs cV
  (NE cV z.typeIs nj ?_ (mP _)))
 refine(?_:im _ _ (field (.ref it) 0>>=_) _ _ s);refine al (i5 j u (x:=.ref t) rfl ?_);refine(?_:im _ _ (if(dC t==Fa)=true then _ else _) _ _ s);show im _ _ (field (.ref it) 1>>=_) _ _ s;refine al (i5 j u (x:=.int i 0) rfl ?_);refine al (eC q Z ?_);simp only[jV,hx];refine al (oE j u (by simp) (am (ak x rfl (am (hQ _ ?_ (TI ..))))));exact⟨_,Tl _ j (zb (jj u _)),(GC ..).trans hc,by
  rw[jj u];simp[fq]⟩
theorem rF{it t:co}{i:Nat}{items}{Q:bm->bv->Prop}(Y:A.handled=none)(z:s.heap.IsTupleIter it t i)(ht:s.heap.IsTuple t items)(hx:items[i]?=none)
  (hE:∀h' e,jH it s.heap h'->(∃o,h'.get? e=some o/\o.cls=.type "StopIteration")->E (.ref e) {s with heap:=h'}):
  im (kt prog w) A (mf (.ref it)) Q E s:=by
 refine cut λN Z=>?_;refine bt (id z) λo j hc q=>?_;obtain⟨ol,u,_,nl,O⟩:=ht;refine Z ?_;refine al (aO (name:=t0 "__next__") z.typeIs cV
  (NE cV z.typeIs nj ?_ (mP _)))
 refine(?_:im _ _ (field (.ref it) 0>>=_) _ _ s);refine al (i5 j q (x:=.ref t) rfl ?_);refine(?_:im _ _ (if(dC t==Fa)=true then _ else _) _ _ s);show im _ _ (field (.ref it) 1>>=_) _ _ s;refine al (i5 j q (x:=.int i 0) rfl ?_);refine al (eC u O ?_);simp only[jV,hx];refine al (bw (al (oE j q (by simp) ?_)));refine(?_:im _ _ (newExc (.type "StopIteration") []>>=_) _ _ _);refine al ?_;refine al (WF ?_ (by size_fits));refine al (m:=ic _ _) (i7 (a:=Fa) (by first|rfl|(simp only[ic];rfl)) ?_);refine WF ?_ (by size_fits);refine al (AY ?_);first|rw[show A.in1.handled=none from Y]|rw[Y]
 refine al (am (oF ?_));exact hE _ _ (((TI ..).extBut.push _).push _) (ak _ (g3 _ rfl) rfl)
end
theorem Draws.tuple{prog:EQ}{w:KB}{A:Da}(j:A.handled=none)(it l:co)(Z:l≠it)(items:Array bm):
  Draws prog w A it [it,l] items.size (λi v=>items[i]?=some v) (λi h=>h.IsTupleIter it l i/\h.IsTuple l items)where
 live:=λ_ _ st=>let⟨o,z,_⟩:=st.1;⟨o,z⟩
 frame:=λ_ _ _ st hk=>⟨let⟨o,z,r⟩:=st.1;(ak o (hk it (by simp) o z) r),let⟨o,z,r⟩:=st.2;(ak o (hk l (by simp) o z) r)⟩
 item:=λi s Q E hi st q=>by
  refine pW st.1 st.2 (x:=items[i]) (by simp[hi]) λh' O u=>?_;exact q _ h' s.toks (by simp[hi]) ⟨O,st.2.extBut u.extBut Z⟩ u
 done:=λs Q E st Y=>rF j st.1 st.2 (by simp) Y
end
section
noncomputable def numbered(ds:List D)(i:Nat):List D:=(ds.zipIdx i).map λp=>.tup [.int (p.2:Int),p.1]
theorem uy{ds:List D}{i:Nat}{d:D}(h:(numbered ds 0)[i]?=some d):∃x,ds[i]?=some x/\d=.tup [.int (i:Int),x]:=by
 unfold numbered at h;rw[tz,List.getElem?_zipIdx]at h;cases q:ds[i]? with
 |none=>rw[q]at h;cases h
 |some x=>rw[q]at h;exact⟨x,rfl,by simpa using h.symm⟩
theorem yy{B:Base}{A:Da}{j:List lv}{x1:Nat}{pos:cx}{e it l:co}{vs:List bm}{ds:List D}{N:aw}{n:Nat}(Z:A.handled=none)(h1:e≠it)(O:l≠it)(h3:l≠e)(hl:N l=some (aE vs n))(r:Rs N vs ds):
  je B A (.Tuple j x1 pos) e [e,it,l] [e,it] (numbered ds 0) N (λ_=>True) (λi h=>(∃z,IsEnum h e it i z)/\h.IsTupleIter it l i/\h.IsTuple l vs.toArray)where
 sub:=λb u=>by simp only[em,bj,or_false]at u⊢;exact u.elim .inl λh=>.inr (.inl h)
 frame:=λi h h'⟨⟨z,a⟩,b⟩ hk=>⟨⟨z,hk e (by simp) _ a⟩,(Draws.tuple (prog:=B.prog) (w:=B.w) (A:=A.in1) Z it l O vs.toArray).frame i h h' b λb u=>hk b (.tail _ u)⟩
 held:=λb u=>by
  simp only[em,bj,or_false]at u;rcases u with rfl|rfl|rfl
  ·exact .inl (by simp)
  ·exact .inl (by simp)
  ·exact .inr (.inl ⟨_,hl⟩)
 live:=λi h⟨⟨z,a⟩,⟨o,b,_⟩,_⟩ c hc=>by
  simp only[em,bj,or_false]at hc;rcases hc with rfl|rfl
  ·exact⟨_,a⟩
  ·exact⟨o,b⟩
 step:=λi d F s k hF hd h=>ah (uy hd) λx hx ed=>ah (r.get hx) λv hv rv=>h.1.elim λz a=>by
  have b:=h.2;have hv:vs[i]?=some v:=hv;have nw:s.heap.get? s.heap.objs.size=none:=aF _;have live:∀{b o},s.heap.get? b=some o->b≠s.heap.objs.size:=λe=>wn (ss e);refine wpAny_pyNext_enum_itemD (Draws.tuple (prog:=B.prog) (w:=B.w) (A:=A.in1) Z it l O vs.toArray) a b (ww.mp hv).1 h1 (λq=>(em.mp q).elim h1 λq=>h3 (bn.mp q).symm) λY h' tk hp ho st ht hs hk=>⟨_,rfl,?_⟩;have rx:R N Y x:=db (hv.symm.trans (Ch.symm.trans hp))▸rv;refine wpAny_letOwnedTupleGo_enum ho λvP he MT=>?_;have ht2:vP.get? s.heap.objs.size=some (aE [.int i tk,Y] 0):=(MT.2 _ (live a).symm).trans ht;have up:F.le (f6 F s.heap.objs.size (aE [.int i tk,Y] 0)):=λb o e=>(eH (live (hF _ _ e))).trans e;refine⟨f6 F s.heap.objs.size (aE [.int i tk,Y] 0),vP,tk+1,rfl,up,ed▸.tup (aM _ _ _) (.cons (.int _ _) (.cons (rx.mono (k.trans up)) .nil)),⟨⟨_,he⟩,(Draws.tuple (prog:=B.prog) (w:=B.w) (A:=A.in1) Z it l O vs.toArray).frame _ _ _ st λb u o e=>(MT.2 b λq=>(em.mp u).elim (λp=>h1 (q.symm.trans p)) λp=>h3 ((bn.mp p).symm.trans q)).trans e⟩,λb o u e=>(MT.2 b λq=>u (q▸.head _)).trans (hk b o (λq=>u (q▸.head _)) (λq=>u (q▸.tail _ (.head _))) e),λb o e=>?_⟩;by_cases q:b=s.heap.objs.size
  ·exact .inr (q▸⟨ht2.trans (aM F _ _▸q▸e),nw⟩)
  ·exact .inl ((eH q).symm.trans e)
 done:=λs⟨⟨z,a⟩,b⟩=>by
  have hn:(numbered ds 0).length=vs.toArray.size:=by simp[numbered,r.length]
  rw[hn]at a b;exact wpAny_pyNext_enum_endD (Draws.tuple (prog:=B.prog) (w:=B.w) (A:=A.in1) Z it l O vs.toArray) a b λh' hk=>⟨rfl,h',s.toks,rfl,λb o u e=>hk b o (λq=>u (by simp[q])) e⟩
 self:=λi s Q E⟨⟨z,a⟩,_⟩ q=>Oj a q
section
variable {B:Base}{G:Fc B}{ρ:ag}{H:aa}{F:aw}{mg mb:lm->Option bm}
theorem IF{h:GM}{o1 o2:nh}(z:o1.isFreed=false)(e2:o2.isFreed=false):((h.push o1).push o2).get? (h.objs.size+1)=some o2/\((h.push o1).push o2).get? h.objs.size=some o1/\∀b o,h.get? b=some o->((h.push o1).push o2).get? b=some o:=
 ⟨by have:=g3 (h.push o1) e2;rwa [gw]at this,dL _ (g3 _ z),λb o e=>au b o (au b o e)⟩
set_option tactic.hygienic true in
theorem HI.enum{x:lm}{p u tp:cx}{e:lv}{Y:List lv}{x1:Nat}{nm:List (lm×No)}{n:Nat}{Q:(aa->Prop)->List D->aa->Prop}(K:Kb B mg mb)(fr:dB G nm n)(hx:nm.lookup x=some .globalImplicit)(hg:mg x=none)(hv:bp x=some (.type "enumerate"))
  (h:HE G ρ H e λd H1=>∃ds,d=.tup ds/\Q KT (numbered ds 0) H1)
  (hp:Do [e] G.env=[(false,eval e G.env)]:=by rfl) (hn:x≠"__name__":=by decide) (hd:(x==("__debug__":lm))=false:=by decide)
  (he:eval (.Call (.Name x p) [e] [] u) G.env=(do l8 u (←eval (.Name x p) G.env) [] (Wp u (Do [e] G.env)) (i6 u (eL [] G.env))):=by rfl):
  HI G ρ H (.Tuple Y x1 tp) (.Call (.Name x p) [e] [] u) Q:=λF s S L=>by
 have hh:G.A.handled=none:=fr.room.1;have N:(Wp u (Do [e] G.env)).any (·.1)=false:=by rw[hp];rfl
 refine dm (nN K fr hx hg hv S (hU N (iP N ?_)) hn hd) he;rw[hp];refine A4 (h.then S L λF1 d H1 v z k1 r1 O L1 q1=>ah q1 λds ed q=>CG ?_);subst ed;refine R.el r1 λl vs m e0 r=>?_;have hl:=(O.fz _ _ e0).1;refine callType_new PySem.F.called_enumerate (by decide) (PySem.F.typeCall_enumerate_1 _) (PySem.F.newCall_enumerate_1 _) (λobj=>PySem.F.args_object_init_2 obj _) PySem.F.entry_enumerate_new (rE l vs.toArray m) ⟨hl,?_⟩;show _/\_;rw[show(z.heap.push {cls:=.type "tuple_iterator",data:=.fields #[.ref l,.int 0 0]}).objs.size=z.heap.objs.size+1 from gw ..]
 have p:=IF (h:=z.heap) (o1:={cls:=.type "tuple_iterator",data:=.fields #[.ref l,.int 0 0]}) (o2:={cls:=.type "enumerate",data:=.fields #[.none,.bool false,.ref z.heap.objs.size,fq 0,.none,.none]}) rfl rfl
 generalize (z.heap.push {cls:=.type "tuple_iterator",data:=.fields #[.ref l,.int 0 0]}).push {cls:=.type "enumerate",data:=.fields #[.none,.bool false,.ref z.heap.objs.size,fq 0,.none,.none]}=h2 at p⊢
 have lt:=ss hl;have j:∀b∈[z.heap.objs.size+1,z.heap.objs.size],z.heap.get? b=none/\∃o,h2.get? b=some o:=λb Z=>(em.mp Z).elim (λq=>q▸⟨Re (b8 _),_,p.1⟩) λq=>bn.mp q▸⟨Re (ii _),_,p.2.1⟩;refine⟨⟨_,p.1,rfl⟩,Oj p.1 ⟨KT,_,_,_,_,F1,H1,_,rfl,k1,yy (e:=z.heap.objs.size+1) (it:=z.heap.objs.size) hh (Nat.succ_ne_self _) (wn lt) (wn (UV lt)) e0 r,⟨⟨_,p.1⟩,⟨_,p.2.1,rfl,rfl⟩,⟨_,p.2.2 _ _ hl,rfl,_,rfl⟩⟩,λb Z=>⟨λh=>bR (O.ex _ h) λo e=>fg (e.symm.trans (j b Z).1),?_⟩,O.QA (tk:=z.toks) (d:=z.drawn) p.2.2 j,L1.keep (.refl _) λb o _ e=>p.2.2 b o e,trivial,q⟩⟩;cases q:G.Ot b with
 |none=>rfl
 |some o'=>exact fg ((O.ot _ o' q).1.symm.trans (j b Z).1)
end
end
section
theorem uz:fM (.type "list") "keys"=pure none:=by rw[dz,ba];kernel_rfl
theorem sL:fM (.type "tuple") "keys"=pure none:=by rw[dz,ba];kernel_rfl
section
variable {prog:EQ}{w:KB}{A:Da}{E:bm->bv->Prop}{a:co}{o:nh}{h:GM}{g:Array me}{d:oC}{t:Nat}{os:kL}
theorem lu:isSubtype (.type "AttributeError") (.type "AttributeError")=pure true:=by rw[j9];kernel_rfl
theorem yz{s:bv}{α:Type}{v:bm}{name j:lm}{Q:α->bv->Prop}(hh:A.handled=none)(h5:j.length≤ga)(hq:∀h' e t',(∃z,h'.get? e=some z/\z.cls=.type "AttributeError")->(∀b o,s.heap.get? b=some o->h'.get? b=some o)->E (.ref e) {s with heap:=h',toks:=t'}):
  im (kt prog w) A (Vd v name j) Q E s:=by
 unfold Vd;refine al (wpAny_mkStr ?_ h5);refine al ?_;refine al (WF ?_ (by size_fits));refine al (m:=ic _ _) (i7 (a:=Fa) (by first|rfl|(simp only[ic];rfl)) ?_);refine WF ?_ (by size_fits);refine al (sC (al ?_));dsimp only;generalize hH:(s.heap.push _)=H1;have N:∀b o,s.heap.get? b=some o->H1.get? b=some o:=λb o e=>by rw[←hH];exact dL _ e
 clear hH;generalize Y:Obj.mk _ _ _ _=z;have u:(H1.push z).get? H1.objs.size=some z:=g3 _ (by rw[←Y];rfl);have O:∀b o,H1.get? b=some o->(H1.push z).get? b=some o:=λb o e=>dL _ e;generalize (H1.push z)=H2 at u O⊢;generalize hE:H1.objs.size=e at u⊢;have Z:z.cls=.type "AttributeError":=by rw[←Y]
 have fj:∀b o,H1.get? b=some o->b≠e:=λb o q=>hE▸wn (ss q);unfold noteAttr lacksNameAndObj;dsimp only;refine al (al (SZ (T:="AttributeError") (b:=true) (ak _ u Z) lu ?_));refine al (j5 u ?_);subst Y;dsimp only;refine am ?_;refine al (bw (al (dE (T:="AttributeError") (ak _ u rfl) ?_)));refine al (j5 u ?_);refine wpAny_update u ?_;refine al (AY ?_);refine hh▸?_;refine oF (hq _ _ _ (ak _ (Tl _ u rfl) rfl) λb o q=>?_);exact(KF _ _ (fj b o (N b o q)).symm).trans (O b o (N b o q))
theorem EM:Hf 100 (.type "list")=pure "list":=by rfl
theorem BV:Hf 100 (.type "tuple")=pure "tuple":=by rfl
theorem mH{T:String}{q:Array bm}{n:Nat}{tk:Tok}{Q:Fin->bv->Prop}(j:A.handled=none)(hx:h.get? a=some {cls:=.type T,data:=.seq q n})(N:fM (.type T) "keys"=pure none)(h1:(aT T==aT "module")=false)(O:(aT T==aT "type")=false)(Z:(aT T==aT "builtin_function_or_method")=false)
  (h4:Hf 100 (.type T)=pure T) (h5:(t0 (toString "'"++toString T++toString "' object has no attribute '")++t0 "keys"++t0 "'").length≤ga) (hq:∀h' e u,(∃z,h'.get? e=some z/\z.cls=.type "AttributeError")->(∀b o,h.get? b=some o->h'.get? b=some o)->E (.ref e) ⟨h',g,d,u,os⟩):
  im (kt prog w) A (Builtin.«object.__getattribute__» ⟨[.ref a,.str "keys" tk],[]⟩) Q E ⟨h,g,d,t,os⟩:=by
 have Y:(⟨h,g,d,t,os⟩:bv).TypeIs (.ref a) T:=(ak _ hx rfl);repeat (any_goals(first|assumption|wp_step))
 exact yz j h5 hq
theorem IG:fM (.type "list") "__getattr__"=pure none:=by rw[dz,ba];kernel_rfl
theorem EN:fM (.type "tuple") "__getattr__"=pure none:=by rw[dz,ba];kernel_rfl
theorem uA{N:Array bm}{n:Nat}{Q:Option bm->bv->Prop}(Z:A.handled=none)(hx:h.get? a=some {cls:=.type "list",data:=.seq N n})(hq:∀h' z,(∀b o,h.get? b=some o->h'.get? b=some o)->Q none ⟨h',g,d,z,os⟩):
  im (kt prog w) A (getAttr? (.ref a) "keys") Q E ⟨h,g,d,t,os⟩:=by
 refine al (sC (al (i0 ?_)));have O:(⟨h,g,d,t+1,os⟩:bv).TypeIs (.ref a) "list":=(ak _ hx rfl);have f2:=du.lookup;have f3:=du.bind (.ref a);have u:∀(A':Da)(R:qB->bv->Prop),A'.handled=none->(∀h' e z,(∃j,h'.get? e=some j/\j.cls=.type "AttributeError")->(∀b o,h.get? b=some o->h'.get? b=some o)->R (.error (.ref e)) ⟨h',g,d,z,os⟩)->
   bC (kt prog w) A' (.call (.builtin "list.__getattribute__") ⟨[.ref a,.str "keys" t],[]⟩) R ⟨h,g,d,t+1,os⟩:=λA' R ha Y=>
  oI du.plain PySem.F.entry_list_ga (du.check _ _ _ _ _ _ _ _ O (PySem.F.args_list_getattribute_2 _ _)
   (mH ha hx uz rfl rfl rfl EM (by decide+kernel) Y))
 repeat (any_goals(first|assumption|wp_step))
 refine u A _ Z λh' e z q hk=>?_;refine al (SZ (T:="AttributeError") (b:=true) q lu ?_);refine al ?_;unfold hookBehind;refine i7 IG ?_;refine oF (al (SZ (T:="AttributeError") (b:=true) q lu ?_));exact am (hq _ _ hk)
theorem sM{N:Array bm}{n:Nat}{Q:Option bm->bv->Prop}(Z:A.handled=none)(hx:h.get? a=some {cls:=.type "tuple",data:=.seq N n})(hq:∀h' z,(∀b o,h.get? b=some o->h'.get? b=some o)->Q none ⟨h',g,d,z,os⟩):
  im (kt prog w) A (getAttr? (.ref a) "keys") Q E ⟨h,g,d,t,os⟩:=by
 refine al (sC (al (i0 ?_)));have O:(⟨h,g,d,t+1,os⟩:bv).TypeIs (.ref a) "tuple":=(ak _ hx rfl);have f2:=da.lookup;have f3:=da.bind (.ref a);have u:∀(A':Da)(R:qB->bv->Prop),A'.handled=none->(∀h' e z,(∃j,h'.get? e=some j/\j.cls=.type "AttributeError")->(∀b o,h.get? b=some o->h'.get? b=some o)->R (.error (.ref e)) ⟨h',g,d,z,os⟩)->
   bC (kt prog w) A' (.call (.builtin "tuple.__getattribute__") ⟨[.ref a,.str "keys" t],[]⟩) R ⟨h,g,d,t+1,os⟩:=λA' R ha Y=>
  oI da.plain PySem.F.entry_tuple_ga (da.check _ _ _ _ _ _ _ _ O (PySem.F.args_tuple_getattribute_2 _ _)
   (mH ha hx sL rfl rfl rfl BV (by decide+kernel) Y))
 repeat (any_goals(first|assumption|wp_step))
 refine u A _ Z λh' e z q hk=>?_;refine al (SZ (T:="AttributeError") (b:=true) q lu ?_);refine al ?_;unfold hookBehind;refine i7 EN ?_;refine oF (al (SZ (T:="AttributeError") (b:=true) q lu ?_));exact am (hq _ _ hk)
end
end
section
noncomputable def kC{K:Type}[DecidableEq K](es ps:List (K×D)):List (K×D):=ps.foldl (λes p=>dput es p.1 p.2) es
theorem EO{K:Type}[DecidableEq K](es:List (K×D))(k:K)(d:D):(dput es k d).length≤es.length+1:=by
 unfold dput;split<;>simp
theorem tr:G9 table "dict.update.loop"=some Builtin.«dict.update.loop»:=Pc (by kernel_rfl)
theorem oU:plainId "dict.update.loop"=true:=by decide+kernel
@[elab_as_elim] theorem R.pair {F:aw} {v:bm} {a b:D} {P:bm->Prop} (r:R F v (.tup [a,b])) (k:∀t x y m,F t=some (aE [x,y] m)->R F x a->R F y b->P (.ref t)):P v:=r.el λt vs m e rs=>
 Rs.el (P:=λvs=>F t=some (aE vs m)->P (.ref t)) rs (λx vs u rs=>Rs.el (P:=λvs=>F t=some (aE (x::vs) m)->P (.ref t)) rs λy vs z rs=>Rs.el (P:=λvs=>F t=some (aE (x::y::vs) m)->P (.ref t)) rs λe=>k t x y m e u z) e
theorem IH{α:Type}{l:List α}{i:Nat}{p:α}(h:l[i]?=some p):p::l.drop (i+1)=l.drop i:=by
 have hi:=Hg h;rw[fB hi];rw[pi hi]at h;rw[db h]
section
variable {prog:EQ}{w:KB}{A:Da}{E:bm->bv->Prop}{s:bv}{R':qB->bv->Prop}{I:co}{fp wr:List co}{Gg:Array me->Array me->Prop}{n:Nat}{P:Nat->bm->Prop}{St:Nat->bv->Prop}
 {K:Type} [DecidableEq K] {knd:ph prog w K} {kd:K->D}
set_option tactic.hygienic true in
theorem yA(mW:∀F v k,R F v (kd k)->knd.is k v=true/\(N8 v).isSome=true)(W:Vb prog w A.in1 I fp wr Gg n P St)(a:co)(KI:a∉fp){F:aw}(RL:∀b o,F b=some o->b∉a::wr){ps:List (K×D)}(hl:ps.length=n)(hn:n≤1000)(hP:∀i v,P i v->∃p,ps[i]?=some p/\R F v (.tup [kd p.1,p.2])):
  ∀(k i:Nat)(s:bv)(kvs:List (K×bm))(es:List (K×D)),n-i=k->i≤n->St i s->F.le (hv s.heap)->s.heap.DictOf knd a kvs->Rp F kvs es->es.length≤i->
   (∀s' xW,Moved (a::wr) Gg s s'->s'.heap.DictOf knd a xW->Rp F xW (kC es (ps.drop i))->R' (.ok (.ret .none)) s')->
   bC (kt prog w) A (.builtin "dict.update.loop" ⟨[.ref a,.ref I,fq i,.none],[]⟩) R' s:=by
 have RM:a∉wr:=λh=>KI (W.sub _ h);have Y:∀b∈wr,b∈a::wr:=λb u=>zi _ u;intro k;induction k with
 |zero=>
  intro i s kvs es hk hi Z hF hd j z hR;have se:i=n:=cZ hi (ze hk);subst se;refine dA tr ?_;refine(?_:im _ A.in1 (hZ (.ref I)>>=_) _ _ s);refine al (W.done s _ _ Z λs' hm=>?_);refine am (hR s' kvs (hm.mono Y) (hd.at λo e=>hm.heap a o RM e) ?_);rw[List.drop_eq_nil_of_le (IR hl)];exact j
 |succ k ih=>
  intro i s kvs es hk hi Z hF hd j z hR;have fj:i<n:=ma hk;refine dA tr ?_;refine(?_:im _ A.in1 (hZ (.ref I)>>=_) _ _ s);refine al (W.item i s _ _ fj Z λv s' hp ud hm=>?_);refine ah (hP i v hp) λp O rp=>?_;have RN:F.le (hv s'.heap):=λb o e=>hm.heap b o (λu=>RL b o e (Y b u)) (hF b o e);have Io:s'.heap.DictOf knd a kvs:=hd.at λo e=>hm.heap a o RM e;refine rp.pair λt x y m e r1 r2=>?_;have et:s'.heap.get? t=some (aE [x,y] m):=RN _ _ e;refine(?_:im _ A.in1 (mM [.ref t] _>>=_) _ _ s');refine al (wv (al (wpAny_tryCatch ?_)));refine al (dE (T:="tuple") (ak _ et rfl) ?_);refine al (eC et rfl (am ?_));refine wv (TX (ii s'.toks) (Kc (mW _ _ _ r1).1 Io (λh' N q=>?_) (by rw[j.length];exact Os (FB (cr z (cr hi hn)) (xL (by decide:1000<1000000) nO)))));intro RQ;refine am ⟨cQ oU _,?_⟩;refine ih (i+1) _ _ _ (by rw[Nat.sub_succ,hk];rfl) fj (W.frame _ s' _ _ ud RQ λb u o e=>(q.2 b (λh=>KI (h▸u))).trans e)
   (λb o e=>(q.2 b (λh=>RL b o e (h▸jb))).trans (RN b o e)) N (j.put p.1 r2) (cr (EO es p.1 p.2) (dP z)) λmT R3 xX abB abC=>?_
  refine hR mT R3 (Oi W.gtrans ((hm.mono Y).then_heap RQ λb o u e=>(q.2 b (λh=>u (h▸jb))).trans e) xX) abB ?_;exact IH O▸abC
end
end
section
section
variable {prog:EQ}{w:KB}{A:Da}{E:bm->bv->Prop}{s:bv}{K:Type}[DecidableEq K]{knd:ph prog w K}{kd:K->D}
theorem ne_size{h:GM}{b n:co}{o:nh}(e:h.get? b=some o)(hn:h.objs.size≤n):b≠n:=wn (xL (ss e) hn)
theorem tu(mW:∀F v k,R F v (kd k)->knd.is k v=true/\(N8 v).isSome=true){I l a:co}{items:List bm}{St:Nat->GM->Prop}(W:UX prog w A.in1 I [I,l] [I] items.toArray.size (λi v=>items.toArray[i]?=some v) St)(Y:a≠I)(j:a≠l){F:aw}(Z:F a=none)(O:F I=none){ps:List (K×D)}(N:Rs F items (ps.map λp=>.tup [kd p.1,p.2]))(hn:ps.length≤1000)
  (st:St 0 s.heap) (hF:F.le (hv s.heap)) (z:s.heap.DictOf knd a []) {R':_} (h:∀h' tk kvs,(∀b o,b≠a->b≠I->s.heap.get? b=some o->h'.get? b=some o)->h'.DictOf knd a kvs->Rp F kvs (kC [] ps)->R' (.ok (.ret .none)) {s with heap:=h',toks:=tk}):
  bC (kt prog w) A (.builtin "dict.update.loop" ⟨[.ref a,.ref I,fq 0,.none],[]⟩) R' s:=
 have hl:items.length=ps.length:=N.length.trans (be _)
 yA mW W.toS a (λq=>(em.mp q).elim Y λq=>j (bn.mp q)) (F:=F) (λb o e u=>(em.mp u).elim (λq=>fg (e.symm.trans (q▸Z))) λq=>fg (e.symm.trans (bn.mp q▸O))) (ps:=ps) hl.symm (cr (IR hl) hn)
  (λi v hv=>have hv:items[i]?=some v:=Ch.symm.trans hv
   have hi:i<ps.length:=KE (ww.mp hv).1 hl
   ah (N.get ((tz ..).trans (congrArg _ (pi hi)))) λv' e1 r1=>(ak (ps[i]) (pi hi) (db (e1.symm.trans hv)▸r1)))
  (items.toArray.size-0) 0 _ [] [] rfl (np _) st hF z .nil (ii _) λs' xW hm z R4=>tn hm.gens hm.drawn hm.os▸h s'.heap s'.toks xW (λb o u hI e=>hm.heap b o (λq=>(em.mp q).elim u λq=>hI (bn.mp q)) e) z R4
theorem kD(mW:∀F v k,R F v (kd k)->knd.is k v=true/\(N8 v).isSome=true){l:co}{T:String}{items:List bm}{nl:Nat}{F:aw}{ps:List (K×D)}{Q:bm->bv->Prop}(q:A.handled=none)(N:F.le (hv s.heap))(hT:T="list"∨T="tuple")
  (IA:s.heap.get? l=some {cls:=.type T,data:=.seq items.toArray nl}) (hr:Rs F items (ps.map λp=>.tup [kd p.1,p.2])) (hn:ps.length≤1000)
  (h:∀h' tk kvs,(∀b o,s.heap.get? b=some o->h'.get? b=some o)->h'.DictOf knd s.heap.objs.size kvs->Rp F kvs (kC [] ps)->Q (.ref s.heap.objs.size) {s with heap:=h',toks:=tk}):
  im (kt prog w) A (call (.type "dict") [.ref l]) Q E s:=by
 have Z:l<s.heap.objs.size:=ss IA;refine callType_codes (Q₁:=λobj aJ=>obj=.ref s.heap.objs.size/\aJ={s with heap:=s.heap.push {cls:=.type "dict",data:=.dict #[]}}) PySem.F.kt_called_dict (PySem.F.kt_typeCall_dict_1 _) PySem.F.entry_dict_init (kt_code_dict_new _ ⟨rfl,rfl⟩) ?_
 rintro obj aJ ⟨rfl,rfl⟩;have Y:(s.heap.push {cls:=.type "dict",data:=.dict #[]}).DictOf knd s.heap.objs.size []:=xd s.heap
 have u:(s.heap.push {cls:=.type "dict",data:=.dict #[]}).get? l=some {cls:=.type T,data:=.seq items.toArray nl}:=dL _ IA
 refine⟨Y.typeIs,PySem.F.args_dict_init_2 _ _,?_⟩;refine al ?_;refine al (iG Y.typeIs ?_);refine am ?_;refine(?_:im _ _ (pM "dict.__init__" s.heap.objs.size (.ref l) [] .none) _ _ _);refine al (dE (T:=T) (ak _ u rfl) ?_);refine vD (by rcases hT with rfl|rfl<;>decide) ?_;have h0:∀b,s.heap.objs.size≤b->F b=none:=λb hb=>by
  cases e:F b with
  |none=>rfl
  |some o=>exact fg ((N b o e).symm.trans (Re hb))
 have Uv:s.heap.objs.size≠l:=gE Z;have j:∀h1:GM,(∀b o,(s.heap.push {cls:=.type "dict",data:=.dict #[]}).get? b=some o->h1.get? b=some o)->s.heap.objs.size<h1.objs.size:=λh1 z=>ss (z _ _ (g3 _ rfl))
 have cj:∀h1:GM,(∀b o,(s.heap.push {cls:=.type "dict",data:=.dict #[]}).get? b=some o->h1.get? b=some o)->l≠h1.objs.size:=λh1 z=>wn (ss (z _ _ u))
 refine al ?_;rcases hT with rfl|rfl
 ·refine uA q u λh1 t1 z=>?_;refine vD rfl (al (bw (al (dG ⟨_,z _ _ u,rfl,_,rfl⟩ (am ⟨cQ oU _,?_⟩)))));exact tu mW (kE (A:=A.in1.in1) q _ l (cj h1 z) items.toArray) (wn (j h1 z)) Uv (h0 _ (ii _)) (h0 _ (Os (j h1 z))) hr hn ⟨(cY _ (g3 _ rfl) rfl rfl),⟨_,dL _ (z _ _ u),rfl,_,rfl⟩⟩ (λb o e=>dL _ (z b o (dL _ (N b o e)))) (Y.at λo e=>dL _ (z _ o e)) λh' tk kvs hk O R4=>⟨rfl,h h' tk kvs (λb o e=>hk b o (ne_size e (ii _)) (ne_size e (Os (j h1 z))) (dL _ (z b o (dL _ e)))) O R4⟩
 ·refine sM q u λh1 t1 z=>?_;refine vD rfl (al (bw (al (j6 ⟨_,z _ _ u,rfl,_,rfl⟩ (am ⟨cQ oU _,?_⟩)))));exact tu mW (N3 (A:=A.in1.in1) q _ l (cj h1 z) items.toArray) (wn (j h1 z)) Uv (h0 _ (ii _)) (h0 _ (Os (j h1 z))) hr hn ⟨(cY _ (g3 _ rfl) rfl rfl),⟨_,dL _ (z _ _ u),rfl,_,rfl⟩⟩ (λb o e=>dL _ (z b o (dL _ (N b o e)))) (Y.at λo e=>dL _ (z _ o e)) λh' tk kvs hk O R4=>⟨rfl,h h' tk kvs (λb o e=>hk b o (ne_size e (ii _)) (ne_size e (Os (j h1 z))) (dL _ (z b o (dL _ e)))) O R4⟩
end
section
variable {B:Base}{G:Fc B}{ρ:ag}{H:aa}{F:aw}{Ky:Type}[DecidableEq Ky]{knd:ph B.prog B.w Ky}{kd:Ky->D}{ct:List (Ky×D)->ao}
theorem Vn.dictOf(X:gd B knd kd ct){d:D}{ps:List (Ky×D)}{Q:D->aa->Prop}(Z:G.A.handled=none)(z:d=.fl (ps.map λp=>.tup [kd p.1,p.2])∨d=.tup (ps.map λp=>.tup [kd p.1,p.2]))(hn:ps.length≤1000)(q:∀a,H a=none->Q (.ref a) (upd H a (ct (kC [] ps)))):
  Vn G ρ H (λvs=>call (.type "dict") vs) [d] Q:=.one λF u Y s S L=>by
 refine z.elim (λed=>?_) λed=>?_
 ·subst ed;exact Y.el λa vs n e r=>kD X.key Z (az.mu S) (.inl rfl) (S.fz _ _ e).1 r hn λh' tk kvs hk z j=>.new (c:=ct _) (tk:=tk) (.refl _) S L hk ((X.cont _ _ _ _).mpr ⟨kvs,z,j⟩) (aF _) (q _)
 ·subst ed;exact Y.el λa vs n e r=>kD X.key Z (az.mu S) (.inr rfl) (S.fz _ _ e).1 r hn λh' tk kvs hk z j=>.new (c:=ct _) (tk:=tk) (.refl _) S L hk ((X.cont _ _ _ _).mpr ⟨kvs,z,j⟩) (aF _) (q _)
end
end
section
section
variable {prog:EQ}{w:KB}{A:Da}{E:bm->bv->Prop}{s:bv}
theorem uB{l:co}{vs:List bm}{n:Nat}{k:Int}{t:Tok}{v:bm}{Q:Unit->bv->Prop}(z:s.heap.get? l=some (bz vs n))(h0:0≤k)(q:k<2^63)(hn:k<vs.toArray.size)
  (u:Q () {s with heap:=s.heap.update l (bf (·.setIfInBounds k.toNat v))}):im (kt prog w) A (setItem (.ref l) (.int k t) v) Q E s:=by
 have hl:s.heap.IsList l vs.toArray:=⟨_,z,rfl,_,rfl⟩;unfold setItem;try with_reducible refine wv ?_
 first|refine al (am ?_)|skip
 refine al (N2 hl.typeIs (by decide) ?_);refine al (aO (name:=t0 "__setitem__") hl.typeIs Ol
  (NE Ol hl.typeIs entry_list_setitem ?_ (args_list_setitem _ _ _)))
 refine(?_:im _ _ (TY (.int k t)>>=_) _ _ s);refine al (wpAny_listSubscript_int (fitsIndex_of h0 q) ?_);clear q;obtain⟨j,rfl⟩:=kJ h0;have hj:j<vs.toArray.size:=bW.mp hn;refine(?_:im _ _ ((seqItemAt l j>>=λr=>pure (r.map (j,·)))>>=_) _ _ s);refine al (al (wpAny_seqItemAt z rfl (am ?_)));refine(jl hj)▸?_;refine al (wpAny_setSeqItemAt z rfl ?_);first
  |exact al (am (am (xG (.none) rfl (am u))))
  |exact am (ak (.none) rfl (am u))
end
section
variable {B:Base}{G:Fc B}{ρ:ag}{H:aa}{F:aw}{mg mb:lm->Option bm}
theorem V2.R6{x y:lm}{Q:D->aa->Prop}(q:Q (.bool (x.cps.toList==y.cps.toList)) H):V2 G ρ H (M2 .Eq) (.str x) (.str y) Q:=V2.pure q λF u v s z rv P j=>by
 exact R.el z λt=>R.el rv λY=>PySem.P.eq_str (j _ s.toks (.bool _))
theorem V2.R7{x y:lm}{Q:D->aa->Prop}(q:Q (.bool (x.cps.toList !=y.cps.toList)) H):V2 G ρ H (M2 .NotEq) (.str x) (.str y) Q:=V2.pure q λF u v s z rv P j=>by
 exact R.el z λt=>R.el rv λY=>PySem.P.ne_str (j _ s.toks (.bool _))
theorem V2.R8{x y:lm}{Q:D->aa->Prop}(q:Q (.bool !(fA x y 0 x.length 1).isEmpty) H):V2 G ρ H (M2 .In) (.str y) (.str x) Q:=V2.pure q λF u v s z rv P j=>by
 exact R.el z λt=>R.el rv λY=>PySem.P.in_str (j _ s.toks (.bool _))
theorem VM.isspace{x:lm}{Q:D->aa->Prop}(q:Q (.bool (Bc x)) H):VM G ρ H "isspace" (.str x) [] Q:=λF u z j s S L=>by
 refine R.el z λ_=>?_;exact SB.isspace (.here (.bool _) S L q)
theorem V2.IK{z j:lv}{x:lm}{i:Nat}{c:Nat}{Q:D->aa->Prop}(h:x.cps[i]?=some c)(q:Q (.str ⟨#[c]⟩) H) (hi:i<1000):V2 G ρ H (bc z j) (.str x) (.int i) Q:=λF u v Y rv s S L=>by
 refine R.el Y λt=>R.el rv λZ=>?_;refine gR (typeIs_str s x _) PySem.F.slot_str_getitem.lookup (PySem.P.getItem_str (c:=c) ?_ ?_ (.here (.str _ _) (S.toks _) (L.keep (.refl F) λ_ _ _ e=>e) q))
 ·rw[za,decide_eq_false_iff_not,decide_eq_false_iff_not];lia
 ·have hl:=(eY.mp h).1;have hx:∀m:Nat,i<m->CA (i:Int) m=some i:=λm hm=>by
   unfold CA;simp only[show¬((i:Int)<0) by simp,if_false];rw[if_pos (by simp;exact jW hm)];simp
  rw[hx x.length hl];exact h
theorem HE.neg{e:lv}{z:cx}{Q:D->aa->Prop}(h:HE G ρ H e λd H'=>∃i,d=.int i/\Q (.int (-i)) H'):HE G ρ H (.UnaryOp .USub e z) Q:=λF s S L=>
 wpAny_UnaryOp (h.then S L λF' d H' v s' k r j Y u=>ah u λi ed q=>by
  subst ed;exact R.el r λt=>TZ (dY.up k (dY.here (.int _ _) (j.toks _) (Y.keep (.refl _) λ_ _ _ e=>e) q) λ_ _ x=>x))
theorem HE.and{a b:lv}{z:cx}{Q:D->aa->Prop}(h:HE G ρ H a λd H1=>∃c:Bool,d=.bool c/\if c then HE G ρ H1 b Q else Q (.bool false) H1):HE G ρ H (.BoolOp .And [a,b] z) Q:=λF s S L=>
 BoolOp_and (h.then S L λF' d H' v s' k r u j Y=>ah Y λc ed q=>by
  subst ed;refine R.el r (fv ?_);cases c with
  |false=>exact dY.up k (dY.here (.bool _) u j q) λ_ _ x=>x
  |true=>exact BoolOp_one (f8 (q F' s' u j) (λ_ _ p=>p.up k λ_ _ x=>x) λ_ _ x=>x))
set_option tactic.hygienic true in
theorem IL{Y:lv}{k j:Nat}{N O:cx}{Q:D->aa->Prop}{F Z:aw}{H1:aa}{u:bm}{z:bv}{ns:List Int}(hz:ns.length≤ga)(k1:F.le Z)(r1:R Z u (.fl (ns.map .int)))(S1:G.az Z H1 z)(L1:G.Loc Z ρ z)(q:Q (.fl ((ns.take j).map .int)) H1):
  im (kt B.prog B.w) G.A (eval (.Slice On (some (.Constant (.int (j:Int)) k N)) On O) G.env) (λi s=>im (kt B.prog B.w) G.A (bc Y (.Slice On (some (.Constant (.int (j:Int)) k N)) On O) u i) (dY G F ρ Q) bot s) bot z:=by
 refine GZ ?_;refine am ?_;rw[AR];refine j3 ?_;refine am ?_;refine R.el r1 λt vs n e r=>?_;have e':z.heap.get? _=some _:=(S1.fz _ _ e).1;have hl:z.heap.IsList t vs.toArray:=⟨_,e',rfl,_,rfl⟩;have hi:=ints_of r;have hp:=slice_ints_uptoW hi (y:=(j:Int)) (bP j);refine gR (Ve (s:={z with heap:=z.heap.push {cls:=.type "slice",data:=.fields #[.none,.int j z.toks,.none]},toks:=z.toks+1}) (hl.push _)) list_getitem_lookup
  (wpAny_getItem_list_slice (lo:=On) (hi:=some (j:Int)) (st:=On) (hl.push _) (kp ..) .none (.int _ _) .none (by trivial) ?_ (by simp[hi.length];exact hz))
 refine .fl (s:=z) (n:=0) (vs:=(slicePick vs.toArray On (some (j:Int)) On).toList) k1 (uj hp) S1 L1 (λb o e=>dL _ (dL _ e)) ?_ ?_ q
 ·rw[Array.toArray_toList];exact g3 _ rfl
 ·exact xM
theorem HE.IM{z:lv}{k j:Nat}{p1 p2 Y:cx}{Q:D->aa->Prop}(h:HE G ρ H z λa H1=>(j=1/\∃d ds,a=.tup (d::ds)/\Q (.tup [d]) H1)∨∃ns:List Int,a=.fl (ns.map .int)/\ns.length≤ga/\Q (.fl ((ns.take j).map .int)) H1):
  HE G ρ H (.Subscript z (.Slice On (some (.Constant (.int (j:Int)) k p1)) On p2) Y) Q:=λF s S L=>by
 refine Lk (h.then S L λF1 a H1 u s1 O Z N L1 q=>?_);rcases q with⟨rfl,d,ds,rfl,q⟩|⟨ns,rfl,hz,q⟩
 ·exact Dy O Z N L1 q
 ·exact IL hz O Z N L1 q
theorem HE.IP{x:lm}{u:cx}{a:co}{vs:List bm}{ds:List D}{m:Nat}{Q:D->aa->Prop}{nm:List (lm×No)}{n:Nat}(K:Kb B mg mb)(O:dB G nm n)(hx:nm.lookup x=some .globalImplicit)(hv:mg x=some (.ref a))(ha:B.T.get? a=some (aE vs m))(Y:∀F,Rs F vs ds)(q:Q (.tup ds) H)(Z:(x==("__debug__":lm))=false:=by decide):
  HE G ρ H (.Name x u) Q:=λF s S L=>by
 refine qZ K O hx hv S ?_ Z;refine ml (S.top a _ ha) λj e2 N=>?_;have z:F.le (f6 F a (aE vs m)):=λb o e=>by
  by_cases q:b=a
  ·subst q;have:=(S.fz b o e).1;rw[j]at this;cases this;exact aM _ _ _
  ·rw[eH q];exact e
 refine⟨f6 F a (aE vs m),.tup ds,H,z,.tup (aM _ _ _) (Y _),⟨S.top,λb o e=>?_,S.ot,λb c e=>⟨(S.hp b c e).1.keep z rfl,(S.hp b c e).2⟩,S.ex,λb o o' e e'=>?_,S.gens,S.os⟩,L.keep z λ_ _ _ e=>e,q⟩
 ·by_cases q:b=a
  ·subst q;rw[aM]at e;cases e;exact⟨j,e2,N⟩
  ·rw[eH q]at e;exact S.fz b o e
 ·by_cases q:b=a
  ·subst q;exact⟨_,ha⟩
  ·rw[eH q]at e;exact S.ap b o o' e e'
theorem xO.list{a:co}{ds:List D}{i:Nat}{v:D}{Q:aa->Prop}(h:H a=some (.list ds))(hi:i<ds.length)(hz:ds.length≤ga)(q:Q (upd H a (.list (ds.set i v)))):xO G ρ H (.ref a) (.int i) v Q:=λF x y z rx Y j s S L=>by
 refine R.el rx (R.el Y λt=>?_);refine dW (cq S h) λvs n e r=>?_;have hl:=r.length;refine uB e (bP i) (by have:ga≤2^62:=(by decide);lia) (by simp;exact KE hi hl.symm) ?_;have Z:=S.change (h':=s.heap.update a (bf (·.setIfInBounds i z))) (tk:=s.toks) (d:=s.drawn) (c':=.list (ds.set i v)) h (λb o u e=>(KF _ _ (cG u)).trans e) (pQ (vs.set i z) _ (by have:=IsL.update e (·.setIfInBounds i z);simpa using this) (r.set i j));exact(cY _ Z (L.keep (.refl _) λb o u e=>(KF _ _ (by rintro rfl;have:=qM S u;rw[h]at this;cases this)).trans e) q)
inductive Up(Q:D->aa->Prop):D->aa->Prop
 |here {d:D} {H:aa} (q:Q d H):Up Q d H
 |less {d:D} {H H':aa} (h:H'.le H) (q:Up Q d H'):Up Q d H
 |list {H:aa} {l:co} {ds:List D} (h:H l=some (.list ds)) (q:Up Q (.fl ds) (rem H l)):Up Q (.ref l) H
theorem dY.OH{Q:D->aa->Prop}{v:bm}{s':bv}{d:D}{z:aw}(p:Up Q d H):∀{F:aw},z.le F->R F v d->G.az F H s'->G.Loc F ρ s'->dY G z ρ Q v s':=by
 induction p with
 |here q=>exactλk r S L=>⟨_,_,_,k,r,S,L,q⟩
 |less h _ ih=>exactλk r S L=>ih k r (S.forget h) L
 |list h _ ih=>
  intro F k r S L;cases r;refine dW ((S.hp _ _ h).1) λvs n e r=>?_;refine dv (Mine.Tactic.az.qY S h e) λu k'=>?_;exact ih (k.trans k') (.fl (aM _ _ _) (r.mono k')) u (L.keep k' λ_ _ _ e=>e)
theorem HV.OH{t:sY bm}{Q:D->aa->Prop}(h:HV G ρ H F t (Up Q)):HV G ρ H F t Q:=λs S L=>f8 (h s S L) (λ_ _ p=>p.casesOn λF' d H' k r S L q=>dY.OH q k r S L) λ_ _ x=>x
theorem HE.OH{e:lv}{Q:D->aa->Prop}(h:HE G ρ H e (Up Q)):HE G ρ H e Q:=λF=>(h F).OH
end
end
section
noncomputable abbrev KP(e target z:lv)(acc:bm)(env:vm):sY Unit:=do
 let x←eval z env
 iZ z.pos
 let x←dF z env x
 let _←runOwn (.compStart e 1 (←mM [x] (qz x)) acc env) env
theorem sN(elt t1 j Y u:lv)(q f2:List lv)(scope:bB)(z:cx)(it acc:bm)(env:vm):
  oD (.ListComp elt [⟨t1,j,q,0⟩,⟨Y,u,f2,0⟩] scope z) 0 it acc env=(do
   iZ j.pos
   match←hZ it with
   |none=>pure (.done .next)
   |some v=>
    cC t1 it v
    hW t1 env v
    let mut ok:=true
    for c in q do
     if ok then ok←j0 c env (eval c env)
    if ok then KP (.ListComp elt [⟨t1,j,q,0⟩,⟨Y,u,f2,0⟩] scope z) Y u acc env
    qb (.compLoop (.ListComp elt [⟨t1,j,q,0⟩,⟨Y,u,f2,0⟩] scope z) 0 it acc env)):=by
 have e:oD (.ListComp elt [⟨t1,j,q,0⟩,⟨Y,u,f2,0⟩] scope z) 0 it acc env=(do
   iZ j.pos
   match←hZ it with
   |none=>pure (.done .next)
   |some v=>
    cC t1 it v
    hW t1 env v
    let mut ok:=true
    for c in q do
     if ok then ok←j0 c env (eval c env)
    if ok then
     let x←eval u env
     iZ u.pos
     let x←dF u env x
     let _←runOwn (.compStart (.ListComp elt [⟨t1,j,q,0⟩,⟨Y,u,f2,0⟩] scope z) 1 (←mM [x] (qz x)) acc env) env
    qb (.compLoop (.ListComp elt [⟨t1,j,q,0⟩,⟨Y,u,f2,0⟩] scope z) 0 it acc env)):=by rfl
 rw[e];simp only[KP,bind_assoc,pure_bind]
theorem sO(elt t1 q u j:lv)(Y f2:List lv)(scope:bB)(z:cx)(it acc:bm)(env:vm):
  oD (.ListComp elt [⟨t1,q,Y,0⟩,⟨u,j,f2,0⟩] scope z) 1 it acc env=(do
   iZ j.pos
   match←hZ it with
   |none=>pure (.done .next)
   |some v=>
    cC u it v
    hW u env v
    let mut ok:=true
    for c in f2 do
     if ok then ok←j0 c env (eval c env)
    if ok then
     (do let _←call (.builtin "list.append") [acc,←eval elt env])
    qb (.compLoop (.ListComp elt [⟨t1,q,Y,0⟩,⟨u,j,f2,0⟩] scope z) 1 it acc env)):=by rfl
theorem sP{prog:EQ}{w:KB}{A:Da}{R:qB->bv->Prop}{s:bv}{elt t1 Y q j:lv}{Z f2:List lv}{scope:bB}{z:cx}{it acc:bm}{env:vm}
  (h0:bC (kt prog w) A (.compLoop (.ListComp elt [⟨t1,Y,Z,0⟩,⟨q,j,f2,0⟩] scope z) 1 it acc env) R s)
  (h:∀E,im (kt prog w) A (qz it) (λu s'=>bC (kt prog w) A (.compLoop (.ListComp elt [⟨t1,Y,Z,0⟩,⟨q,j,f2,0⟩] scope z) 1 u acc env) R s') E s):
  bC (kt prog w) A (.compStart (.ListComp elt [⟨t1,Y,Z,0⟩,⟨q,j,f2,0⟩] scope z) 1 it acc env) R s:=by
 refine vt ?_;refine wpAny_notedAt ?_;refine al (cU (wpAny_ite ?_));split
 ·first
   |exact al (am (am (And.intro rfl h0)))
   |exact am (And.intro rfl h0)
 ·refine al (bw ?_);show im _ _ (iZ j.pos>>=_) _ _ s;exact al (cN (al (f8 (h _) (λu s' h'=>am (And.intro rfl h')) λ_ _ x=>x)))
section
variable {B:Base}{G:Fc B}{ρ:ag}{H:aa}{F:aw}
inductive Sec(B:Base)(names:List (lm×No))(n:Nat)(bY:ag)(target elt:lv)(ifs:List lv)(K:aa->Prop)(ds acc:List D)(H:aa)(Q:List D->aa->Prop):Prop
 |mk (I:List D->List D->aa->Prop) (keep:∀rest acc H,I rest acc H->K H/\acc.length≤ga) (d4:I ds acc H)
  (step:∀d rest acc H(G':Fc B),dB G' names n->I (d::rest) acc H->Turn G' bY H target ifs d λok CS H2=>if ok then HE G' CS H2 elt (λy H3=>∃H4,H4.le H3/\I rest (acc++[y]) H4)else∃H4,H4.le H2/\I rest acc H4)
  (fin:∀acc H,I [] acc H->Q acc H)
theorem HK.two{nm:List (lm×No)}{n:Nat}{elt t1 i1 Z N:lv}{f1 f2:List lv}{scope:bB}{O:cx}{K:aa->Prop}{I:List D->List D->aa->Prop}(fr:dB G nm n)(ok:ik nm scope=true)(keep:∀z acc H,I z acc H->K H)
  (step:∀d z acc H(G':Fc B),dB G' scope.names n->I (d::z) acc H->Turn G' (bS scope.names ρ) H t1 f1 d λok Y H2=>
   if ok then HI G' Y H2 Z N (λK2 ds H3=>Sec B scope.names n Y Z elt f2 K2 ds acc H3 (I z))else∃H4,H4.le H2/\I z acc H4)
  (hs:∀env x,dF N env x=pure x:=by intro _ _;rfl):HK G nm n t1 (.ListComp elt [⟨t1,i1,f1,0⟩,⟨Z,N,f2,0⟩] scope O) scope ρ K I:=
 ⟨fr,ok,λGb D₁ J fp wr ds aL kc St s fb W off hD st a hI=>DL rfl rfl rfl (sN _ _ _ _ _ _ _ _ _ _ _ _) W off keep
  (λd z acc H F s j u v hI kF rv a=>clause (Gx:=Gb.ot j u) (P:=λG Y H2=>HI G Y H2 Z N (λK2 ds H3=>Sec B scope.names n Y Z elt f2 K2 ds acc H3 (I z))) hD a rv (λUi Bl=>step d z acc H _ ((fb.ot j u).ot Ui Bl) hI) λUi Bl F' Y H' s' kF' hl S L q back hO=>by
   refine al (f8 (q F' s' S L) (λx aJ p=>al (cN (al (i7 (hs _ x) (al (wv (f8 p (λit aX p=>?_) λ_ _ e=>e.elim))))))) λ_ _ e=>e);obtain⟨K2,J2,fp2,wr2,MY,F2,H2,St2,rfl,k2,W2,st2,abF,S2,L2,OD,I2,Aa,yB,EP,MZ⟩:=p;have kk:=kF'.trans k2;obtain⟨x,ys,n',ey,rs⟩:=back _ _ _ _ k2 S2;have a2:AccAt (Gb.ot j u) wr2 D₁ Y F2 H2 acc aX:=⟨x.DI λa ha=>by
    rcases ca.mp ha with h|h
    ·exact .tail _ (xz _ h)
    ·rcases em.mp h with rfl|h
     ·exact .head _
     ·exact .tail _ (on _ h),Loc.zI L2,ys,n',ey,rs⟩
   have abG:∀b∈wr2,b∉D₁::(Gb.ot j u).own/\(Gb.ot j u).Ot b=none:=λb hb=>by
    refine dv (abF b hb) λo1 o2=>?_;obtain⟨o3,o4⟩:=hO b o2;exact⟨λh=>(em.mp h).elim o3 o1,o4⟩
   have loop:=DL (Gb:=Gb.ot j u) (ρ:=Y) (I:=I2) (e:=.ListComp elt [⟨t1,i1,f1,0⟩,⟨Z,N,f2,0⟩] scope O) (dep:=1) (D₁:=D₁) rfl rfl rfl (sO _ _ _ _ _ _ _ _ _ _ _ _) W2 abG (λz acc H h=>(Aa z acc H h).1)
    (λd z acc H F s Ot3 R9 v hI kF rv a=>zJ (Gx:=(Gb.ot j u).ot Ot3 R9) hD (Aa _ _ _ hI).2 a rv λOt4 abH=>EP d z acc H _ (((fb.ot j u).ot Ot3 R9).ot Ot4 abH) hI) st2 a2 yB
   have KQ:∀R,(∀s',k8 (Gb.ot j u) D₁ F (bS scope.names ρ) (I z) s'->R (.ok .next) s')->bC (kt B.prog B.w) Gb.A (.compLoop (.ListComp elt [⟨t1,i1,f1,0⟩,⟨Z,N,f2,0⟩] scope O) 1 (.ref J2) (.ref D₁) Gb.env) R aX:=λR hR=>ia loop λr s' p=>by
    obtain⟨rfl,F3,abI,H3,k3,⟨S3,L3,ys3,n3,e3,r3⟩,q3⟩:=p;exact hR _ ⟨F3,abI,H3,kk.trans k3,⟨S3,L3.less hl,ys3,n3,e3,r3⟩,MZ _ _ q3⟩
   exact al (wpAny_runOwn (sP (KQ _ λs' p=>am p) λE=>W2.self 0 _ _ _ st2 (KQ _ λs' p=>am p)))) st a hI⟩
end
end
section
noncomputable abbrev Nm:=List (lm×No)
noncomputable abbrev DQ:=D->aa->Prop
noncomputable abbrev BQ:=Bool->aa->Prop
noncomputable def n5:List String:=["range","sorted","sum","min","max","len","tuple","list","dict","set","enumerate","reversed","abs"]
set_option genInjectivity false in
set_option genCtorIdx false in
structure Top where
 fn:lm->Option co
 code:co->Option (List lm×List eX×bB)
 meth:co->lm->Option co
 fld:co->lm->Bool
 init:co->Option co
 tups:lm->Option (List D)
set_option genInjectivity false in
set_option genCtorIdx false in
structure Cx(U:Top)where
 B:Base
 mg:lm->Option bm
 mb:lm->Option bm
 K:Kb B mg mb
 fns:∀x f,U.fn x=some f->mg x=some (.ref f)
 kind:∀x f,U.fn x=some f->(∃c,U.code f=some c)∨∃c,U.init f=some c
 methc:∀C m f,U.meth C m=some f->∃c,U.code f=some c
 nob:∀x∈n5,mg (t0 x)=none
 code:∀f ps body sc,U.code f=some (ps,body,sc)->FnAt B f ps body sc/\vQ ps sc=true
 meth:∀C m f,U.meth C m=some f->MethAt B C m f
 fld:∀C m,U.fld C m=true->lO B C m/\DS B C m
 make:∀C f,U.init C=some f->oO B C f
 tups:∀x ds,U.tups x=some ds->∃a vs m,mg x=some (.ref a)/\B.T.get? a=some (aE vs m)/\∀F,Rs F vs ds
section
variable {U:Top}(X:Cx U)
noncomputable def aY(n:Nat)(f:co)(ds:List D)(H:aa)(Q:DQ):Prop:=∀(G:Fc X.B)(ρ:ag),iO G.A n->Vn G ρ H (λvs=>call (.ref f) vs) ds Q
inductive cy(a:co)(b:D)(H:aa)(Q:DQ):Prop
 |list (ds:List D) (i:Nat) (d:D) (eb:b=.int i) (h:H a=some (.list ds)) (e:ds[i]?=some d) (hz:ds.length≤ga) (q:Q d H)
 |dI (es:List (Int×D)) (k:Int) (d:D) (eb:b=.int k) (h:fh H a (.dI es)) (e:eS es k=some d) (q:Q d H)
 |dS (es:List (lm×D)) (k:lm) (d:D) (eb:b=.str k) (h:fh H a (.dS es)) (e:eS es k=some d) (q:Q d H)
 |dT (c:Bool) (es:List (D×D)) (d:D) (h:fh H a (.dT c es)) (hk:PN c b) (e:ke es b=some d) (q:Q d H)
noncomputable def Itm(a b:D)(H:aa)(Q:DQ):Prop:=match a with
 |.tup ds=>∃(i:Nat)(d:D),b=.int i/\ds[i]?=some d/\ds.length≤ga/\Q d H
 |.fl ds=>∃(i:Nat)(d:D),b=.int i/\ds[i]?=some d/\ds.length≤ga/\Q d H
 |.str x=>∃(i c:Nat),b=.int i/\x.cps[i]?=some c/\i<1000/\Q (.str ⟨#[c]⟩) H
 |.ref a=>cy a b H Q
 |_=>False
noncomputable def Sa(o:Option D)(i:Int)(H:aa)(Q:DQ):Prop:=match o with
 |some d=>if decide (0≤i)&&decide (i<1000)then Q d H else False
 |none=>False
noncomputable def IQ(a:D)(i:Int)(H:aa)(Q:DQ):Prop:=match a with
 |.tup ds=>Sa ds[i.toNat]? i H Q
 |a=>Itm a (.int i) H Q
noncomputable def ER(a b:D)(f:Int->Int->Prop)(o:Prop):Prop:=match a with
 |.int i=>(match b with
  |.int j=>f i j
  |_=>o)
 |_=>o
@[elab_as_elim] theorem jy {a b:D} {f:Int->Int->Prop} {o:Prop} {P:D->D->Prop} (h:ER a b f o) (k:∀i j,f i j->P (.int i) (.int j)) (k':o->P a b):P a b:=by
 cases a with
 |int i=>
  cases b with
  |int j=>exact k i j h
  |_=>exact k' h
 |_=>exact k' h
noncomputable def Uw(a b:D)(f:lm->lm->Prop)(o:Prop):Prop:=match a with
 |.str i=>(match b with
  |.str j=>f i j
  |_=>o)
 |_=>o
@[elab_as_elim] theorem yC {a b:D} {f:lm->lm->Prop} {o:Prop} {P:D->D->Prop} (h:Uw a b f o) (k:∀i j,f i j->P (.str i) (.str j)) (k':o->P a b):P a b:=by
 cases a with
 |str i=>
  cases b with
  |str j=>exact k i j h
  |_=>exact k' h
 |_=>exact k' h
noncomputable def nnn(b:D)(f:Prop):Prop:=match b with
 |.none=>f
 |_=>False
@[elab_as_elim] theorem ES {b:D} {f:Prop} {P:D->Prop} (h:nnn b f) (k:f->P .none):P b:=by
 cases b with
 |none=>exact k h
 |_=>exact h.elim
noncomputable def IT(a b:D)(H:aa)(Q:DQ):Prop:=match a with
 |.tup ds=>(match b with
  |.tup es=>ds.length+es.length≤ga/\Q (.tup (ds++es)) H
  |_=>False)
 |.ref l=>(match b with
  |.ref m=>∃ds es,H l=some (.list ds)/\H m=some (.list es)/\ds.length+es.length≤ga/\∀a,H a=none->Q (.ref a) (upd H a (.list (ds++es)))
  |_=>False)
 |.fl ds=>(match b with
  |.ref m=>∃es,H m=some (.list es)/\ds.length+es.length≤ga/\Q (.fl (ds++es)) H
  |_=>False)
 |_=>False
noncomputable def BinOp(op:UU)(a b:D)(H:aa)(Q:DQ):Prop:=match op with
 |.Add=>ER a b (λi j=>Q (.int (i+j)) H) (IT a b H Q)
 |.Sub=>ER a b (λi j=>Q (.int (i-j)) H) False
 |.Mod=>ER a b (λi j=>j≠0/\Q (.int (i.fmod j)) H) False
 |.Mult=>ER a b (λi j=>GY i j/\Q (.int (i*j)) H) False
 |_=>False
inductive xm(k a:D)(H:aa)(Q:BQ):Prop
 |dI (l:co) (es:List (Int×D)) (i:Int) (ea:a=.ref l) (ek:k=.int i) (h:fh H l (.dI es)) (q:Q (eS es i).isSome H)
 |dT (l:co) (c:Bool) (es:List (D×D)) (ea:a=.ref l) (h:fh H l (.dT c es)) (hk:PN c k) (q:Q (ke es k).isSome H)
 |list (n:Nat) (S:D->Prop) (T:aB n S) (ds:List D) (ha:IsL H a ds) (hd:∀d∈ds,S d) (hx:S k) (hn:n≤100) (q:∀r:Bool,(r=true↔k∈ds)->Q r H)
inductive i9(k a:D)(H:aa)(Q:BQ):Prop
 |dI (l:co) (es:List (Int×D)) (i:Int) (ea:a=.ref l) (ek:k=.int i) (h:fh H l (.dI es)) (q:Q (!(eS es i).isSome) H)
 |list (n:Nat) (S:D->Prop) (T:aB n S) (ds:List D) (ha:IsL H a ds) (hd:∀d∈ds,S d) (hx:S k) (hn:n≤100) (q:∀r:Bool,(r=true↔k∉ds)->Q r H)
inductive IU(a b:D)(H:aa)(Q:BQ):Prop
 |lists (n:Nat) (S:D->Prop) (T:aB n S) (ds es:List D) (ha:IsL H a ds) (hb:IsL H b es) (hd:ds.length=es.length->∀d∈ds,S d) (he:∀d∈es,S d) (hn:n≤100) (q:∀r:Bool,(r=true↔ds≠es)->Q r H)
inductive OI(a b:D)(H:aa)(Q:BQ):Prop
 |lists (n:Nat) (S:D->Prop) (T:aB n S) (ds es:List D) (ha:IsL H a ds) (hb:IsL H b es) (hd:∀d∈ds,S d) (he:∀d∈es,S d) (hn:n≤100) (q:∀r:Bool,(r=true↔ds=es)->Q r H)
 |tups (n:Nat) (S:D->Prop) (T:aB n S) (ds es:List D) (ha:a=.tup ds) (hb:b=.tup es) (hd:∀d∈ds,S d) (he:∀d∈es,S d) (hn:n≤100) (q:∀r:Bool,(r=true↔ds=es)->Q r H)
noncomputable def mx(op:Cy)(a b:D)(H:aa)(Q:BQ):Prop:=match op with
 |.Lt=>ER a b (λi j=>Q (decide (i<j)) H) (∃(n:Nat)(S:D->Prop),aB n S/\S a/\S b/\n≤100/\∀r,f9 n a b=some r->Q r H)
 |.LtE=>ER a b (λi j=>Q (decide (i≤j)) H) False
 |.Gt=>ER a b (λi j=>Q (decide (j<i)) H) False
 |.GtE=>ER a b (λi j=>Q (decide (j≤i)) H) False
 |.Eq=>ER a b (λi j=>Q (i==j) H) (Uw a b (λx y=>Q (x.cps.toList==y.cps.toList) H) (OI a b H Q))
 |.NotEq=>ER a b (λi j=>Q (i !=j) H) (Uw a b (λx y=>Q (x.cps.toList !=y.cps.toList) H) (IU a b H Q))
 |.In=>Uw a b (λy x=>Q (!(fA x y 0 x.length 1).isEmpty) H) (xm a b H Q)
 |.NotIn=>i9 a b H Q
 |.Is=>nnn b (Q (isNone a) H)
 |.IsNot=>nnn b (Q (!isNone a) H)
inductive g7(d:D)(H:aa)(Q:DQ):Prop
 |tup (ds:List D) (e:d=.tup ds) (hz:ds.length≤ga) (q:Q (.int ds.length) H)
 |fl (ds:List D) (e:d=.fl ds) (hz:ds.length≤ga) (q:Q (.int ds.length) H)
 |list (a:co) (ds:List D) (e:d=.ref a) (h:H a=some (.list ds)) (hz:ds.length≤ga) (q:Q (.int ds.length) H)
 |set (a:co) (ds:List D) (e:d=.ref a) (h:H a=some (.set ds)) (hz:ds.length≤ga) (q:Q (.int ds.length) H)
inductive Src(d:D)(H:aa)(P:List D->Prop):Prop
 |fl (ds:List D) (e:d=.fl ds) (hz:ds.length≤ga) (p:P ds)
 |list (a:co) (ds:List D) (e:d=.ref a) (h:H a=some (.list ds)) (hz:ds.length≤ga) (p:P ds)
 |keys (a:co) (es:List (Int×D)) (e:d=.ref a) (h:fh H a (.dI es)) (hz:es.length≤ga) (p:P (es.map λe=>.int e.1))
 |items (v a:co) (es:List (Int×D)) (e:d=.ref v) (hv:H v=some (.raw (gS a))) (h:fh H a (.dI es)) (hz:es.length≤ga) (p:P (es.map λe=>.tup [.int e.1,e.2]))
 |set (a:co) (ds:List D) (e:d=.ref a) (h:H a=some (.set ds)) (hz:ds.length≤ga) (p:∀ju,ju.Perm ds->P ju)
inductive dM(d:D)(H:aa)(Q:DQ):Prop
 |nums (ns:List Int) (e:d=.fl (ns.map .int)) (ui:ns.length<64) (q:∀BC:List Int,BC.Perm ns->BC.Pairwise (·≤·)->Q (.fl (BC.map .int)) H)
 |ET (a:co) (ns:List Int) (e:d=.ref a) (h:H a=some (.list (ns.map .int))) (ui:ns.length<64) (q:∀BC:List Int,BC.Perm ns->BC.Pairwise (·≤·)->Q (.fl (BC.map .int)) H)
 |Sb (n:Nat) (S:D->Prop) (κ:j8) (K:gK X.B.prog X.B.w n S κ) (T:aB n S) (hn:n≤100)
   (s:Src d H λds=>(∀d∈ds,S d)/\ds.Nodup/\ds.length<64/\∀ju,ju.Perm ds->ju.Pairwise (Ik n)->Q (.fl ju) H)
inductive rG(d:D)(H:aa)(Q:DQ):Prop
 |copy (a:co) (es:List (Int×D)) (e:d=.ref a) (h:fh H a (.dI es)) (hz:es.length≤ga) (q:∀b,H b=none->Q (.ref b) (upd H b (.dI es)))
 |ofI (ps:List (Int×D)) (e:d=.fl (ps.map λp=>.tup [.int p.1,p.2])∨d=.tup (ps.map λp=>.tup [.int p.1,p.2])) (hn:ps.length≤1000) (q:∀a,H a=none->Q (.ref a) (upd H a (.dI (kC [] ps))))
 |ofS (ps:List (lm×D)) (e:d=.fl (ps.map λp=>.tup [.str p.1,p.2])∨d=.tup (ps.map λp=>.tup [.str p.1,p.2])) (hn:ps.length≤1000) (q:∀a,H a=none->Q (.ref a) (upd H a (.dS (kC [] ps))))
inductive n6(d:D)(H:aa)(Q:DQ):Prop
 |nums (xs:List D) (e:d=.fl xs) (hn:xs.length≤18) (hx:∀d∈xs,qo d) (q:∀a ds,H a=none->ds.Nodup->(∀y,y∈ds↔y∈xs)->Q (.ref a) (upd H a (.set ds)))
 |tups (xs:List D) (S:D->Prop) (T:aB 8 S) (ht:∀x,S x->∃l,x=.tup l) (e:d=.fl xs) (hn:xs.length≤18) (hx:∀d∈xs,S d) (q:∀a ds,H a=none->ds.Nodup->(∀y,y∈ds↔y∈xs)->Q (.ref a) (upd H a (.set ds)))
noncomputable def OJ(x:lm)(ds:List D)(H:aa)(Q:DQ):Prop:=match ds with
 |[d]=>
  if x==("len":lm)then g7 d H Q
  else if x==("sorted":lm)then dM X d H Q
  else if x==("sum":lm)then∃ns:List Int,d=.fl (ns.map .int)/\(∀n∈ns,0≤n)/\ns.sum<2^62/\Q (.int ns.sum) H
  else if x==("min":lm)then∃ns:List Int,d=.fl (ns.map .int)/\ns≠[]/\Q (.int (pT ns)) H
  else if x==("max":lm)then∃ns:List Int,d=.fl (ns.map .int)/\ns≠[]/\∀m,m∈ns->Q (.int m) H
  else if x==("tuple":lm)then∃l,(d=.tup l∨d=.fl l)/\l.length≤ga/\Q (.tup l) H
  else if x==("list":lm)then(match d with
   |.tup l=>l.length≤ga/\∀a,H a=none->Q (.ref a) (upd H a (.list l))
   |_=>False)
  else if x==("dict":lm)then rG d H Q
  else if x==("set":lm)then n6 d H Q
  else if x==("reversed":lm)then(match d with
   |.fl l=>∀a,H a=none->Q (.ref a) (upd H a (.rev l))
   |_=>False)
  else if x==("abs":lm)then(match d with
   |.int i=>Q (.int i.natAbs) H
   |_=>False)
  else False
 |_=>False
inductive eV(a:co)(k v:D)(H:aa)(Q:aa->Prop):Prop
 |list (ds:List D) (i:Nat) (ek:k=.int i) (h:H a=some (.list ds)) (hi:i<ds.length) (hz:ds.length≤ga) (q:Q (upd H a (.list (ds.set i v))))
 |dI (es:List (Int×D)) (i:Int) (ek:k=.int i) (h:H a=some (.dI es)) (hz:es.length≤ga) (q:Q (upd H a (.dI (dput es i v))))
 |dS (es:List (lm×D)) (i:lm) (ek:k=.str i) (h:H a=some (.dS es)) (hz:es.length≤ga) (q:Q (upd H a (.dS (dput es i v))))
 |dT (c:Bool) (es:List (D×D)) (h:H a=some (.dT c es)) (hk:PN c k) (hz:es.length≤ga) (q:Q (upd H a (.dT c (jM es k v))))
inductive iR(a:co)(k v:D)(H:aa)(Q:aa->Prop):Prop
 |dI (es:List (Int×D)) (i:Int) (ek:k=.int i) (h:H a=some (.dI es)) (hz:es.length≤ga) (q:Q (upd H a (.dI (dput es i v))))
 |dS (es:List (lm×D)) (i:lm) (ek:k=.str i) (h:H a=some (.dS es)) (hz:es.length≤ga) (q:Q (upd H a (.dS (dput es i v))))
 |dT (c:Bool) (es:List (D×D)) (h:H a=some (.dT c es)) (hk:PN c k) (hz:es.length≤ga) (q:Q (upd H a (.dT c (jM es k v))))
inductive D0:ao->Prop
 |dI:D0 (.dI [])
 |dS:D0 (.dS [])
 |dT (c:Bool):D0 (.dT c [])
noncomputable abbrev WE:=lv->ag->aa->DQ->Prop
noncomputable abbrev WB:=lv->ag->aa->BQ->Prop
inductive EU(l:co)(H:aa)(Q:DQ):Prop
 |list (ds:List D) (d:D) (h:H l=some (.list (ds++[d]))) (hz:ds.length≤1000000) (q:Q d (upd H l (.list ds)))
inductive Ext(W:DQ->Prop)(l:co)(H:aa)(Q:DQ):Prop
 |fl (h0:∃ds,H l=some (.list ds)) (w:W λd H1=>∃ds es,d=.fl es/\H1 l=some (.list ds)/\ds.length+es.length≤1000000/\Q .none (upd H1 l (.list (ds++es))))
 |list (h0:∃ds,H l=some (.list ds)) (w:W λd H1=>∃l2 ds es,d=.ref l2/\H1 l=some (.list ds)/\H1 l2=some (.list es)/\ds.length+es.length≤1000000/\Q .none (upd H1 l (.list (ds++es))))
 |tup (h0:∃ds,H l=some (.list ds)) (w:W λd H1=>∃ds es,d=.tup es/\H1 l=some (.list ds)/\ds.length+es.length≤1000000/\Q .none (upd H1 l (.list (ds++es))))
 |rev (h0:∃ds,H l=some (.list ds)) (w:W λd H1=>∃I ds es,d=.ref I/\I≠l/\H1 I=some (.rev es)/\H1 l=some (.list ds)/\ds.length+es.length≤1000000/\Q .none (upd (del H1 I) l (.list (ds++es.reverse))))
noncomputable def IV(name:lm)(a:D)(H:aa)(Q:DQ):Prop:=match a with
 |.ref l=>
  if name==("pop":lm)then EU l H Q
  else if name==("items":lm)then∃es:List (Int×D),fh H l (.dI es)/\∀v,H v=none->Q (.ref v) (upd H v (.raw (gS l)))
  else False
 |.str x=>if name==("isspace":lm)then Q (.bool (Bc x)) H else False
 |_=>False
noncomputable def IW(W:aa->DQ->Prop)(name:lm)(a:D)(H:aa)(Q:DQ):Prop:=match a with
 |.ref l=>
  if name==("append":lm)then(∃ds,H l=some (.list ds))/\W H λd H1=>∃ds,H1 l=some (.list ds)/\ds.length≤ga/\Q .none (upd H1 l (.list (ds++[d])))
  else if name==("extend":lm)then Ext (W H) l H Q
  else if name==("pop":lm)then(∃es,fh H l (.dI es))/\W H λz H1=>∃(k:Int)(es:List (Int×D))(d:D),z=.int k/\H1 l=some (.dI es)/\eS es k=some d/\es.length≤ga/\Q d (upd H1 l (.dI (nC es k)))
  else if name==("remove":lm)then(∃ds,H l=some (.list ds))/\W H λd H1=>∃(ns:List Int)(k:Int),d=.int k/\k∈ns/\H1 l=some (.list (ns.map .int))/\ns.length≤1000000/\Q .none (upd H1 l (.list ((ns.erase k).map .int)))
  else if name==("update":lm)then(∃c es,fh H l (.dT c es)/\W H λd H1=>∃o es more,d=.ref o/\o≠l/\H1 l=some (.dT c es)/\fh H1 o (.dT c more)/\es≠[]/\es.length+more.length≤1000000/\Q .none (upd H1 l (.dT c (mC es more))))
  else False
 |_=>False
noncomputable def IX(u z:aa->DQ->Prop)(name:lm)(a:D)(H:aa)(Q:DQ):Prop:=match a with
 |.ref l=>
  if name==("get":lm)then(∃es,fh H l (.dS es))/\u H λj H1=>z H1 λd2 H2=>∃(k:lm)(es:List (lm×D))(d:D),j=.str k/\fh H2 l (.dS es)/\(eS es k).getD d2=d/\Q d H2
  else if name==("setdefault":lm)then(∃c es,fh H l (.dT c es)/\u H λk H1=>z H1 λd2 H2=>∃(es:List (D×D))(C:DQ),H2 l=some (.dT c es)/\PN c k/\es.length≤ga/\(∀d,ke es k=some d->C d H2)/\(ke es k=none->C d2 (upd H2 l (.dT c (jM es k d2))))/\∀d H',C d H'->Q d H')
  else False
 |_=>False
end
end
section
noncomputable def bh(e:lv):Bool:=![22,7,9,10,1,11].contains e.ctorIdx
noncomputable def tw(e:lv):Bool:=[23,20,21].contains e.ctorIdx
noncomputable def under(x:lm):Bool:=x.cps[0]?==some 95
noncomputable def uC(e:lv):Bool:=e.ctorIdx==8
noncomputable def n8(nm:Nm)(x:lm):Bool:=nm.lookup x==some .local||nm.lookup x==some .cell
noncomputable def glob(nm:Nm)(x:lm):Bool:=nm.lookup x==some .globalImplicit
set_option genSizeOf false in
set_option genInjectivity false in
set_option genCtorIdx false in
inductive EV:lv->Type
 |name (x p):EV (.Name x p)
 |int (i k p):EV (.Constant (.int i) k p)
 |str (i k p):EV (.Constant (.str i) k p)
 |bool (i k p):EV (.Constant (.bool i) k p)
 |none (k p):EV (.Constant .none k p)
 |attr (v n p):EV (.Attribute v n p)
 |bin (l op r p):EV (.BinOp l op r p)
 |neg (e p):EV (.UnaryOp .USub e p)
 |not (e p):EV (.UnaryOp .Not e p)
 |and (a b p):EV (.BoolOp .And [a,b] p)
 |or (a b p):EV (.BoolOp .Or [a,b] p)
 |or3 (a b c p):EV (.BoolOp .Or [a,b,c] p)
 |cmp (l op r p):EV (.Compare l [op] [r] p)
 |M0 (l o1 o2 r1 r2 p):EV (.Compare l [o1,o2] [r1,r2] p)
 |M1 (l o1 o2 o3 r1 r2 r3 p):EV (.Compare l [o1,o2,o3] [r1,r2,r3] p)
 |ite (t a b p):EV (.IfExp t a b p)
 |tup (es k p):EV (.Tuple es k p)
 |list (es p):EV (.List es p)
 |te (p):EV (.Dict [] [] p)
 |EW (a b p):EV (.Dict [some a] [b] p)
 |EX (a b c d p):EV (.Dict [some a,some c] [b,d] p)
 |mI (v i k p1 p2 p):EV (.Subscript v (.Slice (some (.Constant (.int i) k p1)) .none .none p2) p)
 |M3 (v i k p1 p2 p):EV (.Subscript v (.Slice .none (some (.Constant (.int i) k p1)) .none p2) p)
 |M4 (v i k p1 p):EV (.Subscript v (.Constant (.int i) k p1) p)
 |EY (v s p):EV (.Subscript v s p)
 |comp (elt t i ifs sc p):EV (.ListComp elt [⟨t,i,ifs,0⟩] sc p)
 |Ab (elt t1 i1 t2 i2 sc p):EV (.ListComp elt [⟨t1,i1,[],0⟩,⟨t2,i2,[],0⟩] sc p)
 |call (x p1 args p):EV (.Call (.Name x p1) args [] p)
 |meth (o n ap args p):EV (.Call (.Attribute o n ap) args [] p)
 |other (e):EV e
set_option tactic.hygienic true in
noncomputable def view(e:lv):EV e:=by
 cases e
 case Name x p=>exact .name x p
 case Constant c k p=>
  cases c
  case int i=>exact .int i k p
  case str i=>exact .str i k p
  case bool i=>exact .bool i k p
  case none=>exact .none k p
  all_goals exact .other _
 case Attribute v n p=>exact .attr v n p
 case BinOp l op r p=>exact .bin l op r p
 case UnaryOp op e p=>
  cases op
  case USub=>exact .neg e p
  case Not=>exact .not e p
  all_goals exact .other _
 case BoolOp op es p=>
  rcases es with _|⟨a,_|⟨b,_|⟨c,_|⟨_,_⟩⟩⟩⟩
  case cons.cons.nil=>
   cases op
   ·exact .and a b p
   ·exact .or a b p
  case cons.cons.cons.nil=>
   cases op
   ·exact .other _
   ·exact .or3 a b c p
  all_goals exact .other _
 case Compare l ops rs p=>
  rcases ops with _|⟨o1,_|⟨o2,_|⟨N,_|⟨_,_⟩⟩⟩⟩<;>rcases rs with _|⟨u,_|⟨Y,_|⟨O,_|⟨_,_⟩⟩⟩⟩<;>first|exact .cmp l o1 u p|exact .M0 l o1 o2 u Y p|exact .M1 l o1 o2 N u Y O p|exact .other _
 case IfExp t a b p=>exact .ite t a b p
 case Tuple es k p=>exact .tup es k p
 case List es p=>exact .list es p
 case Dict ks vs p=>
  rcases ks with _|⟨_|a,_|⟨_|c,_|⟨_,_⟩⟩⟩<;>rcases vs with _|⟨b,_|⟨d,_|⟨_,_⟩⟩⟩<;>first|exact .te p|exact .EW a b p|exact .EX a b c d p|exact .other _
 case Subscript v s p=>
  cases s
  case Slice a b c p2=>
   cases c
   case none=>
    cases a
    case none=>
     cases b
     case none=>exact .EY _ _ _
     case some b=>
      cases b
      case Constant c k p1=>
       cases c
       case int i=>exact .M3 v i k p1 p2 p
       all_goals exact .EY _ _ _
      all_goals exact .EY _ _ _
    case some a=>
     cases b
     case none=>
      cases a
      case Constant c k p1=>
       cases c
       case int i=>exact .mI v i k p1 p2 p
       all_goals exact .EY _ _ _
      all_goals exact .EY _ _ _
     case some=>exact .EY _ _ _
   case some=>exact .EY _ _ _
  case Constant c k p1=>
   cases c
   case int i=>exact .M4 v i k p1 p
   all_goals exact .EY _ _ _
  all_goals exact .EY _ _ _
 case ListComp elt gs sc p=>
  rcases gs with _|⟨⟨t,i,z,n⟩,_|⟨⟨Z,i2,q,j⟩,_|⟨_,_⟩⟩⟩
  ·exact .other _
  ·cases n with
   |ofNat n=>cases n with
    |zero=>exact .comp elt t i z sc p
    |succ n=>exact .other _
   |negSucc=>exact .other _
  ·cases n with
   |ofNat n=>cases n with
    |zero=>cases j with
     |ofNat j=>cases j with
      |zero=>
       cases z with
       |nil=>cases q with
        |nil=>exact .Ab elt t i Z i2 sc p
        |cons=>exact .other _
       |cons=>exact .other _
      |succ=>exact .other _
     |negSucc=>exact .other _
    |succ n=>exact .other _
   |negSucc=>exact .other _
  ·exact .other _
 case Call f args kw p=>
  cases kw with
  |nil=>
   cases f
   case Name x p1=>exact .call x p1 args p
   case Attribute o n ap=>exact .meth o n ap args p
   all_goals exact .other _
  |cons=>exact .other _
 all_goals exact .other _
set_option tactic.hygienic true in
noncomputable def nameOf:{e:lv}->EV e->Option (lm×cx):=λv=>by
 induction v
 case name x p=>exact some (x,p)
 all_goals exact On
noncomputable def oV:List lv->Option (List (lm×cx))
 |[]=>some []
 |e::es=>match nameOf (view e),oV es with
  |some x,some r=>some (x::r)
  |_,_=>none
noncomputable def IY(nm:Nm)(d:D)(ρ:ag)(H:aa)(Q:ag->aa->Prop)(o:Option (List (lm×cx))):Prop:=match o with
 |some xs=>if xs.all (λp=>n8 nm p.1)then(match d with
  |.tup ds=>xs.length=ds.length/\Q (ir (xs.map (·.1)) ds ρ) H
  |.fl ds=>xs.length=ds.length/\Q (ir (xs.map (·.1)) ds ρ) H
  |_=>False)else False
 |none=>False
set_option tactic.hygienic true in
noncomputable def IZ(nm:Nm)(ρ:ag)(H:aa)(d:D)(Q:ag->aa->Prop):{t:lv}->EV t->Prop:=λv=>by
 induction v
 case name x p=>exact if n8 nm x then Q (dJ x d ρ) H else False
 case tup es k p=>exact IY nm d ρ H Q (oV es)
 all_goals exact False
noncomputable abbrev rH(nm:Nm)(t:lv)(ρ:ag)(H:aa)(d:D)(Q:ag->aa->Prop):Prop:=IZ nm ρ H d Q (view t)
section
variable {U:Top}(X:Cx U)
inductive EZ(a:co)(H:aa)(Q:(aa->Prop)->List D->aa->Prop):Prop
 |list (ds:List D) (h:H a=some (.list ds)) (q:Q KT ds (rem H a))
 |dI (o:nh) (es:List (Int×D)) (h:H a=some (.ro o (.dI es))) (q:Q (λH'=>H' a=some (.ro o (.dI es))) (es.map λp=>.int p.1) H)
 |dT (o:nh) (c:Bool) (es:List (D×D)) (h:H a=some (.ro o (.dT c es))) (q:Q (λH'=>H' a=some (.ro o (.dT c es))) (es.map (·.1)) H)
 |KR (es:List (Int×D)) (h:H a=some (.dI es)) (q:∀o,Q (λH'=>H' a=some (.ro o (.dI es))) (es.map λp=>.int p.1) (upd H a (.ro o (.dI es))))
 |KS (c:Bool) (es:List (D×D)) (h:H a=some (.dT c es)) (q:∀o,Q (λH'=>H' a=some (.ro o (.dT c es))) (es.map (·.1)) (upd H a (.ro o (.dT c es))))
inductive aG(target:lv)(d:D)(H:aa)(Q:(aa->Prop)->List D->aa->Prop):Prop
 |seq (ds:List D) (e:d=.fl ds∨d=.tup ds) (q:Q KT ds H)
 |str (x y:lm) (p:cx) (et:target=.Name y p) (e:d=.str x) (q:Q KT (signs x) H)
 |ref (a:co) (e:d=.ref a) (q:EZ a H Q)
inductive aI(W:Nm->WE)(T:Nm->WB)(nm:Nm)(ρ:ag)(target elt:lv)(ifs:List lv)(scope:bB)(K:aa->Prop)(ds:List D)(H:aa)(Q:DQ):Prop
 |mk (I:List D->List D->aa->Prop) (keep:∀rest acc H,I rest acc H->K H/\acc.length≤ga) (d4:I ds [] H)
  (step:∀d rest acc H,I (d::rest) acc H->rH scope.names target (bS scope.names ρ) H d λbY H1=>(bS scope.names ρ).le bY/\(match ifs with
   |[]=>W scope.names elt bY H1 λy H3=>∃H4,H4.le H3/\I rest (acc++[y]) H4
   |[c]=>T scope.names c bY H1 λok H2=>if ok then W scope.names elt bY H2 λy H3=>∃H4,H4.le H3/\I rest (acc++[y]) H4 else∃H4,H4.le H2/\I rest acc H4
   |_=>False))
  (fin:∀acc H,I [] acc H->Q (.fl acc) H)
inductive M5(W:Nm->WE)(names:Nm)(bY:ag)(target elt:lv)(K:aa->Prop)(ds acc:List D)(H:aa)(Q:List D->aa->Prop):Prop
 |mk (I:List D->List D->aa->Prop) (keep:∀rest acc H,I rest acc H->K H/\acc.length≤ga) (d4:I ds acc H)
  (step:∀d rest acc H,I (d::rest) acc H->rH names target bY H d λCS H1=>bY.le CS/\W names elt CS H1 λy H3=>∃H4,H4.le H3/\I rest (acc++[y]) H4)
  (fin:∀acc H,I [] acc H->Q acc H)
inductive n9(W:Nm->WE)(nm:Nm)(ρ:ag)(t1 t2 i2 elt:lv)(scope:bB)(K:aa->Prop)(ds:List D)(H:aa)(Q:DQ):Prop
 |mk (I:List D->List D->aa->Prop) (keep:∀rest acc H,I rest acc H->K H) (d4:I ds [] H)
  (step:∀d rest acc H,I (d::rest) acc H->rH scope.names t1 (bS scope.names ρ) H d λbY H1=>(bS scope.names ρ).le bY/\W scope.names i2 bY H1 λd2 H2=>aG t2 d2 H2 λK2 MY H3=>M5 W scope.names bY t2 elt K2 MY acc H3 (I rest))
  (fin:∀acc H,I [] acc H->Q (.fl acc) H)
noncomputable abbrev WEs:=Nm->List lv->ag->aa->(List D->aa->Prop)->Prop
noncomputable abbrev WI:=Nm->lv->lv->ag->aa->((aa->Prop)->List D->aa->Prop)->Prop
set_option genInjectivity false in
set_option genCtorIdx false in
structure WP where
 e:Nm->WE
 b:Nm->WB
 es:WEs
 i:WI
noncomputable def Ac(name:lm)(H:aa)(Q:DQ)(a:D):Prop:=match a with
 |.obj _ C z=>if U.fld C name then(match z.lookup name with|some d=>Q d H|none=>False)else False
 |_=>False
noncomputable def wm(nm:Nm)(x:lm)(ρ:ag)(H:aa)(Q:DQ):Prop:=if under x then(if glob nm x&&x !=("__debug__":lm)then(match U.tups x with|some ds=>Q (.tup ds) H|none=>False)else False)
 else match ρ.lookup x with
  |some d=>Q d H
  |none=>False
noncomputable def oa(d:D)(Q:Bool->Prop):Prop:=match d with
 |.bool b=>Q b
 |_=>False
noncomputable def I0(H:aa)(Q:DQ)(a:D):Prop:=match a with
 |.int i=>Q (.int (-i)) H
 |_=>False
noncomputable def Ad(H:aa)(Q:DQ)(a:D):Prop:=match a with
 |.tup ds=>1≤ds.length/\ds.length≤ga/\Q (.tup (ds.drop 1)) H
 |_=>False
noncomputable def Ae(j:Nat)(H:aa)(Q:DQ)(a:D):Prop:=match a with
 |.tup (d::ds)=>if j==1 then Q (.tup [d]) H else False
 |.fl ds=>∃ns:List Int,ds=ns.map .int/\ns.length≤ga/\Q (.fl ((ns.take j).map .int)) H
 |_=>False
noncomputable def callC(n:Nat)(x:lm)(H:aa)(Q:DQ)(ds:List D)(o:Option co):Prop:=match o with
 |some f=>aY X n f ds H Q
 |none=>OJ X x ds H Q
noncomputable def known(x:lm):Bool:=(U.fn x).isSome||(n5.map t0).contains x
noncomputable def KU(n:Nat)(a:D)(z:aa->(List D->aa->Prop)->Prop)(H:aa)(Q:DQ)(o:Option co)(d:Option D):Prop:=match o,d with
 |some f,none=>z H λds H2=>aY X n f (a::ds) H2 Q
 |_,_=>False
noncomputable def I4(W:WE)(nm:Nm)(ρ:ag)(name:lm)(a:D)(H:aa)(Q:DQ)(args:List lv):Prop:=match args with
 |[]=>IV name a H Q
 |[e]=>IW (λH Q=>W e ρ H Q) name a H Q
 |[e,e']=>IX (λH Q=>W e ρ H Q) (λH Q=>W e' ρ H Q) name a H Q
 |_=>False
noncomputable def Sd(n:Nat)(P:WP)(nm:Nm)(ρ:ag)(name:lm)(args:List lv)(H:aa)(Q:DQ)(a:D):Prop:=match a with
 |.obj x C z=>KU X n (.obj x C z) (P.es nm args ρ) H Q (U.meth C name) (z.lookup name)
 |a=>I4 (P.e nm) nm ρ name a H Q args
set_option tactic.hygienic true in
noncomputable def tA(n:Nat)(P:WP)(nm:Nm)(ρ:ag)(H:aa)(Q:DQ):{e:lv}->EV e->Prop:=λv=>by
 induction v
 case name x p=>exact wm (U:=U) nm x ρ H Q
 case int i k p=>exact Q (.int i) H
 case str x k p=>exact Q (.str x) H
 case bool b k p=>exact Q (.bool b) H
 case none k p=>exact Q .none H
 case attr v name p=>exact if tw v then P.e nm v ρ H λa H1=>Ac (U:=U) name H1 Q a else False
 case bin l op r p=>exact P.e nm l ρ H λa H1=>P.e nm r ρ H1 λb H2=>BinOp op a b H2 Q
 case neg e p=>exact P.e nm e ρ H λa H1=>I0 H1 Q a
 case and a b p=>exact P.e nm a ρ H λd H1=>oa d λc=>if c then P.e nm b ρ H1 Q else Q (.bool false) H1
 case cmp l op r p=>exact if p9 op r then False else P.e nm l ρ H λa H1=>P.e nm r ρ H1 λb H2=>mx op a b H2 λc z=>Q (.bool c) z
 case ite t a b p=>exact P.b nm t ρ H λc H1=>if c then P.e nm a ρ H1 Q else P.e nm b ρ H1 Q
 case tup es k p=>exact P.es nm es ρ H λds H'=>ds.length≤ga/\Q (.tup ds) H'
 case list es p=>exact P.es nm es ρ H λds H'=>ds.length≤ga/\∀a,H' a=none->Q (.ref a) (upd H' a (.list ds))
 case te p=>exact∃c0,D0 c0/\∀a,H a=none->Q (.ref a) (upd H a c0)
 case EW ek ev p=>exact∃c0,D0 c0/\∀a,H a=none->P.e nm ek ρ (upd H a c0) λx H1=>P.e nm ev ρ H1 λy H2=>iR a x y H2 λz=>Q (.ref a) z
 case EX ek ev KA Ox p=>exact∃c0,D0 c0/\∀a,H a=none->P.e nm ek ρ (upd H a c0) λx H1=>P.e nm ev ρ H1 λy H2=>P.e nm KA ρ H2 λj z=>P.e nm Ox ρ z λu Z=>iR a x y Z λY=>iR a j u Y λq=>Q (.ref a) q
 case mI v i k p1 p2 p=>exact if i==1 then P.e nm v ρ H λa H1=>Ad H1 Q a else False
 case M3 v i k p1 p2 p=>exact if decide (0≤i)then P.e nm v ρ H λa H1=>Ae i.toNat H1 Q a else False
 case M4 v i k p1 p=>exact P.e nm v ρ H λa H1=>IQ a i H1 Q
 case EY v s p=>exact P.e nm v ρ H λa H1=>P.e nm s ρ H1 λb H2=>Itm a b H2 Q
 case comp elt t i ifs sc p=>exact if ik nm sc&&bh i then P.i nm t i ρ H λK ds H'=>aI P.e P.b nm ρ t elt ifs sc K ds H' Q else False
 case Ab elt t1 i1 t2 i2 sc p=>exact if ik nm sc&&bh i1&&bh i2 then P.i nm t1 i1 ρ H λK ds H'=>n9 P.e nm ρ t1 t2 i2 elt sc K ds H' Q else False
 case call x p1 args p=>exact if glob nm x&&args.all bh&&x !=("__name__":lm)&&x !=("__debug__":lm)&&known (U:=U) x then P.es nm args ρ H λds H'=>callC X n x H' Q ds (U.fn x)else False
 case meth o name apos args pos=>exact if tw o&&args.all bh&&apos.endLine==pos.line&&decide (args.length<30)then P.e nm o ρ H λa H1=>Sd X n P nm ρ name args H1 Q a else False
 all_goals exact False
set_option tactic.hygienic true in
noncomputable def Af(P:WP)(nm:Nm)(ρ:ag)(H:aa)(Q:BQ):{e:lv}->EV e->Prop:=λv=>by
 induction v
 case and a b p=>exact P.b nm a ρ H λx H1=>if x then P.b nm b ρ H1 Q else Q false H1
 case or a b p=>exact P.b nm a ρ H λx H1=>if x then Q true H1 else P.b nm b ρ H1 Q
 case or3 a b c p=>exact P.b nm a ρ H λx H1=>if x then Q true H1 else P.b nm b ρ H1 λy H2=>if y then Q true H2 else P.b nm c ρ H2 Q
 case not e p=>exact P.b nm e ρ H λb H'=>Q (!b) H'
 case cmp l op r p=>exact if p9 op r then False else P.e nm l ρ H λa H1=>P.e nm r ρ H1 λb H2=>mx op a b H2 Q
 case M0 l o1 o2 r1 r2 p=>exact if Cz [o1,o2] [r1,r2]then False else P.e nm l ρ H λa H1=>P.e nm r1 ρ H1 λb H2=>mx o1 a b H2 λc z=>if c then P.e nm r2 ρ z λd u=>mx o2 b d u Q else Q false z
 case M1 l o1 o2 o3 r1 r2 r3 p=>exact if Cz [o1,o2,o3] [r1,r2,r3]then False else P.e nm l ρ H λa H1=>P.e nm r1 ρ H1 λb H2=>mx o1 a b H2 λc z=>if c then P.e nm r2 ρ z λd u=>mx o2 b d u λc j=>if c then P.e nm r3 ρ j λe q=>mx o3 d e q Q else Q false j else Q false z
 case name x p=>exact P.e nm (.Name x p) ρ H λd H'=>oa d λb=>Q b H'
 case call x p1 args p=>exact P.e nm (.Call (.Name x p1) args [] p) ρ H λd H'=>oa d λb=>Q b H'
 case meth o name apos args pos=>exact P.e nm (.Call (.Attribute o name apos) args [] pos) ρ H λd H'=>oa d λb=>Q b H'
 all_goals exact False
noncomputable def M6(P:WP)(nm:Nm)(es:List lv)(ρ:ag)(H:aa)(Q:List D->aa->Prop):Prop:=match es with
 |[]=>Q [] H
 |e::es=>if bh e then P.e nm e ρ H λd H1=>P.es nm es ρ H1 λds H2=>Q (d::ds) H2 else False
noncomputable def M7(H:aa)(Q:(aa->Prop)->List D->aa->Prop)(d:D):Prop:=∃m:Nat,d=.int m/\m≤1000000/\Q KT ((pc m).map λi:Nat=>D.int (i:Int)) H
noncomputable def Ag(H:aa)(Q:(aa->Prop)->List D->aa->Prop)(d:D):Prop:=match d with
 |.tup ds=>Q KT (numbered ds 0) H
 |_=>False
noncomputable def isTup(e:lv):Bool:=e.ctorIdx==25
noncomputable def Ah(P:WP)(nm:Nm)(t:lv)(ρ:ag)(H:aa)(Q:(aa->Prop)->List D->aa->Prop)(x:lm)(z:cx)(p:cx)(args:List lv):Prop:=match args with
 |[a]=>
  if x==("range":lm)then(if glob nm x&&bh a then P.e nm a ρ H λd H1=>M7 H1 Q d else False)
  else if x==("enumerate":lm)then(if isTup t&&(glob nm x&&bh a)then P.e nm a ρ H λd H1=>Ag H1 Q d else False)
  else P.e nm (.Call (.Name x z) [a] [] p) ρ H λd H1=>aG t d H1 Q
 |args=>P.e nm (.Call (.Name x z) args [] p) ρ H λd H1=>aG t d H1 Q
set_option tactic.hygienic true in
noncomputable def stepI(P:WP)(nm:Nm)(t:lv)(ρ:ag)(H:aa)(Q:(aa->Prop)->List D->aa->Prop)(dflt:Prop):{e:lv}->EV e->Prop:=λv=>by
 induction v
 case call x p1 args p=>exact Ah P nm t ρ H Q x p1 p args
 case ite c a b p=>exact P.b nm c ρ H λx H1=>if x then P.e nm a ρ H1 λd H2=>aG t d H2 Q else P.e nm b ρ H1 λd H2=>aG t d H2 Q
 all_goals exact dflt
noncomputable def wp(n:Nat):Nat->WP
 |0=>⟨λ_ _ _ _ _=>False,λ_ _ _ _ _=>False,λ_ _ _ _ _=>False,λ_ _ _ _ _ _=>False⟩
 |k+1=>⟨λnm e ρ H Q=>tA X n (wp n k) nm ρ H Q (view e),λnm e ρ H Q=>Af (wp n k) nm ρ H Q (view e),M6 (wp n k),λnm t e ρ H Q=>stepI (wp n k) nm t ρ H Q ((wp n k).e nm e ρ H λd H1=>aG t d H1 Q) (view e)⟩
noncomputable abbrev vh(n k:Nat):Nm->WE:=(wp X n k).e
noncomputable abbrev OK(n k:Nat):Nm->WB:=(wp X n k).b
noncomputable abbrev E0(n k:Nat):WEs:=(wp X n k).es
noncomputable abbrev wpI(n k:Nat):WI:=(wp X n k).i
end
end
section
section
variable {U:Top}{X:Cx U}{G:Fc X.B}{ρ:ag}{H:aa}{nm:Nm}{n:Nat}
theorem dB.hh(f:dB G nm n):G.A.handled=none:=f.room.1
theorem dB.un(f:dB G nm n):G.A.units+130<cLine:=by
 have:=f.room.2.2;have hc:cA=9900:=rfl;exact WC this hc
theorem BW{c:Bool}{P R G:Prop}(f:c=true->P->G)(g:R->G):(if c=true then P else R)->G:=by
 cases c with
 |true=>exact f rfl
 |false=>exact g
theorem Itm.ok{u j:lv}{a b:D}{Q:DQ}(f:dB G nm n)(h:Itm a b H Q):V2 G ρ H (bc u j) a b Q:=by
 cases a with
 |tup l=>exact pR h λi d z e hz q=>z▸V2.HF e q hz
 |fl l=>exact pR h λi d z e hz q=>z▸V2.Ma e q hz
 |str x=>exact pR h λi d z e hi q=>z▸V2.IK e q hi
 |ref a=>
  cases h with
  |list ds i d z h e hz q=>exact z▸V2.listItem h e q hz
  |dI es k d z h e q=>exact z▸V2.Kx (iQ _) h e q
  |dS es k d z h e q=>exact z▸V2.Kx (kindS _) h e q
  |dT c es d h hk e q=>exact V2.Ri f.room h hk e q
 |_=>exact h.elim
theorem V2.E1{z Y:lv}{ds:List D}{i:Nat}{d:D}{Q:DQ}(h:ds[i]?=some d)(q:Q d H)(hi:i<1000):V2 G ρ H (bc z Y) (.tup ds) (.int i) Q:=λF u v O rv s S L=>
 O.el λa vs n e r=>rv.el λt=>ah (r.get h) λx Z rx=>
  gR ⟨_,(S.fz _ _ e).1,rfl⟩ eP.lookup (oq (j:=i) ⟨_,(S.fz _ _ e).1,rfl,_,rfl⟩ (i63 i) (Pa (bW.mpr hi) (by decide)) (Dx (ww.mp Z).1) (Ch▸Z) (.here rx S L q))
theorem IQ.ok{z u:lv}{a:D}{i:Int}{Q:DQ}(f:dB G nm n)(h:IQ a i H Q):V2 G ρ H (bc z u) a (.int i) Q:=by
 cases a with
 |tup ds=>
  have h:Sa ds[i.toNat]? i H Q:=h;cases e:ds[i.toNat]? with
  |none=>rw[e]at h;exact h.elim
  |some d=>
   rw[e]at h;refine BW (λhc h'=>?_) Ps h;have⟨h1,q⟩:=sB.mp hc;obtain⟨j,rfl⟩:=kJ (of_decide_eq_true h1);exact V2.E1 e h' (bW.mp (of_decide_eq_true q))
 |_=>exact Itm.ok f h
theorem IT.ok{a b:D}{Q:DQ}(h:IT a b H Q):V2 G ρ H (i4 .Add) a b Q:=by
 cases a with
 |tup l=>cases b with
  |tup m=>exact V2.Mu h.1 h.2
  |_=>exact Ps h
 |ref l=>cases b with
  |ref m=>exact pR h λds es h1 z hz q=>V2.HP h1 z hz q
  |_=>exact Ps h
 |fl l=>cases b with
  |ref m=>exact bt h λes z hz q=>V2.Bp z hz q
  |_=>exact Ps h
 |_=>exact Ps h
theorem BinOp.ok{op:UU}{a b:D}{Q:DQ}(h:Mine.Tactic.BinOp op a b H Q):V2 G ρ H (i4 op) a b Q:=by
 cases op with
 |Add=>exact jy h (λi j h=>V2.add h) IT.ok
 |Sub=>exact jy h (λi j h=>V2.sub h) Ps
 |Mod=>exact jy h (λi j h=>V2.mod h.1 h.2) Ps
 |Mult=>exact jy h (λi j h=>V2.mul h.1 h.2) Ps
 |_=>exact Ps h
theorem xm.ok{k a:D}{Q:BQ}(f:dB G nm n)(h:xm k a H Q):V2 G ρ H (M2 .In) k a λd H'=>∃c,d=.bool c/\Q c H':=by
 have u:=f.un;cases h with
 |dI l es i z Z h q=>subst z;subst Z;exact V2.dIn (iQ _) X.K h ⟨_,rfl,q⟩
 |dT l c es z h hk q=>subst z;exact V2.tIn X.K f.room h hk ⟨_,rfl,q⟩
 |list m S T ds ha Y hx hn q=>exact V2.MW T ha Y hx (Bh u hn) λr j=>⟨_,rfl,q r j⟩
theorem i9.ok{k a:D}{Q:BQ}(f:dB G nm n)(h:i9 k a H Q):V2 G ρ H (M2 .NotIn) k a λd H'=>∃c,d=.bool c/\Q c H':=by
 have z:=f.un;cases h with
 |dI l es i Z Y h q=>subst Z;subst Y;exact V2.Mx (iQ _) X.K h ⟨_,rfl,q⟩
 |list m S T ds ha j hx hn q=>exact V2.BP T ha j hx (Bh z hn) λr u=>⟨_,rfl,q r u⟩
theorem OI.ok{a b:D}{Q:BQ}(f:dB G nm n)(h:OI a b H Q):V2 G ρ H (M2 .Eq) a b λd H'=>∃c,d=.bool c/\Q c H':=by
 have Z:=f.un;cases h with
 |lists m S T ds es ha Y j u hn q=>exact V2.IC T ha Y j u (Bh Z hn) λr z=>⟨_,rfl,q r z⟩
 |tups m S T ds es ha Y j u hn q=>subst ha;subst Y;exact V2.MV T j u (Bh Z hn) λr z=>⟨_,rfl,q r z⟩
theorem IU.ok{a b:D}{Q:BQ}(f:dB G nm n)(h:IU a b H Q):V2 G ρ H (M2 .NotEq) a b λd H'=>∃c,d=.bool c/\Q c H':=by
 have z:=f.un;cases h with
 |lists m S T ds es ha Z Y j hn q=>exact V2.IB T ha Z Y j (Bh z hn) λr u=>⟨_,rfl,q r u⟩
theorem LtG.ok{a b:D}{Q:BQ}(f:dB G nm n)(h:∃(n:Nat)(S:D->Prop),aB n S/\S a/\S b/\n≤100/\∀r,f9 n a b=some r->Q r H):V2 G ρ H (M2 .Lt) a b λd H'=>∃c,d=.bool c/\Q c H':=by
 have z:=f.un;obtain⟨m,S,T,ha,j,hn,q⟩:=h;exact V2.Ik T ha j (WD z hn) λr u=>⟨_,rfl,q r u⟩
theorem mx.ok{op:Cy}{a b:D}{Q:BQ}(f:dB G nm n)(h:mx op a b H Q):V2 G ρ H (M2 op) a b λd H'=>∃c,d=.bool c/\Q c H':=by
 cases op with
 |Lt=>exact jy h (λi j h=>V2.lt ⟨_,rfl,h⟩) (LtG.ok f)
 |LtE=>exact jy h (λi j h=>V2.le ⟨_,rfl,h⟩) Ps
 |Gt=>exact jy h (λi j h=>V2.gt ⟨_,rfl,h⟩) Ps
 |GtE=>exact jy h (λi j h=>V2.ge ⟨_,rfl,h⟩) Ps
 |Eq=>exact jy h (λi j h=>V2.eq ⟨_,rfl,h⟩) λh=>yC h (λi j h=>V2.R6 ⟨_,rfl,h⟩) (OI.ok f)
 |NotEq=>exact jy h (λi j h=>V2.ne ⟨_,rfl,h⟩) λh=>yC h (λi j h=>V2.R7 ⟨_,rfl,h⟩) (IU.ok f)
 |In=>exact yC h (λi j h=>V2.R8 ⟨_,rfl,h⟩) (xm.ok f)
 |NotIn=>exact i9.ok f h
 |Is=>exact ES h λh=>V2.isNone ⟨_,rfl,h⟩
 |IsNot=>exact ES h λh=>V2.isNotNone ⟨_,rfl,h⟩
theorem g7.ok{d:D}{Q:DQ}(f:dB G nm n)(h:g7 d H Q):Vn G ρ H (λvs=>call (.builtin "len") vs) [d] Q:=by
 cases h with
 |tup ds e hz q=>subst e;exact Vn.Mv hz q
 |fl ds e hz q=>subst e;exact Vn.Rd hz q
 |list a ds e h hz q=>subst e;exact Vn.HQ h hz q
 |set a ds e h hz q=>subst e;exact Vn.MM h hz q
theorem Src.ok{d:D}{P:List D->Prop}{F:aw}{u:bm}{q:List D->aa->Prop}(h:Src d H P)(r:R F u d)(hq:∀ds,P ds->q ds H):nS G ρ H F u q:=by
 cases h with
 |fl ds e hz p=>exact .fl (e▸r) hz (hq _ p)
 |list a ds e h hz p=>exact(e▸r:R F u (.ref a)).el (.list h hz (hq _ p))
 |keys a es e h hz p=>exact(e▸r:R F u (.ref a)).el (.keys (iQ _) X.K h hz (hq _ p))
 |items v a es e hv h hz p=>exact(e▸r:R F u (.ref v)).el (.items (iQ _) hv h hz (hq _ p))
 |set a ds e h hz p=>exact(e▸r:R F u (.ref a)).el (.set h hz λz hp=>hq _ (p z hp))
theorem dM.ok{d:D}{Q:DQ}(f:dB G nm n)(h:dM X d H Q):Vn G ρ H (λvs=>call (.builtin "sorted") vs) [d] Q:=by
 have Y:=f.un;cases h with
 |nums ns e j q=>exact Vn.rn (.inl e) j q
 |ET a ns e h j q=>exact Vn.rn (.inr ⟨a,e,h⟩) j q
 |Sb m S κ K T hn s=>exact Vn.sortedBy (q:=λds H'=>∀z,z.Perm ds->z.Pairwise (Ik m)->Q (.fl z) H') K T f.hh (Bh Y hn) (λF u r=>Src.ok s r λds p=>p) λds z H' q p hp=>q z p hp
theorem rG.ok{d:D}{Q:DQ}(f:dB G nm n)(h:rG d H Q):Vn G ρ H (λvs=>call (.type "dict") vs) [d] Q:=by
 cases h with
 |copy a es e h hz q=>subst e;exact Vn.Rh (iQ _) X.K h hz q
 |ofI ps e hn q=>exact Vn.dictOf (iQ _) f.hh e hn q
 |ofS ps e hn q=>exact Vn.dictOf (kindS _) f.hh e hn q
theorem n6.ok{d:D}{Q:DQ}(f:dB G nm n)(h:n6 d H Q):Vn G ρ H (λvs=>call (.type "set") vs) [d] Q:=by
 have z:=f.un;cases h with
 |nums xs e hn hx q=>subst e;exact Vn.zZ Iy f.hh (Pw z) hn hx q
 |tups xs S T ht e hn hx q=>subst e;exact Vn.zZ (Iv T ht) f.hh (Pw z) hn hx q
theorem OJ.ok{x:lm}{ds:List D}{Q:DQ}(f:dB G nm n)(h:OJ X x ds H Q):∃v,bp x=some v/\((∃id,v=.builtin id)∨∃id,v=.type id)/\Vn G ρ H (λvs=>call v vs) ds Q:=by
 rcases ds with _|⟨d,_|⟨_,_⟩⟩
 ·exact h.elim
 ·have z:∀{y:lm}{id:String}{P:Prop},bp y=some (.builtin id)->(P->Vn G ρ H (λvs=>call (.builtin id) vs) [d] Q)->(x==y)=true->P->∃v,bp x=some v/\((∃id,v=.builtin id)∨∃id,v=.type id)/\Vn G ρ H (λvs=>call v vs) [d] Q:=λj k e p=>⟨_,beq_iff_eq.mp e▸j,.inl ⟨_,rfl⟩,k p⟩;have u:∀{y:lm}{id:String}{P:Prop},bp y=some (.type id)->(P->Vn G ρ H (λvs=>call (.type id) vs) [d] Q)->(x==y)=true->P->∃v,bp x=some v/\((∃id,v=.builtin id)∨∃id,v=.type id)/\Vn G ρ H (λvs=>call v vs) [d] Q:=λj k e p=>⟨_,beq_iff_eq.mp e▸j,.inr ⟨_,rfl⟩,k p⟩;refine BW (z rfl (g7.ok f)) (BW (z rfl (dM.ok f)) (BW (z rfl λ⟨ns,e,h0,hs,q⟩=>e▸Vn.sum f.hh h0 hs q) (BW (z rfl λ⟨ns,e,h0,q⟩=>e▸Vn.min f.hh h0 q) (BW (z rfl λ⟨ns,e,h0,q⟩=>e▸Vn.max f.hh h0 q)
   (BW (u rfl λ⟨l,Y,hz,q⟩=>Y.elim (λe=>e▸Vn.Mw q) λe=>e▸Vn.Rg hz q) (BW (u rfl λh=>?_) (BW (u rfl (rG.ok f)) (BW (u rfl (n6.ok f)) (BW (u rfl λh=>?_) (BW (z rfl λh=>?_) Ps)))))))))) h
  ·cases d<;>first|exact Vn.HR h.1 h.2|exact h.elim
  ·cases d<;>first|exact Vn.reversed h|exact h.elim
  ·cases d<;>first|exact Vn.abs h|exact h.elim
 ·exact h.elim
theorem eV.ok{a:co}{k v:D}{Q:aa->Prop}(f:dB G nm n)(h:eV a k v H Q):xO G ρ H (.ref a) k v Q:=by
 cases h with
 |list ds i z h hi hz q=>subst z;exact xO.list h hi hz q
 |dI es i z h hz q=>subst z;exact xO.dict (iQ _) h hz q
 |dS es i z h hz q=>subst z;exact xO.dict (kindS _) h hz q
 |dT c es h hk hz q=>exact xO.Rj f.room h hk hz q
theorem iR.ok{a:co}{k v:D}{Q:aa->Prop}(f:dB G nm n)(h:iR a k v H Q):nQ G ρ H a k v Q:=by
 cases h with
 |dI es i z h hz q=>subst z;exact nQ.v (iQ _) h hz q
 |dS es i z h hz q=>subst z;exact nQ.v (kindS _) h hz q
 |dT c es h hk hz q=>exact nQ.t f.room h hk hz q
theorem D0.ok{c0:ao}(h:D0 c0):∀F(s:bv),cM X.B.prog X.B.w F (s.heap.push {cls:=.type "dict",data:=.dict #[]}) s.heap.objs.size c0:=λF s=>by
 cases h with
 |dI=>exact q7 (iQ _)
 |dS=>exact q7 (kindS _)
 |dT c=>exact D1 c
end
end
section
theorem gL{e:lv}{es:List lv}{env:vm}(h:bh e=true):Do (e::es) env=(false,eval e env)::Do es env:=by
 cases e<;>first|rfl|cases h
theorem jQ{es:List lv}{env:vm}{z:cx}(h:es.all bh=true):(Wp z (Do es env)).any (·.1)=false/\(Wp z (Do es env)).all (λx=>!x.1)=true:=by
 induction es with
 |nil=>exact⟨rfl,rfl⟩
 |cons e es ih=>
  rw[List.all_cons,u8]at h;refine(gL h.1)▸?_;refine dv (ih h.2) λa b=>?_;exact⟨by show(false||(Wp z (Do es env)).any (·.1))=false;rw[a];rfl,by show(true&&(Wp z (Do es env)).all (λx=>!x.1))=true;rw[b];rfl⟩
theorem Se{e:lv}{env:vm}(h:bh e=true)(z:cx):Wp z (Do [e] env)=[(false,eval e env)]:=by rw[gL h];rfl
theorem Sf{e e':lv}{env:vm}(h:bh e=true)(h':bh e'=true)(z:cx):Wp z (Do [e,e'] env)=[(false,eval e env),(false,eval e' env)]:=by rw[gL h,gL h'];rfl
theorem BX{e:lv}{x:lm×cx}(v:EV e)(h:nameOf v=some x):e=.Name x.1 x.2:=by
 induction v
 case name=>cases h;rfl
 all_goals exact eZ h
theorem qq:∀{es:List lv}{xs:List (lm×cx)},oV es=some xs->es=xs.map λp=>cf p.1 p.2
 |[],xs,h=>by cases h;rfl
 |e::es,xs,h=>by
  have h:(match nameOf (view e),oV es with|some x,some r=>some (x::r)|_,_=>none)=some xs:=h;generalize a:nameOf (view e)=o at h;generalize b:oV es=o' at h;cases o with
  |none=>exact eZ h
  |some x=>cases o' with
   |none=>exact eZ h
   |some r=>cases h;rw[BX _ a,qq b];rfl
section
variable {U:Top}{X:Cx U}{G:Fc X.B}{ρ:ag}{H:aa}{nm:Nm}{n:Nat}
theorem dB.vf(f:dB G nm n){x:lm}(h:n8 nm x=true):G.St x:=by
 unfold n8 at h;rw[eG,beq_iff_eq,beq_iff_eq]at h;exact f.st h
theorem dO{c:Bool}{P:Prop}(h:if c=true then P else False):c=true/\P:=by
 cases c with
 |true=>exact⟨rfl,h⟩
 |false=>exact h.elim
theorem Ai{c:Bool}{P:Prop}(h:if c=true then False else P):c=false/\P:=by
 cases c with
 |true=>exact h.elim
 |false=>exact⟨rfl,h⟩
theorem IY.ok{es:List lv}{k p}{d:D}{Q:ag->aa->Prop}(f:dB G nm n)(h:IY nm d ρ H Q (oV es)):HA G ρ H (.Tuple es k p) d Q:=by
 cases e:oV es with
 |none=>rw[e]at h;exact h.elim
 |some xs=>
  rw[e]at h;obtain⟨hs,h⟩:=dO h;refine(qq e)▸?_;have hx:∀p∈xs,G.St p.1:=λp hp=>f.vf (ut.mp hs p hp);cases d with
  |tup=>exact HA.tup f.hh h.1 hx h.2
  |fl=>exact HA.fl f.hh h.1 hx h.2
  |_=>exact h.elim
set_option tactic.hygienic true in
theorem IZ.ok{t:lv}{d:D}{Q:ag->aa->Prop}(f:dB G nm n)(v:EV t)(h:IZ nm ρ H d Q v):HA G ρ H t d Q:=by
 induction v
 case name x p=>have h:=dO h;exact HA.name (f.vf h.1) h.2
 case tup es k p=>exact IY.ok f h
 all_goals exact h.elim
theorem rH.ok{t:lv}{d:D}{Q:ag->aa->Prop}(f:dB G nm n)(h:rH nm t ρ H d Q):HA G ρ H t d Q:=IZ.ok f _ h
theorem CT{c:lm}{x:lm}{P R G:Prop}(h:if(x==c)=true then P else R)(f:x=c->P->G)(g:R->G):G:=BW (λe=>f (beq_iff_eq.mp e)) g h
theorem IV.ok{name:lm}{a:D}{Q:DQ}(f:dB G nm n)(h:IV name a H Q):VM G ρ H name a [] Q:=by
 cases a with
 |ref l=>exact CT h (λe⟨ds,d,h,hz,q⟩=>e▸VM.pop h hz q) λh=>CT h (λe z=>ah z λes h q=>e▸VM.MH (iQ _) X.K h q) Ps
 |str=>exact CT h (λe h=>e▸VM.isspace h) Ps
 |_=>exact h.elim
theorem Ext.ok{W:DQ->Prop}{e:lv}{l:co}{Q:DQ}(f:dB G nm n)(hp:∀z,Wp z (Do [e] G.env)=[(false,eval e G.env)])(w:∀Q,W Q->HE G ρ H e Q)(h:Ext W l H Q):VM G ρ H "extend" (.ref l) [e] Q:=by
 cases h with
 |fl h0 h=>exact VM.DU h0 (w _ h) hp
 |list h0 h=>exact VM.xV (l2:=l) h0 (w _ h) hp
 |tup h0 h=>exact VM.Bo h0 (w _ h) hp
 |rev h0 h=>exact VM.BS f.hh h0 (w _ h) hp
theorem IW.ok{W:aa->DQ->Prop}{e:lv}{name:lm}{a:D}{Q:DQ}(f:dB G nm n)(hp:bh e=true)(w:∀H Q,W H Q->HE G ρ H e Q)(h:IW W name a H Q):VM G ρ H name a [e] Q:=by
 have ht:=λz=>Se (env:=G.env) hp z;cases a with
 |ref l=>exact CT h (λe h=>e▸VM.append h.1 (w _ _ h.2) ht) λh=>CT h (λe h=>e▸Ext.ok f ht (w _) h) λh=>CT h (λe j=>dv j λ⟨es,h0⟩ h=>e▸VM.aaX (iQ _) h0 (w _ _ h) ht) λh=>CT h (λe h=>e▸VM.BR h.1 (w _ _ h.2) ht) λh=>CT h (λe u=>dW u λc es h0 h=>e▸VM.HW X.K f.room h0 (w _ _ h) ht) Ps
 |_=>exact h.elim
theorem IX.ok{O Z:aa->DQ->Prop}{e e':lv}{name:lm}{a:D}{Q:DQ}(f:dB G nm n)(hp:bh e=true)(N:bh e'=true)(w1:∀H Q,O H Q->HE G ρ H e Q)(w2:∀H Q,Z H Q->HE G ρ H e' Q)(h:IX O Z name a H Q):VM G ρ H name a [e,e'] Q:=by
 have ht:=λz=>Sf (env:=G.env) hp N z;cases a with
 |ref l=>exact CT h (λe qQ=>dv qQ λ⟨es,h0⟩ h=>e▸VM.aaW (kindS _) X.K h0 ((w1 _ _ h).mono λY H1 h=>(w2 _ _ h).mono λd2 H2 E2=>Qq E2 λk es d h1 q j u=>(jo k es h1 q (j▸u))) ht) λh=>CT h (λe HN=>dW HN λc es h0 h=>e▸VM.x8 X.K f.room h0 ((w1 _ _ h).mono λY H1 h=>(w2 _ _ h).mono λd2 H2 Iw=>Qm Iw λes C h1 q j u h5 h6=>⟨es,h1,q,j,by
   cases e:ke es Y with
   |some d=>exact h6 _ _ (u d e)
   |none=>exact h6 _ _ (h5 e)⟩) ht) Ps
 |_=>exact h.elim
theorem qO.up{F F':aw}{t:lv}{it:bm}{s:bv}{Q z:(aa->Prop)->List D->aa->Prop}(p:qO G F' ρ t Q it s)(k:F.le F')(hq:∀K ds H',Q K ds H'->z K ds H'):qO G F ρ t z it s:=
 let⟨K,I,fp,wr,ds,F',H',St,N,k',O,Z,Y,q,j,u,x⟩:=p
 ⟨K,I,fp,wr,ds,F',H',St,N,k.trans k',O,Z,Y,q,j,u,hq _ _ _ x⟩
theorem VI.list{target:lv}{a:co}{ds:List D}{Q:(aa->Prop)->List D->aa->Prop}(j:G.A.handled=none)(h:H a=some (.list ds))(q:Q KT ds (rem H a)):VI G ρ H target (.ref a) Q:=λF u r s S L=>by
 refine R.el r ?_;refine cut λZ z=>?_;refine dW ((S.hp _ _ h).1) λvs n e r=>?_;obtain⟨Y,k⟩:=Mine.Tactic.az.qY S h e;refine z ?_;exact f8 (VI.fl (Q:=Q) (target:=target) j q _ _ (.fl (aM _ _ _) (r.mono k)) s Y (L.keep k λ_ _ _ e=>e)) (λit s' p=>p.up k λ_ _ _ x=>x) λ_ _ e=>e
theorem aG.ok{t:lv}{d:D}{Q:(aa->Prop)->List D->aa->Prop}(f:dB G nm n)(h:aG t d H Q):VI G ρ H t d Q:=by
 cases h with
 |seq ds e h=>
  rcases e with rfl|rfl
  ·exact VI.fl f.hh h
  ·exact VI.tup f.hh h
 |str x y p z e h=>subst z;subst e;exact VI.str f.hh h
 |ref a e h=>
  subst e;cases h with
  |list ds h q=>exact VI.list f.hh h q
  |dI o es h q=>exact VI.keys (iQ _) X.K f.hh h q
  |dT o c es h q=>exact VI.Kz X.K f.hh h q
  |KR es h q=>exact VI.lock h λo=>VI.keys (iQ _) X.K f.hh (af _ _ _) (q o)
  |KS c es h q=>exact VI.lock h λo=>VI.Kz X.K f.hh (af _ _ _) (q o)
theorem HI.zD{c a b t:lv}{z:cx}{Q:(aa->Prop)->List D->aa->Prop}(h:HB G ρ H c λx H1=>if x then HE G ρ H1 a λd H2=>VI G ρ H2 t d Q else HE G ρ H1 b λd H2=>VI G ρ H2 t d Q):HI G ρ H t (.IfExp c a b z) Q:=
 HI.expr (HE.zD h)
end
end
section
section
variable {U:Top}{X:Cx U}
structure GQ(X:Cx U)(n k:Nat):Prop where
 e:∀{nm:Nm}{G:Fc X.B}{e:lv}{ρ:ag}{H:aa}{Q:DQ},dB G nm n->vh X n k nm e ρ H Q->HE G ρ H e Q
 b:∀{nm:Nm}{G:Fc X.B}{e:lv}{ρ:ag}{H:aa}{Q:BQ},dB G nm n->OK X n k nm e ρ H Q->HB G ρ H e Q
 es:∀{nm:Nm}{G:Fc X.B}{es:List lv}{ρ:ag}{H:aa}{Q:List D->aa->Prop},dB G nm n->E0 X n k nm es ρ H Q->mB G ρ H es Q
 i:∀{nm:Nm}{G:Fc X.B}{t e:lv}{ρ:ag}{H:aa}{Q:(aa->Prop)->List D->aa->Prop},dB G nm n->wpI X n k nm t e ρ H Q->HI G ρ H t e Q
theorem tB{x:lm}(h:(n5.map t0).contains x=true):∃y∈n5,t0 y=x:=by
 obtain⟨y,hy,e⟩:=lc.mp (List.contains_iff_mem.mp h);exact⟨y,hy,e⟩
theorem BY{c:Bool}{P Q u z:Prop}(h:if c=true then P else Q)(f:P->u)(g:Q->z):if c=true then u else z:=by
 cases c with
 |true=>exact f h
 |false=>exact g h
set_option tactic.hygienic true in
theorem oW{e:lv}{env:vm}{x:bm}(h:bh e=true):dF e env x=pure x:=by cases e<;>first|rfl|exact eR h
theorem HA.mono{G:Fc X.B}{t:lv}{a:D}{ρ:ag}{H:aa}{Q j:ag->aa->Prop}(h:HA G ρ H t a Q)(hq:∀z H',Q z H'->j z H'):HA G ρ H t a j:=
 λF u r s S L=>f8 (h F u r s S L) (λ_ s' p=>p.casesOn λF' z H' k S L q=>⟨F',z,H',k,S,L,hq _ _ q⟩) λ_ _ x=>x
theorem HI.mono{G:Fc X.B}{t e:lv}{ρ:ag}{H:aa}{Q z:(aa->Prop)->List D->aa->Prop}(h:HI G ρ H t e Q)(hq:∀K ds H',Q K ds H'->z K ds H'):HI G ρ H t e z:=
 λF s S L=>f8 (h F s S L) (λ_ s' p=>f8 p (λ_ _ p=>p.up (.refl _) hq) λ_ _ x=>x) λ_ _ x=>x
theorem aI.ok{n k:Nat}(S:GQ X n k){nm:Nm}{G:Fc X.B}(f:dB G nm n){t elt i:lv}{z:List lv}{sc:bB}{Z:cx}{ρ:ag}{K:aa->Prop}{ds:List D}{H:aa}{Q:DQ}(hc:ik nm sc=true)
  (h:aI (vh X n k) (OK X n k) nm ρ t elt z sc K ds H Q):mV G nm n t (.ListComp elt [⟨t,i,z,0⟩] sc Z) sc ρ K ds H Q:=by
 obtain⟨I,j,d4,step,O⟩:=h;refine⟨I,HK.one f hc j (λd u acc H G' Y N=>?_),d4,O⟩;refine HA.mono (rH.ok Y (step d u acc H N)) λbY H1 h=>⟨h.1,?_⟩;have q:=h.2;clear h step;rcases z with _|⟨c,_|_⟩
 ·exact S.e Y q
 ·exact(S.b Y q).mono λok H2 q=>BY q (S.e Y) id
 ·exact q.elim
theorem n9.ok{n k:Nat}(S:GQ X n k){nm:Nm}{G:Fc X.B}(f:dB G nm n){t1 t2 elt i1 Z:lv}{sc:bB}{Y:cx}{ρ:ag}{K:aa->Prop}{ds:List D}{H:aa}{Q:DQ}(hc:ik nm sc=true)(hp:bh Z=true)
  (h:n9 (vh X n k) nm ρ t1 t2 Z elt sc K ds H Q):mV G nm n t1 (.ListComp elt [⟨t1,i1,[],0⟩,⟨t2,Z,[],0⟩] sc Y) sc ρ K ds H Q:=by
 obtain⟨I,j,d4,step,N⟩:=h;refine⟨I,HK.two f hc j (λd z acc H G' f' O=>?_) (λenv x=>oW hp),d4,N⟩;refine HA.mono (rH.ok f' (step d z acc H O)) λbY H1 h=>⟨h.1,?_⟩;refine HI.expr ((S.e f' h.2).mono λd2 H2 q=>?_);exactλF u r s S' L=>f8 (aG.ok f' q F u r s S' L) (λit s' p=>p.up (.refl _) λK2 MY H3⟨I2,Aa,yB,EP,MZ⟩=>⟨I2,Aa,yB,λd z acc H G2 f2 O=>HA.mono (rH.ok f2 (EP d z acc H O)) λCS H2 h=>⟨h.1,S.e f2 h.2⟩,MZ⟩) λ_ _ e=>e
end
end
section
section
variable {U:Top}{X:Cx U}{n k:Nat}
theorem Ae.ok{j:Nat}{H:aa}{Q:DQ}{a:D}(h:Ae j H Q a):(j=1/\∃d ds,a=.tup (d::ds)/\Q (.tup [d]) H)∨∃ns:List Int,a=.fl (ns.map .int)/\ns.length≤ga/\Q (.fl ((ns.take j).map .int)) H:=by
 cases a with
 |tup ds=>cases ds with
  |nil=>exact h.elim
  |cons d ds=>have h:=dO h;exact .inl ⟨eq_of_beq h.1,d,ds,rfl,h.2⟩
 |fl ds=>obtain⟨ns,rfl,h⟩:=h;exact .inr (ak ns rfl h)
 |_=>exact h.elim
theorem I5{o:lv}{name:lm}{z:cx}{env:vm}(h:tw o=true):eval (.Attribute o name z) env=(do
   let o'←eval o env
   iZ z.atName
   let r←mM [o'] (getAttr o' name true)
   UZ o o' r
   pure r):=by cases o<;>first|rfl|exact eR h
theorem I6{o:lv}{name:lm}{env:vm}(h:tw o=true):attributeBase o name env (eval o env)=eval o env:=by cases o<;>first|rfl|exact eR h
theorem Cx.blt(X:Cx U){x:lm}(h:(n5.map t0).contains x=true):X.mg x=none:=by
 refine ah (tB h) λy hy z=>?_;subst z;exact X.nob y hy
theorem aY.vn{f:co}{ds:List D}{H:aa}{Q:DQ}{G:Fc X.B}{ρ:ag}{nm:Nm}(z:dB G nm n)(h:aY X n f ds H Q):Vn G ρ H (λvs=>call (.ref f) vs) ds Q:=h G ρ z.room
theorem Sg{x:lm}{p z:cx}{args:List lv}{nm:Nm}{f:co}{Q:DQ}{G:Fc X.B}{ρ:ag}{H:aa}(u:dB G nm n)(j:glob nm x=true)(hp:args.all bh=true)(hf:U.fn x=some f)(h1:x≠"__debug__")
  (h:mB G ρ H args λds H'=>aY X n f ds H' Q):HE G ρ H (.Call (.Name x p) args [] z) Q:=by
 have hx:nm.lookup x=some .globalImplicit:=by unfold glob at j;simpa using j
 have h':mB G ρ H args λds H'=>Vn G ρ H' (λvs=>call (.ref f) vs) ds Q:=λz F s S L=>f8 (h z F s S L) (λ_ _ p=>p.casesOn λF' ds H' k r S L q=>⟨F',ds,H',k,r,S,L,q.vn u⟩) λ_ _ x=>x;rcases X.kind _ _ hf with⟨⟨ps,b,sc⟩,hc⟩|⟨c,hc⟩
 ·exact HE.Mr X.K u hx (X.fns _ _ hf) (X.code _ _ _ _ hc).1 h' (jQ hp).1 (beq_eq_false_iff_ne.mpr h1) rfl
 ·exact HE.callC X.K u hx (X.fns _ _ hf) (X.make _ _ hc) h' (jQ hp).1 (beq_eq_false_iff_ne.mpr h1) rfl
theorem M8{x:lm}{p z:cx}{args:List lv}{nm:Nm}{Q:DQ}{G:Fc X.B}{ρ:ag}{H:aa}(u:dB G nm n)(Y:glob nm x=true)(hp:args.all bh=true)(j:(n5.map t0).contains x=true)(h1:x≠"__debug__")(Z:x≠"__name__")
  (h:mB G ρ H args λds H'=>OJ X x ds H' Q):HE G ρ H (.Call (.Name x p) args [] z) Q:=by
 have hx:nm.lookup x=some .globalImplicit:=by unfold glob at Y;simpa using Y
 have hv:(∃id,bp x=some (.builtin id))∨∃id,bp x=some (.type id):=by
  refine ah (tB j) λy hy O=>?_;subst O;simp only[n5,em,cH,or_false]at hy;rcases hy with rfl|rfl|rfl|rfl|rfl|rfl|rfl|rfl|rfl|rfl|rfl|rfl|rfl<;>first|exact .inl ⟨_,rfl⟩|exact .inr ⟨_,rfl⟩
 rcases hv with⟨id,hv⟩|⟨id,hv⟩
 ·exact HE.Ra X.K u hx (X.blt j) hv (λz F s S L=>f8 (h z F s S L) (λ_ _ p=>p.casesOn λF' ds H' k r S L q=>⟨F',ds,H',k,r,S,L,by
   obtain⟨v,e,_,w⟩:=OJ.ok u q;rw[hv]at e;cases e;exact w⟩) λ_ _ x=>x) (jQ hp).1 Z (beq_eq_false_iff_ne.mpr h1) rfl
 ·exact HE.Rb X.K u hx (X.blt j) hv (λz F s S L=>f8 (h z F s S L) (λ_ _ p=>p.casesOn λF' ds H' k r S L q=>⟨F',ds,H',k,r,S,L,by
   obtain⟨v,e,_,w⟩:=OJ.ok u q;rw[hv]at e;cases e;exact w⟩) λ_ _ x=>x) (jQ hp).1 Z (beq_eq_false_iff_ne.mpr h1) rfl
theorem nQ.mono{G:Fc X.B}{ρ:ag}{H:aa}{a:co}{k v:D}{Q z:aa->Prop}(h:nQ G ρ H a k v Q)(hq:∀H',Q H'->z H'):nQ G ρ H a k v z:=
 λF x y rx u A s q S L=>f8 (h F x y rx u A s q S L) (λ_ s' j=>bt j λH' a b c=>(cY H' a b (hq _ c))) λ_ _ x=>x
theorem mB.mono{G:Fc X.B}{es:List lv}{ρ:ag}{H:aa}{Q u:List D->aa->Prop}(h:mB G ρ H es Q)(hq:∀ds H',Q ds H'->u ds H'):mB G ρ H es u:=
 λz F s S L=>f8 (h z F s S L) (λ_ _ p=>p.casesOn λF' ds H' k r S L q=>⟨F',ds,H',k,r,S,L,hq _ _ q⟩) λ_ _ x=>x
theorem HB.I7{G:Fc X.B}{ρ:ag}{H:aa}{f:bm->bm->sY bm}{a b:D}{Q:BQ}{z:DQ}(h:V2 G ρ H f a b λd H'=>∃c,d=.bool c/\Q c H')(hq:∀c H',Q c H'->z (.bool c) H'):V2 G ρ H f a b z:=λF u v j rv=>(h F u v j rv).mono λd H' Y=>ah Y λc e q=>e▸hq c H' q
theorem I8{o:lv}{name:lm}{u z:cx}{args:List lv}{env:vm}(Y:tw o=true)(hp:args.all bh=true)(hl:(u.endLine==z.line)=true)(Z:args.length<30):eval (.Call (.Attribute o name u) args [] z) env=(do
   let j←eval o env
   iZ u.atName
   let(f,first)←mM [j] (O4 j name (do return(←importBound o env).getD true))
   l8 z f first (Wp z (Do args env)) (i6 z (eL [] env))):=by
 have O:Vf (args.length+([]:List Keyword).length) (Wp z (Do args env)) (i6 z (eL [] env))=true:=by
  unfold Vf;rw[(jQ hp).2];rw[show i6 z (eL [] env)=[]from rfl];simp;exact jW Z
 have q:acO true o env u z=pure z:=by unfold acO;simp[hl]
 rw[arm_eval_Call,I6 Y];unfold methodCall;rw[O,q];rfl
theorem wm.ok{nm:Nm}{G:Fc X.B}{ρ:ag}{H:aa}{Q:DQ}(f:dB G nm n){x:lm}{p:cx}(h:wm (U:=U) nm x ρ H Q):HE G ρ H (.Name x p) Q:=by
 unfold wm at h;cases hu:under x with
 |true=>
  rw[hu]at h;obtain⟨z,h⟩:=dO h;rw[u8,bne_iff_ne]at z;cases e:U.tups x with
  |some ds=>
   refine cut λO j=>?_;rw[e]at h;refine mn (X.tups _ _ e) λa vs m h1 Z Y=>?_;refine j ?_;exact HE.IP X.K f (eq_of_beq z.1) h1 Z Y h (beq_eq_false_iff_ne.mpr z.2)
  |none=>rw[e]at h;exact h.elim
 |false=>
  rw[hu]at h;cases e:ρ.lookup x with
  |some d=>
   rw[e]at h;have u:∀y,under y=true->(x==y)=false:=λy hy=>beq_eq_false_iff_ne.mpr λq=>by rw[q,hy]at hu;cases hu
   exact HE.var e h (u _ (by decide)) (u _ (by decide))
  |none=>rw[e]at h;exact h.elim
theorem Ac.ok{name:lm}{H:aa}{Q:DQ}{a:D}(h:Ac (U:=U) name H Q a):∃x C z d,a=.obj x C z/\lO X.B C name/\z.lookup name=some d/\Q d H:=by
 cases a with
 |obj x C z=>
  obtain⟨hf,h⟩:=dO h;cases e:z.lookup name with
  |some d=>rw[e]at h;exact(aao _ _ _ d rfl ((X.fld _ _ hf).1) e h)
  |none=>rw[e]at h;exact h.elim
 |_=>exact h.elim
theorem oa.ok{d:D}{Q:Bool->Prop}(h:oa d Q):∃b,d=.bool b/\Q b:=by
 cases d with
 |bool b=>exact(ak b rfl h)
 |_=>exact h.elim
theorem I0.ok{H:aa}{Q:DQ}{a:D}(h:I0 H Q a):∃i,a=.int i/\Q (.int (-i)) H:=by
 cases a with
 |int i=>exact(ak i rfl h)
 |_=>exact h.elim
theorem Ad.ok{H:aa}{Q:DQ}{a:D}(h:Ad H Q a):∃ds,a=.tup ds/\1≤ds.length/\ds.length≤ga/\Q (.tup (ds.drop 1)) H:=by
 cases a with
 |tup ds=>exact(ak ds rfl h)
 |_=>exact h.elim
theorem VM.run{G:Fc X.B}{o:lv}{name:lm}{z:cx}{args:List lv}{ρ:ag}{H1:aa}{Q:DQ}{F q:aw}{a:D}{u:bm}{Y:bv}(k1:F.le q)(N:R q u a)(S1:G.az q H1 Y)(L1:G.Loc q ρ Y)(w:VM G ρ H1 name a args Q):
  im (kt X.B.prog X.B.w) G.A (O4 u name (do return(←importBound o G.env).getD true)) (λO aX=>im (kt X.B.prog X.B.w) G.A (l8 z O.1 O.2 (Wp z (Do args G.env)) (i6 z (eL [] G.env))) (dY G F ρ Q) bot aX) bot Y:=by
 refine cut λPP kk=>?_;refine Qm (w q u N z Y S1 L1) λT id pa j Z hT hd hc=>?_;refine kk ?_;exact getMethod_builtin hT pa j Z hd (f8 hc (λ_ _ p=>p.up k1 λ_ _ x=>x) λ_ _ x=>x)
theorem I4.ok(S:GQ X n k){nm:Nm}{G:Fc X.B}(f:dB G nm n){name:lm}{args:List lv}{ρ:ag}{H:aa}{Q:DQ}{a:D}(h:I4 (vh X n k nm) nm ρ name a H Q args)(hp:args.all bh=true):VM G ρ H name a args Q:=by
 rcases args with _|⟨e,_|⟨e',_|⟨_,_⟩⟩⟩
 ·exact IV.ok f h
 ·exact IW.ok f (sB.mp hp).1 (λH Q w=>S.e f w) h
 ·have hp:=sB.mp hp;exact IX.ok f hp.1 (sB.mp hp.2).1 (λH Q w=>S.e f w) (λH Q w=>S.e f w) h
 ·exact h.elim
theorem meth(S:GQ X n k){nm:Nm}{G:Fc X.B}(f:dB G nm n){o:lv}{name:lm}{z j:cx}{args:List lv}{ρ:ag}{H:aa}{Q:DQ}
  (h:vh X n k nm o ρ H λa H1=>Sd X n (wp X n k) nm ρ name args H1 Q a) (hb:tw o=true) (hp:args.all bh=true) (hl:(z.endLine==j.line)=true) (h3:args.length<30):HE G ρ H (.Call (.Attribute o name z) args [] j) Q:=λF s S0 L=>by
 refine methodCall_KW ((S.e f h).then S0 L λF1 a H1 u s1 k1 Z Y L1 q=>?_) (I8 hb hp hl h3);cases a with
 |obj x C O=>
  have q:KU X n (.obj x C O) (E0 X n k nm args ρ) H1 Q (U.meth C name) (O.lookup name):=q;cases hm:U.meth C name with
  |none=>rw[hm]at q;exact q.elim
  |some g=>
   cases hl:O.lookup name with
   |some=>rw[hm,hl]at q;exact q.elim
   |none=>
    refine cut λPP kk=>?_;rw[hm,hl]at q;obtain⟨⟨ps,body,sc⟩,hc⟩:=X.methc _ _ _ hm;refine cK ((X.code _ _ _ _ hc).1.ex) λob fd ho vS _=>?_;refine mn (vU Y Z) λdx es m E2 I rf=>?_;subst E2;refine kk ?_;refine X.meth _ _ _ hm _ _ _ _ _ _ _ _ Y.over I (by refine(?_:(qC name (b9 es m)).map _=_);rw[pA rf hl];rfl) ?_;refine N4 (o:=ob) (fd:=fd) (iP (jQ hp).1 ((S.es f q).into Y L1 λF2 vs ds H2 s2 N r2 S2 L2 q2=>⟨⟨S2.over _ _ ho,vS⟩,?_⟩));exact f8 (q2.vn f F2 (.ref x::vs) (.cons (Z.mono N) r2) s2 S2 L2) (λ_ _ p=>p.up (k1.trans N) λ_ _ x=>x) λ_ _ x=>x
 |_=>exact VM.run k1 Z Y L1 (I4.ok S f q hp)
theorem callC.ok{x:lm}{p z:cx}{args:List lv}{nm:Nm}{Q:DQ}{G:Fc X.B}{ρ:ag}{H:aa}(f:dB G nm n)(hc:(glob nm x&&args.all bh&&x !=("__name__":lm)&&x !=("__debug__":lm)&&known (U:=U) x)=true)
  (h:mB G ρ H args λds H'=>callC X n x H' Q ds (U.fn x)):HE G ρ H (.Call (.Name x p) args [] z) Q:=by
 simp only[u8,bne_iff_ne]at hc;refine dv hc λY h5=>?_;obtain⟨⟨⟨h1,j⟩,q⟩,u⟩:=Y;cases e:U.fn x with
 |some g=>rw[e]at h;exact Sg f h1 j e u h
 |none=>rw[e]at h;rw[known,e]at h5;exact M8 f h1 j h5 u q h
set_option tactic.hygienic true in
theorem tA.ok(S:GQ X n k){nm:Nm}{G:Fc X.B}{ρ:ag}{H:aa}{Q:DQ}(f:dB G nm n){e:lv}(v:EV e)(h:tA X n (wp X n k) nm ρ H Q v):HE G ρ H e Q:=by
 induction v
 case name x p=>exact wm.ok f h
 case int i k p=>exact HE.cInt h
 case str x k p=>exact HE.cStr h
 case bool b k p=>exact HE.cBool h
 case none k p=>exact HE.QC h
 case attr v name p=>have h:=dO h;exact HE.attr ((S.e f h.2).mono λa H1 h=>Ac.ok h) (I5 h.1)
 case bin l op r p=>exact HE.bin ((S.e f h).mono λa H1 h=>(S.e f h).mono λb H2 h=>BinOp.ok h)
 case neg e p=>exact HE.neg ((S.e f h).mono λa H1 h=>I0.ok h)
 case and a b p=>
  refine HE.and ((S.e f h).mono λa H1 h=>?_);refine ah (oa.ok h) λc e h=>?_;exact(ak c e (BY h (S.e f) id))
 case cmp l op r p=>have h:=Ai h;exact HE.cmp ((S.e f h.2).mono λa H1 h=>(S.e f h).mono λb H2 h=>HB.I7 (mx.ok f h) λc H' q=>q) h.1
 case ite t a b p=>
  exact HE.zD ((S.b f h).mono λc H1 h=>BY h (S.e f) (S.e f))
 case tup es k p=>exact HE.tuple (S.es f h)
 case list es p=>exact HE.list (S.es f h)
 case te p=>
  refine ah h λc0 hc q=>?_;cases hc with
  |dI=>exact HE.te (iQ _) q
  |dS=>exact HE.te (kindS _) q
  |dT c=>exact HE.MA c q
 case EW=>
  refine cut λY z=>?_;refine ah h λc0 hc h=>?_;refine z ?_;exact HE.Rm c0 hc.ok λa ha=>(S.e f (h a ha)).mono λx H1 h=>(S.e f h).mono λy H2 h=>iR.ok f h
 case EX=>
  refine ah h λc0 hc h=>?_;exact HE.Rn c0 hc.ok λa ha=>(S.e f (h a ha)).mono λx H1 h=>(S.e f h).mono λy H2 h=>(S.e f h).mono λO H3 h=>(S.e f h).mono λZ H4 h=>(iR.ok f h).mono λN h=>iR.ok f h
 case mI v i k p1 p2 p=>
  obtain⟨hi,h⟩:=dO h;cases eq_of_beq hi;exact HE.QD ((S.e f h).mono λa H1 h=>Ad.ok h)
 case M3 v i k p1 p2 p=>
  obtain⟨hi,h⟩:=dO h;obtain⟨j,rfl⟩:=kJ (of_decide_eq_true hi);exact HE.IM (j:=j) ((S.e f h).mono λa H1 h=>Ae.ok h)
 case M4=>exact HE.sub ((S.e f h).mono λa H1 h=>HE.cInt (IQ.ok f h))
 case EY=>exact HE.sub ((S.e f h).mono λa H1 h=>(S.e f h).mono λb H2 h=>Itm.ok f h)
 case comp=>
  refine cut λY z=>?_;refine dv (dO h) λhc h=>?_;have hc:=sB.mp hc;refine z ?_;exact HE.comp hc.1 f ((S.i f h).mono λK ds H' h=>aI.ok S f hc.1 h) (λx=>oW hc.2)
 case Ab=>
  obtain⟨hc,h⟩:=dO h;have hc:=sB.mp hc;have u:=sB.mp hc.1;exact HE.comp u.1 f ((S.i f h).mono λK ds H' h=>n9.ok S f u.1 hc.2 h) (λx=>oW u.2)
 case call=>have h:=dO h;exact callC.ok f h.1 (S.es f h.2)
 case meth=>
  obtain⟨hc,h⟩:=dO h;rw[u8,u8,u8,decide_eq_true_eq]at hc;exact meth S f h hc.1.1.1 hc.1.1.2 hc.1.2 hc.2
 all_goals exact h.elim
end
end
section
section
variable {U:Top}{X:Cx U}{n k:Nat}
theorem Af.ok(S:GQ X n k){nm:Nm}{G:Fc X.B}{ρ:ag}{H:aa}{Q:BQ}(f:dB G nm n){e:lv}(v:EV e)(h:Af (wp X n k) nm ρ H Q v):HB G ρ H e Q:=by
 have val:∀{e:lv},(vh X n k nm e ρ H λd H'=>oa d λb=>Q b H')->HE G ρ H e λd H'=>∃b,d=.bool b/\Q b H':=λh=>(S.e f h).mono λd H' h=>oa.ok h;induction v
 case and=>exact HB.and ((S.b f h).mono λx H1 h=>BY h (S.b f) id)
 case or=>exact HB.or ((S.b f h).mono λx H1 h=>BY h id (S.b f))
 case or3=>exact HB.or3 ((S.b f h).mono λx H1 h=>BY h id λh=>HB.mono (S.b f h) λy H2 h=>BY h id (S.b f))
 case not=>exact HB.not (S.b f h)
 case cmp=>have h:=Ai h;exact HB.cmp ((S.e f h.2).mono λa H1 h=>(S.e f h).mono λb H2 h=>mx.ok f h) h.1
 case M0=>have h:=Ai h;exact HB.LW ((S.e f h.2).mono λa H1 h=>(S.e f h).mono λb H2 h=>HB.I7 (mx.ok f h) λc u h=>⟨c,rfl,BY h (λh=>(S.e f h).mono λd z h=>mx.ok f h) id⟩) h.1
 case M1=>
  have h:=Ai h;exact HB.LZ ((S.e f h.2).mono λa H1 h=>(S.e f h).mono λb H2 h=>HB.I7 (mx.ok f h) λc u h=>⟨c,rfl,BY h (λh=>(S.e f h).mono λd z h=>HB.I7 (mx.ok f h) λc q h=>⟨c,rfl,BY h (λh=>(S.e f h).mono λe j h=>mx.ok f h) id⟩) id⟩) h.1
 case name=>exact HB.val (val h) rfl
 case call=>exact HB.val (val h) rfl
 case meth=>exact HB.val (val h) rfl
 all_goals exact h.elim
theorem M9(S:GQ X n k){nm:Nm}{G:Fc X.B}{es:List lv}{ρ:ag}{H:aa}{Q:List D->aa->Prop}(f:dB G nm n)(h:E0 X n (k+1) nm es ρ H Q):mB G ρ H es Q:=by
 cases es with
 |nil=>exact mB.nil h
 |cons e es=>
  obtain⟨hp,h⟩:=dO h;exact mB.cons ((S.e f h).mono λd H1 h=>S.es f h) (gL hp)
theorem Ag.ok{H:aa}{Q:(aa->Prop)->List D->aa->Prop}{d:D}(h:Ag H Q d):∃ds,d=.tup ds/\Q KT (numbered ds 0) H:=by
 cases d with
 |tup ds=>exact(ak ds rfl h)
 |_=>exact h.elim
theorem Si{t:lv}(h:isTup t=true):∃es k p,t=.Tuple es k p:=by
 cases t<;>first|exact(aaf _ _ _ rfl)|exact eR h
theorem Ah.ok(S:GQ X n k){nm:Nm}{G:Fc X.B}{t:lv}{ρ:ag}{H:aa}{Q:(aa->Prop)->List D->aa->Prop}(f:dB G nm n){x:lm}{u p:cx}{args:List lv}(h:Ah (wp X n k) nm t ρ H Q x u p args):HI G ρ H t (.Call (.Name x u) args [] p) Q:=by
 have z:∀{e:lv},(vh X n k nm e ρ H λd H1=>aG t d H1 Q)->HI G ρ H t e Q:=λh=>HI.expr ((S.e f h).mono λd H1 h=>aG.ok f h);rcases args with _|⟨a,_|⟨_,_⟩⟩
 ·exact z h
 ·refine CT h (λe h=>?_) λh=>CT h (λe h=>?_) z
  ·subst e;have h:=dO h;have g:=sB.mp h.1;exact HI.range X.K f (eq_of_beq g.1) (X.nob _ (by decide)) rfl (S.e f h.2) (gL g.2)
  ·subst e;have h:=dO h;have j:=sB.mp h.1;have g:=sB.mp j.2;refine Hx (Si j.1) λes k p q=>?_;subst q;exact HI.enum X.K f (eq_of_beq g.1) (X.nob _ (by decide)) rfl ((S.e f h.2).mono λd H1 h=>Ag.ok h) (gL g.2)
 ·exact z h
theorem stepI.ok(S:GQ X n k){nm:Nm}{G:Fc X.B}{t:lv}{ρ:ag}{H:aa}{Q:(aa->Prop)->List D->aa->Prop}(f:dB G nm n){e:lv}(v:EV e)(h:stepI (wp X n k) nm t ρ H Q (vh X n k nm e ρ H λd H1=>aG t d H1 Q) v):HI G ρ H t e Q:=by
 induction v
 case call=>exact Ah.ok S f h
 case ite=>
  exact HI.zD ((S.b f h).mono λx H1 h=>BY h (λh=>(S.e f h).mono λd H2 h=>aG.ok f h) λh=>(S.e f h).mono λd H2 h=>aG.ok f h)
 all_goals exact HI.expr ((S.e f h).mono λd H1 h=>aG.ok f h)
theorem snd:∀k,GQ X n k
 |0=>⟨λ_ h=>h.elim,λ_ h=>h.elim,λ_ h=>h.elim,λ_ h=>h.elim⟩
 |k+1=>⟨λf h=>tA.ok (snd k) f _ h,λf h=>Af.ok (snd k) f _ h,λf h=>M9 (snd k) f h,λf h=>stepI.ok (snd k) f _ h⟩
end
end
section
set_option genSizeOf false in
set_option genInjectivity false in
set_option genCtorIdx false in
inductive SV:eX->Type
 |ret (e p):SV (.Return (some e) p)
 |expr (e p):SV (.Expr e p)
 |ite (t a b p):SV (.If t a b p)
 |qR (t b p):SV (.While t b [] p)
 |DF (t i b p):SV (.For t i b [] p)
 |pass (p):SV (.Pass p)
 |cont (p):SV (.Continue p)
 |name (x p1 v p):SV (.Assign [.Name x p1] v p)
 |Na (es k p1 il k' p4 p):SV (.Assign [.Tuple es k p1] (.Tuple il k' p4) p)
 |tup (es k p1 v p):SV (.Assign [.Tuple es k p1] v p)
 |sub (o i p1 v p):SV (.Assign [.Subscript o i p1] v p)
 |attr (o n p1 v p):SV (.Assign [.Attribute o n p1] v p)
 |other (s):SV s
set_option tactic.hygienic true in
noncomputable def Sj(s:eX):SV s:=by
 cases s
 case Return o p=>
  cases o
  case some e=>exact .ret e p
  all_goals exact .other _
 case Expr e p=>exact .expr e p
 case If t a b p=>exact .ite t a b p
 case While t b c p=>
  cases c
  case nil=>exact .qR t b p
  all_goals exact .other _
 case For t i b c p=>
  cases c
  case nil=>exact .DF t i b p
  all_goals exact .other _
 case Pass p=>exact .pass p
 case Continue p=>exact .cont p
 case Assign ts v p=>
  rcases ts with _|⟨t,_|⟨_,_⟩⟩
  case cons.nil=>
   cases t
   case Name x p1=>exact .name x p1 v p
   case Tuple es k p1=>
    cases v
    case Tuple il k' p4=>exact .Na es k p1 il k' p4 p
    all_goals exact .tup es k p1 _ p
   case Subscript o i p1=>exact .sub o i p1 v p
   case Attribute o n p1=>exact .attr o n p1 v p
   all_goals exact .other _
  all_goals exact .other _
 all_goals exact .other _
noncomputable def KV(e:lv):Bool:=[23,16].contains e.ctorIdx
noncomputable abbrev SQ:=Fl->ag->aa->Prop
noncomputable def Kn(R:ag->aa->Prop)(Q:SQ):SQ:=λf ρ H=>match f with
 |.next=>R ρ H
 |f=>Q f ρ H
noncomputable def wq(I:Nat->ag->aa->Prop)(Q:SQ)(n:Nat):SQ:=λfl z H'=>match fl with
 |.next|.cont=>∃m,m<n/\∃j u,j.le z/\u.le H'/\I m j u
 |.brk=>Q .next z H'
 |.ret d=>Q (.ret d) z H'
inductive gM(T:ag->aa->BQ->Prop)(W:ag->aa->SQ->Prop)(ρ:ag)(H:aa)(Q:SQ):Prop
 |mk (I:Nat->ag->aa->Prop) (m:Nat) (d4:I m ρ H) (step:∀n ρ H,I n ρ H->T ρ H λb H1=>if b then W ρ H1 (wq I Q n)else Q .next ρ H1)
inductive iD(A:ag->aa->D->(ag->aa->Prop)->Prop)(W:ag->aa->SQ->Prop)(K:aa->Prop)(ds:List D)(ρ:ag)(H:aa)(Q:SQ):Prop
 |mk (I:List D->ag->aa->Prop) (hK:∀rest ρ H,I rest ρ H->K H) (d4:I ds ρ H)
  (step:∀d rest ρ H,I (d::rest) ρ H->A ρ H d λbY H1=>W bY H1 (Goes I Q rest)) (fin:∀ρ H,I [] ρ H->Q .next ρ H)
inductive pX(a b v:D)(H:aa)(Q:aa->Prop):Prop
 |mk (l:co) (e:a=.ref l) (h:eV l b v H Q)
noncomputable def tC(ρ:ag)(H:aa)(P:ag->aa->Prop):Prop:=match ρ.lookup ("self":lm)with
 |some (.ins x C u)=>∃z,H u=some (.dN z)/\P (dJ "self" (.obj x C z) ρ) (rem H u)
 |_=>P ρ H
section
variable {U:Top}(X:Cx U)
noncomputable def tupS(d:D)(k:Nat)(Q:List D->Prop):Prop:=match d with
 |.tup ds=>k=ds.length/\Q ds
 |.fl ds=>k=ds.length/\Q ds
 |_=>False
noncomputable def Sl(nm:Nm)(v:lv)(P:(D->aa->Prop)->Prop)(ρ:ag)(R:ag->aa->Prop)(o:Option (List (lm×cx))):Prop:=match o with
 |some xs=>if xs.all (λp=>n8 nm p.1)&&KV v then P λd H'=>tupS d xs.length λds=>R (ir (xs.map (·.1)) ds ρ) H' else False
 |none=>False
noncomputable def I9(ds:List D)(Q:D->D->Prop):Prop:=match ds with
 |[d,e]=>Q d e
 |_=>False
noncomputable def uD(ds:List D)(Q:D->D->D->Prop):Prop:=match ds with
 |[d,e,g]=>Q d e g
 |_=>False
noncomputable def wu(nm:Nm)(P:(List D->aa->Prop)->Prop)(ρ:ag)(R:ag->aa->Prop)(es:List lv)(o:Option (List (lm×cx))):Prop:=match o,es with
 |some [x,y],[u,e2]=>if n8 nm x.1&&n8 nm y.1&&x.1 !=y.1&&![u,e2].all (hY 8)then P λds H'=>I9 ds λd e=>R (dJ y.1 e (dJ x.1 d ρ)) H' else False
 |some [x,y,z],[u,e2,j]=>if n8 nm x.1&&n8 nm y.1&&n8 nm z.1&&x.1 !=y.1&&x.1 !=z.1&&y.1 !=z.1&&![u,e2,j].all (hY 8)then P λds H'=>uD ds λd e g=>R (dJ z.1 g (dJ y.1 e (dJ x.1 d ρ))) H' else False
 |_,_=>False
noncomputable def Ja(name:lm)(v:D)(H:aa)(Q:aa->Prop)(a:D):Prop:=match a with
 |.ins _ C u=>if U.fld C name then∃z,H u=some (.dN z)/\z.lookup name=none/\z.length≤900/\Q (upd H u (.dN (z++[(name,v)])))else False
 |_=>False
set_option tactic.hygienic true in
noncomputable def Aj(n m:Nat)(nm:Nm)(W:List eX->ag->aa->SQ->Prop)(z:List eX)(ρ:ag)(H:aa)(Q:SQ):{s:eX}->SV s->Prop:=λv=>by
 induction v
 case ret e p=>exact vh X n m nm e ρ H λd H'=>Q (.ret d) ρ H'
 case expr e p=>exact if bh e&&!uC e then vh X n m nm e ρ H λ_ H'=>W z ρ H' Q else False
 case ite t a b p=>exact OK X n m nm t ρ H λc H'=>if c then W a ρ H' (Kn (λρ H=>W z ρ H Q) Q)else W b ρ H' (Kn (λρ H=>W z ρ H Q) Q)
 case qR t b p=>exact tC ρ H λρ H=>gM (λρ H Q=>OK X n m nm t ρ H Q) (W b) ρ H (Kn (λρ H=>W z ρ H Q) Q)
 case DF t i b p=>exact if bh i then wpI X n m nm t i ρ H λK ds H'=>iD (rH nm t) (W b) K ds ρ H' (Kn (λρ H=>W z ρ H Q) Q)else False
 case pass p=>exact W z ρ H Q
 case cont p=>exact Q .cont ρ H
 case name x p1 v p=>exact if bh v&&n8 nm x then vh X n m nm v ρ H λd H'=>W z (dJ x d ρ) H' Q else False
 case Na es k p1 il k' p4 p=>exact wu nm (E0 X n m nm il ρ H) ρ (λρ H=>W z ρ H Q) il (oV es)
 case tup es k p1 v p=>exact Sl nm v (vh X n m nm v ρ H) ρ (λρ H=>W z ρ H Q) (oV es)
 case sub o i p1 v p=>exact if bh v&&!uC v then vh X n m nm v ρ H λv H1=>vh X n m nm o ρ H1 λa H2=>vh X n m nm i ρ H2 λb j=>pX a b v j λu=>W z ρ u Q else False
 case attr o name p1 v p=>exact if bh v&&!uC v then vh X n m nm v ρ H λv H1=>vh X n m nm o ρ H1 λa H2=>Ja (U:=U) name v H2 (λH=>W z ρ H Q) a else False
 all_goals exact False
noncomputable def wpS(n m:Nat):Nat->Nm->List eX->ag->aa->SQ->Prop
 |0=>λ_ _ _ _ _=>False
 |k+1=>λnm b ρ H Q=>match b with
  |[]=>Q .next ρ H
  |st::z=>Aj X n m nm (wpS n m k nm) z ρ H Q (Sj st)
end
end
section
theorem uE{v:lv}{t:Option lv}{l:Nat}{env:vm}(h:bh v=true)(h':uC v=false):l5 v t l env=pure false:=by
 cases v<;>first|rfl|exact eR h|exact eR h'.symm
section
variable {U:Top}{X:Cx U}{n:Nat}
theorem H1.zZ{G:Fc X.B}{ρ:ag}{H:aa}{xs:List (lm×cx)}{k}{p u:cx}{z:lv}{Q:SQ}(O:G.A.handled=none)(hx:∀p∈xs,G.St p.1)(h:HE G ρ H z λd H'=>∃ds,(d=.tup ds∨d=.fl ds)/\xs.length=ds.length/\Q .next (ir (xs.map (·.1)) ds ρ) H')
  (hs:qa [.Tuple (xs.map λp=>cf p.1 p.2) k p] z u.line G.env=pure false) (hw:kR [.Tuple (xs.map λp=>cf p.1 p.2) k p] z G.env=pure none):
  H1 G ρ H (.Assign [.Tuple (xs.map λp=>cf p.1 p.2) k p] z u) Q:=λF s S L=>
 aes (h.then S L λF' d H' v s' k' r N L'⟨ds,e,hl,q⟩=>by
  have ha:HA G ρ H' (.Tuple (xs.map λp=>cf p.1 p.2) k p) d λZ H'=>Q .next Z H':=by
   rcases e with rfl|rfl
   ·exact HA.tup O hl hx q
   ·exact HA.fl O hl hx q
  refine f8 (ha F' v r s' N L') (λ_ mT p=>p.casesOn λCO Z H' Y GL Bj j=>⟨CO,.next,Z,H',k'.trans Y,trivial,GL,Bj,j⟩) λ_ _ x=>x) hs hw
theorem Ak{v:lv}{z:List lv}{k p l}{env:vm}(h:KV v=true):qa [.Tuple z k p] v l env=pure false/\kR [.Tuple z k p] v env=pure none:=by
 cases v<;>first|exact⟨rfl,rfl⟩|exact eR h
theorem mV.mono{G:Fc X.B}{nm:Nm}{t e:lv}{sc:bB}{ρ:ag}{K:aa->Prop}{ds:List D}{H:aa}{P Q:DQ}(h:mV G nm n t e sc ρ K ds H P)(hq:∀d H,P d H->Q d H):mV G nm n t e sc ρ K ds H Q:=
 let⟨I,X,s,f⟩:=h;⟨I,X,s,λacc H h=>hq _ _ (f acc H h)⟩
theorem KW{G:Fc X.B}{nm:Nm}(f:dB G nm n){x:lm}{elt:lv}{j:List qc}{sc:bB}{p u z:cx}{ρ:ag}{H:aa}{Q:SQ}(hs:n8 nm x=true)(Y:HE G ρ H (.ListComp elt j sc p) λd H'=>Q .next (dJ x d ρ) H')
  (hC:nm.lookup x=some .local->(u.line==p.line)=true->(sc.names.any λ(n,k)=>n==x&&(k==.local||k==.cell))=false->H1 G ρ H (.Assign [.Name x u] (.ListComp elt j sc p) z) Q):H1 G ρ H (.Assign [.Name x u] (.ListComp elt j sc p) z) Q:=by
 have q:l5 (.ListComp elt j sc p) (some (.Name x u)) z.line G.env=pure (G.env.blockKind==.function&&G.env.kindOf x==some .local&&u.line==p.line&&!(sc.names.any λ(n,k)=>n==x&&(k==.local||k==.cell))):=rfl;cases b2:u.line==p.line with
 |false=>exact H1.setName (f.vf hs) Y (by rw[q,b2,s8,s9])
 |true=>cases b3:sc.names.any λ(n,k)=>n==x&&(k==.local||k==.cell)with
  |true=>exact H1.setName (f.vf hs) Y (by rw[q,b3];simp only[Bool.not_true,s8])
  |false=>
   rw[n8,eG,beq_iff_eq,beq_iff_eq]at hs;rcases hs with h|h
   ·exact hC h b2 b3
   ·exact H1.setName (f.st (.inr h)) Y (by rw[q,(f.kd x _ h).1,show(some l6==some NameKind.local)=false from rfl,s8,s9,s9])
theorem setName{G:Fc X.B}{nm:Nm}(f:dB G nm n){x:lm}{e:lv}{O z:cx}{ρ:ag}{H:aa}{Q:SQ}(hs:n8 nm x=true){m:Nat}{P:DQ}(v:EV e)(h:tA X n (wp X n m) nm ρ H P v)(hq:∀d H',P d H'->Q .next (dJ x d ρ) H'):H1 G ρ H (.Assign [.Name x O] e z) Q:=by
 have j:=(tA.ok (snd m) f v h).mono hq;induction v
 case comp=>
  refine KW f hs j λZ Y q=>?_;obtain⟨hc,h⟩:=dO h;have hc:=sB.mp hc;exact H1.zL hc.1 f Z (((snd m).i f h).mono λK ds H' h=>(aI.ok (snd m) f hc.1 h).mono hq) Y q λx=>oW hc.2
 case Ab=>
  refine KW f hs j λZ Y q=>?_;obtain⟨hc,h⟩:=dO h;have hc:=sB.mp hc;have u:=sB.mp hc.1;exact H1.zL u.1 f Z (((snd m).i f h).mono λK ds H' h=>(n9.ok (snd m) f u.1 hc.2 h).mono hq) Y q λx=>oW u.2
 case other=>exact h.elim
 all_goals exact H1.setName (f.vf hs) j rfl
theorem Nb{G:Fc X.B}{ρ:ag}{H:aa}{st:eX}{x C z:co}{u:List (lm×D)}{Q:SQ}(hs:my ("self":lm) ρ=some (D.ins x C z))(q:H z=some (.dN u))(h:H1 G (dJ "self" (.obj x C u) ρ) (rem H z) st Q):H1 G ρ H st Q:=λF s S L=>by
 obtain⟨es,n,e,Y,k,j⟩:=Mine.Tactic.az.zN S q;refine f8 (h _ s Y (Mt hs (L.keep k (s':=s) λ_ _ _ e=>e) j)) (λf s' p=>p.up k) λ_ _ x=>x
theorem xO.mono{G:Fc X.B}{ρ:ag}{H:aa}{a i v:D}{Q u:aa->Prop}(h:xO G ρ H a i v Q)(hq:∀H',Q H'->u H'):xO G ρ H a i v u:=
 λF x y z rx q j s S L=>f8 (h F x y z rx q j s S L) (λ_ s'⟨H',a,b,c⟩=>⟨H',a,b,hq _ c⟩) λ_ _ x=>x
theorem tupS.ok{d:D}{k:Nat}{Q:List D->Prop}(h:tupS d k Q):∃ds,(d=.tup ds∨d=.fl ds)/\k=ds.length/\Q ds:=by
 cases d with
 |tup ds=>exact⟨ds,.inl rfl,h⟩
 |fl ds=>exact⟨ds,.inr rfl,h⟩
 |_=>exact h.elim
theorem I9.ok{ds:List D}{Q:D->D->Prop}(h:I9 ds Q):∃d e,ds=[d,e]/\Q d e:=by
 rcases ds with _|⟨d,_|⟨e,_|_⟩⟩<;>first|exact h.elim|exact⟨_,_,rfl,h⟩
theorem uD.ok{ds:List D}{Q:D->D->D->Prop}(h:uD ds Q):∃d e g,ds=[d,e,g]/\Q d e g:=by
 rcases ds with _|⟨d,_|⟨e,_|⟨g,_|_⟩⟩⟩<;>first|exact h.elim|exact⟨_,_,_,rfl,h⟩
theorem Ja.ok{name:lm}{v a:D}{H:aa}{Q:aa->Prop}(h:Ja (U:=U) name v H Q a):∃x C u z,a=.ins x C u/\U.fld C name=true/\H u=some (.dN z)/\z.lookup name=none/\z.length≤900/\Q (upd H u (.dN (z++[(name,v)]))):=by
 cases a with
 |ins x C u=>obtain⟨h,z,q⟩:=dO h;exact⟨x,C,u,z,rfl,h,q⟩
 |_=>exact h.elim
theorem Kn.ok{R:ag->aa->Prop}{Q:SQ}{G:Fc X.B}{z:List eX}(h:∀ρ H,R ρ H->HS G ρ H z Q){fl:Fl}{ρ:ag}{H:aa}(k:Kn R Q fl ρ H):Dz G z Q fl ρ H:=by
 cases fl with
 |next=>exact h _ _ k
 |_=>exact k
theorem Al{α:Type}:∀{l:List α},l.length=2->∃a b,l=[a,b]
 |[a,b],_=>⟨a,b,rfl⟩
theorem tD{α:Type}:∀{l:List α},l.length=3->∃a b c,l=[a,b,c]
 |[a,b,c],_=>⟨a,b,c,rfl⟩
theorem tC.ok{ρ:ag}{H:aa}{P:ag->aa->Prop}(h:tC ρ H P):(∃x C z u,ρ.lookup ("self":lm)=some (.ins x C z)/\H z=some (.dN u)/\P (dJ "self" (.obj x C u) ρ) (rem H z))∨P ρ H:=by
 unfold tC at h;revert h;cases ρ.lookup ("self":lm)with
 |none=>exact .inr
 |some d=>
  cases d with
  |ins x C z=>exactλh=>ah h λu h1 j=>.inl ⟨x,C,z,u,rfl,h1,j⟩
  |_=>exact .inr
theorem wu.len{nm:Nm}{P:(List D->aa->Prop)->Prop}{ρ:ag}{R:ag->aa->Prop}{es:List lv}{xs:List (lm×cx)}(h:wu nm P ρ R es (some xs)):(xs.length=2/\es.length=2)∨(xs.length=3/\es.length=3):=by
 rcases xs with _|⟨x,_|⟨y,_|⟨z,_|⟨_,_⟩⟩⟩⟩<;>rcases es with _|⟨j,_|⟨e2,_|⟨u,_|⟨_,_⟩⟩⟩⟩<;>first|exact .inl ⟨rfl,rfl⟩|exact .inr ⟨rfl,rfl⟩|exact h.elim
theorem hc2{a b e:Bool}{x y:lm}(h:(a&&b&&x !=y&&e)=true):a=true/\b=true/\x≠y/\e=true:=by
 simp only[u8,bne_iff_ne]at h;exact⟨h.1.1.1,h.1.1.2,h.1.2,h.2⟩
theorem hc3{a b c e:Bool}{x y z:lm}(h:(a&&b&&c&&x !=y&&x !=z&&y !=z&&e)=true):a=true/\b=true/\c=true/\x≠y/\x≠z/\y≠z/\e=true:=by
 simp only[u8,bne_iff_ne]at h;exact⟨h.1.1.1.1.1.1,h.1.1.1.1.1.2,h.1.1.1.1.2,h.1.1.1.2,h.1.1.2,h.1.2,h.2⟩
set_option tactic.hygienic true in
theorem Aj.ok{m:Nat}{W:List eX->ag->aa->SQ->Prop}{nm:Nm}(ih:∀{G:Fc X.B}{b:List eX}{ρ:ag}{H:aa}{Q:SQ},dB G nm n->W b ρ H Q->HS G ρ H b Q){G:Fc X.B}{u:List eX}{ρ:ag}{H:aa}{Q:SQ}(f:dB G nm n){s:eX}(v:SV s)(h:Aj X n m nm W u ρ H Q v):H1 G ρ H s (Dz G u Q):=by
 have S:=snd (X:=X) (n:=n) m;have Y:∀{G:Fc X.B}{fl:Fl}{ρ:ag}{H:aa},dB G nm n->Kn (λρ H=>W u ρ H Q) Q fl ρ H->Dz G u Q fl ρ H:=λf h=>Kn.ok (λρ H h=>ih f h) h;induction v
 case ret=>exact H1.ret (S.e f h)
 case expr=>
  have h:=dO h;have hc:=sB.mp h.1;exact H1.expr ((S.e f h.2).mono λ_ H' h=>ih f h) (uE hc.1 ((gy _).mp hc.2))
 case ite=>exact H1.if_ ((S.b f h).mono λc H' h=>BY h (λh=>(ih f h).mono λ_ _ _ h=>Y f h) λh=>(ih f h).mono λ_ _ _ h=>Y f h)
 case qR t b p=>
  have Z:∀{ρ:ag}{H:aa},gM (λρ H Q=>OK X n m nm t ρ H Q) (W b) ρ H (Kn (λρ H=>W u ρ H Q) Q)->H1 G ρ H (.While t b [] p) (Dz G u Q):=λ⟨I,j,d4,step⟩=>
   H1.qR I j d4 λj ρ H N=>(S.b f (step j ρ H N)).mono λc H1 h=>BY h (λh=>(ih f h).mono λfl bb H' h=>by
    cases fl<;>first|exact h|exact Y f h) λh=>Y (fl:=.next) f h
  have h:tC ρ H λρ H=>gM (λρ H Q=>OK X n m nm t ρ H Q) (W b) ρ H (Kn (λρ H=>W u ρ H Q) Q):=h;exact(tC.ok h).elim (λq=>aam q λx C dx fs hs hd h=>Nb hs hd (Z h)) λh=>Z h
 case DF=>
  obtain⟨hp,h⟩:=dO h;refine H1.DF ((S.i f h).mono λK ds H' h=>?_) (λx=>oW hp);obtain⟨I,hK,d4,step,fin⟩:=h;refine⟨I,hK,d4,λd u ρ H fU O N=>HA.mono (rH.ok (f.ot fU O) (step d u ρ H N)) λbY H1 h=>(ih (f.ot fU O) h).mono λfl bb H' h=>?_,λρ H N=>Y f (fin ρ H N)⟩;cases fl<;>first|exact h|exact Y (fl:=.next) f h
 case pass=>exact H1.pass (ih f h)
 case cont=>exact H1.cont h
 case name x p1 v p=>
  have h:=dO h;have hc:=sB.mp h.1;cases m with
  |zero=>exact h.2.elim
  |succ m=>exact setName f hc.2 _ h.2 λd H' h=>ih f h
 case Na es k p1 il k' p4 p=>
  have h:wu nm (E0 X n m nm il ρ H) ρ (λρ H=>W u ρ H Q) il (oV es):=h;cases e:oV es with
  |none=>rw[e]at h;exact h.elim
  |some xs=>
   rw[e]at h;rw[qq e];refine(wu.len h).elim (λl=>mm (Al l.1) λx y ex=>mm (Al l.2) λe1 e2 ee=>?_) λl=>Hx (tD l.1) λx y z ex=>Hx (tD l.2) λe1 e2 e3 ee=>?_
   ·subst ex ee;obtain⟨hc,h⟩:=dO h;have hc:=hc2 hc;exact H1.DB f.hh (f.vf hc.1) (f.vf hc.2.1) hc.2.2.1 (mB.mono (S.es f h) λds H' h=>dW (I9.ok h) λd e h1 h=>⟨d,e,h1,ih f h⟩) ((gy _).mp hc.2.2.2)
   ·subst ex ee;obtain⟨hc,h⟩:=dO h;have hc:=hc3 hc;exact H1.DC f.hh (f.vf hc.1) (f.vf hc.2.1) (f.vf hc.2.2.1) hc.2.2.2.1 hc.2.2.2.2.1 hc.2.2.2.2.2.1 (mB.mono (S.es f h) λds H' h=>Dm (uD.ok h) λd e g h1 h=>⟨d,e,g,h1,ih f h⟩) ((gy _).mp hc.2.2.2.2.2.2)
 case tup es k p1 v p=>
  have h:Sl nm v (vh X n m nm v ρ H) ρ (λρ H=>W u ρ H Q) (oV es):=h;cases e:oV es with
  |none=>rw[e]at h;exact h.elim
  |some xs=>
   rw[e]at h;rw[qq e];have h:=dO h;have hc:=sB.mp h.1;exact H1.zZ f.hh (λp hp=>f.vf (ut.mp hc.1 p hp)) ((S.e f h.2).mono λd H' h=>bt (tupS.ok h) λds e hl h=>⟨ds,e,hl,ih f h⟩) (Ak hc.2).1 (Ak (l:=0) hc.2).2
 case sub=>
  have h:=dO h;have hc:=sB.mp h.1;exact H1.Mb ((S.e f h.2).mono λv H1 h=>(S.e f h).mono λa H2 h=>(S.e f h).mono λb H3 q=>q.casesOn λl e hs=>e▸(eV.ok f hs).mono λH4 h=>ih f h) (uE hc.1 ((gy _).mp hc.2))
 case attr=>
  have h:=dO h;have hc:=sB.mp h.1;exact H1.HO ((S.e f h.2).mono λv H1 h=>(S.e f h).mono λa H2 h=>Dp (Ja.ok h) λx C dx fs e hf h1 h2 h3 h=>⟨x,C,dx,fs,e,(X.fld _ _ hf).2,h1,h2,h3,ih f h⟩) (uE hc.1 ((gy _).mp hc.2))
 all_goals exact h.elim
theorem Jb{m:Nat}:∀(k:Nat){nm:Nm}{G:Fc X.B}{b:List eX}{ρ:ag}{H:aa}{Q:SQ},dB G nm n->wpS X n m k nm b ρ H Q->HS G ρ H b Q
 |0,_,_,_,_,_,_,_,h=>h.elim
 |k+1,nm,G,[],ρ,H,Q,f,h=>HS.nil h
 |k+1,nm,G,st::z,ρ,H,Q,f,h=>HS.cons (Aj.ok (W:=wpS X n m k nm) (Jb k) f _ h)
theorem aY.fn{f:co}{ps:List lm}{b:List eX}{sc:bB}{ds:List D}{H:aa}{Q:DQ}(hc:U.code f=some (ps,b,sc))(hl:ds.length=ps.length)(h:wpS X n 40 60 sc.names b (ps.zip ds) H λfl _ H'=>Up Q (vR fl) H'):aY X (n+1) f ds H Q:=λG ρ z F vs rs=>
 HV.OH (HL X.K (X.code _ _ _ _ hc).1 (X.code _ _ _ _ hc).2 z hl (λj u=>Jb 60 u h) F vs rs)
theorem aY.cls{C j:co}{ps:List lm}{b:List eX}{sc:bB}{ds:List D}{H:aa}{Q:DQ}(hi:U.init C=some j)(hc:U.code j=some (("self":lm)::ps,b,sc))(hl:ds.length=ps.length)
  (h:∀x z,H z=none->wpS X n 40 60 sc.names b ((("self":lm),D.ins x C z)::ps.zip ds) (upd H z (.dN [])) λfl O H'=>vR fl=.none/\((∃u,H' z=some (.dN u)/\Up Q (.obj x C u) (rem H' z))∨∃u,my ("self":lm) O=some (D.obj x C u)/\Up Q (.obj x C u) H')):aY X (n+2) C ds H Q:=λG ρ q F vs rs=>
 HV.OH (HM X.K (X.make _ _ hi) (X.code _ _ _ _ hc).1 (X.code _ _ _ _ hc).2 q hl (λx z Y N Z=>Jb 60 Z (h x z Y)) F vs rs)
theorem aY.mono{m:Nat}{f:co}{ds:List D}{H:aa}{Q:DQ}(h:aY X m f ds H Q)(hm:m≤n):aY X n f ds H Q:=λG ρ z=>h G ρ (z.in hm)
theorem Sm{c:Bool}{P Q:Prop}(h:c=true)(p:P):if c=true then P else Q:=by rw[if_pos h];exact p
theorem xn{c:Bool}{P Q:Prop}(h:c=false)(q:Q):if c=true then P else Q:=by rw[h];exact q
theorem sQ{c:Bool}{P Q:Prop}(p:c=true->P)(q:c=false->Q):if c=true then P else Q:=by
 cases c with
 |true=>exact p rfl
 |false=>exact q rfl
theorem yD{ρ σ:ag}{x:lm}{d:D}(h:ρ.lookup x=some d):(ρ++σ).lookup x=some d:=by
 induction ρ with
 |nil=>cases h
 |cons p ρ ih=>
  rw[fw,wE]at*;cases q:x==p.1 with
  |true=>rw[q]at h;exact h
  |false=>rw[q]at h;exact ih h
theorem ag.le.take(k:Nat)(ρ:ag):ag.le (ρ.take k) ρ:=λx d h=>by
 have:=yD (σ:=ρ.drop k) h
 rwa [lF]at this
theorem wq.next{I:Nat->ag->aa->Prop}{n:Nat}{ρ:ag}{H:aa}(k m:Nat)(hm:m<n)(h:I m (ρ.take k) H):∃m,m<n/\∃u z,ag.le u ρ/\aa.le z H/\I m u z:=⟨m,hm,_,_,.take k ρ,.refl _,h⟩
theorem Goes.next{I:ag->aa->Prop}{ρ:ag}{H:aa}(k:Nat)(h:I (ρ.take k) H):∃u z,ag.le u ρ/\aa.le z H/\I u z:=⟨_,_,.take k ρ,.refl _,h⟩
end
end
section
theorem ag.le.nx{ρ z:ag}(k:Nat)(h:z.take k=ρ):ag.le ρ z:=h▸.take k z
theorem ne_sn{H:aa}{a b:co}{c:ao}(h:H a=some c)(h0:H b=none):a≠b:=λe=>fg (h.symm.trans (e▸h0))
noncomputable def nx:Fl->Prop
 |.next|.cont=>True
 |_=>False
theorem Jc{I:List D->ag->aa->Prop}{Q:SQ}{z:List D}{fl:Fl}{ρ:ag}{H:aa}(hf:nx fl)(h:∃j u,ag.le j ρ/\aa.le u H/\I z j u):Goes I Q z fl ρ H:=by
 cases fl with
 |next=>exact h
 |cont=>exact h
 |_=>exact hf.elim
theorem E3{I:Nat->ag->aa->Prop}{Q:SQ}{n:Nat}{fl:Fl}{ρ:ag}{H:aa}(hf:nx fl)(h:∃m,m<n/\∃u z,ag.le u ρ/\aa.le z H/\I m u z):wq I Q n fl ρ H:=by
 cases fl with
 |next=>exact h
 |cont=>exact h
 |_=>exact hf.elim
noncomputable def lx{α σ γ:Type}(g:α->D)(rv:σ->γ)(hp:σ->aa)(I:List α->σ->Prop)(ds:List D)(ρ:γ)(H:aa):Prop:=∃l s,l.map g=ds/\rv s=ρ/\hp s=H/\I l s
section
variable {α σ γ:Type}{g:α->D}{rv:σ->γ}{hp:σ->aa}{I:List α->σ->Prop}{ds:List D}{d:D}{ρ:γ}{H:aa}
theorem lx.of{l:List α}{s:σ}(h:I l s):lx g rv hp I (l.map g) (rv s) (hp s):=Dk l s rfl rfl rfl h
theorem lx.nil{M:γ->aa->Prop}(k:∀s,I [] s->M (rv s) (hp s))(h:lx g rv hp I [] ρ H):M ρ H:=pR h λl s e z e2 h=>z▸e2▸k s (cv.mp e▸h)
theorem lx.cons{M:D->List D->γ->aa->Prop}(k:∀a l s,I (a::l) s->M (g a) (l.map g) (rv s) (hp s))(h:lx g rv hp I (d::ds) ρ H):M d ds ρ H:=pR h λl s e q e2 h=>q▸e2▸cK (b7.mp e) λa z u j ed=>j▸ed▸k a z s (u▸h)
theorem lx.keep{M:γ->aa->Prop}(k:∀l s,I l s->M (rv s) (hp s))(h:lx g rv hp I ds ρ H):M ρ H:=pR h λl s e z e2 h=>z▸e2▸k l s h
end
section
variable {α σ:Type}{A:ag->aa->D->(ag->aa->Prop)->Prop}{T:ag->aa->BQ->Prop}{W:ag->aa->SQ->Prop}{K:aa->Prop}{Q:SQ}
theorem iD.sr(g:α->D)(rv:σ->ag)(hp:σ->aa)(I:List α->σ->Prop)(l:List α)(s:σ)(Y:∀l s,I l s->K (hp s))(d4:I l s)
  (step:∀a l s P,I (a::l) s->(∀s'{fl u H'},nx fl->ag.le (rv s') u->aa.le (hp s') H'->I l s'->P fl u H')->(∀d{u H'},Q (.ret d) u H'->P (.ret d) u H')->A (rv s) (hp s) (g a) λj H1=>W j H1 P)
  (fin:∀s,I [] s->Q .next (rv s) (hp s)):iD A W K (l.map g) (rv s) (hp s) Q:=
 .mk (lx g rv hp I) (λ_ _ _=>lx.keep (M:=λ_=>K) Y) (.of d4)
  (λd z u H'=>lx.cons (M:=λd z ρ H=>A ρ H d λj H1=>W j H1 (Goes (lx g rv hp I) Q z)) λa l s h=>step a l s _ h (λN _ _ _ hf h1 O Z=>Jc hf (jo _ _ h1 O (.of Z))) λ_ _ _ q=>q)
  (λu H'=>lx.nil fin)
theorem iD.st(g:α->D)(rv:σ->ag)(hp:σ->aa)(I:List α->σ->Prop)(l:List α)(s:σ)(u:∀l s,I l s->K (hp s))(d4:I l s)
  (step:∀a l s P,I (a::l) s->(∀s'{fl z H'},nx fl->ag.le (rv s') z->aa.le (hp s') H'->I l s'->P fl z H')->A (rv s) (hp s) (g a) λj H1=>W j H1 P)
  (fin:∀s,I [] s->Q .next (rv s) (hp s)):iD A W K (l.map g) (rv s) (hp s) Q:=
 .sr g rv hp I l s u d4 (λa l s P h h1 _=>step a l s P h h1) fin
theorem gM.sr(rv:σ->ag)(hp:σ->aa)(I:Nat->σ->Prop)(m:Nat)(s:σ)(d4:I m s)
  (step:∀n s P,I n s->(∀m s'{fl z H'},m<n->nx fl->ag.le (rv s') z->aa.le (hp s') H'->I m s'->P fl z H')->(∀d{z H'},Q (.ret d) z H'->P (.ret d) z H')->T (rv s) (hp s) λb H1=>if b then W (rv s) H1 P else Q .next (rv s) H1):gM T W (rv s) (hp s) Q:=
 .mk (λm z H'=>∃s,rv s=z/\hp s=H'/\I m s) m (cY s rfl rfl d4)
  (λn z H' h=>bt h λs Y e2 h=>Y▸e2▸step n s _ h (λm s' _ _ _ h0 hf h1 j u=>E3 hf (ak m h0 (jo _ _ h1 j (cY s' rfl rfl u)))) (λ_ _ _ q=>q))
theorem gM.st(rv:σ->ag)(hp:σ->aa)(I:Nat->σ->Prop)(m:Nat)(s:σ)(d4:I m s)
  (step:∀n s P,I n s->(∀m s'{fl z H'},m<n->nx fl->ag.le (rv s') z->aa.le (hp s') H'->I m s'->P fl z H')->T (rv s) (hp s) λb H1=>if b then W (rv s) H1 P else Q .next (rv s) H1):gM T W (rv s) (hp s) Q:=
 .sr rv hp I m s d4 λn s P h h1 _=>step n s P h h1
end
section
variable {α σ:Type}{W:Nm->WE}{T:Nm->WB}{nm:Nm}{ρ:ag}{t elt c:lv}{sc:bB}{K:aa->Prop}{Q:DQ}
theorem aI.st(g:α->D)(u:σ->List D)(hp:σ->aa)(I:List α->σ->Prop)(l:List α)(s:σ)(N:u s=[])(Y:∀l s,I l s->K (hp s)/\(u s).length≤ga)(d4:I l s)
  (step:∀a l s(P:DQ),I (a::l) s->(∀s'{y H'},u s'=u s++[y]->aa.le (hp s') H'->I l s'->P y H')->rH sc.names t (bS sc.names ρ) (hp s) (g a) λj H1=>(bS sc.names ρ).le j/\W sc.names elt j H1 P)
  (fin:∀s,I [] s->Q (.fl (u s)) (hp s)):aI W T nm ρ t elt [] sc K (l.map g) (hp s) Q:=
 .mk (lx g u hp I) (λ_ _ _=>lx.keep (M:=λ(A:List D) H=>K H/\A.length≤ga) Y) (N▸.of d4)
  (λd z A' H'=>lx.cons (M:=λd z A' H=>rH sc.names t (bS sc.names ρ) H d λj H1=>(bS sc.names ρ).le j/\W sc.names elt j H1 λy H3=>∃q,q.le H3/\lx g u hp I z (A'++[y]) q) λa l s h=>step a l s _ h λmT _ _ h1 O Z=>(ak _ O (h1▸.of Z)))
  (λA' H'=>lx.nil (M:=λA H=>Q (.fl A) H) fin)
theorem aI.sf(g:α->D)(u:σ->List D)(hp:σ->aa)(I:List α->σ->Prop)(l:List α)(s:σ)(e1:u s=[])(hK:∀l s,I l s->K (hp s)/\(u s).length≤ga)(d4:I l s)
  (step:∀a l s(P:DQ)(N:aa->Prop),I (a::l) s->(∀s'{y H'},u s'=u s++[y]->aa.le (hp s') H'->I l s'->P y H')->(∀s'{H'},u s'=u s->aa.le (hp s') H'->I l s'->N H')->rH sc.names t (bS sc.names ρ) (hp s) (g a) λj H1=>(bS sc.names ρ).le j/\T sc.names c j H1 λok H2=>if ok then W sc.names elt j H2 P else N H2)
  (fin:∀s,I [] s->Q (.fl (u s)) (hp s)):aI W T nm ρ t elt [c] sc K (l.map g) (hp s) Q:=
 .mk (lx g u hp I) (λ_ _ _=>lx.keep (M:=λ(A:List D) H=>K H/\A.length≤ga) hK) (e1▸.of d4)
  (λd z A' H'=>lx.cons (M:=λd z A' H=>rH sc.names t (bS sc.names ρ) H d λj H1=>(bS sc.names ρ).le j/\T sc.names c j H1 λok H2=>if ok then W sc.names elt j H2 λy H3=>∃q,q.le H3/\lx g u hp I z (A'++[y]) q else∃q,q.le H2/\lx g u hp I z A' q) λa l s h=>step a l s _ _ h (λO _ _ h1 Z Y=>(ak _ Z (h1▸.of Y))) λO _ h1 Z Y=>(ak _ Z (h1▸.of Y)))
  (λA' H'=>lx.nil (M:=λA H=>Q (.fl A) H) fin)
end
end
section
noncomputable def KX(i:Nat):Option Stmt:=mh.main.body[i]?
noncomputable def Sn(s:eX):List eX×Option (List lm×List eX×bB):=match s with
 |.FunctionDef _ a b _ _ _ sc _ _ _=>([],some (a.args.map (·.arg),b,sc))
 |.ClassDef _ _ _ b _ _ _ _ _ _ _=>(b,none)
 |_=>([],none)
noncomputable def E4:List (co×Nat×Option Nat):=[(79,6,none),(84,7,none),(89,8,none),(202,11,none),(256,13,none),(526,21,none),(531,22,none),(536,23,none),(543,24,none),(548,25,none),(553,26,none),(103,9,some 0),(110,9,some 1),(115,9,some 2),(122,9,some 3),(148,9,some 7),(155,9,some 8),(216,12,some 0),(221,12,some 1),(228,12,some 2),(235,12,some 3),(242,12,some 4),(270,14,some 0),(277,14,some 1),(282,14,some 2),(287,14,some 3),(292,14,some 4),(299,14,some 5),(320,16,some 0),(327,16,some 1),(334,16,some 2),(341,16,some 3),(348,16,some 4),(355,16,some 5),(360,16,some 6),(402,18,some 0),(409,18,some 1),(414,18,some 2),(419,18,some 3),(424,18,some 4),(431,18,some 5),(438,18,some 6),(452,18,some 8),(459,18,some 9),(466,18,some 10),(480,18,some 12),(487,18,some 13),(492,18,some 14)]
noncomputable def codeAt(f:co):Option (List lm×List eX×bB):=(E4.find? λe=>e.1==f).bind λe=>(KX e.2.1).bind λs=>(e.2.2.elim (some s) λj=>(Sn s).1[j]?).bind λs=>(Sn s).2
noncomputable def rI:List (String×co):=[("is_op",79),("parts",84),("key_of",89),("rank_of",202),("is_reached",256),("_law_draw",526),("_law_below",531),("_law_nodes",536),("_law_pieces",543),("_law_graph_right",548),("law",553),
 ("Bank",191),("Cheapest",245),("CheapestDag",302),("Unions",384),("Heap",514)]
noncomputable def sR:List (co×co×List (String×co)×List String):=[(191,103,[("size",110),("take",115),("require",122),("op",148),("kids",155)],["nodes","numbers","weights","depths"]),
 (245,216,[("rank_by",221),("has_better",228),("cost",235),("term",242)],["heap","costs","ranks"]),
 (302,270,[("price",277),("least_price",282),("bound",287),("choices",292),("best",299)],["heap","costs","most","least"]),
 (384,320,[("make",327),("size",334),("find",341),("merge",348),("members",355),("classes",360)],["above","lots","merged"]),
 (514,402,[("size",409),("node",414),("add",419),("put",424),("look_at",431),("find",438),("merge",452),("join",459),("settle",466),("classes",480),("members",487),("nodes_of",492)],["bank","unions","edges","forest","known","above","waiting"])]
noncomputable def clsAt(C:co):Option (co×co×List (String×co)×List String):=sR.find? λe=>e.1==C
noncomputable def seek(l:List (String×co))(x:lm):Option Addr:=(l.find? λp=>t0 p.1==x).map (·.2)
noncomputable def qr:List Int:=[2,0,0,1,2,2,1,3,3,0,1,1,5,2,1,6,4,0,2,3,1,4,3]
noncomputable def U:Top where
 fn:=seek rI
 code:=codeAt
 meth:=λC m=>(clsAt C).bind λe=>seek e.2.2.1 m
 fld:=λC m=>(clsAt C).any λe=>e.2.2.2.any λx=>t0 x==m
 init:=λC=>(clsAt C).map (·.2.1)
 tups:=λx=>if x==("_law_plain":lm)then some (qr.map .int)else none
variable {X:Cx U}{m0:Nat}
noncomputable abbrev sS(a b c d:co):D:=.obj a 384 [("above",.ref b),("lots",.ref c),("merged",.ref d)]
noncomputable def rootOf(p:List Nat):Nat->Nat->Nat
 |0,a=>a
 |k+1,a=>if p.getD a 0=a then a else rootOf p k (p.getD a 0)
theorem g8{p:List Nat}{k a:Nat}:rootOf p (k+1) a=if p.getD a 0=a then a else rootOf p k (p.getD a 0):=rfl
theorem mZ{p:List Nat}{a:Nat}(h:p.getD a 0=a):∀k,rootOf p k a=a
 |0=>rfl
 |k+1=>by rw[g8,if_pos h]
noncomputable def cb(p:List Nat):Prop:=∀i,i<p.length->p.getD i 0≤i
theorem ly{p:List Nat}(hf:cb p):∀(k a:Nat),a≤k->a<p.length->rootOf p k a=rootOf p a a
 |0,a,h,_=>by obtain rfl:a=0:=Nat.eq_zero_of_le_zero h;rfl
 |k+1,a,h,ha=>by
  by_cases e:p.getD a 0=a
  ·rw[mZ e,mZ e]
  ·have hl:=hf a ha;have h1:a≠0:=by rintro rfl;exact Px hl e
   obtain⟨b,rfl⟩:∃b,a=b+1:=⟨a-1,zg (Nat.succ_pred_eq_of_ne_zero h1)⟩;rw[g8,g8,if_neg e,if_neg e];rw[ly hf k _ (WG h hl e) (FB (hf (b+1) ha) ha),ly hf b _ (Py hl e) (FB (hf (b+1) ha) ha)]
noncomputable def find(p:List Nat)(a:Nat):Nat:=rootOf p a a
theorem d7{p:List Nat}{a:Nat}(h:p.getD a 0=a):find p a=a:=mZ h a
theorem gN{p:List Nat}(hf:cb p){a:Nat}(ha:a<p.length):find p (p.getD a 0)=find p a:=by
 by_cases e:p.getD a 0=a
 ·rw[e]
 ·have hl:=hf a ha;have h1:a≠0:=by rintro rfl;exact Px hl e
  obtain⟨b,rfl⟩:∃b,a=b+1:=⟨a-1,WH h1⟩;show _=rootOf p (b+1) (b+1);rw[g8,if_neg e];exact(ly hf b _ (Py hl e) (WJ ha hl)).symm
noncomputable abbrev nats(l:List Nat):List D:=l.map λi:Nat=>.int (i:Int)
theorem wx{l:List Nat}{i:Nat}(h:i<l.length):(nats l)[i]?=some (.int (l.getD i 0:Nat)):=by simp[h]
theorem Jd{a b c d:co}{p:List Nat}{x:Nat}{H:aa}{Q:DQ}(hp:H b=some (.list (nats p)))(hx:x<p.length)(hf:cb p)(hz:p.length≤100)
  (q:Q (.int (find p x:Nat)) H):aY X (m0+1) 341 [sS a b c d,.int x] H Q:=by
 have hs:(nats p).length≤sizeLine:=by simp[cP];exact WK hz
 refine aY.fn rfl rfl (gM.mk (λn Y H'=>∃y:Nat,Y=([("self",sS a b c d),("a",.int y)]:ag)/\H'=H/\y<p.length/\n=y/\find p y=find p x) x ⟨x,rfl,rfl,hx,rfl,rfl⟩ ?_);rintro n _ _ ⟨y,rfl,rfl,hy,rfl,z⟩;refine cy.list _ n _ rfl hp (wx hy) hs ?_;refine sQ (λe=>?_) λe=>?_
 ·refine cy.list _ n _ rfl hp (wx hy) hs ?_;have:=hf n hy;have j:p.getD n 0≠n:=λq=>by rw[q]at e;simp at e
  exact wq.next 2 (p.getD n 0) (bQ (hf n hy) j) ⟨_,rfl,rfl,FB (hf n hy) hy,rfl,(gN hf hy).trans z⟩
 ·have u:p.getD n 0=n:=Go (by simpa using e);rw[d7 u]at z;exact .here (z▸q)
end
section
section
variable {K V:Type}[DecidableEq K]
noncomputable def ae(l:List (K×V))(k:K):Option V:=(l.find? λp=>p.1=k).map (·.2)
noncomputable def aK(l:List (K×V))(k:K)(v:V):List (K×V):=if l.any (λp=>p.1=k)then l.map (λp=>if p.1=k then(p.1,v)else p)else l++[(k,v)]
noncomputable def gu(l:List (K×V))(k:K):List (K×V):=l.filter λp=>decide (p.1≠k)
theorem BZ{k:K}:ae ([]:List (K×V)) k=none:=rfl
section
variable {p:K×V}{l m:List (K×V)}{k k':K}{v:V}
theorem cS(e:p.1=k):ae (p::l) k=some p.2:=congrArg (bL _) (List.find?_cons_of_pos (p:=λp:K×V=>decide (p.1=k)) (decide_eq_true e))
theorem cz(e:p.1≠k):ae (p::l) k=ae l k:=congrArg (bL _) (List.find?_cons_of_neg (p:=λp:K×V=>decide (p.1=k)) λq=>e (of_decide_eq_true q))
theorem gO:ae (p::l) k=if p.1=k then some p.2 else ae l k:=by
 by_cases e:p.1=k
 ·exact(cS e).trans (if_pos e).symm
 ·exact(cz e).trans (if_neg e).symm
theorem oX:(l.any λp=>p.1=k)=(ae l k).isSome:=by
 induction l with
 |nil=>rfl
 |cons p l ih=>
  rw[jT,ih];by_cases e:p.1=k
  ·rw[cS e,decide_eq_true e];rfl
  ·rw[cz e,decide_eq_false e,nz]
theorem tE:ae (l++m) k=(ae l k).or (ae m k):=by
 induction l with
 |nil=>rfl
 |cons p l ih=>
  rw[fw];by_cases e:p.1=k
  ·rw[cS e,cS e];rfl
  ·rw[cz e,cz e,ih]
theorem lS(h:ae l k=some v):(k,v)∈l:=by
 induction l with
 |nil=>exact bE h
 |cons p l ih=>
  by_cases e:p.1=k
  ·exact db ((cS e).symm.trans h)▸e▸.head _
  ·exact .tail _ (ih ((cz e).symm.trans h))
theorem B0:ae (l.map λp=>if p.1=k then(p.1,v)else p) k'=if k=k' then(ae l k').map λ_=>v else ae l k':=by
 induction l with
 |nil=>exact(ite_self (c:=k=k') none).symm
 |cons p l ih=>
  refine jp▸?_;have z:(if p.1=k then(p.1,v)else p).1=p.1:=by split<;>rfl
  by_cases e:p.1=k'
  ·rw[cS (z.trans e),cS e];by_cases e2:k=k'
   ·rw[if_pos e2,if_pos (e.trans e2.symm)];rfl
   ·rw[if_neg e2,if_neg λq=>e2 (q.symm.trans e)]
  ·rw[cz λq=>e (z.symm.trans q),cz e,ih]
theorem av:ae (aK l k v) k'=if k=k' then some v else ae l k':=by
 unfold aK;rw[oX];cases h:(ae l k).isSome with
 |true=>
  rw[if_pos rfl,B0];by_cases e:k=k'
  ·rw[if_pos e,if_pos e,←e];exact bR (pt.mp h) λx hx=>hx▸rfl
  ·rw[if_neg e,if_neg e]
 |false=>
  rw[if_neg wP,tE];by_cases e:k=k'
  ·rw[if_pos e,←e];cases q:ae l k with
   |none=>exact cS rfl
   |some x=>rw[q]at h;cases h
  ·rw[if_neg e,cz e,BZ,Option.or_none]
theorem oY:ae (gu l k) k'=if k=k' then none else ae l k':=by
 unfold gu;induction l with
 |nil=>exact(ite_self (c:=k=k') none).symm
 |cons p l ih=>
  by_cases e:p.1=k
  ·rw[vv (p:=λp:K×V=>decide (p.1≠k)) (λq=>of_decide_eq_true q e),ih];by_cases e2:k=k'
   ·rw[if_pos e2,if_pos e2]
   ·rw[if_neg e2,if_neg e2,cz λq=>e2 (e.symm.trans q)]
  ·rw[vw (p:=λp:K×V=>decide (p.1≠k)) (decide_eq_true e)];by_cases z:p.1=k'
   ·rw[cS z,cS z,if_neg λq=>e (z.trans q.symm)]
   ·rw[cz z,cz z,ih]
end
theorem fG{l:List (K×V)}{k:K}{v:V}(h:ae l k=none):aK l k v=l++[(k,v)]:=by
 unfold aK;rw[oX,h];rfl
variable {K':Type}[DecidableEq K']{f:K->K'}{g:V->D}
theorem lA(hf:∀a b,f a=f b->a=b)(l:List (K×V))(k:K):eS (l.map λp=>(f p.1,g p.2)) (f k)=(ae l k).map g:=by
 induction l with
 |nil=>rfl
 |cons p l ih=>
  by_cases e:p.1=k
  ·exact(cS (congrArg f e)).trans (congrArg (bL g) (cS e)).symm
  ·exact(cz λq=>e (hf _ _ q)).trans (ih.trans (congrArg (bL g) (cz e)).symm)
theorem oc(hf:∀a b,f a=f b->a=b)(l:List (K×V))(k:K)(v:V):dput (l.map λp=>(f p.1,g p.2)) (f k) (g v)=(aK l k v).map λp=>(f p.1,g p.2):=by
 have e:((l.map λp=>(f p.1,g p.2)).any λp=>decide (p.1=f k))=l.any λp=>decide (p.1=k):=by
  rw[Om];exact congrArg l.any (funext λp=>decide_eq_decide.mpr ⟨hf _ _,congrArg f⟩)
 unfold dput aK;rw[e];cases l.any λp=>decide (p.1=k)with
 |true=>
  rw[if_pos rfl,if_pos rfl,li,li];refine wT λp _=>?_;refine(?_:(if f p.1=f k then(f p.1,g v)else(f p.1,g p.2))=(λp:K×V=>(f p.1,g p.2)) (if p.1=k then(p.1,v)else p));by_cases e:p.1=k
  ·rw[if_pos e,if_pos (congrArg f e)]
  ·rw[if_neg e,if_neg λq=>e (hf _ _ q)]
 |false=>rw[if_neg wP,if_neg wP,lf];rfl
end
noncomputable abbrev Nd:=lm×List Nat
noncomputable def d8(x:Nd):D:=.tup (.str x.1::nats x.2)
theorem E5{a b:List Nat}(h:nats a=nats b):a=b:=(List.map_inj_right (λx y e=>by injection e with e;exact Go e)).mp h
theorem lT:∀a b:Nd,d8 a=d8 b->a=b:=λa b h=>by
 unfold d8 at h;injection h with h;injection h with h1 z;injection h1 with h1;exact zj h1 (E5 z)
theorem Ux(x:Nd):PN true (d8 x):=(xG x.1 (x.2.map λi:Nat=>(i:Int)) (by unfold d8;rw[li];rfl))
theorem Je{V:Type}{g:V->D}(l:List (Nd×V))(k:Nd):ke (l.map λp=>(d8 p.1,g p.2)) (d8 k)=(ae l k).map g:=@lA _ _ _ _ dD _ _ lT l k
theorem Am{V:Type}{g:V->D}(l:List (Nd×V))(k:Nd)(v:V):jM (l.map λp=>(d8 p.1,g p.2)) (d8 k) (g v)=(aK l k v).map λp=>(d8 p.1,g p.2):=@oc _ _ _ _ dD _ _ lT l k v
set_option genInjectivity false in
set_option genInjectivity false in
set_option genCtorIdx false in
structure St where
 nd:List Nd
 nu:List (Nd×Nat)
 ws:List Int
 dp:List Int
 p:List Nat
 lots:List (List Nat)
 mg:List D
 ed:List D
 fo:List D
 kn:List (Nd×Nat)
 ab:List (Nat×List Nat)
 wt:List Nat
set_option genSizeOf false in
set_option genInjectivity false in
inductive Tg|nodes|gi|gj|iS|above|lots|merged|oe|lB|known|uses|waiting|lot(i:Nat)|use(i:Nat)|ih|iu|ib
 deriving DecidableEq
noncomputable abbrev gq:=Tg->co
noncomputable def cm{V:Type}(f:Tg->V)(t:Tg)(v:V):Tg->V:=λu=>if u=t then v else f u
theorem eB{V:Type}{f:Tg->V}{t:Tg}{v:V}:cm f t v t=v:=if_pos rfl
theorem gU{V:Type}{f:Tg->V}{t u:Tg}{v:V}(h:u≠t):cm f t v u=f u:=if_neg h
noncomputable def mem(A:gq)(σ:St):Tg->Option ao
 |.nodes=>some (.list (σ.nd.map d8))
 |.gi=>some (.dT true (σ.nu.map λp=>(d8 p.1,.int (p.2:Nat))))
 |.gj=>some (.list (σ.ws.map .int))
 |.iS=>some (.list (σ.dp.map .int))
 |.above=>some (.list (nats σ.p))
 |.lots=>some (.list ((pc σ.lots.length).map λi=>.ref (A (.lot i))))
 |.merged=>some (.list σ.mg)
 |.oe=>some (.list σ.ed)
 |.lB=>some (.list σ.fo)
 |.known=>some (.dT true (σ.kn.map λp=>(d8 p.1,.int (p.2:Nat))))
 |.uses=>some (.dI (σ.ab.map λp=>((p.1:Int),.ref (A (.use p.1)))))
 |.waiting=>some (.list (nats σ.wt))
 |.lot i=>σ.lots[i]?.map λl=>.list (nats l)
 |.use c=>(ae σ.ab c).map λl=>.list (nats l)
 |.ih|.iu|.ib=>none
structure Mem(R H:aa)(A:gq)(M:Tg->Option ao):Prop where
 at_:∀t c,M t=some c->H (A t)=some c
 inj:∀t t' c c',M t=some c->M t'=some c'->A t=A t'->t=t'
 out:∀t c,M t=some c->R (A t)=none
 le:R.le H
theorem E6{R H:aa}{a:co}{c:ao}(h:R.le H):(upd R a c).le (upd H a c):=λb d e=>by
 by_cases q:b=a
 ·rw[q,af]at e⊢;exact e
 ·rw[aj q]at e⊢;exact h b d e
theorem Mem.set{R H:aa}{A:gq}{M M':Tg->Option ao}(h:Mem R H A M)(t:Tg){c c0:ao}(h0:M t=some c0)(z:∀u,u≠t->M' u=M u)(hc:M' t=some c):Mem R (upd H (A t) c) A M':=by
 have hs:∀u c,M' u=some c->∃c,M u=some c:=λu c e=>by
  by_cases q:u=t
  ·exact⟨c0,q▸h0⟩
  ·exact⟨c,(z u q).symm.trans e⟩
 refine⟨λu d e=>?_,λu v d j e e' q=>bR (hs _ _ e) λx e=>bR (hs _ _ e') λy e'=>h.inj _ _ _ _ e e' q,λu d e=>bR (hs _ _ e) λx e=>h.out _ _ e,λa d e=>(aj (ne_sn e (h.out _ _ h0))).trans (h.le _ _ e)⟩;by_cases q:u=t
 ·rw[q,hc]at e;rw[q,←e];exact af _ _ _
 ·exact(aj λq'=>q (h.inj _ _ _ _ ((z u q).symm.trans e) h0 q')).trans (h.at_ _ _ ((z u q).symm.trans e))
theorem Mem.rest{R H:aa}{A:gq}{M:Tg->Option ao}(h:Mem R H A M){a:co}(c:ao)(ha:(∃d,R a=some d)∨H a=none):Mem (upd R a c) (upd H a c) A M:=by
 have z:∀t c,M t=some c->A t≠a:=λt c e=>ha.elim (λj=>bR j λd ha=>(ne_sn ha (h.out _ _ e)).symm) λha=>ne_sn (h.at_ _ _ e) ha;exact⟨λu d e=>(aj (z _ _ e)).trans (h.at_ _ _ e),h.inj,λu d e=>(aj (z _ _ e)).trans (h.out _ _ e),E6 h.le⟩
theorem le_none{B H:aa}{a:co}(h:B.le H)(ha:H a=none):B a=none:=by
 cases e:B a with
 |none=>rfl
 |some d=>exact fg ((h a d e).symm.trans ha)
theorem E7{H:aa}{a b:co}{c:ao}(h:rem H a b=some c):b≠a:=λe=>bE ((if_pos e).symm.trans h)
theorem E8{H:aa}{a b:co}{c:ao}(h:rem H a b=some c):H b=some c:=(if_neg (E7 h)).symm.trans h
theorem Mem.less{R R' H H':aa}{A:gq}{M:Tg->Option ao}(h:Mem R H A M)(j:R'.le R)(hl:∀t c,M t=some c->H' (A t)=some c)(z:R'.le H'):Mem R' H' A M:=⟨hl,h.inj,λu d e=>le_none j (h.out _ _ e),z⟩
theorem Mem.more{R H H':aa}{A:gq}{M:Tg->Option ao}(h:Mem R H A M)(hl:H.le H'):Mem R H' A M:=h.less (.refl _) (λt c e=>hl _ _ (h.at_ t c e)) (h.le.trans hl)
theorem Mem.take{R H:aa}{A A':gq}{M M':Tg->Option ao}(h:Mem R H A M)(t:Tg){c:ao}{a:co}(ha:R a=some c)(hM:∀u,u≠t->M' u=M u)(hc:M' t=some c)(Z:∀u,u≠t->A' u=A u)(N:A' t=a):Mem (rem R a) H A' M':=by
 have z:∀{u c},u≠t->M' u=some c->M u=some c:=λO e=>(hM _ O).symm.trans e;have cj:∀{u c},u≠t->M' u=some c->A' u≠a:=λO e q=>ne_sn ha (h.out _ _ (z O e)) (q.symm.trans (Z _ O));refine⟨λu d e=>?_,λu v d d' e e' q=>?_,λu d e=>?_,λb d e=>h.le _ _ (E8 e)⟩
 ·by_cases q:u=t
  ·rw[q,hc]at e;rw[q,N,←e];exact h.le _ _ ha
  ·exact(congrArg H (Z u q)).trans (h.at_ _ _ (z q e))
 ·by_cases Y:u=t
  ·by_cases j:v=t
   ·exact Y.trans j.symm
   ·exact absurd (q.symm.trans (Y▸N)) (cj j e')
  ·by_cases j:v=t
   ·exact absurd (q.trans (j▸N)) (cj Y e)
   ·exact h.inj _ _ _ _ (z Y e) (z j e') ((Z u Y).symm.trans (q.trans (Z v j)))
 ·by_cases q:u=t
  ·exact if_pos (q▸N)
  ·exact(if_neg (cj q e)).trans ((congrArg R (Z u q)).trans (h.out _ _ (z q e)))
theorem Mem.del{R H:aa}{A:gq}{M:Tg->Option ao}(h:Mem R H A M){a:co}{c:ao}(ha:R a=some c):Mem (rem R a) (rem H a) A M:=
 have z:∀t c,M t=some c->A t≠a:=λt c e=>(ne_sn ha (h.out _ _ e)).symm
 ⟨λt c e=>(if_neg (z _ _ e)).trans (h.at_ _ _ e),h.inj,λt c e=>(if_neg (z _ _ e)).trans (h.out _ _ e),λb c e=>(if_neg (E7 e)).trans (h.le _ _ (E8 e))⟩
theorem iT{R:aa}{a:co}{c:ao}(h:R a=none):R.le (rem (upd R a c) a):=λb d e=>(if_neg (ne_sn e h)).trans ((aj (ne_sn e h)).trans e)
theorem Mem.self{R H:aa}{A:gq}{M:Tg->Option ao}{a:co}{c:ao}(h:Mem (upd R a c) H A M)(c':ao):Mem (upd R a c') (upd H a c') A M:=by
 have:=h.rest c' (.inl ⟨_,af _ _ _⟩);have e:upd (upd R a c) a c'=upd R a c':=funext λb=>by
  by_cases q:b=a
  ·rw[q,af,af]
  ·rw[aj q,aj q,aj q]
 exact e▸this
theorem Mem.made{R H:aa}{A:gq}{M:Tg->Option ao}{a:co}{c:ao}(h:Mem (upd R a c) H A M)(ha:R a=none):Mem R (rem H a) A M:=
 let h':=h.del (af _ _ _)
 h'.less (iT ha) h'.at_ ((iT ha).trans h'.le)
theorem Mem.new{R H:aa}{A:gq}{M:Tg->Option ao}(h:Mem R H A M)(t:Tg){a:co}(c:ao)(ha:H a=none):Mem R (upd H a c) (cm A t a) (cm M t (some c)):=by
 have j:=le_none h.le ha;have h1:=(h.rest c (.inr ha)).take (A':=cm A t a) (M':=cm M t (some c)) t (af _ _ _) (λu z=>gU z) eB (λu z=>gU z) eB;exact h1.less (iT j) h1.at_ ((iT j).trans h1.le)
theorem Mem.base(R:aa)(A:gq):Mem R R A (λ_=>On):=⟨λ_ _ e=>(nomatch e),λ_ _ _ _ e=>(nomatch e),λ_ _ e=>(nomatch e),.refl _⟩
noncomputable abbrev St.abM(σ:St)(l:List Nd):St:={σ with nd:=l}
noncomputable abbrev St.abN(σ:St)(l:List (Nd×Nat)):St:={σ with nu:=l}
noncomputable abbrev St.abO(σ:St)(l:List Int):St:={σ with ws:=l}
noncomputable abbrev St.abP(σ:St)(l:List Int):St:={σ with dp:=l}
noncomputable abbrev St.s_p(σ:St)(l:List Nat):St:={σ with p:=l}
noncomputable abbrev St.abQ(σ:St)(l:List D):St:={σ with mg:=l}
noncomputable abbrev St.Jf(σ:St)(l:List D):St:={σ with ed:=l}
noncomputable abbrev St.abR(σ:St)(l:List D):St:={σ with fo:=l}
noncomputable abbrev St.yE(σ:St)(l:List (Nd×Nat)):St:={σ with kn:=l}
noncomputable abbrev St.Nc(σ:St)(l:List Nat):St:={σ with wt:=l}
noncomputable abbrev St.E9(σ:St)(l:List (List Nat)):St:={σ with lots:=l}
noncomputable abbrev St.wy(σ:St)(l:List (Nat×List Nat)):St:={σ with ab:=l}
noncomputable abbrev Hp(R H:aa)(A:gq)(σ:St):Prop:=Mem R H A (mem A σ)
section
variable {R H:aa}{A:gq}{σ:St}
theorem Mem.nd(h:Hp R H A σ)(l:List Nd){c:ao}(hc:c=.list (l.map d8)):Hp R (upd H (A .nodes) c) A (σ.abM l):=h.set .nodes rfl (λu z=>by cases u<;>first|rfl|exact absurd rfl z) (by rw[hc];rfl)
theorem Mem.nu(h:Hp R H A σ)(l:List (Nd×Nat)){c:ao}(hc:c=.dT true (l.map λp=>(d8 p.1,.int (p.2:Nat)))):Hp R (upd H (A .gi) c) A (σ.abN l):=h.set .gi rfl (λu z=>by cases u<;>first|rfl|exact absurd rfl z) (by rw[hc];rfl)
theorem Mem.ws(h:Hp R H A σ)(l:List Int){c:ao}(hc:c=.list (l.map .int)):Hp R (upd H (A .gj) c) A (σ.abO l):=h.set .gj rfl (λu z=>by cases u<;>first|rfl|exact absurd rfl z) (by rw[hc];rfl)
theorem Mem.dp(h:Hp R H A σ)(l:List Int){c:ao}(hc:c=.list (l.map .int)):Hp R (upd H (A .iS) c) A (σ.abP l):=h.set .iS rfl (λu z=>by cases u<;>first|rfl|exact absurd rfl z) (by rw[hc];rfl)
theorem Mem.p(h:Hp R H A σ)(l:List Nat){c:ao}(hc:c=.list (nats l)):Hp R (upd H (A .above) c) A (σ.s_p l):=h.set .above rfl (λu z=>by cases u<;>first|rfl|exact absurd rfl z) (by rw[hc];rfl)
theorem Mem.mg(h:Hp R H A σ)(l:List D){c:ao}(hc:c=.list l):Hp R (upd H (A .merged) c) A (σ.abQ l):=h.set .merged rfl (λu z=>by cases u<;>first|rfl|exact absurd rfl z) (by rw[hc];rfl)
theorem Mem.ed(h:Hp R H A σ)(l:List D){c:ao}(hc:c=.list l):Hp R (upd H (A .oe) c) A (σ.Jf l):=h.set .oe rfl (λu z=>by cases u<;>first|rfl|exact absurd rfl z) (by rw[hc];rfl)
theorem Mem.fo(h:Hp R H A σ)(l:List D){c:ao}(hc:c=.list l):Hp R (upd H (A .lB) c) A (σ.abR l):=h.set .lB rfl (λu z=>by cases u<;>first|rfl|exact absurd rfl z) (by rw[hc];rfl)
theorem Mem.kn(h:Hp R H A σ)(l:List (Nd×Nat)){c:ao}(hc:c=.dT true (l.map λp=>(d8 p.1,.int (p.2:Nat)))):Hp R (upd H (A .known) c) A (σ.yE l):=h.set .known rfl (λu z=>by cases u<;>first|rfl|exact absurd rfl z) (by rw[hc];rfl)
theorem Mem.wt(h:Hp R H A σ)(l:List Nat){c:ao}(hc:c=.list (nats l)):Hp R (upd H (A .waiting) c) A (σ.Nc l):=h.set .waiting rfl (λu z=>by cases u<;>first|rfl|exact absurd rfl z) (by rw[hc];rfl)
end
noncomputable abbrev tF(A:gq):D:=.obj (A .ib) 191 [("nodes",.ref (A .nodes)),("numbers",.ref (A .gi)),("weights",.ref (A .gj)),("depths",.ref (A .iS))]
noncomputable abbrev Nf(A:gq):D:=sS (A .iu) (A .above) (A .lots) (A .merged)
noncomputable abbrev aA(A:gq):D:=.obj (A .ih) 514 [("bank",tF A),("unions",Nf A),("edges",.ref (A .oe)),("forest",.ref (A .lB)),("known",.ref (A .known)),("above",.ref (A .uses)),("waiting",.ref (A .waiting))]
end
section
variable {X:Cx U}{m0:Nat}
theorem aH{ρ:ag}{x:lm}{d:D}(h:ρ.lookup x=none):ρ.le (dJ x d ρ):=λy e q=>by
 by_cases k:y=x
 ·subst k;rw[h]at q;cases q
 ·rw[lL k];exact q
theorem rJ{ρ:ag}{x y:lm}{d e:D}(h:ρ.lookup x=none)(u:ρ.lookup y=none)(j:y≠x):ρ.le (dJ y e (dJ x d ρ)):=λz c q=>aH (by rw[lL j];exact u) z c (aH h z c q)
theorem uF{α:Type}{l d e:List α}(h:l=d++e)(hz:l.length≤ga):d.length≤sizeLine:=cr (cr (br _ _) (IR (ci.symm.trans (congrArg _ h.symm)))) hz
theorem fL{α:Type}{l d e:List α}{a:α}(h:l=d++a::e):a∈l:=h▸on d (.head _)
theorem iU{α:Type}{l d e:List α}{a:α}(h:l=d++a::e):l=(d++[a])++e:=h.trans (bO d a e)
theorem aI.map{α:Type}{W:Nm->WE}{T:Nm->WB}{nm:Nm}{ρ:ag}{t elt:lv}{sc:bB}{K:aa->Prop}{H:aa}{Q:DQ}{u:α->ag}{f:α->D}{l:List α}(Z:∀a∈l,∀P:ag->aa->Prop,P (u a) H->rH sc.names t (bS sc.names ρ) H (f a) P)(z:∀a,(bS sc.names ρ).le (u a))
  (g:α->D) (hz:l.length≤ga) (hK:K H) (step:∀a∈l,∀Y:DQ,(∀j,H.le j->Y (g a) j)->W sc.names elt (u a) H Y) (q:Q (.fl (l.map g)) H):aI W T nm ρ t elt [] sc K (l.map f) H Q:=
 .st f (λd:List α=>d.map g) (λ_=>H) (λe d=>l=d++e) l [] rfl (λe d h=>⟨hK,cr (IR (be g)) (uF h hz)⟩) rfl
  (λa e d P h O=>Z a (fL h) _ ⟨z a,step a (fL h) P λj hl=>O (d++[a]) lf hl (iU h)⟩) λd h=>h.trans (t3 d)▸q
theorem aI.B1{α:Type}{W:Nm->WE}{T:Nm->WB}{nm:Nm}{ρ:ag}{t elt c:lv}{sc:bB}{K:aa->Prop}{H:aa}{Q:DQ}{u:α->ag}{f:α->D}{l:List α}(hA:∀a∈l,∀P:ag->aa->Prop,P (u a) H->rH sc.names t (bS sc.names ρ) H (f a) P)(j:∀a,(bS sc.names ρ).le (u a))
  (p:α->Bool) (g:α->D) (hz:l.length≤ga) (hK:K H) (step:∀a∈l,∀(Y:DQ)(Z:aa->Prop),(p a=true->∀z,H.le z->Y (g a) z)->(p a=false->∀z,H.le z->Z z)->T sc.names c (u a) H λok H2=>if ok then W sc.names elt (u a) H2 Y else Z H2) (q:Q (.fl ((l.filter p).map g)) H):aI W T nm ρ t elt [c] sc K (l.map f) H Q:=
 .sf f (λd:List α=>(d.filter p).map g) (λ_=>H) (λe d=>l=d++e) l [] rfl (λe d h=>⟨hK,cr (IR (be g)) (cr (Uf p d) (uF h hz))⟩) rfl
  (λa e d P N h go O=>hA a (fL h) _ ⟨j a,step a (fL h) P N (λe z hl=>go (d++[a]) (by rw[oz,vw e,lf];rfl) hl (iU h)) λe z hl=>O (d++[a]) (by rw[oz,vv (by rw[e];exact wP),List.filter_nil,t3]) hl (iU h)⟩) λd h=>h.trans (t3 d)▸q
theorem sz{n:Nat}(h:n≤1000):n≤sizeLine:=by rw[cP];exact WM h
theorem E'{A:gq}{H:aa}{Q:DQ}{ds:List D}(h:H (A .nodes)=some (.list ds))(hz:ds.length≤1000)(q:Q (.int ds.length) H):aY X (m0+1) 110 [tF A] H Q:=
 aY.fn rfl rfl (g7.list _ _ rfl h (sz hz) (.here q))
theorem KY{l:List Nd}{i:Nat}{x:Nd}(h:l[i]?=some x):(l.map d8)[i]?=some (d8 x):=by rw[tz,h];rfl
theorem Fb{A:gq}{H:aa}{Q:DQ}{l:List Nd}{i:Nat}{x:Nd}(h:H (A .nodes)=some (.list (l.map d8)))(hi:l[i]?=some x)(hz:l.length≤1000)(q:Q (.str x.1) H):aY X (m0+1) 148 [tF A,.int i] H Q:=
 aY.fn rfl rfl (cy.list _ i _ rfl h (KY hi) (by simpa using sz hz) (.here q))
theorem wz{A:gq}{H:aa}{Q:DQ}{l:List Nd}{i:Nat}{x:Nd}(h:H (A .nodes)=some (.list (l.map d8)))(hi:l[i]?=some x)(hz:l.length≤1000)(hk:x.2.length≤100)(q:Q (.tup (nats x.2)) H):aY X (m0+1) 155 [tF A,.int i] H Q:=by
 refine aY.fn rfl rfl (cy.list _ i _ rfl h (KY hi) (by simpa using sz hz) ?_);refine And.intro (by simp) (And.intro (by simp[cP];exact WN hk) (.here q))
noncomputable def ops:List Str:=["a","b","f","g"]
theorem Jg{x:lm}(hx:x∈ops):∀d∈signs x,∃y,d=.str y/\Bc y=false/\(fA "()[]{},:" y 0 8 1).isEmpty=true:=by
 have z:∀y:lm,y.length=1->(∀i,i<8->Vg "()[]{},:" y i=false)->(fA "()[]{},:" y 0 8 1).isEmpty=true:=λy hy h=>by
  have:=occ_nil_of_no (x:="()[]{},:") (y:=y) 1 λi hi=>h i (by rw[hy]at hi;have:(t0 "()[]{},:").length=8:=rfl;exact jW hi);rw[show(8:Nat)=(t0 "()[]{},:").length from rfl,this];rfl
 simp only[ops,em,bj,or_false]at hx;rcases hx with rfl|rfl|rfl|rfl<;>(intro d u;obtain rfl:=bn.mp u;exact⟨_,rfl,by decide+kernel,z _ rfl (by decide+kernel)⟩)
theorem Fd{x:lm}{H:aa}{Q:DQ}(hx:x∈ops)(q:Q (.bool true) H):aY X (m0+1) 79 [.str x] H Q:=by
 refine aY.fn rfl rfl ?_;have h1:(x.cps.toList !=("":lm).cps.toList)=true:=by
  simp only[ops,em,bj,or_false]at hx;rcases hx with rfl|rfl|rfl|rfl<;>rfl
 have O:=Jg hx;refine Sm h1 ?_;refine aG.str x _ _ rfl rfl ?_;rw[(iq (signs x)).symm];refine aI.B1 (λ_ _ _ h=>h) (λa=>aH rfl) (λ_=>false) id (by rw[show(signs x).length=x.cps.toList.length by simp[signs]];simp only[ops,em,bj,or_false]at hx;rcases hx with rfl|rfl|rfl|rfl<;>decide) trivial (λd j N Qn _ hn=>?_) ?_
 ·refine bt (O d j) λy z Z Y=>?_;rw[z];exact xn Z (xn (by show(!_)=false;rw[show(t0 "()[]{},:").length=8 from rfl,Y];rfl) (hn rfl _ (.refl _)))
 ·rw[show(signs x).filter (λ_=>false)=[] by simp];refine And.intro (np _) λa ha=>?_;refine OI.lists 1 qo .int [] [] (.inl rfl) (.inr ⟨a,rfl,.inl (af _ _ _)⟩) (λ_ h=>nomatch h) (λ_ h=>nomatch h) (by decide) λr u=>?_;obtain rfl:r=true:=u.mpr rfl;exact .less (.upd ha) (.here q)
theorem yF{A:gq}{x:lm}{H:aa}{Q:DQ}(hx:x∈ops)(q:Q .none H):aY X (m0+2) 122 [tF A,.str x] H Q:=by
 refine aY.fn rfl rfl (Fd hx ?_);have h1:∃c,x.cps[0]?=some c/\([c]==("?":lm).cps.toList)=false:=by
  simp only[ops,em,bj,or_false]at hx;rcases hx with rfl|rfl|rfl|rfl<;>exact⟨_,rfl,rfl⟩
 obtain⟨c,h1,z⟩:=h1;refine Exists.intro 0 (Exists.intro c (oJ rfl h1 (by decide) (xn z (.here q))))
noncomputable abbrev CU(l:List (Nd×Nat)):ao:=.dT true (l.map λp=>(d8 p.1,.int (p.2:Nat)))
theorem An(l:List (Nd×Nat))(x:Nd):ke (l.map λp=>(d8 p.1,.int (p.2:Nat))) (d8 x)=(ae l x).map λi:Nat=>.int i:=Je (g:=λi:Nat=>.int i) l x
theorem xm.nd{a:co}{l:List (Nd×Nat)}{x:Nd}{H:aa}{Q:BQ}(h:fh H a (CU l))(u:∀i,ae l x=some i->Q true H)(z:ae l x=none->Q false H):xm (d8 x) (.ref a) H Q:=by
 refine .dT a true _ rfl h (Ux x) ?_;rw[An];cases e:ae l x with
 |some i=>exact u i e
 |none=>exact z e
theorem cy.nd{a:co}{l:List (Nd×Nat)}{x:Nd}{i:Nat}{H:aa}{Q:DQ}(h:fh H a (CU l))(e:ae l x=some i)(q:Q (.int (i:Nat)) H):cy a (d8 x) H Q:=.dT true _ _ h (Ux x) (by rw[An,e];rfl) q
theorem cy.at{α:Type}{f:α->D}{a:co}{l:List α}{i:Nat}{x:α}{H:aa}{Q:DQ}(h:H a=some (.list (l.map f)))(e:l[i]?=some x)(hz:l.length≤1000)(q:Q (f x) H):cy a (.int i) H Q:=.list _ i _ rfl h (by rw[tz,e];rfl) (by rw[be];exact sz hz) q
theorem iD.skip{α:Type}{A:ag->aa->D->(ag->aa->Prop)->Prop}{W:ag->aa->SQ->Prop}{K:aa->Prop}{f:α->D}{l:List α}{ρ:ag}{H:aa}{Q:SQ}(O:K H)(step:∀a∈l,∀Z:SQ,(∀u,ρ.le u->Z .next u H)->A ρ H (f a) λbY H1=>W bY H1 Z)(q:Q .next ρ H):iD A W K (l.map f) ρ H Q:=by
 refine .mk (λz u H'=>u=ρ/\H'=H/\∃e,(∀a∈e,a∈l)/\z=e.map f) ?_ ⟨rfl,rfl,l,λ_ h=>h,rfl⟩ ?_ ?_
 ·rintro _ _ _ ⟨rfl,rfl,-⟩;exact O
 ·rintro d z _ _ ⟨rfl,rfl,e,Y,j⟩;rcases e with _|⟨a,e⟩
  ·exact vC j
  injection j with h1 N;subst h1;subst N;exact step a (Y a (.head _)) _ λu hl=>⟨_,_,hl,.refl _,rfl,rfl,e,λx hx=>Y x (.tail _ hx),rfl⟩
 ·rintro _ _ ⟨rfl,rfl,-⟩;exact q
theorem g7.ln{a:co}{ds:List D}{n:Nat}{H:aa}{Q:DQ}(h:H a=some (.list ds))(hn:ds.length=n)(hz:n≤1000)(q:Q (.int n) H):g7 (.ref a) H Q:=.list a ds rfl h (by rw[hn];exact sz hz) (by rw[hn];exact q)
theorem eV.nd{a:co}{l:List (Nd×Nat)}{x:Nd}{i:Nat}{H:aa}{Q:aa->Prop}(h:H a=some (CU l))(hz:l.length≤1000)(q:Q (upd H a (CU (aK l x i)))):eV a (d8 x) (.int (i:Nat)) H Q:=
 .dT true _ h (Ux x) (sz (by rw[be];exact hz)) (by rw[Am (g:=λi:Nat=>.int i)];exact q)
theorem snoc{α:Type}(f:α->D)(l:List α)(a:α):ao.list (l.map f++[f a])=.list ((l++[a]).map f):=by rw[lf];rfl
end
section
variable {X:Cx U}{m0:Nat}
noncomputable def yG(ws:List Int):Prop:=∀w∈ws,0≤w/\w≤3^ws.length
theorem oZ{α:Type}{f:α->Int}{b:Int}:∀{l:List α},(∀a∈l,0≤f a/\f a≤b)->0≤(l.map f).sum/\(l.map f).sum≤l.length*b
 |[],_=>by simp
 |a::l,h=>by
  have h1:=oZ (l:=l) λx hx=>h x (.tail _ hx);have z:=h a (.head _);simp only[jp,sK,io,Int.natCast_add,Int.add_mul];omega
theorem Jh{l:List Int}{i:Nat}(h:i<l.length):(l.map D.int)[i]?=some (.int (l.getD i 0)):=by simp[h]
theorem getD_mem{l:List Int}{i:Nat}(h:i<l.length):l.getD i 0∈l:=by simp[h]
theorem B2{σ:St}{ks:List Nat}(q:∀k∈ks,k<σ.nd.length)(Z:ks.length≤2)(hn:σ.nd.length≤30)(u:σ.ws.length=σ.nd.length)(hw:yG σ.ws):(∀n∈ks.map λk=>σ.ws.getD k 0,0≤n)/\(ks.map λk=>σ.ws.getD k 0).sum<2^62/\yG (σ.ws++[1+(ks.map λk=>σ.ws.getD k 0).sum]):=by
 have j:∀k∈ks,0≤σ.ws.getD k 0/\σ.ws.getD k 0≤3^σ.ws.length:=λk hk=>hw _ (getD_mem (by rw[u];exact q k hk));have hs:=oZ j;have Y:(3:Int)^σ.ws.length≤3^30:=by
  have:=dk (n:=3) (by decide) (show σ.ws.length≤30 by exact WO u hn)
  exact_mod_cast this
 have z:(ks.length:Int)*3^σ.ws.length≤2*3^σ.ws.length:=qF (zm rfl rfl Z) (Int.pow_nonneg (by decide));have N:(1:Int)≤3^σ.ws.length:=Int.pow_pos (by decide);refine(Hv (λn hn=>?_) (by lia) (λw hx=>?_))
 ·refine ah (lc.mp hn) λk hk O=>?_;subst O;exact(j k hk).1
 ·rw[ci,pp,Pd];rcases ca.mp hx with hx|hx
  ·have:=hw w hx;exact WQ this
  ·rw[bn]at hx;exact WR hs N z hx
noncomputable def Ao(σ:St)(x:Nd)(w d:Int):St:={σ with nd:=σ.nd++[x],nu:=σ.nu++[(x,σ.nd.length)],ws:=σ.ws++[w],dp:=σ.dp++[d]}
theorem Ji{R H:aa}{A:gq}{σ:St}{Q:DQ}{op:lm}{ks:List Nat}{kd:D}(h:Mem R H A (mem A σ))(Ap:op∈ops)(hk:kd=.tup (nats ks)∨kd=.fl (nats ks))(j:∀k∈ks,k<σ.nd.length)(z:ks.length≤2)
  (hn:σ.nd.length≤30) (hnu:σ.nu.length≤100) (kK:σ.ws.length=σ.nd.length) (IE:σ.dp.length=σ.nd.length) (hw:yG σ.ws)
  (q1:∀i,ae σ.nu (op,ks)=some i->Q (.int (i:Nat)) H)
  (q2:ae σ.nu (op,ks)=none->∀w d H',yG (σ.ws++[w])->Hp R H' A (Ao σ (op,ks) w d)->Q (.int (σ.nd.length:Nat)) H'):aY X (m0+3) 115 [tF A,.str op,kd] H Q:=by
 have⟨hsn,RC,hwo⟩:=B2 j z hn kK hw;have ve:(1:Nat)≤sizeLine:=sz (ce rfl);have hkz:(nats ks).length≤sizeLine:=sz (by rw[be];exact t8 z);have abV:1+(nats ks).length≤sizeLine:=sz (by rw[be];exact PA z);have Nh:((.str op:D)::nats ks).length≤sizeLine:=sz (by rw[io,be];exact pO z);have u:ks.length≤sizeLine:=sz (t8 z);have hk4:(ks.map λk=>D.int (σ.dp.getD k 0)).length+1≤sizeLine:=sz (by rw[be];exact pO z);have hnz:(σ.nd.map d8).length≤1000:=by rw[be];exact WS hn
 have N:(σ.ws.map D.int).length≤1000:=by rw[be];exact LG kK hn
 have hdz:(σ.dp.map D.int).length≤1000:=by rw[be];exact LG IE hn
 have hn1:(σ.nd++[(op,ks)]).length=σ.nd.length+1:=by simp
 have GR:σ.ws.length≤1000:=LG kK hn;have OM:σ.dp.length≤1000:=WT kK GR IE;have Ni:σ.nd.length≤1000:=le_of_eq_of_le kK.symm GR;have O:σ.nd.length+1≤1000:=WU hn;have Z:σ.nu.length≤1000:=sE hnu;have CQ:∀k∈ks,(decide ((k:Int)<(σ.nd.length:Nat)))=true:=λk hk=>decide_eq_true (bW.mpr (j k hk));have e1:∀k∈ks,σ.ws[k]?=some (σ.ws.getD k 0):=λk hk=>by have:=j k hk;rw[←kK]at this;simp[this]
 have e2:∀k∈ks,σ.dp[k]?=some (σ.dp.getD k 0):=λk hk=>by have:=j k hk;rw[←IE]at this;simp[this]
 have e3:D.fl (ks.map λk=>D.int (σ.ws.getD k 0))=.fl ((ks.map λk=>σ.ws.getD k 0).map D.int):=by rw[li];rfl
 have e4:D.fl ((ks.map λk=>D.int (σ.dp.getD k 0))++[.int 0])=.fl (((ks.map λk=>σ.dp.getD k 0)++[0]).map D.int):=by rw[lf,li];rfl
 have e5:D.int (((σ.nd.length+1:Nat):Int)-1)=.int (σ.nd.length:Nat):=by congr 1;exact mi.mpr rfl
 have cj:(ks.map (λk=>σ.dp.getD k 0))++[0]≠[]:=by simp
 have h1:=λe:ae σ.nu (op,ks)=none=>Mem.nu h (σ.nu++[((op,ks),σ.nd.length)]) (c:=CU (aK σ.nu (op,ks) σ.nd.length)) (by rw[fG e]);have q:=λe=>Mem.nd (h1 e) (σ.nd++[(op,ks)]) (snoc d8 σ.nd (op,ks));have Y:=λe=>Mem.ws (q e) (σ.ws++[1+(ks.map λk=>σ.ws.getD k 0).sum]) (snoc _ _ _);have h5:=λe a ha m=>Mem.dp ((Y e).more (.upd (c:=.list [.int 0]) (a:=a) ha)) (σ.dp++[1+m]) (snoc _ _ _);refine aY.fn rfl rfl (And.intro ve (Exists.intro (nats ks) (And.intro hk (And.intro hkz (And.intro abV (xm.nd (x:=(op,ks)) (.inl (h.at_ .gi _ rfl)) (λi e=>cy.nd (x:=(op,ks)) (.inl (h.at_ .gi _ rfl)) e (.here (q1 i e))) λe=>yF Ap ?_))))));refine And.intro (FS 1 _) (And.intro Nh (aG.seq (nats ks) (.inr rfl) (iD.skip trivial (λk hk Q' hq=>g7.ln (h.at_ .nodes _ rfl) (be _) Ni (xn (by rw[CQ k hk];rfl) (hq _ (aH rfl)))) ?_)));refine g7.ln (h.at_ .nodes _ rfl) (be _) Ni (pX.mk _ rfl (eV.nd (x:=(op,ks)) (h.at_ .gi _ rfl) Z ?_));refine And.intro ⟨_,(h1 e).at_ .nodes _ rfl⟩ (Exists.intro _ (And.intro ((h1 e).at_ .nodes _ rfl) (And.intro (sz hnz) ?_)));refine And.intro ⟨_,(q e).at_ .gj _ rfl⟩ (And.intro (FS 1 _) (And.intro Nh (aG.seq (nats ks) (.inr rfl) (aI.map (λ_ _ _ h=>h) (λa=>aH rfl) (λk=>.int (σ.ws.getD k 0)) u trivial (λk hk Qy hq=>cy.at ((q e).at_ .gj _ rfl) (e1 k hk) GR (hq _ (.refl _))) ?_))));refine Exists.intro _ (And.intro e3 (And.intro hsn (And.intro RC (Exists.intro _ (And.intro ((q e).at_ .gj _ rfl) (And.intro (sz N) ?_))))));refine And.intro ⟨_,(Y e).at_ .iS _ rfl⟩ (And.intro (FS 1 _) (And.intro Nh (aG.seq (nats ks) (.inr rfl) (aI.map (λ_ _ _ h=>h) (λa=>aH rfl) (λk=>.int (σ.dp.getD k 0)) u trivial (λk hk Qy hq=>cy.at ((Y e).at_ .iS _ rfl) (e2 k hk) OM (hq _ (.refl _))) ?_))));refine And.intro ve λa ha=>Exists.intro _ (And.intro (af _ _ _) (And.intro hk4 (Exists.intro _ (And.intro e4 (And.intro cj λm _=>Exists.intro _ (And.intro (((Y e).more (.upd ha)).at_ .iS _ rfl) (And.intro (sz hdz) ?_)))))));exact g7.ln ((h5 e a ha m).at_ .nodes _ rfl) ((be _).trans hn1) O (.here (e5▸q2 e _ _ _ hwo (h5 e a ha m)))
end
section
variable {X:Cx U}{m0:Nat}
theorem Fe{R H:aa}{A:gq}{M:Tg->Option ao}(h:Mem R H A M){a:co}(ha:H a=none):R a=none:=by
 cases e:R a with
 |none=>rfl
 |some d=>rw[h.le _ _ e]at ha;cases ha
theorem Mem.inst{R H:aa}{A:gq}{M M':Tg->Option ao}{b u x:co}(h:Mem R H A M)(j:∀t,M' t=M t)(hn:M .ib=none/\M .iu=none/\M .ih=none:=by exact⟨rfl,rfl,rfl⟩):Mem R H (cm (cm (cm A .ib b) .iu u) .ih x) M':=by
 obtain rfl:M'=M:=funext j;have k:∀t c,M' t=some c->cm (cm (cm A .ib b) .iu u) .ih x t=A t:=λt c e=>by
  rw[gU (by rintro rfl;rw[hn.2.2]at e;cases e),gU (by rintro rfl;rw[hn.2.1]at e;cases e),gU (by rintro rfl;rw[hn.1]at e;cases e)]
 exact⟨λt c e=>by rw[k t c e];exact h.at_ t c e,λt z c c' e e' q=>h.inj t z c c' e e' (by rw[k t c e,k z c' e']at q;exact q),λt c e=>by rw[k t c e];exact h.out t c e,h.le⟩
theorem Jj{R H:aa}{A:gq}{M:Tg->Option ao}{Q:DQ}(h:Mem R H A M)
  (q:∀b z u Y Z H',Mem R H' (cm (cm (cm (cm A .nodes z) .gi u) .gj Y) .iS Z) (cm (cm (cm (cm M .nodes (some (.list []))) .gi (some (CU []))) .gj (some (.list []))) .iS (some (.list [])))->Q (.obj b 191 [("nodes",.ref z),("numbers",.ref u),("weights",.ref Y),("depths",.ref Z)]) H'):aY X (m0+2) 191 [] H Q:=by
 refine aY.cls rfl rfl rfl λx j O=>?_;have h0:=h.rest (.dN []) (.inr O);have hR:=Fe h O;refine And.intro (np _) λz e1=>Exists.intro _ (And.intro ((h0.new .nodes (.list []) e1).le j _ (af _ _ _)) (And.intro rfl (And.intro (ce rfl) ?_)));have h1:=(h0.new .nodes (.list []) e1).self (.dN ([("nodes",.ref z)]:List (lm×D)));refine Exists.intro (CU []) (And.intro (.dT true) λu e2=>Exists.intro _ (And.intro ((h1.new .gi (CU []) e2).le j _ (af _ _ _)) (And.intro rfl (And.intro (ce rfl) ?_))));have h2:=(h1.new .gi (CU []) e2).self (.dN ([("nodes",.ref z),("numbers",.ref u)]:List (lm×D)));refine And.intro (np _) λY e3=>Exists.intro _ (And.intro ((h2.new .gj (.list []) e3).le j _ (af _ _ _)) (And.intro rfl (And.intro (ce rfl) ?_)));have h3:=(h2.new .gj (.list []) e3).self (.dN ([("nodes",.ref z),("numbers",.ref u),("weights",.ref Y)]:List (lm×D)));refine And.intro (np _) λZ e4=>Exists.intro _ (And.intro ((h3.new .iS (.list []) e4).le j _ (af _ _ _)) (And.intro rfl (And.intro (ce rfl) ?_)));have N:=(h3.new .iS (.list []) e4).self (.dN ([("nodes",.ref z),("numbers",.ref u),("weights",.ref Y),("depths",.ref Z)]:List (lm×D)));exact And.intro rfl (Oo ⟨_,N.le j _ (af _ _ _),.here (q _ _ _ _ _ _ (N.made hR))⟩)
theorem Nj{R H:aa}{A:gq}{M:Tg->Option ao}{Q:DQ}(h:Mem R H A M)
  (q:∀b z u Y H',Mem R H' (cm (cm (cm A .above z) .lots u) .merged Y) (cm (cm (cm M .above (some (.list []))) .lots (some (.list []))) .merged (some (.list [])))->Q (sS b z u Y) H'):aY X (m0+2) 384 [] H Q:=by
 refine aY.cls rfl rfl rfl λx j Z=>?_;have h0:=h.rest (.dN []) (.inr Z);have hR:=Fe h Z;refine And.intro (np _) λz e1=>Exists.intro _ (And.intro ((h0.new .above (.list []) e1).le j _ (af _ _ _)) (And.intro rfl (And.intro (ce rfl) ?_)));have h1:=(h0.new .above (.list []) e1).self (.dN ([("above",.ref z)]:List (lm×D)));refine And.intro (np _) λu e2=>Exists.intro _ (And.intro ((h1.new .lots (.list []) e2).le j _ (af _ _ _)) (And.intro rfl (And.intro (ce rfl) ?_)));have N:=(h1.new .lots (.list []) e2).self (.dN ([("above",.ref z),("lots",.ref u)]:List (lm×D)));refine And.intro (np _) λY e3=>Exists.intro _ (And.intro ((N.new .merged (.list []) e3).le j _ (af _ _ _)) (And.intro rfl (And.intro (ce rfl) ?_)));have O:=(N.new .merged (.list []) e3).self (.dN ([("above",.ref z),("lots",.ref u),("merged",.ref Y)]:List (lm×D)));exact And.intro rfl (Oo ⟨_,O.le j _ (af _ _ _),.here (q _ _ _ _ _ (O.made hR))⟩)
noncomputable def So:St:=⟨[],[],[],[],[],[],[],[],[],[],[],[]⟩
theorem Jk{H:aa}{Q:DQ}(q:∀A H',Hp H H' A So->Q (aA A) H'):aY X (m0+4) 514 [] H Q:=by
 refine aY.cls rfl rfl rfl λx z hd=>?_;have h0:=(Mem.base H λ_=>0).rest (.dN []) (.inr hd);refine Jj h0 λb O Z Y j H1 g1=>Exists.intro _ (And.intro (g1.le z _ (af _ _ _)) (And.intro rfl (And.intro (ce rfl) ?_)));have g1':=g1.self (.dN ([("bank",.obj b 191 [("nodes",.ref O),("numbers",.ref Z),("weights",.ref Y),("depths",.ref j)])]:List (lm×D)));refine Nj g1' λu u1 u2 N H2 g2=>Exists.intro _ (And.intro (g2.le z _ (af _ _ _)) (And.intro rfl (And.intro (ce rfl) ?_)));have h0:=g2.self (.dN ([("bank",.obj b 191 [("nodes",.ref O),("numbers",.ref Z),("weights",.ref Y),("depths",.ref j)]),("unions",sS u u1 u2 N)]:List (lm×D)));refine And.intro (np _) λa1 e1=>Exists.intro _ (And.intro ((h0.new .oe (.list []) e1).le z _ (af _ _ _)) (And.intro rfl (And.intro (ce rfl) ?_)));have h1:=(h0.new .oe (.list []) e1).self (.dN ([("bank",.obj b 191 [("nodes",.ref O),("numbers",.ref Z),("weights",.ref Y),("depths",.ref j)]),("unions",sS u u1 u2 N),("edges",.ref a1)]:List (lm×D)));refine And.intro (np _) λa2 e2=>Exists.intro _ (And.intro ((h1.new .lB (.list []) e2).le z _ (af _ _ _)) (And.intro rfl (And.intro (ce rfl) ?_)));have h2:=(h1.new .lB (.list []) e2).self (.dN ([("bank",.obj b 191 [("nodes",.ref O),("numbers",.ref Z),("weights",.ref Y),("depths",.ref j)]),("unions",sS u u1 u2 N),("edges",.ref a1),("forest",.ref a2)]:List (lm×D)));refine Exists.intro (CU []) (And.intro (.dT true) λa3 e3=>Exists.intro _ (And.intro ((h2.new .known (CU []) e3).le z _ (af _ _ _)) (And.intro rfl (And.intro (ce rfl) ?_))));have h3:=(h2.new .known (CU []) e3).self (.dN ([("bank",.obj b 191 [("nodes",.ref O),("numbers",.ref Z),("weights",.ref Y),("depths",.ref j)]),("unions",sS u u1 u2 N),("edges",.ref a1),("forest",.ref a2),("known",.ref a3)]:List (lm×D)));refine Exists.intro (.dI []) (And.intro .dI λa4 e4=>Exists.intro _ (And.intro ((h3.new .uses (.dI []) e4).le z _ (af _ _ _)) (And.intro rfl (And.intro (ce rfl) ?_))));have h4:=(h3.new .uses (.dI []) e4).self (.dN ([("bank",.obj b 191 [("nodes",.ref O),("numbers",.ref Z),("weights",.ref Y),("depths",.ref j)]),("unions",sS u u1 u2 N),("edges",.ref a1),("forest",.ref a2),("known",.ref a3),("above",.ref a4)]:List (lm×D)));refine And.intro (np _) λa5 e5=>Exists.intro _ (And.intro ((h4.new .waiting (.list []) e5).le z _ (af _ _ _)) (And.intro rfl (And.intro (ce rfl) ?_)));have h5:=(h4.new .waiting (.list []) e5).self (.dN ([("bank",.obj b 191 [("nodes",.ref O),("numbers",.ref Z),("weights",.ref Y),("depths",.ref j)]),("unions",sS u u1 u2 N),("edges",.ref a1),("forest",.ref a2),("known",.ref a3),("above",.ref a4),("waiting",.ref a5)]:List (lm×D)));have h6:=h5.made hd;exact And.intro rfl (Oo ⟨_,h5.le z _ (af _ _ _),.here (q (cm (cm (cm _ .ib b) .iu u) .ih x) _ (h6.inst λt=>by cases t<;>rfl))⟩)
end
section
variable {X:Cx U}{m0:Nat}
theorem Aq{i j:Nat}(h:Tg.lot i=.lot j):i=j:=by injection h
theorem Ar{i j:Nat}(h:Tg.use i=.use j):i=j:=by injection h
section
variable {R H:aa}{A:gq}{σ:St}
noncomputable abbrev Ff(A:gq)(n:Nat):List D:=(pc n).map λi=>.ref (A (.lot i))
theorem Mem.make(h:Hp R H A σ){a:co}(ha:H a=none){n:Nat}(hn:σ.lots.length=n):Hp R (upd (upd H a (.list [.int n])) (A .lots) (.list (Ff A σ.lots.length++[.ref a]))) (cm A (.lot n) a) (σ.E9 (σ.lots++[[n]])):=by
 have h1:=Mem.new h (.lot n) (.list [.int n]) ha;have j:∀u,u≠.lot n->cm A (.lot n) a u=A u:=λu z=>gU z;refine(h1.set .lots (M':=mem (cm A (.lot n) a) {σ with lots:=σ.lots++[[n]]}) rfl (λu z=>?_) ?_:Mem _ _ _ _)
 ·cases u with
  |lot i=>
   by_cases e:i=n
   ·rw[e,eB];show bL (λl=>ao.list (nats l)) (σ.lots++[[n]])[n]?=_;rw[bD (IR hn),hn,i8];rfl
   ·rw[gU (λq=>e (Aq q))];show bL _ (σ.lots++[[n]])[i]?=_;rcases bG i σ.lots.length with hi|hi
    ·rw[TT hi];rfl
    ·rw[aW (by simp;exact WV hn hi e)];show none=bL _ σ.lots[i]?;rw[aW hi];rfl
  |lots=>exact absurd rfl z
  |_=>rfl
 ·refine(?_:some (ao.list _)=_);rw[ci,pp,sb,lf,hn];have:(pc n).map (λi=>D.ref (cm A (.lot n) a (.lot i)))=Ff A n:=wT λi hi=>by rw[j _ λq=>absurd (Aq q) (by have:=cL.mp hi;exact wn this)]
  rw[this,oA,eB]
noncomputable def As(σ:St):St:={σ with p:=σ.p++[σ.p.length],lots:=σ.lots++[[σ.p.length]]}
theorem Jl{Q:DQ}(h:Hp R H A σ)(hl:σ.lots.length=σ.p.length)(hz:σ.p.length≤100)(q:∀a H',Hp R H' (cm A (.lot σ.p.length) a) (As σ)->Q (.int (σ.p.length:Nat)) H'):aY X (m0+1) 327 [Nf A] H Q:=by
 have h1:=Mem.p h (σ.p++[σ.p.length]) (snoc (λi:Nat=>D.int i) σ.p σ.p.length);have Y:(nats σ.p).length=σ.p.length:=be _;have j:(Ff A σ.lots.length).length=σ.p.length:=by rw[be,zn];exact hl
 have O:(nats (σ.p++[σ.p.length])).length=σ.p.length+1:=by rw[be,ci];rfl
 have Z:D.int (((σ.p.length+1:Nat):Int)-1)=.int (σ.p.length:Nat):=by congr 1;exact mi.mpr rfl
 have hz:σ.p.length≤1000:=sE hz;have z:σ.p.length+1≤1000:=WW (by assumption);refine aY.fn rfl rfl (And.intro ⟨_,h.at_ .above _ rfl⟩ (g7.ln (h.at_ .above _ rfl) Y hz (Exists.intro _ (And.intro (h.at_ .above _ rfl) (And.intro (sz (Y.symm▸hz)) ?_)))));refine And.intro ⟨_,h1.at_ .lots _ rfl⟩ (g7.ln (h1.at_ .lots _ rfl) j hz (And.intro (sz (ce rfl)) λa ha=>?_));refine Exists.intro _ (And.intro ((h1.more (.upd ha)).at_ .lots _ rfl) (And.intro (sz (j.symm▸hz)) ?_));have u:=Mem.make h1 ha hl;exact g7.ln (u.at_ .above _ rfl) O z (.here (Z▸q a _ u))
theorem wA{Q:DQ}(h:H (A .above)=some (.list (nats σ.p)))(hz:σ.p.length≤1000)(q:Q (.int (σ.p.length:Nat)) H):aY X (m0+1) 334 [Nf A] H Q:=
 aY.fn rfl rfl (g7.ln h (be _) hz (.here q))
theorem og{Q:DQ}{x:Nat}(h:H (A .above)=some (.list (nats σ.p)))(hx:x<σ.p.length)(hf:cb σ.p)(hz:σ.p.length≤100)(q:Q (.int (find σ.p x:Nat)) H):aY X (m0+1) 341 [Nf A,.int x] H Q:=Jd h hx hf hz q
end
end
section
variable {X:Cx U}{m0:Nat}
theorem Fg{l:List Nat}{i k:Nat}:(nats l).set i (.int k)=nats (l.set i k):=List.map_set.symm
theorem fH{l m:List Nat}:nats l++nats m=nats (l++m):=(lf).symm
theorem ax{l:List Nat}:(nats l).length=l.length:=be _
theorem tH{p:List Nat}(hf:cb p):∀(k a:Nat),a<p.length->rootOf p k a≤a
 |0,a,_=>ii a
 |k+1,a,h=>by
  rw[g8];split
  ·exact ii a
  ·have:=hf a h;exact cr (tH hf k _ (FB (hf a h) h)) this
theorem Au{p:List Nat}(hf:cb p){a:Nat}(h:a<p.length):find p a≤a:=tH hf a a h
theorem cW{p:List Nat}(hf:cb p){a:Nat}(h:a<p.length):find p a<p.length:=FB (Au hf h) h
section
variable {R H:aa}{A:gq}{σ:St}
theorem Fh{ns:List Int}{x y:Nat}(hp:ns.Perm [(x:Int),(y:Int)])(hs:ns.Pairwise (·≤·)):ns=[((min x y:Nat):Int),((max x y:Nat):Int)]:=by
 have hl:=hp.length_eq;rcases ns with _|⟨u,_|⟨v,_|⟨w,l⟩⟩⟩<;>simp at hl;have h1:u∈[(x:Int),(y:Int)]:=hp.mem_iff.mp (.head _);have j:v∈[(x:Int),(y:Int)]:=hp.mem_iff.mp (.tail _ (.head _));have z:(x:Int)∈[u,v]:=hp.mem_iff.mpr (.head _);have h5:(y:Int)∈[u,v]:=hp.mem_iff.mpr (.tail _ (.head _));have q:u≤v:=by simpa using hs
 simp only[em,bj,or_false]at h1 j z h5;simp only[y9,and_true];exact ZT q h1 j z h5
theorem dM.two{a:co}{x y k g:Nat}{Q:DQ}(hk:min x y=k)(z:max x y=g)(h:H a=some (.list [.int x,.int y]))(q:Q (.fl [.int (k:Nat),.int (g:Nat)]) H):dM X (.ref a) H Q:=by
 subst hk;subst z;exact .ET a [(x:Int),(y:Int)] rfl h (ce rfl) λns hp hs=>by rw[Fh hp hs];exact q
theorem Mem.lot(h:Hp R H A σ){k:Nat}{z:List Nat}(hk:σ.lots[k]?=some z)(l:List Nat){c:ao}(hc:c=.list (nats l)):Hp R (upd H (A (.lot k)) c) A (σ.E9 (σ.lots.set k l)):=by
 have hl:=(ww.mp hk).1;refine h.set (.lot k) (c0:=.list (nats z)) (by refine(?_:bL _ _=_);rw[hk];rfl) (λu j=>?_) ?_
 ·cases u with
  |lot i=>
   have q:k≠i:=λe=>j (by rw[e]);refine(?_:bL _ (σ.lots.set k l)[i]?=bL _ σ.lots[i]?);rw[List.getElem?_set_ne q]
  |lots=>show some (ao.list _)=some (ao.list _);rw[cX]
  |_=>rfl
 ·refine(?_:bL _ (σ.lots.set k l)[k]?=_);rw[List.getElem?_set_self hl,hc];rfl
noncomputable def mrg(σ:St)(k g:Nat):St:={σ with p:=σ.p.set g k,lots:=σ.lots.set k (σ.lots.getD k []++σ.lots.getD g []),mg:=σ.mg++[.tup [.int (k:Nat),.int (g:Nat)]]}
theorem uG(h:σ.lots.length=σ.p.length){k:Nat}(hk:k<σ.p.length):σ.lots[k]?=some (σ.lots.getD k []):=by
 rw[←h]at hk;simp[hk]
theorem Fi{k:Nat}{l:List Nat}(h:σ.lots[k]?=some l):mem A σ (.lot k)=some (.list (nats l)):=by show bL _ _=_;rw[h];rfl
theorem Ext.nats{W:DQ->Prop}{l l2:co}{H:aa}{Q:DQ}{xs ys:List Nat}(h:H l=some (.list (nats xs)))(z:H l2=some (.list (nats ys)))(hz:xs.length+ys.length≤1000)(w:∀P:DQ,P (.ref l2) H->W P)(q:Q .none (upd H l (.list (nats xs++nats ys)))):Ext W l H Q:=
 .list ⟨_,h⟩ (w _ (aah l2 _ _ rfl h z (by rw[be,be];exact WX hz) q))
theorem getL{L:List (List Nat)}{b i:Nat}(h:∀l∈L,l.length≤b)(hi:i<L.length):(L.getD i []).length≤b:=by
 have:L.getD i []=L[i]:=by simp[hi]
 rw[this];exact h _ (IN hi)
theorem Fj{Q:DQ}{a b k g:Nat}(ek:min (find σ.p a) (find σ.p b)=k)(eg:max (find σ.p a) (find σ.p b)=g)(h:Hp R H A σ)(ha:a<σ.p.length)(hb:b<σ.p.length)(hf:cb σ.p)(hl:σ.lots.length=σ.p.length)(hz:σ.p.length≤100)(hL:∀l∈σ.lots,l.length≤100)(hm:σ.mg.length≤1000)
  (q1:find σ.p a=find σ.p b->Q .none H)
  (q2:find σ.p a≠find σ.p b->∀H',Hp R H' A (mrg σ k g)->Q (.tup [.int (k:Nat),.int (g:Nat)]) H'):aY X (m0+3) 348 [Nf A,.int a,.int b] H Q:=by
 have q:=cW hf ha;have z:=cW hf hb;have hk:=uG hl (k:=min (find σ.p a) (find σ.p b)) (WY z);have Z:=uG hl (k:=max (find σ.p a) (find σ.p b)) (PB q z);have hK:=getL hL (show min (find σ.p a) (find σ.p b)<σ.lots.length by exact WZ z hl);have hG:=getL hL (show max (find σ.p a) (find σ.p b)<σ.lots.length by exact W0 q z hl);have u:max (find σ.p a) (find σ.p b)<(nats σ.p).length:=by rw[be];exact PB q z
 have j:∀{c:Bool},(((min (find σ.p a) (find σ.p b):Nat):Int)==((max (find σ.p a) (find σ.p b):Nat):Int))=c->(c=true↔find σ.p a=find σ.p b):=λ{c} e=>by rw[←e,beq_iff_eq];exact Z4
 have N:(pc σ.lots.length)[min (find σ.p a) (find σ.p b)]?=some (min (find σ.p a) (find σ.p b)):=by rw[iK (Hg hk)]
 have Jm:(pc σ.lots.length)[max (find σ.p a) (find σ.p b)]?=some (max (find σ.p a) (find σ.p b)):=by rw[iK (Hg Z)]
 have Uz:(pc σ.lots.length).length≤1000:=by rw[zn];exact Hs hl hz
 rw[ek]at hk hK N j;rw[eg]at Z hG Jm j u;have vi:(σ.lots.getD k []).length+(σ.lots.getD g []).length≤1000:=W3 hK hG;have Y:(nats σ.p).length≤sizeLine:=sz (by rw[be];exact sE hz);have h0:=λc(hc:H c=none)=>h.more (.upd (c:=.list [.int (find σ.p a),.int (find σ.p b)]) hc);have h1:=λc hc=>Mem.p (h0 c hc) (c:=.list ((nats σ.p).set g (.int k))) (σ.p.set g k) (by rw[Fg]);have O:=λc hc=>Mem.lot (h1 c hc) hk (c:=.list (nats (σ.lots.getD k [])++nats (σ.lots.getD g []))) (σ.lots.getD k []++σ.lots.getD g []) (by rw[fH]);have h3:=λc hc=>Mem.mg (O c hc) (c:=.list (σ.mg++[.tup [.int k,.int g]])) (σ.mg++[.tup [.int k,.int g]]) rfl;refine aY.fn rfl rfl (og (h.at_ .above _ rfl) ha hf hz (og (h.at_ .above _ rfl) hb hf hz (And.intro (sz (ce rfl)) λc hc=>dM.two ek eg (af _ _ _) (And.intro rfl ?_))));refine sQ (λe=>.less (.upd hc) (.here (q1 ((j e).mp rfl)))) λe=>?_;refine pX.mk _ rfl (eV.list _ g rfl ((h0 c hc).at_ .above _ rfl) u Y ?_);refine cy.at ((h1 c hc).at_ .lots _ rfl) N Uz (Ext.nats ((h1 c hc).at_ (.lot k) _ (Fi hk)) ((h1 c hc).at_ (.lot g) _ (Fi Z)) vi (λP hP=>cy.at ((h1 c hc).at_ .lots _ rfl) Jm Uz hP) ?_);refine And.intro ⟨_,(O c hc).at_ .merged _ rfl⟩ (And.intro (sz (ce rfl)) (Exists.intro _ (And.intro ((O c hc).at_ .merged _ rfl) (And.intro (sz hm) ?_))));exact And.intro (sz (ce rfl)) (.here (q2 (λe'=>by have:=(j e).mpr e';cases this) _ (h3 c hc)))
end
end
section
variable {X:Cx U}{m0:Nat}
section
variable {R H:aa}{A:gq}{σ:St}
theorem tI{ns:List Int}{l:List Nat}(h:ns.Perm (l.map λi:Nat=>(i:Int))):∃z:List Nat,ns=z.map (λi:Nat=>(i:Int))/\z.Perm l:=by
 refine⟨ns.map Hh,?_,?_⟩
 ·rw[li];refine(iq ns).symm.trans (wT λx hx=>?_);refine ah (lc.mp (h.mem_iff.mp hx)) λi _ u=>?_;subst u;rfl
 ·have:=h.map Hh;rw[li]at this;have e:l.map (Hh∘λi:Nat=>(i:Int))=l:=(wT λx _=>rfl).trans (iq l)
  rwa [e]at this
theorem dM.nats{a:co}{l:List Nat}{Q:DQ}(h:H a=some (.list (nats l)))(hz:l.length<64)(q:∀z:List Nat,z.Perm l->z.Pairwise (·≤·)->Q (.fl (Mine.Tactic.nats z)) H):dM X (.ref a) H Q:=by
 refine .ET a (l.map λi:Nat=>(i:Int)) rfl (by rw[h,li];rfl) (by simpa using hz) λns hp hs=>?_;refine ah (tI hp) λz j u=>?_;subst j;rw[li];exact q z u ((aV.mp hs).imp λh=>xt.mp h)
theorem Fm{n k:Nat}(h:k<n):(pc n)[k]?=some k:=iK h
theorem wB{Q:DQ}{a:Nat}(h:Hp R H A σ)(ha:a<σ.p.length)(hf:cb σ.p)(hz:σ.p.length≤100)(hl:σ.lots.length=σ.p.length)(j:∀l∈σ.lots,l.length≤50)(q:∀l:List Nat,l.Perm (σ.lots.getD (find σ.p a) [])->l.Pairwise (·≤·)->Q (.fl (nats l)) H):aY X (m0+2) 355 [Nf A,.int a] H Q:=by
 have z:=cW hf ha;have hk:=uG hl z;have u:=getL j (show find σ.p a<σ.lots.length by exact W4 z hl);have Y:(pc σ.lots.length).length≤1000:=by rw[zn];exact Hs hl hz
 refine aY.fn rfl rfl (og (h.at_ .above _ rfl) ha hf hz (cy.at (h.at_ .lots _ rfl) (Fm (by rw[hl];exact z)) Y (dM.nats (h.at_ (.lot _) _ (Fi hk)) (W5 u) λl hp hs=>.here (q l hp hs))))
noncomputable def roots(p:List Nat):List Nat:=(pc p.length).filter λi=>((p.getD i 0:Nat):Int)==(i:Int)
theorem bA{p:List Nat}{i:Nat}:i∈roots p↔i<p.length/\p.getD i 0=i:=by
 unfold roots;rw[bH,cL,beq_iff_eq,Int.ofNat_inj]
theorem getD_at{l:List Nat}{i:Nat}(h:i<l.length):l[i]?=some (l.getD i 0):=by simp[h]
theorem wC{Q:DQ}(h:H (A .above)=some (.list (nats σ.p)))(hz:σ.p.length≤100)(q:Q (.fl (nats (roots σ.p))) H):aY X (m0+1) 360 [Nf A] H Q:=by
 have j:(pc σ.p.length).length≤sizeLine:=sz (by rw[zn];exact sE hz);have u:σ.p.length≤1000000:=W6 hz;have z:σ.p.length≤1000:=sE hz;exact aY.fn rfl rfl (g7.ln h (be _) z (Exists.intro σ.p.length (And.intro rfl (And.intro u (aI.B1 (λ_ _ _ h=>h) (λ_=>aH rfl) (λi=>((σ.p.getD i 0:Nat):Int)==(i:Int)) (λi=>.int (i:Nat)) j trivial (λi hi Y Z hy hn=>cy.at h (getD_at (cL.mp hi)) z (sQ (λe=>hy e _ (.refl _)) λe=>hn e _ (.refl _))) (.here q))))))
end
section
variable {R H:aa}{A:gq}{σ:St}
theorem wD{Q:DQ}(h:H (A .nodes)=some (.list (σ.nd.map d8)))(hz:σ.nd.length≤1000)(q:Q (.int (σ.nd.length:Nat)) H):aY X (m0+2) 409 [aA A] H Q:=
 aY.fn rfl rfl (E' h (by rw[be];exact hz) (by rw[be];exact .here q))
theorem jR{Q:DQ}{x:Nat}(h:H (A .above)=some (.list (nats σ.p)))(hx:x<σ.p.length)(hf:cb σ.p)(hz:σ.p.length≤100)(q:Q (.int (find σ.p x:Nat)) H):aY X (m0+2) 438 [aA A,.int x] H Q:=
 aY.fn rfl rfl (og h hx hf hz (.here q))
noncomputable def canon(p:List Nat)(x:Nd):Nd:=(x.1,x.2.map (find p))
theorem Av{Q:DQ}{i:Nat}{x:Nd}(h1:H (A .nodes)=some (.list (σ.nd.map d8)))(Z:H (A .above)=some (.list (nats σ.p)))(hi:σ.nd[i]?=some x)(hk:∀k∈x.2,k<σ.p.length)(RD:x.2.length≤2)(hf:cb σ.p)(hz:σ.p.length≤100)(hn:σ.nd.length≤100)(q:Q (d8 (canon σ.p x)) H):aY X (m0+3) 414 [aA A,.int i] H Q:=by
 have j:σ.nd.length≤1000:=sE hn;have z:x.2.length≤100:=PC RD;have u:x.2.length≤sizeLine:=sz (sE z);have N:(x.2.map λk=>D.int (find σ.p k:Nat)).length≤sizeLine:=by rw[be];exact u
 have O:1+(x.2.map λk=>D.int (find σ.p k:Nat)).length≤sizeLine:=by rw[be];exact sz (W7 z)
 have e:D.tup ([.str x.1]++x.2.map λk=>D.int (find σ.p k:Nat))=d8 (canon σ.p x):=by show _=D.tup (.str x.1::pq _ (pq _ _));rw[li];rfl
 exact aY.fn rfl rfl (Fb h1 hi j (And.intro (sz (ce rfl)) (wz h1 hi j z (aG.seq _ (.inr rfl) (aI.map (λ_ _ _ h=>h) (λ_=>aH rfl) (λk=>.int (find σ.p k:Nat)) u trivial (λk Y Qy hy=>jR Z (hk k Y) hf hz (hy _ (.refl _))) (Exists.intro _ (And.intro (.inr rfl) (And.intro N (And.intro O (.here (e▸q)))))))))))
theorem wF{Q:DQ}(h:H (A .above)=some (.list (nats σ.p)))(hz:σ.p.length≤100)(q:Q (.fl (nats (roots σ.p))) H):aY X (m0+2) 480 [aA A] H Q:=
 aY.fn rfl rfl (wC h hz (.here q))
theorem pE{Q:DQ}{a:Nat}(h:Hp R H A σ)(ha:a<σ.p.length)(hf:cb σ.p)(hz:σ.p.length≤100)(hl:σ.lots.length=σ.p.length)(z:∀l∈σ.lots,l.length≤50)(q:∀l:List Nat,l.Perm (σ.lots.getD (find σ.p a) [])->l.Pairwise (·≤·)->Q (.fl (nats l)) H):aY X (m0+3) 487 [aA A,.int a] H Q:=
 aY.fn rfl rfl (wB h ha hf hz hl z λl hp hs=>.here (q l hp hs))
noncomputable def NS(i:Nat):D->Prop:=if i=0 then Ie else qo
theorem NS.jF{n:Nat}(i:Nat):aB n (NS i):=by
 unfold NS;split
 ·exact .str
 ·exact .int
theorem KZ(x:Nd):gh NS (d8 x):=⟨_,rfl,λi y h=>by
 cases i with
 |zero=>cases h;exact⟨_,rfl⟩
 |succ i=>
  rw[kx,tz]at h;cases e:x.2[i]? with
  |none=>rw[e]at h;cases h
  |some k=>rw[e]at h;cases h;exact⟨_,rfl⟩⟩
noncomputable def CV(d:D):Prop:=gh NS d/\∃x l,d=.tup (x::l)
theorem UA(x:Nd):CV (d8 x):=⟨KZ x,_,_,rfl⟩
theorem CV.jF{n:Nat}:aB (n+1) CV:=(aB.tups λi=>NS.jF i).mono λ_ h=>h.1
theorem CV.kd{prog:EQ}{w:KB}{n:Nat}:gK prog w (n+1) CV (tuples' true):=gK.tups (λi=>NS.jF i) (.inr λx h=>h)
theorem Aw{ds:List D}{l:List Nd}(h:ds.Perm (l.map d8)):∃z:List Nd,ds=z.map d8/\z.Perm l:=by
 have:∀{ds es:List D},ds.Perm es->∀l:List Nd,es=l.map d8->∃z:List Nd,ds=z.map d8/\z.Perm l:=by
  intro ds es h;induction h with
  |nil=>intro l e;exact⟨[],rfl,by rw[cv.mp e.symm]⟩
  |cons x _ ih=>
   intro l e;refine cK (b7.mp e.symm) λy l2 js h1 q=>?_;subst js;refine ah (ih l2 q.symm) λz j u=>?_;exact⟨y::z,by rw[jp,h1,j],u.cons y⟩
  |swap x y l0=>
   intro l e;refine cK (b7.mp e.symm) λa l2 O h1 q=>?_;subst O;refine cK (b7.mp q) λb Y Z j u=>?_;subst Z;exact⟨b::a::Y,by rw[jp,jp,h1,j,u],.swap _ _ _⟩
  |trans _ _ MJ MK=>
   intro l e;refine cut λPP N=>?_;refine ah (MK l e) λl2 h1 q=>?_;refine ah (MJ l2 h1) λY j u=>?_;refine N ?_;exact⟨Y,j,u.trans q⟩
 exact this h l rfl
theorem Nk{ds:List D}(h:∀d∈ds,∃y:Nd,d=d8 y):∃ys:List Nd,ds=ys.map d8:=by
 induction ds with
 |nil=>exact⟨[],rfl⟩
 |cons d ds ih=>
  obtain⟨y,rfl⟩:=h _ (.head _);obtain⟨ys,rfl⟩:=ih λd z=>h d (.tail _ z);exact⟨y::ys,rfl⟩
theorem lU{α β:Type}{f:α->β}{l:List α}(h:(l.map f).Nodup):l.Nodup:=(aV.mp h).imp λh e=>h (by rw[e])
theorem lW{α β:Type}{f:α->β}(hf:∀a b,f a=f b->a=b){l:List α}(h:l.Nodup):(l.map f).Nodup:=aV.mpr (Pe (λh e=>h (hf _ _ e)) h)
theorem n6.Nl{Q:DQ}{l:List Nd}(Z:l.length≤18)(q:∀(O:List Nd)(s:co)(c:ao),H s=none->O.Nodup->(∀y,y∈O↔y∈l)->Q (.fl (O.map d8)) (upd H s c)):n6 (.fl (l.map d8)) H λd H'=>dM X d H' Q:=by
 refine n6.tups _ CV CV.jF (λx h=>h.1.elim λl h=>⟨l,h.1⟩) rfl (by rw[be];exact Z) (λd j=>?_) λs ds hs nd hm=>?_
 ·obtain⟨i,_,rfl⟩:=lc.mp j;exact UA _
 obtain⟨ys,rfl⟩:=Nk λd j=>by
  obtain⟨i,_,rfl⟩:=lc.mp ((hm d).mp j);exact⟨_,rfl⟩
 have N:∀y,y∈ys↔y∈l:=λy=>by
  have:=hm (d8 y);rw[lc,lc]at this;constructor
  ·intro h;obtain⟨z,hz,e⟩:=this.mp ⟨y,h,rfl⟩;rwa [←lT _ _ e]
  ·intro h;obtain⟨z,hz,e⟩:=this.mpr ⟨y,h,rfl⟩;rwa [←lT _ _ e]
 have Y:=lU nd;have u:ys.length≤l.length:=aq Y λx hx=>(N x).mp hx;refine dM.Sb 8 CV _ CV.kd CV.jF (by decide) (Src.set s _ rfl (af _ _ _) (sz (by rw[be];exact PD Z u)) λju hp=>?_);refine ah (Aw hp) λzs Iw hz=>?_;subst Iw;refine(oJ (λd j=>?_) (lW lT (hz.nodup_iff.mpr Y)) (by rw[be,hz.length_eq];exact PE Z u) (λMY xl _=>?_))
 ·obtain⟨i,_,rfl⟩:=lc.mp j;exact UA _
 refine ah (Aw xl) λws Ms hw=>?_;subst Ms;exact q ws s _ hs ((hw.trans hz).nodup_iff.mpr Y) λy=>((hw.trans hz).mem_iff).trans (N y)
noncomputable def fJ(σ:St)(i:Nat):Nd:=canon σ.p (σ.nd.getD i ("",[]))
theorem wG{Q:DQ}{a:Nat}(h:Hp R H A σ)(ha:a<σ.p.length)(hf:cb σ.p)(hz:σ.p.length≤100)(hn:σ.nd.length≤100)(hl:σ.lots.length=σ.p.length)(Z:∀l∈σ.lots,l.length≤18)
  (hk:∀i∈σ.lots.getD (find σ.p a) [],∃x,σ.nd[i]?=some x/\(∀k∈x.2,k<σ.p.length)/\x.2.length≤2)
  (q:∀l:List Nd,l.Nodup->(∀y,y∈l↔∃i∈σ.lots.getD (find σ.p a) [],fJ σ i=y)->Q (.fl (l.map d8)) H):aY X (m0+4) 492 [aA A,.int a] H Q:=by
 have Y:=getL Z (show find σ.p a<σ.lots.length by rw[hl];exact cW hf ha);have u:∀l∈σ.lots,l.length≤50:=λl hl=>by have:=Z l hl;exact PF this
 have oQ:∀l:List Nat,l.Perm (σ.lots.getD (find σ.p a) [])->l.length≤sizeLine:=λl hp=>sz (by rw[hp.length_eq];exact PG Y);have N:∀l:List Nat,l.Perm (σ.lots.getD (find σ.p a) [])->(l.map (fJ σ)).length≤18:=λl hp=>by rw[be,hp.length_eq];exact Y
 have Sp:∀l:List Nat,l.Perm (σ.lots.getD (find σ.p a) [])->∀i∈l,∀j:DQ,(∀O,H.le O->j (d8 (fJ σ i)) O)->aY X (m0+3) 414 [aA A,.int i] H j:=λl hp i hi j hy=>by
  refine cut λPP kk=>?_;refine bt (hk i (hp.mem_iff.mp hi)) λx e h1 h2=>?_;refine kk ?_;exact Av (h.at_ .nodes _ rfl) (h.at_ .above _ rfl) e h1 h2 hf hz hn (by rw[show x=σ.nd.getD i ("",[]) by simp[e]];exact hy _ (.refl _))
 have he:∀l:List Nat,(l.map λi=>d8 (fJ σ i))=(l.map (fJ σ)).map d8:=λl=>by rw[li];rfl
 have hq:∀l:List Nat,l.Perm (σ.lots.getD (find σ.p a) [])->∀z:List Nd,∀s c,H s=none->z.Nodup->(∀y,y∈z↔y∈l.map (fJ σ))->Up Q (.fl (z.map d8)) (upd H s c):=λl hp z s c hs hn hm=>.less (.upd hs) (.here (q z hn λy=>(hm y).trans (lc.trans ⟨λDG=>ah DG λi hi e=>(ak i (hp.mem_iff.mp hi) e),λNn=>ah Nn λi hi e=>⟨i,hp.mem_iff.mpr hi,e⟩⟩)));exact aY.fn rfl rfl (pE h ha hf hz hl u λl hp hs=>aG.seq _ (.inl rfl) (aI.map (λ_ _ _ h=>h) (λ_=>aH rfl) (λi=>d8 (fJ σ i)) (oQ l hp) trivial (Sp l hp) (by rw[he];exact n6.Nl (N l hp) (hq l hp))))
end
end
section
variable {X:Cx U}{m0:Nat}
theorem aN{K V:Type}[DecidableEq K]{l:List (K×V)}{k:K}:(ae l k).isSome=true↔k∈l.map (·.1):=by
 induction l with
 |nil=>exact⟨λh=>(by cases h),λh=>(by cases h)⟩
 |cons q l ih=>
  rw[gO,jp,em];by_cases e:q.1=k
  ·rw[if_pos e];exact⟨λ_=>.inl e.symm,λ_=>rfl⟩
  ·rw[if_neg e,ih];exact⟨.inr,λh=>h.elim (λh=>absurd h.symm e) id⟩
theorem uH{K V:Type}[DecidableEq K]{l:List (K×V)}{k:K}{v w:V}(h:ae l k=some v):aK l k w=l.map λp=>if p.1=k then(p.1,w)else p:=by
 unfold aK;rw[oX,h];rfl
theorem lX{K V:Type}[DecidableEq K]{l:List (K×V)}{k:K}{v w:V}(h:ae l k=some v):(aK l k w).map (·.1)=l.map (·.1):=by
 rw[uH h,li];exact wT λp _=>by show(if _ then _ else _:K×V).1=_;split<;>rfl
noncomputable abbrev pF(A:gq)(l:List (Nat×List Nat)):List (Int×D):=l.map λp=>((p.1:Int),.ref (A (.use p.1)))
theorem uI{A:gq}{l:List (Nat×List Nat)}{c:Nat}:eS (pF A l) (c:Int)=(ae l c).map λ_=>.ref (A (.use c)):=by
 induction l with
 |nil=>rfl
 |cons p l ih=>
  rw[gO];unfold eS pF at*;rw[jp,kP];by_cases e:p.1=c
  ·subst e;simp
  ·have e':¬((p.1:Int)=(c:Int)):=λq=>e (Go q);simp only[e',e,decide_false,if_false];exact ih
theorem uJ{A:gq}{l:List (Nat×List Nat)}{c:Nat}:nC (pF A l) (c:Int)=pF A (gu l c):=by
 unfold nC gu pF;rw[List.filter_map];congr 1;exact pv λp _=>decide_eq_decide.mpr ⟨λh e=>h (by show(p.1:Int)=c;rw[e]),λh e=>h (Go e)⟩
set_option tactic.hygienic true in
theorem Jn{A:gq}{l:List (Nat×List Nat)}{k:Nat}{v:List Nat}{a:co}:dput (pF A l) (k:Int) (.ref a)=pF (cm A (.use k) a) (aK l k v):=by
 have h1:∀p:Nat×List Nat,((p.1:Int)=(k:Int))↔p.1=k:=λp=>⟨λq=>Go q,λe=>by rw[e]⟩;have z:∀c,c≠k->cm A (.use k) a (.use c)=A (.use c):=λc hc=>gU λe=>hc (Ar e);unfold dput aK pF;rw[Om,show((λp:Int×D=>decide (p.1=(k:Int)))∘λp:Nat×List Nat=>((p.1:Int),D.ref (A (.use p.1))))=λp=>decide (p.1=k)from funext λp=>decide_eq_decide.mpr (h1 p)];split
 ·rw[li,li];refine wT λp _=>?_;by_cases e:p.1=k
  ·subst e;simp[eB]
  ·simp[e,h1,z _ e]
 ·rename_i hn;rw[lf,oA];refine congr (congrArg _ (wT λp hp=>?_)) (by simp[eB]);have:p.1≠k:=λe=>hn (fy.mpr ⟨p,hp,by simp[e]⟩);rw[z _ this]
section
variable {R H:aa}{A:gq}{σ:St}
theorem Mem.drop{M M':Tg->Option ao}(h:Mem R H A M)(z:∀t c,M' t=some c->M t=some c):Mem R H A M':=
 ⟨λt c e=>h.at_ t c (z t c e),λt u c c' e e'=>h.inj t u c c' (z t c e) (z u c' e'),λt c e=>h.out t c (z t c e),h.le⟩
theorem tJ{k:Nat}{l:List Nat}(h:ae σ.ab k=some l):mem A σ (.use k)=some (.list (nats l)):=by show bL _ _=_;rw[h];rfl
theorem Mem.pop(h:Hp R H A σ)(g:Nat):Mem R (upd H (A .uses) (.dI (nC (pF A σ.ab) g))) A (cm (mem A σ) .uses (some (.dI (pF A (gu σ.ab g))))):=by
 rw[uJ];exact h.set .uses rfl (λu z=>gU z) eB
theorem Mem.Fn{H:aa}{σ:St}(h:Hp R H A σ)(k:Nat)(v:List Nat){c:ao}(hc:c=.list (nats v)){a:co}(ha:H a=none):Hp R (upd (upd H a c) (A .uses) (.dI (dput (pF A σ.ab) k (.ref a)))) (cm A (.use k) a) (σ.wy (aK σ.ab k v)):=by
 subst hc;rw[Jn (v:=v)];refine((Mem.new h (.use k) (.list (nats v)) ha).set .uses (M':=mem (cm A (.use k) a) (σ.wy (aK σ.ab k v))) (c0:=.dI (pF A σ.ab)) rfl (λu z=>?_) rfl);cases u with
 |use c0=>
  show(ae (aK σ.ab k v) c0).map _=_;rw[av];by_cases q:k=c0
  ·subst q;rw[if_pos rfl,eB];rfl
  ·rw[if_neg q,gU λq'=>q (Ar q').symm];rfl
 |uses=>exact absurd rfl z
 |_=>rfl
theorem Mem.joined{k g:Nat}{lk z:List Nat}(h:Hp R H A σ){a:co}(ha:upd H (A .uses) (.dI (nC (pF A σ.ab) g)) a=none):
  Hp R (upd (upd (upd H (A .uses) (.dI (nC (pF A σ.ab) g))) a (.list (nats lk++nats z))) (A .uses) (.dI (dput (nC (pF A σ.ab) g) k (.ref a)))) (cm A (.use k) a) (σ.wy (aK (gu σ.ab g) k (lk++z))):=by
 have hp:Hp R (upd H (A .uses) (.dI (nC (pF A σ.ab) g))) A (σ.wy (gu σ.ab g)):=(Mem.pop h g).drop λt c e=>by
  cases t with
  |uses=>rw[eB];exact e
  |use c0=>
   replace e:(ae (gu σ.ab g) c0).map _=some c:=e;rw[oY]at e;split at e
   ·exact bE e
   ·exact e
  |_=>exact e
 have:=Mem.Fn hp k (lk++z) (c:=.list (nats lk++nats z)) (by rw[fH]) ha;rw[uJ]at this⊢;exact this
theorem Mem.Np(h:Hp R H A σ){c n:Nat}{l:List Nat}(hc:ae σ.ab c=some l):Hp R (upd H (A (.use c)) (.list (nats l++[.int (n:Nat)]))) A (σ.wy (aK σ.ab c (l++[n]))):=by
 refine h.set (.use c) (M':=mem A (σ.wy (aK σ.ab c (l++[n])))) (tJ hc) (λu z=>?_) ?_
 ·cases u with
  |use c0=>
   refine(?_:(ae (aK σ.ab c (l++[n])) c0).map _=_);rw[av,if_neg λq=>z (by rw[q])];rfl
  |uses=>
   refine(?_:some (ao.dI (pF A _))=some (ao.dI (pF A _)));have:∀l:List (Nat×List Nat),pF A l=(l.map (·.1)).map λk:Nat=>((k:Int),D.ref (A (.use k))):=λl=>by rw[li];rfl
   rw[this,this];rw[lX hc]
  |_=>rfl
 ·refine(?_:(ae (aK σ.ab c (l++[n])) c).map _=_);rw[av,if_pos rfl];show some (ao.list (nats (l++[n])))=_;rw[←fH];rfl
noncomputable def jn(σ:St)(a b:Nat)(r:D)(k g:Nat)(lk z:List Nat):St:=
 {mrg σ k g with ed:=σ.ed++[.tup [.int (a:Nat),.int (b:Nat),r]],fo:=σ.fo++[.int (((σ.ed.length+1:Nat):Int)-1)],wt:=σ.wt++z,ab:=aK (gu σ.ab g) k (lk++z)}
theorem Ax{Q:DQ}{a b:Nat}{r:D}{lk u:List Nat}(h:Hp R H A σ)(ha:a<σ.p.length)(hb:b<σ.p.length)(hf:cb σ.p)(hl:σ.lots.length=σ.p.length)(hz:σ.p.length≤100)(hL:∀l∈σ.lots,l.length≤100)(hm:σ.mg.length≤900)
  (he:σ.ed.length≤900) (ho:σ.fo.length≤900) (hw:σ.wt.length≤400) (i3:σ.ab.length≤900)
  (hk:ae σ.ab (min (find σ.p a) (find σ.p b))=some lk) (hg:ae σ.ab (max (find σ.p a) (find σ.p b))=some u) (Bn:lk.length≤400) (B3:u.length≤400)
  (q1:find σ.p a=find σ.p b->∀H',Hp R H' A (σ.Jf (σ.ed++[.tup [.int (a:Nat),.int (b:Nat),r]]))->Q (.bool false) H')
  (q2:find σ.p a≠find σ.p b->∀c H',Hp R H' (cm A (.use (min (find σ.p a) (find σ.p b))) c) (jn σ a b r (min (find σ.p a) (find σ.p b)) (max (find σ.p a) (find σ.p b)) lk u)->Q (.bool true) H'):aY X (m0+4) 459 [aA A,.int a,.int b,r] H Q:=by
 have h1:=Mem.ed h (σ.ed++[.tup [.int (a:Nat),.int (b:Nat),r]]) rfl;have jE:σ.mg.length≤1000:=Ht hm;have vi:find σ.p a≠find σ.p b->min (find σ.p a) (find σ.p b)≠max (find σ.p a) (find σ.p b):=Ql;have z1:(σ.ed++[D.tup [.int (a:Nat),.int (b:Nat),r]]).length=σ.ed.length+1:=by simp
 have O:σ.ed.length+1≤1000:=W8 he;have z3:σ.wt.length+u.length≤1000:=PH hw B3;have Z:(pF A σ.ab).length≤sizeLine:=sz (by rw[be];exact Ht i3);have z5:(nats lk).length+(nats u).length≤sizeLine:=sz (by rw[ax,ax];exact PH Bn B3);have z6:(nC (pF A σ.ab) (max (find σ.p a) (find σ.p b):Nat)).length≤sizeLine:=cr (Uf _ _) Z;have z9:∀{Y:St},Y.ab=σ.ab->cm (mem A Y) .uses (some (.dI (pF A (gu Y.ab (max (find σ.p a) (find σ.p b)))))) .uses=some (.dI (nC (pF A σ.ab) (max (find σ.p a) (find σ.p b):Nat))):=λ{Y} e=>by rw[eB,uJ,e]
 have z7:σ.ed.length≤sizeLine:=sz (TE O);have z8:σ.fo.length≤sizeLine:=sz (Ht ho);have N:eS (pF A σ.ab) (max (find σ.p a) (find σ.p b):Nat)=some (.ref (A (.use (max (find σ.p a) (find σ.p b))))):=by rw[uI,hg];rfl
 have g2:eS (pF A σ.ab) (min (find σ.p a) (find σ.p b):Nat)=some (.ref (A (.use (min (find σ.p a) (find σ.p b))))):=by rw[uI,hk];rfl
 generalize ek:min (find σ.p a) (find σ.p b)=k at*;generalize eg:max (find σ.p a) (find σ.p b)=g at*;have q:=λH2(z:Hp R H2 A (mrg (σ.Jf (σ.ed++[.tup [.int (a:Nat),.int (b:Nat),r]])) k g))=>Mem.fo z (σ.fo++[.int (((σ.ed.length+1:Nat):Int)-1)]) rfl;have j:=λH2 z=>Mem.wt (q H2 z) (c:=.list (nats σ.wt++nats u)) (σ.wt++u) (by rw[fH]);refine aY.fn rfl rfl (And.intro ⟨_,h.at_ .oe _ rfl⟩ (And.intro (sz (ce rfl)) (Exists.intro _ (And.intro (h.at_ .oe _ rfl) (And.intro z7 (Fj (σ:=σ.Jf (σ.ed++[.tup [.int (a:Nat),.int (b:Nat),r]])) ek eg h1 ha hb hf hl hz hL jE (λe=>.here (q1 e _ h1)) λe H2 z=>?_))))));refine And.intro rfl (And.intro ⟨_,z.at_ .lB _ rfl⟩ (g7.ln (z.at_ .oe _ rfl) z1 O (Exists.intro _ (And.intro (z.at_ .lB _ rfl) (And.intro z8 ?_)))));refine Ext.nats ((q H2 z).at_ .waiting _ rfl) ((q H2 z).at_ (.use g) _ (tJ hg)) z3 (λP hP=>cy.dI _ _ _ rfl (.inl ((q H2 z).at_ .uses _ rfl)) N hP) ?_;refine cy.dI _ _ _ rfl (.inl ((j H2 z).at_ .uses _ rfl)) g2 (And.intro ⟨_,.inl ((j H2 z).at_ .uses _ rfl)⟩ (Exists.intro (g:Int) (Exists.intro _ (Exists.intro _ (And.intro rfl (And.intro ((j H2 z).at_ .uses _ rfl) (And.intro N (And.intro Z ?_))))))));refine Exists.intro _ (Exists.intro _ (And.intro ((Mem.pop (j H2 z) g).at_ (.use k) _ (tJ (A:=A) hk)) (And.intro ((Mem.pop (j H2 z) g).at_ (.use g) _ (tJ (A:=A) hg)) (And.intro z5 λc hc=>pX.mk _ rfl (eV.dI (nC (pF A σ.ab) g) _ rfl (((Mem.pop (j H2 z) g).more (.upd hc)).at_ .uses _ (z9 rfl)) z6 (.here (q2 e c _ (Mem.joined (j H2 z) hc))))))))
end
end
section
theorem e9{p:List Nat}(hf:cb p):∀a,a<p.length->p.getD (find p a) 0=find p a:=λa=>by
 induction a using iL with
 |_ a ih=>
  intro ha;by_cases e:p.getD a 0=a
  ·rw[d7 e];exact e
  ·have hl:=hf a ha;rw[←gN hf ha];exact ih _ (bQ (hf a ha) e) (FB (hf a ha) ha)
set_option tactic.hygienic true in
theorem iV{p:List Nat}{g k i:Nat}(hi:i<p.length):(p.set g k).getD i 0=if i=g then k else p.getD i 0:=by
 rw[rc,Dc];split
 ·rename_i e;subst e;rw[if_pos hi,if_pos rfl];rfl
 ·rename_i e;rw[if_neg (cG e)];rfl
set_option tactic.hygienic true in
theorem cb.set{p:List Nat}(hf:cb p){g k:Nat}(hk:k≤g):cb (p.set g k):=λi hi=>by
 rw[cX]at hi;rw[iV hi];split
 ·rename_i e;exact le_of_le_of_eq hk e.symm
 ·exact hf i hi
theorem wH{p:List Nat}(hf:cb p){g k:Nat}(z:k<g)(Z:g<p.length)(rk:p.getD k 0=k)(Y:p.getD g 0=g):∀i,i<p.length->find (p.set g k) i=if find p i=g then k else find p i:=λi=>by
 have j:=cb.set hf (Os z);induction i using iL with
 |_ i ih=>
  intro hi;have u:i<(p.set g k).length:=by rw[cX];exact hi
  have e:=iV (g:=g) (k:=k) hi;by_cases q:i=g
  ·subst q;rw[if_pos rfl]at e;have e2:=iV (g:=i) (k:=k) (show k<p.length by exact LH z Z);rw[if_neg (wn z),rk]at e2;rw[←gN j u,e,d7 e2,d7 Y,if_pos rfl]
  ·rw[if_neg q]at e;by_cases r:p.getD i 0=i
   ·rw[d7 (by rw[e,r]),d7 r,if_neg q]
   ·have:=hf i hi;rw[←gN j u,e,←gN hf hi];exact ih _ (W9 this r) (Xa hi this)
noncomputable def yI(x:Nd):Prop:=x.1∈ops/\x.2.length≤2
structure Inv(σ:St)(t:Nat)(E:Nat->Prop):Prop where
 fo:cb σ.p
 nl:σ.nd.length=σ.p.length
 n7:σ.p.length≤7
 kid:∀i x,σ.nd[i]?=some x->yI x/\∀k∈x.2,k<i
 wl:σ.ws.length=σ.nd.length
 dl:σ.dp.length=σ.nd.length
 wo:yG σ.ws
 nul:σ.nu.length=σ.nd.length
 nu:∀x i,ae σ.nu x=some i->i<σ.p.length
 ll:σ.lots.length=σ.p.length
 lot:∀r,r<σ.p.length->σ.p.getD r 0=r->∀i,i∈σ.lots.getD r []↔i<σ.p.length/\find σ.p i=r
 lnd:∀l∈σ.lots,l.Nodup/\∀i∈l,i<σ.p.length
 abk:∀r,r<σ.p.length->σ.p.getD r 0=r->∃l,ae σ.ab r=some l
 abd:(σ.ab.map (·.1)).Nodup
 abl:σ.ab.length≤σ.p.length
 abs:(σ.ab.map λq=>q.2.length).sum≤2*σ.p.length
 abm:∀n x,σ.nd[n]?=some x->∀k∈x.2,∃l,ae σ.ab (find σ.p k)=some l/\n∈l
 abn:∀c l,ae σ.ab c=some l->c<σ.p.length/\∀n∈l,n<σ.p.length
 wt:∀n∈σ.wt,n<σ.p.length
 knv:∀x m,ae σ.kn x=some m->m<σ.p.length
 J:∀n,n<σ.p.length->n∈σ.wt∨E n∨∃m,ae σ.kn (fJ σ n)=some m/\find σ.p m=find σ.p n
 mgl:σ.mg.length+(roots σ.p).length=σ.p.length
 fol:σ.fo.length=σ.mg.length
 edl:σ.ed.length≤σ.mg.length+t
theorem jg(p:List Nat):(roots p).Nodup:=qf.filter _
set_option tactic.hygienic true in
theorem B4{p:List Nat}{g k:Nat}(q:k<g)(j:g<p.length)(u:p.getD g 0=g):(roots (p.set g k)).length+1=(roots p).length:=by
 have h:(roots p).Perm (g::roots (p.set g k)):=by
  refine(jc (jg p) (Db.mpr ⟨λh=>?_,jg _⟩)).mpr λi=>?_
  ·have:=(bA.mp h).2;rw[iV j,if_pos rfl]at this;exact Pr q this
  ·rw[em,bA,bA,cX];constructor
   ·intro⟨h1,z⟩;by_cases e:i=g
    ·exact .inl e
    ·exact .inr ⟨h1,by rw[iV h1,if_neg e];exact z⟩
   ·rintro(rfl|⟨h1,z⟩)
    ·exact⟨j,u⟩
    ·refine⟨h1,?_⟩;rw[iV h1]at z;split at z
     ·rename_i e;subst e;exact Be (congrFun (congrArg qh u) k)
     ·exact z
 rw[h.length_eq,io]
theorem Ay{l:List (Nat×List Nat)}{c:Nat}{v:List Nat}(h:ae l c=some v):((gu l c).map λq=>q.2.length).sum+v.length≤(l.map λq=>q.2.length).sum:=by
 induction l with
 |nil=>cases h
 |cons q l ih=>
  rw[gO]at h;have z:∀l:List (Nat×List Nat),((gu l c).map λq=>q.2.length).sum≤(l.map λq=>q.2.length).sum:=λl=>by
   induction l with
   |nil=>exact ii _
   |cons q l ih=>
    unfold gu at*;rw[aP];split<;>simp only[jp,sK]<;>first|exact Xb ih|exact Xc ih
  by_cases e:q.1=c
  ·rw[if_pos e]at h;cases h;have:gu (q::l) c=gu l c:=by unfold gu;rw[aP];simp[e]
   rw[this,jp,sK];have:=z l;exact Xd this
  ·rw[if_neg e]at h;have:gu (q::l) c=q::gu l c:=by unfold gu;rw[aP];simp[e]
   rw[this,jp,jp,sK,sK];have:=ih h;exact Xe this
theorem Az{l:List (Nat×List Nat)}{c:Nat}{v w:List Nat}(z:(l.map (·.1)).Nodup)(h:ae l c=some v):((aK l c w).map λq=>q.2.length).sum+v.length=(l.map λq=>q.2.length).sum+w.length:=by
 rw[uH h];induction l with
 |nil=>cases h
 |cons q l ih=>
  rw[gO]at h;rw[jp,Db]at z;rw[jp,jp,jp,sK,sK];by_cases e:q.1=c
  ·rw[if_pos e]at h;cases h;have:(l.map λp=>if p.1=c then(p.1,w)else p)=l:=(wT λp hp=>if_neg λq'=>z.1 (by rw[e,←q'];exact wS hp)).trans (iq l);rw[this,if_pos e];show w.length+_+_=_;exact Xf
  ·rw[if_neg e]at h;refine(if_neg e)▸?_;have:=ih z.2 h;exact Xg this
theorem tL{K V:Type}[DecidableEq K]{l:List (K×V)}{k:K}(h:(l.map (·.1)).Nodup):((gu l k).map (·.1)).Nodup:=vb (T3 _ Bf) h
theorem uK{σ:St}{p':List Nat}{n:Nat}{x:Nd}(hx:σ.nd[n]?=some x)(h:∀k∈x.2,find p' k=find σ.p k):canon p' (σ.nd.getD n ("",[]))=fJ σ n:=by
 have e:σ.nd.getD n ("",[])=x:=by rw[rc,hx];rfl
 unfold fJ canon;rw[e,wT h]
theorem Inv.at{σ:St}{t:Nat}{E:Nat->Prop}(h:Inv σ t E){n:Nat}(hn:n<σ.p.length):∃x,σ.nd[n]?=some x:=⟨_,pi (by rw[h.nl];exact hn)⟩
set_option tactic.hygienic true in
theorem Inv.jn{σ:St}{t:Nat}{E:Nat->Prop}(h:Inv σ t E){a b k g:Nat}{r':D}{lk z:List Nat}(O:k<g)(kl:k<σ.p.length)(gl:g<σ.p.length)(rk:σ.p.getD k 0=k)(rg:σ.p.getD g 0=g)(hk:ae σ.ab k=some lk)(hg:ae σ.ab g=some z):
  Inv (jn σ a b r' k g lk z) t E/\(jn σ a b r' k g lk z).wt.length+15*(roots (σ.p.set g k)).length+1≤σ.wt.length+15*(roots σ.p).length:=by
 have F:=wH h.fo O gl rk rg;have L:(σ.p.set g k).length=σ.p.length:=cX;have RS:=B4 O gl rg;have K0:∀r,r<σ.p.length->(σ.p.set g k).getD r 0=r->r≠g/\σ.p.getD r 0=r:=λr Y e=>by
  rw[iV Y]at e;split at e
  ·exact Xh O e (by assumption)
  ·rename_i q;exact⟨q,e⟩
 have A:∀c,ae (aK (gu σ.ab g) k (lk++z)) c=if k=c then some (lk++z)else if g=c then none else ae σ.ab c:=λc=>by rw[av,oY]
 have jf:ae (gu σ.ab g) k=some lk:=by rw[oY,if_neg (kb O)];exact hk
 have s1:=Ay hg;have s2:=Az (w:=lk++z) (tL h.abd) jf;rw[ci]at s2;have hs:=h.abs;have h7:=h.n7;have Sq:∀r,(σ.lots.set k (σ.lots.getD k []++σ.lots.getD g [])).getD r []=if r=k then σ.lots.getD k []++σ.lots.getD g []else σ.lots.getD r []:=λr=>by
  rw[rc,Dc];have:=h.ll;by_cases e:k=r
  ·subst e;rw[if_pos rfl,if_pos (KE kl this.symm),if_pos rfl];rfl
  ·rw[if_neg e,if_neg (cG e)];rfl
 have Jo:∀i,i<σ.lots.length->σ.lots.getD i []∈σ.lots:=λi hi=>by
  rw[show σ.lots.getD i []=σ.lots[i] by simp[hi]];exact IN hi
 refine⟨⟨h.fo.set (TE O),h.nl.trans L.symm,by rw[show(Mine.Tactic.jn σ a b r' k g lk z).p.length=σ.p.length from L];exact h7,h.kid,h.wl,h.dl,h.wo,h.nul,λx i e=>by rw[show(Mine.Tactic.jn σ a b r' k g lk z).p.length=σ.p.length from L];exact h.nu x i e,(cX).trans (h.ll.trans L.symm),?_,?_,?_,?_,?_,?_,?_,?_,?_,?_,?_,?_,?_,?_⟩,?_⟩
 ·intro r Y e i;rw[show(Mine.Tactic.jn σ a b r' k g lk z).p.length=σ.p.length from L]at Y;obtain⟨cj,Jp⟩:=K0 r Y e;refine(?_:i∈(σ.lots.set k _).getD r []↔i<(σ.p.set g k).length/\find (σ.p.set g k) i=r);rw[Sq,L];split
  ·rename_i q;subst q;rw[ca,h.lot _ Y Jp,h.lot g gl rg];constructor
   ·rintro(⟨h1,u⟩|⟨h1,u⟩)
    ·exact⟨h1,by rw[F i h1,u,if_neg cj]⟩
    ·exact⟨h1,by rw[F i h1,u,if_pos rfl]⟩
   ·rintro⟨h1,u⟩;rw[F i h1]at u;split at u
    ·rename_i q;exact .inr ⟨h1,q⟩
    ·exact .inl ⟨h1,u⟩
  ·rename_i q;rw[h.lot r Y Jp];constructor
   ·rintro⟨h1,u⟩;exact⟨h1,by rw[F i h1,u,if_neg cj]⟩
   ·rintro⟨h1,u⟩;rw[F i h1]at u;split at u
    ·exact absurd u.symm q
    ·exact⟨h1,u⟩
 ·intro l hl;rcases List.mem_or_eq_of_mem_set hl with hl|rfl
  ·exact⟨(h.lnd l hl).1,λi hi=>by rw[show(Mine.Tactic.jn σ a b r' k g lk z).p.length=σ.p.length from L];exact(h.lnd l hl).2 i hi⟩
  ·refine⟨Fk.mpr ⟨(h.lnd _ (Jo k (by rw[h.ll];exact kl))).1,(h.lnd _ (Jo g (by rw[h.ll];exact gl))).1,λx hx y hy e=>?_⟩,λi hi=>?_⟩
   ·subst e;have h1:=((h.lot k kl rk _).mp hx).2;rw[((h.lot g gl rg _).mp hy).2]at h1;exact PJ O h1
   ·rw[show(Mine.Tactic.jn σ a b r' k g lk z).p.length=σ.p.length from L];exact(ca.mp hi).elim (λhi=>(h.lnd _ (Jo k (by rw[h.ll];exact kl))).2 i hi) λhi=>(h.lnd _ (Jo g (by rw[h.ll];exact gl))).2 i hi
 ·intro r Y e;rw[show(Mine.Tactic.jn σ a b r' k g lk z).p.length=σ.p.length from L]at Y;obtain⟨cj,Jp⟩:=K0 r Y e;refine(?_:∃l,ae (aK (gu σ.ab g) k (lk++z)) r=some l);rw[A];by_cases q:k=r
  ·exact⟨_,if_pos q⟩
  ·rw[if_neg q,if_neg (cG cj)];exact h.abk r Y Jp
 ·refine(?_:((aK (gu σ.ab g) k (lk++z)).map (·.1)).Nodup);rw[lX jf];exact tL h.abd
 ·refine(?_:(aK (gu σ.ab g) k (lk++z)).length≤(σ.p.set g k).length);rw[uH jf,be,L];exact cr (Uf _ _) h.abl
 ·refine(?_:((aK (gu σ.ab g) k (lk++z)).map λq=>q.2.length).sum≤2*(σ.p.set g k).length);rw[L];exact Xi s2 s1 hs
 ·intro n x hx j Z;have hn:j<σ.p.length:=by
   have h1:=(h.kid n x hx).2 j Z;have u:=(ww.mp hx).1;have h3:=h.nl;have h4:σ.nd.length=(Mine.Tactic.jn σ a b r' k g lk z).nd.length:=rfl;exact Xj h1 u h4 h3
  refine ah (h.abm n x hx j Z) λl h1 u=>?_;refine(?_:∃l,ae (aK (gu σ.ab g) k (lk++z)) (find (σ.p.set g k) j)=some l/\n∈l);rw[A,F j hn];by_cases q:find σ.p j=g
  ·rw[if_pos q,if_pos rfl];rw[q,hg]at h1;cases h1;exact⟨_,rfl,ca.mpr (.inr u)⟩
  ·rw[if_neg q];by_cases N:k=find σ.p j
   ·rw[if_pos N];rw[←N,hk]at h1;cases h1;exact⟨_,rfl,ca.mpr (.inl u)⟩
   ·rw[if_neg N,if_neg (cG q)];exact⟨l,h1,u⟩
 ·intro c l hc;rw[show(Mine.Tactic.jn σ a b r' k g lk z).p.length=σ.p.length from L];replace hc:ae (aK (gu σ.ab g) k (lk++z)) c=some l:=hc;rw[A]at hc;by_cases q:k=c
  ·rw[if_pos q]at hc;cases hc;exact⟨(lt_of_eq_of_lt q.symm kl),λn hn=>(ca.mp hn).elim ((h.abn k lk hk).2 n) ((h.abn g z hg).2 n)⟩
  ·rw[if_neg q]at hc;by_cases N:g=c
   ·rw[if_pos N]at hc;cases hc
   ·rw[if_neg N]at hc;exact h.abn c l hc
 ·intro n hn;rw[show(Mine.Tactic.jn σ a b r' k g lk z).p.length=σ.p.length from L];exact(ca.mp hn).elim (h.wt n) ((h.abn g z hg).2 n)
 ·intro x m e;rw[show(Mine.Tactic.jn σ a b r' k g lk z).p.length=σ.p.length from L];exact h.knv x m e
 ·intro n hn;rw[show(Mine.Tactic.jn σ a b r' k g lk z).p.length=σ.p.length from L]at hn;refine(?_:n∈σ.wt++z∨E n∨∃m,ae σ.kn (canon (σ.p.set g k) (σ.nd.getD n ("",[])))=some m/\find (σ.p.set g k) m=find (σ.p.set g k) n);rcases h.J n hn with q|q|⟨m,h1,u⟩
  ·exact .inl (ca.mpr (.inl q))
  ·exact .inr (.inl q)
  ·obtain⟨x,hx⟩:=h.at hn;have fj:∀j∈x.2,j<σ.p.length:=λj Z=>by have:=(h.kid n x hx).2 j Z;exact TW this hn
   by_cases q:∃j∈x.2,find σ.p j=g
   ·refine cut λPP kk=>?_;refine ah q λj Z q=>?_;refine ah (h.abm n x hx j Z) λl h3 h4=>?_;rw[q,hg]at h3;cases h3;refine kk ?_;exact .inl (ca.mpr (.inr h4))
   ·refine .inr (.inr ⟨m,?_,?_⟩)
    ·rw[uK hx λj Z=>by rw[F j (fj j Z),if_neg λe=>q (ak j Z e)]];exact h1
    ·rw[F m (h.knv _ m h1),F n hn,u]
 ·refine(?_:(σ.mg++[_]).length+(roots (σ.p.set g k)).length=(σ.p.set g k).length);have:=h.mgl;rw[ci,pp,L];exact Xk RS this
 ·refine(?_:(σ.fo++[_]).length=(σ.mg++[_]).length);rw[ci,ci,h.fol];rfl
 ·refine(?_:(σ.ed++[_]).length≤(σ.mg++[_]).length+t);have:=h.edl;rw[ci,ci,pp,pp];exact Xl this
 ·show(σ.wt++z).length+_+1≤_;rw[ci];exact Xm RS s1 hs h7
end
section
variable {X:Cx U}{m0:Nat}{R H:aa}{A:gq}{σ:St}
noncomputable def T(σ:St):Nat:=σ.wt.length+15*(roots σ.p).length
theorem Inv.o5{t:Nat}{E:Nat->Prop}(I:Inv σ t E):∀l∈σ.lots,l.length≤18:=λl hl=>by
 have:=aq (I.lnd l hl).1 (r:=pc σ.p.length) λi hi=>cL.mpr ((I.lnd l hl).2 i hi);have h7:=I.n7;rw[zn]at this;exact Xn h7 this
theorem Inv.wJ{t:Nat}{E:Nat->Prop}(I:Inv σ t E){c:Nat}{l:List Nat}(h:ae σ.ab c=some l):l.length≤14:=by
 have:=Ay h;have:=I.abs;have:=I.n7;exact Xo (by assumption) (by assumption) this
theorem Inv.known{t n:Nat}(I:Inv σ t (·=n))(hn:n<σ.p.length){z:List (Nd×Nat)}(h1:∀x i,ae σ.kn x=some i->ae z x=some i)(u:∀x i,ae z x=some i->ae σ.kn x=some i∨i=n):Inv (σ.yE z) t (·=n):=
 {I with
  knv:=λx m h=>(u x m h).elim (I.knv x m) λe=>by subst e;exact hn
  J:=λn hn=>(I.J n hn).elim .inl λh=>.inr (h.elim .inl λj=>ah j λm q e2=>.inr (ak m (h1 _ _ q) e2))}
structure yK(σ fQ:St)(t:Nat):Prop where
 inv:Inv fQ t λ_=>False
 nd:fQ.nd=σ.nd
 pl:fQ.p.length=σ.p.length
 ts:T fQ≤T σ
 kl:fQ.kn.length≤σ.kn.length+1
theorem B5{t n m:Nat}{j:List (Nd×Nat)}(I:Inv (σ.yE j) t (·=n))(hn:n<σ.p.length)(hk:ae j (fJ σ n)=some m)(hl:j.length≤σ.kn.length+1):
  (find σ.p m=find σ.p n->yK σ (σ.yE j) t)/\(find σ.p m≠find σ.p n->∃lk Y,ae σ.ab (min (find σ.p m) (find σ.p n))=some lk/\ae σ.ab (max (find σ.p m) (find σ.p n))=some Y/\lk.length≤14/\Y.length≤14/\
   ∀r,yK σ (jn (σ.yE j) m n r (min (find σ.p m) (find σ.p n)) (max (find σ.p m) (find σ.p n)) lk Y) t):=by
 have hm:=I.knv _ _ hk;refine⟨λe=>⟨{I with J:=λi hi=>?_},rfl,rfl,ii _,hl⟩,λcj=>?_⟩
 ·rcases I.J i hi with h|rfl|h
  ·exact .inl h
  ·exact .inr (.inr (ak m hk e))
  ·exact .inr (.inr h)
 ·have ra:=e9 I.fo m hm;have rb:=e9 I.fo n hn;have la:=cW I.fo hm;have lb:=cW I.fo hn;have vi:min (find σ.p m) (find σ.p n)<max (find σ.p m) (find σ.p n):=PK cj;have two:∀P:Nat->Prop,P (find σ.p m)->P (find σ.p n)->P (min (find σ.p m) (find σ.p n))/\P (max (find σ.p m) (find σ.p n)):=λP h1 h2=>by
   rcases xC (find σ.p m) (find σ.p n)with q|q
   ·rw[lG q,Hi q];exact⟨h1,h2⟩
   ·rw[Hj q,sv q];exact⟨h2,h1⟩
  have R:=two (λc=>c<σ.p.length/\σ.p.getD c 0=c) ⟨la,ra⟩ ⟨lb,rb⟩;obtain⟨lk,N⟩:=I.abk _ R.1.1 R.1.2;obtain⟨Y,O⟩:=I.abk _ R.2.1 R.2.2;refine(Dl lk Y N O (I.wJ N) (I.wJ O) (λr=>?_));have F:∀i,i<σ.p.length->find (σ.p.set (max (find σ.p m) (find σ.p n)) (min (find σ.p m) (find σ.p n))) i=if find σ.p i=max (find σ.p m) (find σ.p n)then min (find σ.p m) (find σ.p n)else find σ.p i:=wH I.fo vi R.2.1 R.1.2 R.2.2
  have fm:find (σ.p.set (max (find σ.p m) (find σ.p n)) (min (find σ.p m) (find σ.p n))) m=min (find σ.p m) (find σ.p n):=by rw[F m hm];split<;>first|exact PL|exact Z1 (by assumption)
  have fn:find (σ.p.set (max (find σ.p m) (find σ.p n)) (min (find σ.p m) (find σ.p n))) n=min (find σ.p m) (find σ.p n):=by rw[F n hn];split<;>first|exact PL|exact Z2 (by assumption)
  obtain⟨I',ht⟩:=I.jn (a:=m) (b:=n) (r':=r) vi R.1.1 R.2.1 R.1.2 R.2.2 N O;refine⟨{I' with J:=λi hi=>?_},rfl,cX,by unfold T;exact cr (b8 _) ht,hl⟩;rcases I'.J i hi with h|rfl|h
  ·exact .inl h
  ·obtain⟨x,hx⟩:=I.at hn;by_cases q:∃z∈x.2,find σ.p z=max (find σ.p m) (find σ.p i)
   ·refine cut λPP kk=>?_;refine ah q λz u q=>?_;refine ah (I.abm i x hx z u) λl Z h4=>?_;replace Z:ae σ.ab (find σ.p z)=some l:=Z;rw[q,O]at Z;cases Z;refine kk ?_;exact .inl (ca.mpr (.inr h4))
   ·refine .inr (.inr ⟨m,?_,fm.trans fn.symm⟩);have fj:∀z∈x.2,z<σ.p.length:=λz u=>by have:=(I.kid i x hx).2 z u;have:=hn;exact LH (by assumption) this
    exact(congrArg _ (uK (σ:=σ) (p':=σ.p.set (max (find σ.p m) (find σ.p i)) (min (find σ.p m) (find σ.p i))) hx λz u=>by rw[F z (fj z u),if_neg λe=>q (ak z u e)])).trans hk
  ·exact .inr (.inr h)
inductive K1(R:aa)(A:gq)(σ:St)(t n:Nat):D->aa->Prop
 |mk {H1:aa} (m:Nat) (yJ:List (Nd×Nat)) (h:Hp R H1 A (σ.yE yJ)) (I:Inv (σ.yE yJ) t (·=n)) (hk:ae yJ (fJ σ n)=some m) (hl:yJ.length≤σ.kn.length+1):K1 R A σ t n (.int (m:Nat)) H1
theorem K1.old{t n:Nat}{d y:D}(u:y=d8 (fJ σ n))(h:Hp R H A σ)(I:Inv σ t (·=n))(z:ke (σ.kn.map λp=>(d8 p.1,.int (p.2:Nat))) y=some d):K1 R A σ t n d H:=by
 subst u;rw[An]at z;cases e:ae σ.kn (fJ σ n)with
 |none=>rw[e]at z;cases z
 |some m=>rw[e]at z;cases z;exact⟨m,σ.kn,h,I,e,b8 _⟩
theorem K1.new{t n:Nat}{y:D}(u:y=d8 (fJ σ n))(h:Hp R H A σ)(I:Inv σ t (·=n))(hn:n<σ.p.length)(z:ke (σ.kn.map λp=>(d8 p.1,.int (p.2:Nat))) y=none):K1 R A σ t n (.int (n:Nat)) (upd H (A .known) (.dT true (jM (σ.kn.map λp=>(d8 p.1,.int (p.2:Nat))) y (.int (n:Nat))))):=by
 subst u;rw[An]at z;have e:ae σ.kn (fJ σ n)=none:=by
  cases e:ae σ.kn (fJ σ n)with
  |none=>rfl
  |some m=>rw[e]at z;cases z
 rw[Am (g:=λi:Nat=>.int i)];refine⟨n,_,Mem.kn h (aK σ.kn (fJ σ n) n) rfl,I.known hn (λx i hx=>?_) (λx i hx=>?_),by rw[av,if_pos rfl],by rw[fG e];simp⟩
 ·rw[av,if_neg λq=>by subst q;rw[e]at hx;cases hx];exact hx
 ·rw[av]at hx;split at hx
  ·exact .inr (db hx).symm
  ·exact .inl hx
theorem AA{t n:Nat}{Q:DQ}(h:Hp R H A σ)(I:Inv σ t (·=n))(hn:n<σ.p.length)(ht:t≤100)(sU:σ.kn.length≤900)(O:T σ≤300)(q:∀A' H' N,aA A'=aA A->Hp R H' A' N->yK σ N t->Q .none H'):aY X (m0+5) 431 [aA A,.int n] H Q:=by
 refine bR (I.at hn) λx hx=>?_;have⟨⟨_,z⟩,Sr⟩:=I.kid n x hx;have h7:=I.n7;have j:=I.nl;have hz:σ.p.length≤100:=Dj h7;have u:σ.nd.length≤100:=le_of_eq_of_le j hz;have hk:∀k∈x.2,k<σ.p.length:=λk hk=>by have:=Sr k hk;exact TW (Sr k hk) hn
 have hm:σ.mg.length≤900:=by have:=I.mgl;exact PM this hz
 have he:σ.ed.length≤900:=by have:=I.edl;have:=I.mgl;exact PO this hz ht (by assumption)
 have ho:σ.fo.length≤900:=by have:=I.fol;exact le_of_eq_of_le this hm
 have hw:σ.wt.length≤400:=by unfold T at O;exact PQ O
 have i3:σ.ab.length≤900:=by have:=I.abl;exact PR hz this
 have hL:∀l∈σ.lots,l.length≤100:=λl hl=>by have:=I.o5 l hl;exact PS this
 have Y:(σ.kn.map λp=>(d8 p.1,D.int (p.2:Nat))).length≤sizeLine:=sz (by rw[be];exact Ht sU);have ex:d8 (canon σ.p x)=d8 (fJ σ n):=by unfold fJ;rw[show σ.nd.getD n ("",[])=x by rw[rc,hx];rfl]
 refine aY.fn rfl rfl (Exists.intro true (Exists.intro _ (And.intro (.inl (h.at_ .known _ rfl)) (Av (h.at_ .nodes _ rfl) (h.at_ .above _ rfl) hx hk z I.fo hz u (Exists.intro _ (Exists.intro (K1 R A σ t n) (And.intro (h.at_ .known _ rfl) (And.intro (Ux _) (And.intro Y (And.intro (λd hd=>K1.old ex h I hd) (And.intro (K1.new ex h I hn) ?_)))))))))));rintro d H1 ⟨m,yJ,h1,I1,Z,oQ⟩;have KC:=I1.knv _ _ Z;have⟨P1,P2⟩:=B5 I1 hn Z oQ;refine jR (h1.at_ .above _ rfl) KC I.fo hz (jR (h1.at_ .above _ rfl) hn I.fo hz (sQ (λe=>?_) λe=>.here (q A H1 _ rfl h1 (P1 (Go (by simpa using e))))));have cj:find σ.p m≠find σ.p n:=λe'=>by rw[e']at e;simp at e
 refine cut λPP kk=>?_;refine LP (P2 cj) λlk lg Bn B3 z1 z2 P=>?_;refine kk ?_;exact And.intro (sz (ce rfl)) (Ax h1 KC hn I.fo I.ll hz hL hm he ho hw i3 Bn B3 (Hu z1) (Hu z2) (λe=>absurd e cj) λ_ c H' h'=>.here (q (cm A (.use (min (find σ.p m) (find σ.p n))) c) H' _ rfl h' (P _)))
end
section
variable {X:Cx U}{m0:Nat}{R H:aa}{A:gq}{σ:St}
noncomputable abbrev Ok(σ:St)(t:Nat):Prop:=Inv σ t λ_=>False
theorem Inv.pop{t n:Nat}{w:List Nat}(I:Ok σ t)(hw:σ.wt=w++[n]):Inv (σ.Nc w) t (·=n)/\n<σ.p.length/\T (σ.Nc w)+1=T σ:=
 ⟨{I with
   wt:=λm hm=>I.wt m (by rw[hw];exact ca.mpr (.inl hm))
   J:=λm hm=>(I.J m hm).elim (λh=>by
    rw[hw]at h;exact(ca.mp h).elim .inl λh=>.inr (.inl (bn.mp h))) λh=>.inr (h.elim Ps .inr)},
  I.wt n (by rw[hw];simp),by unfold T;rw[hw,ci,pp];show w.length+15*(roots σ.p).length+1=_;exact eE w.length (15*(roots σ.p).length) 1⟩
theorem AB{l:List Nat}(h:l.length≠0):∃w n,l=w++[n]:=(xG l.dropLast _ ((iH (λe=>h (by rw[e];rfl))).symm))
theorem B6{t:Nat}{Q:DQ}(h:Hp R H A σ)(I:Ok σ t)(ht:t≤100)(hb:σ.kn.length+T σ≤300)
  (q:∀A' H' z,aA A'=aA A->Hp R H' A' z->Ok z t->z.nd=σ.nd->z.p.length=σ.p.length->z.wt=[]->Q .none H'):aY X (m0+6) 466 [aA A] H Q:=by
 refine aY.fn rfl rfl (gM.mk (λj bb H'=>∃A' z,bb=([("self",aA A')]:ag)/\aA A'=aA A/\Hp R H' A' z/\Ok z t/\z.nd=σ.nd/\z.p.length=σ.p.length/\z.kn.length+T z≤300/\T z=j) (T σ) (Qo A σ rfl rfl h I rfl rfl hb rfl) ?_);intro j _ H1 js;refine aad js λA1 O gc ea h1 I1 en ep Z jq=>?_;subst gc;subst jq;have z1:O.wt.length≤1000:=by unfold T at Z;exact Xp Z
 refine g7.ln (h1.at_ .waiting _ rfl) ax z1 (sQ (λe=>?_) λe=>.here (q A1 H1 O ea h1 I1 en ep ?_))
 ·refine cut λPP kk=>?_;obtain⟨w,n,hw⟩:=AB (l:=O.wt) (by simp at e;exact GH e);refine ml (I1.pop hw) λI2 hn hT=>?_;have hwt:H1 (A1 .waiting)=some (.list (nats w++[.int (n:Nat)])):=(h1.at_ .waiting _ rfl).trans (by rw[hw,←fH];rfl);refine kk ?_;refine EU.list _ _ hwt (by rw[ax];have:=congrArg d5 hw;simp at this;exact Xq this z1) (AA (Mem.wt h1 w rfl) I2 hn ht (show O.kn.length≤900 by exact Xr Z) (by exact Xs hT Z) λA2 H2 u Y h2 N=>?_);have:=N.ts;have:=N.kl;exact wq.next 1 (T u) (Xu hT (by assumption)) (Qo A2 u (by rw[Y];rfl) (Y.trans ea) h2 N.inv (N.nd.trans en) (N.pl.trans ep) (Xv hT Z (by assumption) this) rfl)
 ·have:¬(0<O.wt.length):=λh=>by simp at e;rw[e]at h;exact absurd h (ZB 0)
  exact cg.mp (k7 this)
theorem B7{t a b:Nat}{r:D}{Q:DQ}(h:Hp R H A σ)(I:Ok σ t)(ha:a<σ.p.length)(u:b<σ.p.length)(ht:t≤100)(Z:T σ≤300)
  (q:∀A' H' z d,aA A'=aA A->Hp R H' A' z->Ok z (t+1)->z.nd=σ.nd->z.p.length=σ.p.length->T z≤T σ->z.kn=σ.kn->Q d H'):aY X (m0+5) 452 [aA A,.int a,.int b,r] H Q:=by
 have h7:=I.n7;have hz:σ.p.length≤100:=Dj h7;have hm:σ.mg.length≤900:=by have:=I.mgl;exact PM this hz
 have he:σ.ed.length≤900:=by have:=I.edl;have:=I.mgl;exact PO this hz ht (by assumption)
 have ho:σ.fo.length≤900:=by have:=I.fol;exact le_of_eq_of_le this hm
 have hw:σ.wt.length≤400:=by unfold T at Z;exact PQ Z
 have i3:σ.ab.length≤900:=by have:=I.abl;exact PR hz this
 have hL:∀l∈σ.lots,l.length≤100:=λl hl=>by have:=I.o5 l hl;exact PS this
 have ra:=e9 I.fo a ha;have rb:=e9 I.fo b u;have la:=cW I.fo ha;have lb:=cW I.fo u;have two:∀P:Nat->Prop,P (find σ.p a)->P (find σ.p b)->P (min (find σ.p a) (find σ.p b))/\P (max (find σ.p a) (find σ.p b)):=λP h1 O=>by
  rcases xC (find σ.p a) (find σ.p b)with q|q
  ·rw[lG q,Hi q];exact⟨h1,O⟩
  ·rw[Hj q,sv q];exact⟨O,h1⟩
 have R:=two (λc=>c<σ.p.length/\σ.p.getD c 0=c) ⟨la,ra⟩ ⟨lb,rb⟩;obtain⟨lk,j⟩:=I.abk _ R.1.1 R.1.2;obtain⟨lg,Y⟩:=I.abk _ R.2.1 R.2.2;have z1:=I.wJ j;have z2:=I.wJ Y;refine aY.fn rfl rfl (Ax h ha u I.fo I.ll hz hL hm he ho hw i3 j Y (Hu z1) (Hu z2) (λe H' h'=>.here (q A H' _ _ rfl h' {I with edl:=?_} rfl rfl (ii _) rfl)) λcj c H' h'=>?_)
 ·show(σ.ed++[_]).length≤σ.mg.length+(t+1);have:=I.edl;rw[ci,pp];exact fu this 1
 ·obtain⟨N,R2⟩:=I.jn (a:=a) (b:=b) (r':=r) (PK cj) R.1.1 R.2.1 R.1.2 R.2.2 j Y;exact .here (q (cm A (.use (min (find σ.p a) (find σ.p b))) c) H' _ _ rfl h' {N with edl:=cp N.edl} rfl cX (by unfold T;exact cr (b8 _) R2) rfl)
end
section
theorem getD_snoc{p:List Nat}{n i:Nat}:(p++[n]).getD i 0=if i<p.length then p.getD i 0 else if i=p.length then n else 0:=by
 simp only[rc];by_cases h:i<p.length
 ·rw[if_pos h,TT h]
 ·rw[if_neg h,bD (fE h)];by_cases e:i=p.length
  ·rw[if_pos e,e,i8];rfl
  ·rw[if_neg e,aW (by simp;exact Xw h e)];rfl
set_option tactic.hygienic true in
theorem cb.snoc{p:List Nat}(h:cb p):cb (p++[p.length]):=λi hi=>by
 rw[getD_snoc];rw[ci,pp]at hi;split
 ·rename_i q;exact h i q
 ·rw[if_pos (Xx hi (by assumption))];exact Xy (by assumption)
theorem tM{p:List Nat}(h:cb p):∀i,i<p.length->find (p++[p.length]) i=find p i:=λi=>by
 induction i using iL with
 |_ i ih=>
  intro hi;have e:(p++[p.length]).getD i 0=p.getD i 0:=by rw[getD_snoc,if_pos hi]
  have z:i<(p++[p.length]).length:=by rw[ci,pp];exact ig 1 hi
  by_cases r:p.getD i 0=i
  ·rw[d7 (by rw[e,r]),d7 r]
  ·have:=h i hi;rw[←gN h.snoc z,e,←gN h hi];exact ih _ (bQ (h i hi) r) (FB (h i hi) hi)
theorem rK{p:List Nat}:(roots (p++[p.length])).length=(roots p).length+1:=by
 have:roots (p++[p.length])=roots p++[p.length]:=by
  unfold roots;rw[ci,pp,sb,oz];refine congr (congrArg _ (pv λi hi=>?_)) ?_
  ·rw[getD_snoc,if_pos (cL.mp hi)]
  ·rw[aP,getD_snoc,if_neg (ZB _),if_pos rfl,beq_self_eq_true];rfl
 rw[this,ci,pp]
structure ON(ab:List (Nat×List Nat))(N:Nat)(cs es:List Nat)(pG:List (Nat×List Nat)):Prop where
 ks:pG.map (·.1)=ab.map (·.1)
 old:∀c,c∈es∨c∉cs->ae pG c=ae ab c
 new:∀c,c∉es->c∈cs->∃l,ae ab c=some l/\ae pG c=some (l++[N])
 sum:(pG.map λq=>q.2.length).sum+es.length=(ab.map λq=>q.2.length).sum+cs.length
theorem ON.step{ab z:List (Nat×List Nat)}{N c:Nat}{cs es l:List Nat}(h:ON ab N cs (c::es) z)(hc:c∈cs)(hn:c∉es)(hl:ae ab c=some l)(j:(ab.map (·.1)).Nodup):ae z c=some l/\ON ab N cs es (aK z c (l++[N])):=by
 have e:ae z c=some l:=(h.old c (.inl (.head _))).trans hl;refine⟨e,⟨(lX e).trans h.ks,λd u=>?_,λd h1 Y=>?_,?_⟩⟩
 ·rw[av,if_neg λq=>by subst q;exact u.elim hn λh=>h hc];exact h.old d (u.imp_left λh=>.tail _ h)
 ·rw[av];by_cases q:c=d
  ·subst q;exact(ak l hl (if_pos rfl))
  ·rw[if_neg q];exact h.new d (λhm=>(em.mp hm).elim (λe=>q e.symm) h1) Y
 ·have:=Az (w:=l++[N]) (by rw[h.ks];exact j) e;have:=h.sum;rw[io]at this;rw[ci,pp]at*;exact Xz this (by assumption)
noncomputable def Fo(σ:St)(x:Nd)(w d:Int)(ab:List (Nat×List Nat)):St:=
 {σ with nd:=σ.nd++[x],nu:=σ.nu++[(x,σ.nd.length)],ws:=σ.ws++[w],dp:=σ.dp++[d],p:=σ.p++[σ.p.length],lots:=σ.lots++[[σ.p.length]],ab:=ab}
set_option tactic.hygienic true in
theorem Inv.add{σ:St}{t:Nat}{E:Nat->Prop}(h:Inv σ t E)(h6:σ.p.length≤6){x:Nd}(hx:yI x)(hk:∀k∈x.2,k<σ.p.length){w d:Int}(hw:yG (σ.ws++[w])){cs:List Nat}{Z:List (Nat×List Nat)}(UB:cs.length≤2)(sH:∀c,c∈cs↔∃k∈x.2,find σ.p k=c)(ha:ON (aK σ.ab σ.p.length []) σ.p.length cs [] Z):
  Inv (Fo σ x w d Z) t (λn=>E n∨n=σ.p.length):=by
 have hN:ae σ.ab σ.p.length=none:=by
  cases e:ae σ.ab σ.p.length with
  |none=>rfl
  |some l=>exact absurd (h.abn _ l e).1 (ZB _)
 have L:(σ.p++[σ.p.length]).length=σ.p.length+1:=by rw[ci];rfl
 have F:=tM h.fo;have FN:find (σ.p++[σ.p.length]) σ.p.length=σ.p.length:=d7 (by rw[getD_snoc,if_neg (ZB _),if_pos rfl]);have nl:=h.nl;have N:∀{i},i<σ.p.length->i<(σ.p++[σ.p.length]).length:=λh=>by rw[L];exact ig 1 h
 have K3:∀(n:Nat)(y:Nd),σ.nd[n]?=some y->∀k∈y.2,k<σ.p.length:=λn y hy k hk=>by
  have h1:=(h.kid n y hy).2 k hk;have z:=(ww.mp hy).1;exact XA h1 z nl
 have Fq:∀(n:Nat)(y:Nd),(σ.nd++[x])[n]?=some y->(n<σ.p.length/\σ.nd[n]?=some y)∨(n=σ.p.length/\y=x):=λn y e=>by
  refine j4 (bG n σ.nd.length) (λq=>?_) λq=>?_
  ·rw[TT q]at e;exact .inl ⟨(KE q nl),e⟩
  ·have:=(ww.mp e).1;rw[ci,pp]at this;obtain rfl:n=σ.nd.length:=dQ q this;rw[bD (ii _),i8]at e;exact .inr ⟨nl,(db e).symm⟩
 have u:∀c,ae (aK σ.ab σ.p.length []) c=if σ.p.length=c then some []else ae σ.ab c:=λc=>av
 have Jq:∀c∈cs,c<σ.p.length:=λc hc=>by
  refine ah ((sH c).mp hc) λk h1 gc=>?_;subst gc;exact cW h.fo (hk k h1)
 have Sv:∀(c:Nat)(l:List Nat),ae Z c=some l->(c∉cs/\ae (aK σ.ab σ.p.length []) c=some l)∨∃l0,c∈cs/\ae σ.ab c=some l0/\l=l0++[σ.p.length]:=λc l e=>by
  by_cases q:c∈cs
  ·refine cut λPP kk=>?_;refine ah (ha.new c (by simp) q) λl0 h1 z=>?_;rw[e]at z;cases z;rw[u,if_neg (by have:=Jq c q;exact kb (Jq c q))]at h1;refine kk ?_;exact .inr ⟨l0,q,h1,rfl⟩
  ·rw[ha.old c (.inr q)]at e;exact .inl ⟨q,e⟩
 have up:∀(c:Nat)(l:List Nat),ae σ.ab c=some l->∃O,ae Z c=some O/\(∀n∈l,n∈O)/\(c∈cs->σ.p.length∈O):=λc l e=>by
  have hc:=(h.abn c l e).1;by_cases q:c∈cs
  ·refine cut λPP kk=>?_;refine ah (ha.new c (by simp) q) λl0 h1 z=>?_;rw[u,if_neg (kb (Jq c q)),e]at h1;cases h1;refine kk ?_;exact(cY _ z (λn hn=>ca.mpr (.inl hn)) (λ_=>ca.mpr (.inr (.head _))))
  ·exact(cY l (by rw[ha.old c (.inr q),u,if_neg (kb hc)];exact e) (λ_ h=>h) (λh=>absurd h q))
 have hN2:ae Z σ.p.length=some []:=by rw[ha.old _ (.inr λq=>absurd (Jq _ q) (ZB _)),u,if_pos rfl]
 have ks:Z.map (·.1)=σ.ab.map (·.1)++[σ.p.length]:=by rw[ha.ks,fG hN,lf];rfl
 have ab0:∀r,r<σ.p.length->(σ.lots++[[σ.p.length]]).getD r []=σ.lots.getD r []:=λr Y=>by
  rw[rc,TT (by rw[h.ll];exact Y),rc]
 exact{
  fo:=h.fo.snoc
  nl:=by refine(?_:(σ.nd++[x]).length=(σ.p++[σ.p.length]).length);rw[ci,L,nl];rfl
  n7:=by refine(?_:(σ.p++[σ.p.length]).length≤7);rw[L];exact dP h6
  kid:=λn y e=>by
   rcases Fq n y e with⟨q,e⟩|⟨rfl,rfl⟩
   ·exact h.kid n y e
   ·exact⟨hx,hk⟩
  wl:=by refine(?_:(σ.ws++[w]).length=(σ.nd++[x]).length);rw[ci,ci,h.wl];rfl
  dl:=by refine(?_:(σ.dp++[d]).length=(σ.nd++[x]).length);rw[ci,ci,h.dl];rfl
  wo:=hw
  nul:=by refine(?_:(σ.nu++[_]).length=(σ.nd++[x]).length);rw[ci,ci,h.nul];rfl
  nu:=λy i e=>by
   show i<(σ.p++[σ.p.length]).length;replace e:ae (σ.nu++[(x,σ.nd.length)]) y=some i:=e;rw[tE]at e;cases e1:ae σ.nu y with
   |some j=>rw[e1]at e;cases e;exact N (h.nu y _ e1)
   |none=>
    rw[e1,gO]at e;split at e
    ·cases e;rw[L];exact LI nl
    ·exact bE e
  ll:=by refine(?_:(σ.lots++[_]).length=(σ.p++[σ.p.length]).length);rw[ci,L,h.ll];rfl
  lot:=λr Y e i=>by
   refine(?_:i∈(σ.lots++[[σ.p.length]]).getD r []↔i<(σ.p++[σ.p.length]).length/\find (σ.p++[σ.p.length]) i=r);replace Y:r<(σ.p++[σ.p.length]).length:=Y;replace e:(σ.p++[σ.p.length]).getD r 0=r:=e;rw[L]at Y⊢;by_cases q:r<σ.p.length
   ·rw[getD_snoc,if_pos q]at e;rw[ab0 r q,h.lot r q e];constructor
    ·rintro⟨h1,z⟩;exact⟨(ig 1 h1),by rw[F i h1];exact z⟩
    ·rintro⟨h1,z⟩;have:i≠σ.p.length:=λq'=>by subst q';rw[FN]at z;exact PJ q z
     exact⟨PT h1 this,by rw[←F i (PT h1 this)];exact z⟩
   ·obtain rfl:r=σ.p.length:=cF Y q;rw[show(σ.lots++[[σ.p.length]]).getD σ.p.length []=[σ.p.length] by rw[rc,bD (by rw[h.ll];exact ii _),h.ll,i8];rfl,bn];constructor
    ·rintro rfl;exact⟨(t7 σ.p.length),FN⟩
    ·rintro⟨h1,z⟩;rcases bG i σ.p.length with q'|q'
     ·rw[F i q']at z;have:=cW h.fo q';exact XB this z
     ·exact dQ q' h1
  lnd:=λl hl=>by
   refine(?_:l.Nodup/\∀i∈l,i<(σ.p++[σ.p.length]).length);rcases ca.mp hl with hl|hl
   ·exact⟨(h.lnd l hl).1,λi hi=>N ((h.lnd l hl).2 i hi)⟩
   ·rw[bn]at hl;subst hl;exact⟨by simp,λi hi=>by rw[bn]at hi;rw[L];exact LI hi⟩
  abk:=λr Y e=>by
   replace Y:r<(σ.p++[σ.p.length]).length:=Y;replace e:(σ.p++[σ.p.length]).getD r 0=r:=e;rw[L]at Y;by_cases q:r<σ.p.length
   ·rw[getD_snoc,if_pos q]at e;obtain⟨l,hl⟩:=h.abk r q e;refine ah (up r l hl) λO vc _=>?_;exact⟨O,vc⟩
   ·obtain rfl:r=σ.p.length:=cF Y q;exact⟨_,hN2⟩
  abd:=by
   refine(?_:(Z.map (·.1)).Nodup);rw[ks];refine Fk.mpr ⟨h.abd,by simp,λa ha b hb e=>?_⟩;rw[bn]at hb;subst e;subst hb;have:=aN.mpr ha;rw[hN]at this;cases this
  abl:=by
   refine(?_:Z.length≤(σ.p++[σ.p.length]).length);have:=congrArg d5 ks;rw[be,ci,be,pp]at this;have:=h.abl;rw[L];exact PU (by assumption) this
  abs:=by
   refine(?_:(Z.map λq=>q.2.length).sum≤2*(σ.p++[σ.p.length]).length);have h1:=ha.sum;rw[fG hN,lf,XV]at h1;have z:=h.abs;have h3:(([(σ.p.length,[])]:List (Nat×List Nat)).map λq=>q.2.length).sum=0:=rfl;rw[Hk]at h1;rw[L];exact XC h1 z h3 UB
  abm:=λn y e k jf=>by
   refine(?_:∃l,ae Z (find (σ.p++[σ.p.length]) k)=some l/\n∈l);rcases Fq n y e with⟨q,e⟩|⟨rfl,rfl⟩
   ·refine(F k (K3 n y e k jf))▸?_;refine cut λPP kk=>?_;refine ah (h.abm n y e k jf) λl h1 z=>?_;refine bt (up _ l h1) λO h3 h4 _=>?_;refine kk ?_;exact⟨O,h3,h4 n z⟩
   ·refine(F k (hk k jf))▸?_;obtain⟨l,h1⟩:=h.abk _ (cW h.fo (hk k jf)) (e9 h.fo k (hk k jf));refine bt (up _ l h1) λO h3 _ h5=>?_;exact⟨O,h3,h5 ((sH _).mpr ⟨k,jf,rfl⟩)⟩
  abn:=λc l e=>by
   refine(?_:c<(σ.p++[σ.p.length]).length/\∀n∈l,n<(σ.p++[σ.p.length]).length);rcases Sv c l e with⟨_,e0⟩|⟨l0,hc,e0,rfl⟩
   ·rw[u]at e0;split at e0
    ·rename_i q;cases e0;exact⟨by rw[L];exact XD q,λn hn=>(nomatch hn)⟩
    ·exact⟨N (h.abn c l e0).1,λn hn=>N ((h.abn c l e0).2 n hn)⟩
   ·exact⟨N (h.abn c l0 e0).1,λn hn=>(ca.mp hn).elim (λhn=>N ((h.abn c l0 e0).2 n hn)) λhn=>by rw[bn]at hn;rw[L];exact LI hn⟩
  wt:=λn hn=>N (h.wt n hn)
  knv:=λy m e=>N (h.knv y m e)
  J:=λn hn=>by
   refine(?_:n∈σ.wt∨(E n∨n=σ.p.length)∨∃m,ae σ.kn (canon (σ.p++[σ.p.length]) ((σ.nd++[x]).getD n ("",[])))=some m/\find (σ.p++[σ.p.length]) m=find (σ.p++[σ.p.length]) n);replace hn:n<(σ.p++[σ.p.length]).length:=hn;rw[L]at hn;by_cases q:n<σ.p.length
   ·rcases h.J n q with h1|h1|⟨m,h1,z⟩
    ·exact .inl h1
    ·exact .inr (.inl (.inl h1))
    ·obtain⟨y,hy⟩:=h.at q;refine .inr (.inr ⟨m,?_,by rw[F m (h.knv _ m h1),F n q];exact z⟩);rw[show(σ.nd++[x]).getD n ("",[])=σ.nd.getD n ("",[]) by rw[rc,TT (Hg hy),rc],uK hy λk jf=>F k (K3 n y hy k jf)];exact h1
   ·exact .inr (.inl (.inr (cF hn q)))
  mgl:=by
   refine(?_:σ.mg.length+(roots (σ.p++[σ.p.length])).length=(σ.p++[σ.p.length]).length);have:=h.mgl;rw[rK,L];exact XE this
  fol:=h.fol
  edl:=h.edl}
end
section
variable {X:Cx U}{m0:Nat}{R H:aa}{A:gq}{σ:St}
theorem wK{ds:List D}(h:∀d∈ds,∃y:Nat,d=.int (y:Nat)):∃ys:List Nat,ds=nats ys:=by
 induction ds with
 |nil=>exact⟨[],rfl⟩
 |cons d ds ih=>
  obtain⟨y,rfl⟩:=h _ (.head _);obtain⟨ys,rfl⟩:=ih λd z=>h d (.tail _ z);exact⟨y::ys,rfl⟩
theorem oh{l:List Nat}{y:Nat}:D.int (y:Nat)∈nats l↔y∈l:=by
 rw[lc];exact⟨λu=>ah u λz hz e=>by injection e with e;rwa [←Go e],λh=>⟨y,h,rfl⟩⟩
theorem o6{ds:List D}{l:List Nat}(h:ds.Perm (nats l)):∃z:List Nat,ds=nats z/\z.Perm l:=by
 obtain⟨ys,rfl⟩:=wK λd u=>by
  obtain⟨i,_,rfl⟩:=lc.mp (h.mem_iff.mp u);exact⟨_,rfl⟩
 refine(ak ys rfl ?_);have:=h.map λd=>match d with|.int i=>i.toNat|_=>0
 rw[li,li]at this;have e:∀l:List Nat,l.map ((λd=>match d with|D.int i=>i.toNat|_=>0)∘λi:Nat=>D.int (i:Int))=l:=λl=>(wT λx _=>rfl).trans (iq l)
 rwa [e,e]at this
theorem n6.AD{Q:DQ}{l:List Nat}(Y:l.length≤18)(q:∀(Z:List Nat)(s:co)(c:ao),H s=none->Z.Nodup->(∀y,y∈Z↔y∈l)->Q (.fl (nats Z)) (upd H s c)):n6 (.fl (nats l)) H λd H'=>dM X d H' Q:=by
 refine n6.nums _ rfl (by rw[ax];exact Y) (λd u=>?_) λs ds hs nd hm=>?_
 ·obtain⟨i,_,rfl⟩:=lc.mp u;exact⟨_,rfl⟩
 obtain⟨ys,rfl⟩:=wK λd u=>by
  obtain⟨i,_,rfl⟩:=lc.mp ((hm d).mp u);exact⟨_,rfl⟩
 have O:∀y,y∈ys↔y∈l:=λy=>oh.symm.trans ((hm _).trans oh);have j:=lU nd;have z:ys.length≤l.length:=aq j λx hx=>(O x).mp hx;refine dM.Sb 8 qo _ gK.int .int (by decide) (Src.set s _ rfl (af _ _ _) (sz (by rw[ax];exact PD Y z)) λju hp=>?_);refine ah (o6 hp) λzs nK hz=>?_;subst nK;refine(oJ (λd u=>?_) (lW (λa b e=>by injection e with e;exact Go e) (hz.nodup_iff.mpr j)) (by rw[ax,hz.length_eq];exact PE Y z) (λMY N _=>?_))
 ·obtain⟨i,_,rfl⟩:=lc.mp u;exact⟨_,rfl⟩
 refine ah (o6 N) λws qQ hw=>?_;subst qQ;exact q ws s _ hs ((hw.trans hz).nodup_iff.mpr j) λy=>((hw.trans hz).mem_iff).trans (O y)
theorem Inv.added{t:Nat}(h:Ok σ t)(h6:σ.p.length≤6){x:Nd}(hx:yI x)(hk:∀k∈x.2,k<σ.p.length){w d:Int}(hw:yG (σ.ws++[w])){cs:List Nat}{u:List (Nat×List Nat)}(j:cs.length≤2)(z:∀c,c∈cs↔∃k∈x.2,find σ.p k=c)(ha:ON (aK σ.ab σ.p.length []) σ.p.length cs [] u):
  Inv (Fo σ x w d u) t (·=σ.p.length):={h.add h6 hx hk hw j z ha with J:=λn hn=>((h.add (d:=d) h6 hx hk hw j z ha).J n hn).imp_right λh=>h.imp_left λh=>h.elim Ps id}
theorem Sw{t:Nat}(h:Ok σ t):ae σ.ab σ.p.length=none:=by
 cases e:ae σ.ab σ.p.length with
 |none=>rfl
 |some l=>exact absurd (h.abn _ l e).1 (ZB _)
noncomputable def adV(A:gq)(op:lm)(kd:D)(n:Nat):ag:=[("self",aA A),("op",.str op),("numbers",kd),("n",.int n)]
noncomputable def UC(R:aa)(A:gq)(σ:St)(ab:List (Nat×List Nat))(n:Nat)(cs es:List Nat)(s:List (Nat×List Nat)×aa):Prop:=Hp R s.2 A (σ.wy s.1)/\ON ab n cs es s.1/\es.Nodup/\∀c∈es,c∈cs
theorem UC.next{ab:List (Nat×List Nat)}{n c:Nat}{cs es l:List Nat}{s:List (Nat×List Nat)×aa}(h:UC R A σ ab n cs (c::es) s)(hl:ae ab c=some l)(u:(ab.map (·.1)).Nodup){P:Prop}(q:ae s.1 c=some l->UC R A σ ab n cs es (aK s.1 c (l++[n]),upd s.2 (A (.use c)) (.list (nats l++[.int (n:Nat)])))->P):P:=by
 have z:=Db.mp h.2.2.1;have ha:=h.2.1.step (h.2.2.2 c (.head _)) z.1 hl u;exact q ha.1 (oJ (Mem.Np h.1 ha.1) ha.2 z.2 (λx hx=>h.2.2.2 x (.tail _ hx)))
theorem Fs{t:Nat}{op:lm}{ks:List Nat}{kd:D}{Q:DQ}(h:Hp R H A σ)(I:Ok σ t)(Ap:op∈ops)(UD:kd=.tup (nats ks)∨kd=.fl (nats ks))(z:∀k∈ks,k<σ.p.length)(j:ks.length≤2)(h6:σ.p.length≤6)(ht:t≤100)(hT:T σ≤200)(ab1:σ.kn.length≤800)
  (q:∀A' H' Y i,aA A'=aA A->Hp R H' A' Y->Ok Y t->σ.p.length≤Y.p.length->1≤Y.p.length->Y.p.length≤σ.p.length+1->T Y≤T σ+15->Y.kn.length≤σ.kn.length+1->Q (.int i) H'):aY X (m0+6) 419 [aA A,.str op,kd] H Q:=by
 have nl:=I.nl;have hnu:=I.nul;have hN:=Sw I;have ab2:∀k∈ks,k<σ.nd.length:=λk hk=>by rw[nl];exact z k hk
 have z1:σ.nd.length≤30:=XF nl h6;have z2:σ.nu.length≤100:=XG hnu z1;have z3:σ.p.length≤100:=XH nl z1;have z4:σ.p.length≤1000:=sE z3;refine aY.fn rfl rfl (Ji h Ap UD ab2 j z1 z2 I.wl (I.dl) I.wo (λi e=>?_) λe w d H1 hw h1=>?_)
 ·have:=I.nu _ i e;refine wA (h.at_ .above _ rfl) z4 (Sm (decide_eq_true (bW.mpr this)) (.here (q A H σ _ rfl h I (ii _) (kH this) (b8 _) (br _ _) (b8 _))))
 ·refine wA (h1.at_ .above _ rfl) z4 (xn (decide_eq_false (by rw[nl];exact Od _)) ?_);refine Jl h1 I.ll z3 λa H2 lJ=>?_;refine And.intro (np _) λb O=>pX.mk _ rfl (eV.dI _ (σ.nd.length:Int) rfl ((lJ.more (.upd O)).at_ .uses _ rfl) (sz (by rw[be];have:=I.abl;show σ.ab.length≤_;exact cr this z4)) ?_);rw[nl];have h3:=Mem.Fn lJ σ.p.length [] (c:=.list []) rfl O;replace h3:Hp R _ _ ((As (Ao σ (op,ks) w d)).wy (aK σ.ab σ.p.length [])):=h3;have hF:=λk hk=>tM I.fo k (z k hk);have z5:ks.length≤sizeLine:=sz (t8 j);have z6:(σ.p++[σ.p.length]).length≤100:=by rw[ci,pp];exact XI nl z1
  have z7:∀k∈ks,k<(σ.p++[σ.p.length]).length:=λk hk=>by have:=z k hk;rw[ci,pp];exact ig 1 (z k hk)
  have e2:(ks.map λk=>D.int (find (σ.p++[σ.p.length]) k:Nat))=nats (ks.map (find σ.p)):=by
   show _=pq _ (pq _ _);rw[li];exact wT λk hk=>by rw[hF k hk];rfl
  have z8:(ks.map (find σ.p)).length≤18:=by rw[be];exact XJ j
  refine aG.seq _ UD.symm (aI.map (λ_ _ _ h=>h) (λ_=>aH rfl) (λk=>.int (find (σ.p++[σ.p.length]) k:Nat)) z5 trivial (λk hk Qy hy=>jR (σ:=As (Ao σ (op,ks) w d)) (h3.at_ .above _ rfl) (z7 k hk) I.fo.snoc z6 (hy _ (.refl _))) ?_);refine e2▸?_;refine n6.AD z8 λcs s0 c0 Ur Jr hm=>aG.seq (nats cs) (.inl rfl) ?_;have h4:=h3.more (.upd (c:=c0) Ur);have sH:∀c,c∈cs↔∃k∈ks,find σ.p k=c:=λc=>(hm c).trans lc;have nq:cs.length≤2:=by have:=aq Jr λx hx=>(hm x).mp hx;rw[be]at this;exact cr this j
  have i3:∀c∈cs,∃l,ae (aK σ.ab σ.p.length []) c=some l/\l.length≤100:=λc hc=>by
   obtain⟨k,hk,rfl⟩:=(sH c).mp hc;obtain⟨l,hl⟩:=I.abk _ (cW I.fo (z k hk)) (e9 I.fo k (z k hk));have:=I.wJ hl;exact⟨l,by rw[av,if_neg (by have:=cW I.fo (z k hk);exact kb this)];exact hl,XK this⟩
  have sU:((aK σ.ab σ.p.length []).map (·.1)).Nodup:=by
   rw[fG hN,lf];refine Fk.mpr ⟨I.abd,by simp,λa ha b O e=>?_⟩;obtain rfl:=bn.mp O;subst e;have:=aN.mpr ha;rw[hN]at this;cases this
  have Z:∀pG,T (Fo σ (op,ks) w d pG)=T σ+15:=λpG=>by
   show σ.wt.length+15*(roots (σ.p++[σ.p.length])).length=σ.wt.length+15*(roots σ.p).length+15;rw[rK];exact Nat.add_left_inj.mpr rfl
  refine iD.st (λn:Nat=>D.int n) (λ_=>adV A op kd σ.p.length) (λs:List (Nat×List Nat)×aa=>s.2) (UC R (cm (cm A (.lot σ.p.length) a) (.use σ.p.length) b) (As (Ao σ (op,ks) w d)) (aK σ.ab σ.p.length []) σ.p.length cs) cs (_,_) (λ_ _ _=>trivial) ⟨h4,⟨rfl,λ_ _=>rfl,λc h1 j=>absurd j h1,rfl⟩,Jr,λ_ h=>h⟩ (λc es s P u go=>?_) λs u=>?_
  ·refine ah (i3 c (u.2.2.2 c (.head _))) λl hl Uz=>u.next hl sU λvc sI=>cy.dI _ _ (.ref (cm (cm A (.lot σ.p.length) a) (.use σ.p.length) b (.use c))) rfl (.inl (u.1.at_ .uses _ rfl)) (uI.trans (by rw[vc];rfl)) (And.intro ⟨_,u.1.at_ (.use c) _ (tJ vc)⟩ (Exists.intro _ (And.intro (u.1.at_ (.use c) _ (tJ vc)) (And.intro (sz (by rw[ax];exact cr Uz (by decide))) (go (_,_) trivial (.nx 4 rfl) (.refl _) sI)))))
  ·have I':=I.added (x:=(op,ks)) (d:=d) h6 ⟨Ap,j⟩ z hw nq sH u.2.1;have N:(Fo σ (op,ks) w d s.1).p.length=σ.p.length+1:=ci;exact AA (A:=cm (cm A (.lot σ.p.length) a) (.use σ.p.length) b) (σ:=Fo σ (op,ks) w d s.1) u.1 I' (N▸bo _) ht (cr ab1 (by decide)) (cr (IR (Z s.1)) (cr (fu hT 15) (by decide))) λA6 H6 σ6 e6 h6 L=>.here (q A6 H6 σ6 _ e6 h6 L.inv (by have:=L.pl;exact XM this N) (by have:=L.pl;exact XN this N) (by have:=L.pl;exact XO this N) (cr L.ts (IR (Z s.1))) L.kl)
end
section
variable {X:Cx U}{m0:Nat}{R H:aa}{A:gq}{σ:St}
theorem Nq{t:Nat}{op:lm}{Q:DQ}(h:Hp R H A σ)(I:Ok σ t)(Z:op∈ops)(h6:σ.p.length≤6)(ht:t≤100)(j:T σ≤200)(u:σ.kn.length≤800)
  (q:∀A' H' z i,aA A'=aA A->Hp R H' A' z->Ok z t->σ.p.length≤z.p.length->1≤z.p.length->z.p.length≤σ.p.length+1->T z≤T σ+15->z.kn.length≤σ.kn.length+1->Q (.int i) H'):aY X (m0+7) 424 [aA A,.tup [.str op]] H Q:=
 aY.fn rfl rfl (And.intro (ii _) (And.intro (sz (ce rfl)) (aG.seq [] (.inr rfl) (aI.map (l:=([]:List Nat)) (f:=λk=>.int (k:Nat)) (λ_ h=>(nomatch h)) (λ_=>.refl _) (λk=>.int (k:Nat)) (np _) trivial (λ_ h=>(nomatch h))
  (Exists.intro [] (And.intro (.inr rfl) (And.intro (np _) (Fs (ks:=[]) h I Z (.inl rfl) (λ_ h=>(nomatch h)) (np _) h6 ht j u λA' H' z i e h' Y a b c d f=>.here (q A' H' z i e h' Y a b c d f)))))))))
noncomputable abbrev uL(ns:List Int)(k:Int):ao:=.dS [("cells",.fl (ns.map .int)),("at",.int k)]
set_option tactic.hygienic true in
theorem B8{a b:Int}(h:b.natAbs<2^60):GY a b:=ahc (by
 unfold Vh;split
 ·exact np _
 ·rename_i e;have:b.natAbs≠0:=λq=>e (by rw[beq_iff_eq];exact Int.natAbs_eq_zero.mp q);have:=(Nat.log2_lt this (k:=60)).mpr h;exact XQ this)
theorem AE{a:co}{ns:List Int}{j:Int}{m:Nat}{Q:DQ}(h:H a=some (uL ns j))(hj:-1≤j)(hk:j≤1000)(hm:1≤m)(hn:ns.length≤100)(q:∀v:Nat,v<m->Q (.int v) (upd H a (uL ns (j+1)))):aY X (m0+1) 526 [.ref a,.int m] H Q:=by
 have z:∀i:Int,((m:Int)≠0)/\Up Q (.int (i.fmod m)) (upd H a (uL ns (j+1))):=λi=>⟨by exact PV hm,by
  have h1:=Int.emod_nonneg i (show(m:Int)≠0 by exact PV hm);have O:=Int.emod_lt_of_pos i (show(0:Int)<m by exact XR hm);rw[show i.fmod m=((i.fmod m).toNat:Int) by lia];exact .here (q _ (by lia))⟩
 have hs:fh (upd H a (uL ns (j+1))) a (uL ns (j+1)):=.inl (af _ _ _);have Y:((j+1).toNat:Int)=j+1:=Z5 hj;have hz:(ns.map D.int).length≤sizeLine:=sz (by rw[be];exact sE hn);have Z:decide (j+1<((ns.map D.int).length:Nat))=true->(ns.map D.int)[(j+1).toNat]?=some (.int (ns.getD (j+1).toNat 0)):=λe=>Jh (by rw[be]at e;have:=of_decide_eq_true e;exact XS Y this);have u:∀i:Int,GY i (j+1):=λi=>B8 (by lia);refine aY.fn rfl rfl (cy.dS _ _ _ rfl (.inl h) rfl (pX.mk _ rfl (eV.dS _ _ rfl h (sz (ce rfl)) (cy.dS _ _ _ rfl hs rfl (cy.dS _ _ _ rfl hs rfl (g7.fl _ rfl hz (sQ (λe=>?_) λe=>?_)))))))
 ·exact cy.dS _ _ _ rfl hs rfl (Exists.intro (j+1).toNat (Exists.intro _ (And.intro (congrArg D.int Y.symm) (And.intro (Z e) (And.intro hz (z _))))))
 ·exact cy.dS _ _ _ rfl hs rfl (And.intro (u _) (cy.dS _ _ _ rfl hs rfl (And.intro (u _) (cy.dS _ _ _ rfl hs rfl (And.intro (u _) (z _))))))
end
section
variable {X:Cx U}{m0:Nat}{H:aa}
set_option genSizeOf false in
set_option genInjectivity false in
inductive Tm
 |leaf (op:lm)
 |un (op:lm) (a:Tm)
 |bin (op:lm) (a b:Tm)
noncomputable def Tm.op:Tm->lm
 |.leaf o=>o
 |.un o _=>o
 |.bin o _ _=>o
noncomputable def Tm.kids:Tm->List Tm
 |.leaf _=>[]
 |.un _ a=>[a]
 |.bin _ a b=>[a,b]
noncomputable def Tm.dep:Tm->Nat
 |.leaf _=>0
 |.un _ a=>a.dep+1
 |.bin _ a b=>max a.dep b.dep+1
noncomputable def Tm.sz:Tm->Nat
 |.leaf _=>1
 |.un _ a=>a.sz+1
 |.bin _ a b=>a.sz+b.sz+1
theorem rL{o:lm}:(Tm.leaf o).dep=0:=rfl
theorem yL{o:lm}{a:Tm}:(Tm.un o a).dep=a.dep+1:=rfl
theorem uM{o:lm}{a b:Tm}:(Tm.bin o a b).dep=max a.dep b.dep+1:=rfl
theorem kh{o:lm}:(Tm.leaf o).sz=1:=rfl
theorem rM{o:lm}{a:Tm}:(Tm.un o a).sz=a.sz+1:=rfl
theorem m9{o:lm}{a b:Tm}:(Tm.bin o a b).sz=a.sz+b.sz+1:=rfl
noncomputable def gX:Tm->D
 |.leaf o=>.tup [.str o]
 |.un o a=>.tup [.str o,gX a]
 |.bin o a b=>.tup [.str o,gX a,gX b]
theorem lC(t:Tm):gX t=.tup (.str t.op::t.kids.map gX):=by cases t<;>rfl
theorem Tm.gY{t k:Tm}(h:k∈t.kids):k.dep<t.dep:=by
 cases t with
 |leaf o=>exact absurd h cH
 |un o a=>exact bn.mp h▸bo _
 |bin o a b=>exact(em.mp h).elim (λe=>e▸SL (Kk _ _)) λh=>bn.mp h▸SL (Hl _ _)
theorem Tm.rN(t:Tm):t.kids.length≤2:=by cases t<;>exact ce rfl
noncomputable def bJ:Tm->List (List Nat×Tm)
 |.leaf o=>[([],.leaf o)]
 |.un o a=>([],.un o a)::(bJ a).map λq=>(0::q.1,q.2)
 |.bin o a b=>([],.bin o a b)::((bJ a).map (λq=>(0::q.1,q.2))++(bJ b).map λq=>(1::q.1,q.2))
noncomputable def o8:Nat->List Tm->List (List Nat×Tm)
 |_,[]=>[]
 |i,a::l=>(bJ a).map (λq=>(i::q.1,q.2))++o8 (i+1) l
theorem B9(t:Tm):bJ t=([],t)::o8 0 t.kids:=by
 cases t with
 |leaf o=>rfl
 |un o a=>exact congrArg _ (t3 _).symm
 |bin o a b=>exact congrArg _ (congrArg _ (t3 _).symm)
theorem ki(t:Tm):(bJ t).length=t.sz:=by
 induction t with
 |leaf o=>rfl
 |un o a ih=>exact congrArg aeE ((be _).trans ih)
 |bin o a b u z=>exact congrArg aeE (ci.trans (congr (congrArg qh ((be _).trans u)) ((be _).trans z)))
theorem Tm.Sx(t:Tm):t.sz+1≤2^(t.dep+1):=by
 induction t with
 |leaf o=>exact ii _
 |un o a ih=>simp only[kh,rM,m9,rL,yL,uM];rw[pN];exact XT ih
 |bin o a b u z=>
  simp only[kh,rM,m9,rL,yL,uM];have h1:=dk (n:=2) (by decide) (show a.dep+1≤max a.dep b.dep+1 by exact XU);have j:=dk (n:=2) (by decide) (show b.dep+1≤max a.dep b.dep+1 by exact XW);rw[pN];exact XX u h1 z j
theorem Tm.wL{t:Tm}(h:t.dep≤7):t.sz≤255:=by
 have h1:=t.Sx;have z:=dk (n:=2) (by decide) (show t.dep+1≤8 by exact XY h);lia
noncomputable abbrev Sy(t:Tm):D:=.tup (.str t.op::t.kids.map gX)
noncomputable def AF(q:List Nat×Tm):D:=.tup [.tup (nats q.1),Sy q.2]
theorem Ft{i:Nat}:∀{l:List Tm},(o8 i l).length=(l.map Tm.sz).sum:=λ{l}=>by
 induction l generalizing i with
 |nil=>rfl
 |cons a l ih=>exact ci.trans (congr (congrArg qh ((be _).trans (ki a))) ih)
theorem Fu{i:Nat}{l m:List Tm}:o8 i (l++m)=o8 i l++o8 (i+l.length) m:=by
 induction l generalizing i with
 |nil=>rfl
 |cons a l ih=>exact(congrArg (_++·) (ih.trans (congrArg (λk=>o8 (i+1) l++o8 k m) XZ))).trans (aU _ _ _).symm
theorem Fv(t:Tm):(t.kids.map Tm.sz).sum+1=t.sz:=by cases t<;>rfl
theorem rQ{i d:Nat}{a:Tm}(ih:∀q∈bJ a,q.1.length≤a.dep)(u:a.dep≤d){q:List Nat×Tm}(h:q∈(bJ a).map λq=>(i::q.1,q.2)):q.1.length≤d+1:=ah (lc.mp h) λr z e=>e▸dP (cr (ih r z) u)
theorem Fw:∀(t:Tm),∀q∈bJ t,q.1.length≤t.dep:=λt=>by
 induction t with
 |leaf o=>exactλq h=>bn.mp h▸ii _
 |un o a ih=>exactλq h=>(em.mp h).elim (λe=>e▸np _) (rQ ih (ii _))
 |bin o a b u z=>exactλq h=>(em.mp h).elim (λe=>e▸np _) λh=>(ca.mp h).elim (rQ u (Kk _ _)) (rQ z (Hl _ _))
theorem d0{H:aa}{a:co}{c c':ao}:upd (upd H a c) a c'=upd H a c':=funext λb=>by unfold upd;split<;>rfl
theorem iD.ds{A:ag->aa->D->(ag->aa->Prop)->Prop}{W:ag->aa->SQ->Prop}{K:aa->Prop}{Q:SQ}{ρ:ag}{H:aa}{l z:List D}(e:l=z)(h:iD A W K z ρ H Q):iD A W K l ρ H Q:=e▸h
noncomputable def ptV(t:D)(f:co):ag:=[("t",t),("found",.ref f)]
noncomputable def UE(H:aa)(f:co)(d:D)(z:List Tm):aa:=upd H f (.list (d::(o8 0 z).map AF))
noncomputable def Js(t:Tm)(rs:List (Tm×Nat))(z:List Tm):Prop:=∃es:List Tm,t.kids=z++es/\rs=es.zipIdx z.length
theorem uN{l:List Tm}:numbered (l.map gX) 0=(l.zipIdx 0).map λp:Tm×Nat=>D.tup [.int (p.2:Nat),gX p.1]:=by
 unfold numbered;rw[List.zipIdx_map,li];rfl
theorem Js.inv{t:Tm}{p:Tm×Nat}{rs:List (Tm×Nat)}{z:List Tm}(h:Js t (p::rs) z){P:Prop}(q:∀es,t.kids=z++p.1::es->p.2=z.length->rs=es.zipIdx (z++[p.1]).length->P):P:=by
 refine ah h λes e h=>?_;cases es with
 |nil=>cases h
 |cons k es=>
  injection h with h1 u;subst h1;exact q es e rfl (by rw[ci];exact u)
theorem Js.next{t:Tm}{p:Tm×Nat}{rs:List (Tm×Nat)}{z:List Tm}(h:Js t (p::rs) z)(u:t.dep≤7){P:Prop}(q:p.1∈t.kids->(bJ p.1).length≤ga->(∀(x:D),((x::(o8 0 z).map AF).length+((bJ p.1).map λq=>AF (p.2::q.1,q.2)).length≤1000000))->Js t rs (z++[p.1])->P):P:=by
 refine h.inv λes e e2 j=>?_;have hs:=Tm.wL u;have hk:=Fv t;rw[e]at hk;simp only[lf,XV,jp,sK]at hk;refine q (e▸on z (.head _)) (sz (by rw[ki];exact X0 hk hs)) (λx=>?_) (ak es (e.trans (bO z _ es)) j);rw[io,be,be,Ft,ki];exact X1 hk hs
theorem Nr{t:Tm}{p:Tm×Nat}{rs:List (Tm×Nat)}{z:List Tm}{H:aa}{f:co}{d:D}(h:Js t (p::rs) z):(UE H f d (z++[p.1])).le (upd (UE H f d z) f (.list ((d::(o8 0 z).map AF)++(bJ p.1).map λq=>AF (p.2::q.1,q.2)))):=by
 refine h.inv λes e e2 u=>?_;unfold UE;rw[d0,Fu,lf,fw,e2,kX,show o8 z.length [p.1]=_ from t3 _,li];exact .refl _
theorem Js.fin{t:Tm}{z:List Tm}(h:Js t [] z):z=t.kids:=by
 refine ah h λes e h=>?_;cases es with
 |nil=>rw[e,t3]
 |cons k es=>cases h
theorem yM{n:Nat}{t:Tm}{H:aa}{Q:DQ}(Z:t.dep≤7)(ih:∀k∈t.kids,∀(H:aa)(Q:DQ),Q (.fl ((bJ k).map AF)) H->aY X n 84 [gX k] H Q)(q:Q (.fl ((bJ t).map AF)) H):aY X (n+1) 84 [gX t] H Q:=by
 have hl:=t.rN;have z1:(D.str t.op::t.kids.map gX).length≤sizeLine:=sz (by rw[io,be];exact pO hl);have e1:(D.tup [.tup [],.tup (.str t.op::t.kids.map gX)]::(o8 0 t.kids).map AF)=(bJ t).map AF:=by
  rw[B9,jp];rfl
 have O:∀{k:Tm},k∈t.kids->∀q∈bJ k,1+(nats q.1).length≤sizeLine:=λ{k} hk q hq=>sz (by have:=Fw k q hq;have:=Tm.gY hk;rw[ax];exact X2 this Z (by assumption));have j:2≤sizeLine:=sz (ce rfl);have Y:1≤sizeLine:=sz (ce rfl);rw[lC];refine aY.fn rfl rfl (And.intro (np _) (And.intro j (And.intro Y λf hf=>And.intro (FS 1 _) (And.intro z1 ?_))));refine iD.ds uN (iD.st (λp:Tm×Nat=>.tup [.int (p.2:Nat),gX p.1]) (λ_=>ptV (.tup (.str t.op::t.kids.map gX)) f) (UE H f (.tup [.tup [],.tup (.str t.op::t.kids.map gX)])) (Js t) (t.kids.zipIdx 0) [] (λ_ _ _=>trivial) (ak t.kids rfl rfl) (λp rs dn P u go=>?_) λdn u=>?_)
 ·refine u.next Z λz h1 h2 N=>And.intro rfl (Ext.fl ⟨_,af _ _ _⟩ (ih p.1 z _ _ (aG.seq _ (.inl rfl) (aI.map (l:=bJ p.1) (f:=AF) (λq _ P h=>And.intro rfl h) (λq=>rJ rfl rfl (by decide)) (λq=>AF (p.2::q.1,q.2)) h1 trivial (λq hq Qy hy=>And.intro Y (And.intro (O z q hq) (And.intro j (hy _ (.refl _))))) (Exists.intro _ (Exists.intro _ (And.intro rfl (And.intro (af _ _ _) (And.intro (h2 _) (go _ trivial (.nx 2 rfl) (Nr u) N))))))))))
 ·exact .list ((af _ _ _).trans (by rw[u.fin,e1])) (.less (iT hf) (.here q))
theorem Tm.ind{P:Tm->Prop}(h:∀t,(∀k∈t.kids,P k)->P t)(t:Tm):P t:=by
 induction t with
 |leaf o=>exact h _ λk hk=>(nomatch hk)
 |un o a ih=>exact h _ λk hk=>bn.mp hk▸ih
 |bin o a b u z=>exact h _ λk hk=>(em.mp hk).elim (λe=>e▸u) λhk=>bn.mp hk▸z
theorem B'(t:Tm):∀(m0:Nat)(H:aa)(Q:DQ),t.dep≤7->Q (.fl ((bJ t).map AF)) H->aY X (m0+t.dep+1) 84 [gX t] H Q:=
 Tm.ind (P:=λt=>∀(m0:Nat)(H:aa)(Q:DQ),t.dep≤7->Q (.fl ((bJ t).map AF)) H->aY X (m0+t.dep+1) 84 [gX t] H Q)
  (λt ih m0 H Q z q=>yM z (λk hk H Q q=>(ih k hk 0 H Q (by have:=Tm.gY hk;exact LJ this z) q).mono (by have:=Tm.gY hk;exact PX this)) q) t
theorem Fx{t:Tm}{Q:DQ}(z:t.dep≤7)(q:Q (.fl ((bJ t).map AF)) H):aY X (m0+8) 84 [gX t] H Q:=(B' t 0 H Q z q).mono (X3 z)
noncomputable def kyD(t:Tm):D:=.tup [.int (t.sz:Nat),.tup ((bJ t).map λq=>.str q.2.op),.tup ((bJ t).map λq=>.int ((q.2.kids.length+1:Nat)-1))]
noncomputable def Ca(c:Int)(t:Tm):D:=.tup [.int c,kyD t,gX t]
theorem Nt{t:Tm}{Q:DQ}(z:t.dep≤7)(q:Q (kyD t) H):aY X (m0+9) 89 [gX t] H Q:=by
 have hs:=Tm.wL z;have hl:=ki t;have z1:(bJ t).length≤sizeLine:=sz (X4 hl hs);have O:((bJ t).map λq=>Sy q.2).length≤sizeLine:=by rw[be];exact z1
 have Z:((bJ t).map λq=>D.str q.2.op).length≤sizeLine:=by rw[be];exact z1
 have Y:((bJ t).map λq=>D.int ((q.2.kids.length+1:Nat)-1)).length≤sizeLine:=by rw[be];exact z1
 have e1:D.int (((bJ t).map λq=>Sy q.2).length:Nat)=.int (t.sz:Nat):=by rw[be,hl]
 have j:∀t:Tm,(D.str t.op::t.kids.map gX).length≤sizeLine:=λt=>sz (by have:=t.rN;rw[io,be];exact pO this);have e2:∀t:Tm,D.int ((((D.str t.op::t.kids.map gX).length:Nat):Int)-1)=.int ((t.kids.length+1:Nat)-1):=λt=>by rw[io,be]
 have N:("path":lm)≠"part":=by decide
 refine aY.fn rfl rfl (Fx z ?_);refine aG.seq _ (.inl rfl) (aI.map (λq _ P h=>And.intro rfl h) (λq=>rJ (x:="path") (y:="part") rfl rfl N.symm) (λq=>Sy q.2) z1 trivial (λq hq u hy=>hy _ (.refl _)) ?_);refine g7.fl _ rfl O ?_;refine aG.seq _ (.inl rfl) (aI.map (λ_ _ _ h=>h) (λ_=>aH rfl) (λq=>.str q.2.op) z1 trivial (λq hq u hy=>hy _ (.refl _)) ?_);refine Exists.intro _ (And.intro (.inr rfl) (And.intro Z ?_));refine aG.seq _ (.inl rfl) (aI.map (λ_ _ _ h=>h) (λ_=>aH rfl) (λq=>.int ((q.2.kids.length+1:Nat)-1)) z1 trivial (λq hq u hy=>g7.tup _ rfl (j q.2) ?_) ?_)
 ·rw[←e2]at hy;exact hy _ (.refl _)
 refine Exists.intro _ (And.intro (.inr rfl) (And.intro Y (And.intro (sz (ce rfl)) (.here ?_))));rw[e1];exact q
theorem yN{t:Tm}{c:Int}{Q:DQ}(z:t.dep≤7)(q:Q (Ca c t) H):aY X (m0+10) 202 [.int c,gX t] H Q:=
 aY.fn rfl rfl (Nt z (And.intro (sz (ce rfl)) (.here q)))
end
section
variable {X:Cx U}{m0:Nat}{R H:aa}{A:gq}{σ:St}
noncomputable def CW{α:Type}[DecidableEq α]:List α->List α
 |[]=>[]
 |a::l=>if a∈l then CW l else a::CW l
theorem rR{α:Type}[DecidableEq α]{a:α}{l:List α}:CW (a::l)=if a∈l then CW l else a::CW l:=rfl
set_option tactic.hygienic true in
theorem qs{α:Type}[DecidableEq α]{l:List α}{x:α}:x∈CW l↔x∈l:=by
 induction l with
 |nil=>exact xu
 |cons a l ih=>
  rw[rR];split
  ·rename_i h;rw[ih,em];exact⟨.inr,λq=>q.elim (λe=>e▸h) id⟩
  ·rw[em,em,ih]
set_option tactic.hygienic true in
theorem Cb{α:Type}[DecidableEq α]{l:List α}:(CW l).Nodup:=by
 induction l with
 |nil=>exact .nil
 |cons a l ih=>
  rw[rR];split
  ·exact ih
  ·rename_i h;exact Db.mpr ⟨λq=>h (qs.mp q),ih⟩
theorem Jt{α:Type}[DecidableEq α]{l:List α}:(CW l).length≤l.length:=by
 induction l with
 |nil=>exact ii _
 |cons a l ih=>rw[rR];split<;>simp only[io]<;>first|exact LK ih|exact X5 ih
set_option genInjectivity false in
set_option genCtorIdx false in
structure Eg where
 n:Nat
 pY:Nat->Nat
 cls:List Nat
 fW:Nat->List Nd
structure dy(E:Eg):Prop where
 nn:E.n≤7
 fl:∀x,x<E.n->E.pY x∈E.cls
 fx:∀c∈E.cls,c<E.n/\E.pY c=c
 UG:E.cls.Nodup
 kid:∀c∈E.cls,∀x∈E.fW c,yI x/\∀k∈x.2,k∈E.cls
 Nu:∀c∈E.cls,∀c'∈E.cls,∀x,x∈E.fW c->x∈E.fW c'->c=c'
 base:∀c∈E.cls,∃x∈E.fW c,∀k∈x.2,k<c
 nnd:∀c,(E.fW c).Nodup
 jF:(E.cls.map λc=>(E.fW c).length).sum≤7
noncomputable def Ju(σ:St):Eg:=⟨σ.p.length,find σ.p,roots σ.p,λc=>CW ((σ.lots.getD c []).map (fJ σ))⟩
theorem rS{l:List Nat}{f g:Nat->Nat}(h:∀c∈l,f c≤g c):(l.map f).sum≤(l.map g).sum:=by
 induction l with
 |nil=>exact ii _
 |cons a l ih=>
  rw[jp,jp,sK,sK];have:=h a (.head _);have:=ih λc hc=>h c (.tail _ hc);exact X6 (by assumption) this
theorem Sz{t:Nat}(I:Ok σ t)(hw:σ.wt=[]):dy (Ju σ):=by
 have mem:∀c∈roots σ.p,∀x,x∈(Ju σ).fW c↔∃i,i<σ.p.length/\find σ.p i=c/\fJ σ i=x:=λc hc x=>by
  refine dv (bA.mp hc) λh1 z=>?_;refine(?_:x∈CW _↔_);rw[qs,lc];constructor
  ·rintro⟨i,hi,e⟩;have:=(I.lot c h1 z i).mp hi;exact⟨i,this.1,this.2,e⟩
  ·rintro⟨i,hi,e1,e2⟩;exact⟨i,(I.lot c h1 z i).mpr ⟨hi,e1⟩,e2⟩
 have O:∀i,i<σ.p.length->∃x,σ.nd[i]?=some x/\fJ σ i=canon σ.p x:=λi hi=>by
  refine bR (I.at hi) λx hx=>?_;exact⟨x,hx,by unfold fJ;rw[show σ.nd.getD i ("",[])=x by rw[rc,hx];rfl]⟩
 refine⟨I.n7,λx hx=>bA.mpr ⟨cW I.fo hx,e9 I.fo x hx⟩,λc hc=>⟨(bA.mp hc).1,d7 (bA.mp hc).2⟩,jg _,λc hc x hx=>?_,λc hc c' o9 x hx QI=>?_,λc hc=>?_,λc=>Cb,?_⟩
 ·refine bt ((mem c hc x).mp hx) λi hi _ gc=>?_;subst gc;refine ah (O i hi) λy hy e=>?_;have⟨Y,hk⟩:=I.kid i y hy;rw[e];refine⟨⟨Y.1,by show(y.2.map _).length≤2;rw[be];exact Y.2⟩,λk jf=>?_⟩;refine ah (lc.mp jf) λq h0 jq=>?_;subst jq;have Z:q<σ.p.length:=by have:=hk q h0;exact TW (hk q h0) hi
  exact bA.mpr ⟨cW I.fo Z,e9 I.fo q Z⟩
 ·refine bt ((mem c hc x).mp hx) λi hi js e=>?_;subst js;refine bt ((mem c' o9 x).mp QI) λj hj nK e'=>?_;subst nK;have known:∀i,i<σ.p.length->∃m,ae σ.kn (fJ σ i)=some m/\find σ.p m=find σ.p i:=λi hi=>(I.J i hi).elim (λh=>by rw[hw]at h;cases h) λh=>h.elim Ps id;refine ah (known i hi) λm h1 z=>?_;refine ah (known j hj) λm' u h4=>?_;rw[e]at h1;rw[e',h1]at u;cases u;rw[←z,←h4]
 ·obtain⟨h1,z⟩:=bA.mp hc;refine ah (O c h1) λy hy e=>?_;refine(ak (fJ σ c) ((mem c hc _).mpr ⟨c,h1,d7 z,rfl⟩) (λk hk=>?_));rw[e]at hk;refine ah (lc.mp hk) λq h0 N=>?_;subst N;have u:=(I.kid c y hy).2 q h0;have:=Au I.fo (show q<σ.p.length by exact LH u h1);exact FB this u
 ·have h1:((roots σ.p).map λc=>((Ju σ).fW c).length).sum≤((roots σ.p).map λc=>(σ.lots.getD c []).length).sum:=rS λc _=>cr Jt (IR (be _));have z:((roots σ.p).flatMap λc=>σ.lots.getD c []).Nodup:=by
   refine List.pairwise_flatMap.mpr ⟨λc hc=>(I.lnd _ ?_).1,?_⟩
   ·have:=(bA.mp hc).1;rw[show σ.lots.getD c []=σ.lots[c]'(by rw[I.ll];exact this) by simp[I.ll,this]]
    exact IN _
   ·refine iA (λ{c d} hc hd cj x hx y hy e=>?_) (jg σ.p);subst e;have h1:=bA.mp hc;have z:=bA.mp hd;exact cj (((I.lot c h1.1 h1.2 x).mp hx).2.symm.trans ((I.lot d z.1 z.2 x).mp hy).2)
  have u:=aq z (r:=pc σ.p.length) λx hx=>by
   refine ah (cI.mp hx) λc hc hx=>?_;have h1:=bA.mp hc;exact cL.mpr ((I.lot c h1.1 h1.2 x).mp hx).1
  rw[List.length_flatMap,zn]at u;have:=I.n7;exact cr h1 (cr u this)
end
section
structure Fy(X:Cx U)(h:D)(B:aa)(E:Eg):Prop where
 obj:∃A,h=aA A
 find:∀(m0:Nat)(H:aa)(Q:DQ)(x:Nat),B.le H->x<E.n->Q (.int (E.pY x:Nat)) H->aY X (m0+2) 438 [h,.int x] H Q
 size:∀(m0:Nat)(H:aa)(Q:DQ),B.le H->Q (.int (E.n:Nat)) H->aY X (m0+2) 409 [h] H Q
 cls:∀(m0:Nat)(H:aa)(Q:DQ),B.le H->Q (.fl (nats E.cls)) H->aY X (m0+2) 480 [h] H Q
 fW:∀(m0:Nat)(H:aa)(Q:DQ)(c:Nat),B.le H->c∈E.cls->(∀l:List Nd,l.Nodup->(∀y,y∈l↔y∈E.fW c)->Q (.fl (l.map d8)) H)->aY X (m0+4) 492 [h,.int c] H Q
 ab3:∀(m0:Nat)(H:aa)(Q:DQ)(c:Nat),B.le H->c∈E.cls->(∀l:List Nd,l.length≤18->(∀y,y∈l↔y∈E.fW c)->Q (.fl (l.map d8)) H)->aY X (m0+4) 536 [h,.int c] H Q
section
variable {X:Cx U}{m0:Nat}{R H:aa}{A:gq}{σ:St}
theorem uO{t:Nat}{Q:DQ}{c:Nat}(h:Hp R H A σ)(I:Ok σ t)(hc:c<σ.p.length)(q:∀l:List Nat,l.Perm (σ.lots.getD (Mine.Tactic.find σ.p c) [])->Q (.fl (l.map λi=>d8 (fJ σ i))) H):aY X (m0+4) 536 [aA A,.int c] H Q:=by
 have h7:=I.n7;have nl:=I.nl;have z1:σ.p.length≤100:=Dj h7;have hL:∀l∈σ.lots,l.length≤50:=λl hl=>by have:=I.o5 l hl;exact PF this
 have O:=getL I.o5 (show Mine.Tactic.find σ.p c<σ.lots.length by rw[I.ll];exact cW I.fo hc);have g6:∀i∈σ.lots.getD (Mine.Tactic.find σ.p c) [],i<σ.p.length:=λi hi=>((I.lot _ (cW I.fo hc) (e9 I.fo c hc) i).mp hi).1;have Z:σ.nd.length≤1000:=Hs nl z1;have u:∀i,i<σ.p.length->∃x,σ.nd[i]?=some x/\x.2.length≤100/\x.2.length≤ga/\(∀k∈x.2,k<σ.p.length)/\(x.2.map λk=>D.int (Mine.Tactic.find σ.p k:Nat)).length≤ga/\1+(x.2.map λk=>D.int (Mine.Tactic.find σ.p k:Nat)).length≤ga/\D.tup ([.str x.1]++x.2.map λk=>D.int (Mine.Tactic.find σ.p k:Nat))=d8 (fJ σ i):=λi hi=>by
  refine cut λPP j=>?_;refine bR (I.at hi) λx hx=>?_;have⟨⟨_,z⟩,hk⟩:=I.kid i x hx;refine j ?_;refine(aac x hx (PC z) (sz (t8 z)) (λk Y=>by have:=hk k Y;exact TW (hk k Y) hi) (by rw[be];exact sz (t8 z)) (by rw[be];exact sz (PA z)) ?_);unfold fJ;rw[show σ.nd.getD i ("",[])=x by rw[rc,hx];rfl];show _=D.tup (.str x.1::pq _ (pq _ _));rw[li];rfl
 have N:∀l:List Nat,l.Perm (σ.lots.getD (Mine.Tactic.find σ.p c) [])->l.length≤sizeLine:=λl hp=>sz (by rw[hp.length_eq];exact PG O);refine aY.fn rfl rfl (pE h hc I.fo z1 I.ll hL λl hp hs=>?_);refine aG.seq _ (.inl rfl) (aI.map (λ_ _ _ h=>h) (λ_=>aH rfl) (λi=>d8 (fJ σ i)) (N l hp) trivial (λi hi Qy hy=>?_) (.here (q l hp)));refine cut λPP j=>?_;refine aab (u i (g6 i (hp.mem_iff.mp hi))) λx hx b1 b2 b3 b4 b5 b6=>?_;refine j ?_;refine Fb (h.at_ .nodes _ rfl) hx Z (And.intro (sz (ce rfl)) (wz (h.at_ .nodes _ rfl) hx Z b1 ?_));refine aG.seq _ (.inr rfl) (aI.map (λ_ _ _ h=>h) (λ_=>aH rfl) (λk=>.int (Mine.Tactic.find σ.p k:Nat)) b2 trivial (λk hk Qy' EI=>jR (h.at_ .above _ rfl) (b3 k hk) I.fo z1 (EI _ (.refl _))) ?_);exact Exists.intro _ (And.intro (.inr rfl) (And.intro b4 (And.intro b5 (b6▸hy _ (.refl _)))))
theorem SD{t:Nat}{B:aa}(h:Hp (λ_=>none) B A σ)(I:Ok σ t):Fy X (aA A) B (Ju σ):=by
 have h7:=I.n7;have nl:=I.nl;have z1:σ.p.length≤100:=Dj h7;have o9:∀c∈roots σ.p,c<σ.p.length/\find σ.p c=c:=λc hc=>⟨(bA.mp hc).1,d7 (bA.mp hc).2⟩;refine⟨⟨A,rfl⟩,λm0 H Q x hl hx q=>jR ((h.more hl).at_ .above _ rfl) hx I.fo z1 q,λm0 H Q hl q=>wD ((h.more hl).at_ .nodes _ rfl) (Hs nl z1) (nl▸q),λm0 H Q hl q=>wF ((h.more hl).at_ .above _ rfl) z1 q,λm0 H Q c hl hc q=>?_,λm0 H Q c hl hc q=>?_⟩
 ·obtain⟨h1,z⟩:=o9 c hc;refine wG (h.more hl) h1 I.fo z1 (le_of_eq_of_le nl z1) I.ll I.o5 (λi hi=>?_) λl hn hm=>q l hn λy=>(hm y).trans ?_
  ·rw[z]at hi;have j:=((I.lot c h1 (bA.mp hc).2 i).mp hi).1;obtain⟨x,hx⟩:=I.at j;have⟨Z,hk⟩:=I.kid i x hx;exact⟨x,hx,λk u=>by have:=hk k u;exact TW (hk k u) j,Z.2⟩
  ·rw[z];show _↔y∈CW _;rw[qs,lc]
 ·obtain⟨h1,z⟩:=o9 c hc;refine uO (h.more hl) I h1 λl hp=>?_;have e:(l.map λi=>d8 (fJ σ i))=(l.map (fJ σ)).map d8:=by rw[li];rfl
  rw[e];rw[z]at hp;have Y:=getL I.o5 (show c<σ.lots.length by rw[I.ll];exact h1);refine q _ (by rw[be,hp.length_eq];exact Y) λy=>?_;show _↔y∈CW _;rw[qs,lc,lc];exact⟨λ⟨i,hi,e⟩=>⟨i,hp.mem_iff.mp hi,e⟩,λ⟨i,hi,e⟩=>⟨i,hp.mem_iff.mpr hi,e⟩⟩
end
end
section
noncomputable def Nv:Nat->D->Prop
 |0=>gh λi=>if i=0 then Ie elseλ_=>False
 |d+1=>gh λi=>if i=0 then Ie else Nv d
theorem aB.no{n:Nat}:aB n λ_=>False:=⟨λ_ h=>h.elim,λ_ _ h=>h.elim,λ_ _ h=>h.elim,λ_ h=>h.elim,λ_ _ h=>h.elim,λ_ _ _ h=>h.elim⟩
theorem Nv.jF:∀d,aB (d+1) (Nv d)
 |0=>aB.tups λi=>by
  by_cases h:i=0
  ·simp only[h,if_true];exact .str
  ·simp only[h,if_false];exact .no
 |d+1=>aB.tups λi=>by
  by_cases h:i=0
  ·simp only[h,if_true];exact .str
  ·simp only[h,if_false];exact Nv.jF d
theorem Fz{d:Nat}{S:Nat->D->Prop}{t:Tm}(h0:S 0=Ie)(h:∀i,∀k∈t.kids,S (i+1) (gX k)):gh S (gX t):=⟨_,lC t,λi x e=>by
 cases i with
 |zero=>cases e;rw[h0];exact⟨_,rfl⟩
 |succ i=>
  rw[kx,tz]at e;cases q:t.kids[i]? with
  |none=>rw[q]at e;cases e
  |some k=>rw[q]at e;cases e;exact h i k (bk q)⟩
theorem tmS:∀(d:Nat)(t:Tm),t.dep≤d->Nv d (gX t)
 |0,t,h=>Fz (d:=0) rfl λi k hk=>by have:=Tm.gY hk;exact(X7 this h).elim
 |d+1,t,h=>Fz (d:=0) rfl λi k hk=>tmS d k (by have:=Tm.gY hk;exact PY this h)
noncomputable def UH:D->Prop:=gh λi=>if i=0 then qo else if i=1 then gh λ_=>Ie else gh λ_=>qo
noncomputable def K4:D->Prop:=gh λi=>if i=0 then qo else if i=1 then UH else Nv 7
theorem UH.jF{n:Nat}:aB (n+2) UH:=aB.tups λi=>by
 by_cases h:i=0
 ·simp only[h,if_true];exact .int
 ·by_cases h1:i=1
  ·simp only[h1];exact aB.tups λ_=>.str
  ·simp only[h,h1,if_false];exact aB.tups λ_=>.int
theorem K4.jF:aB 9 K4:=aB.tups λi=>by
 by_cases h:i=0
 ·simp only[h,if_true];exact .int
 ·by_cases h1:i=1
  ·simp only[h1];exact UH.jF
  ·simp only[h,h1,if_false];exact Nv.jF 7
theorem uP{α:Type}{S:D->Prop}{f:α->D}{l:List α}(h:∀a,S (f a)):gh (λ_=>S) (.tup (l.map f)):=⟨_,rfl,λi x e=>by
 rw[tz]at e;cases q:l[i]? with
 |none=>rw[q]at e;cases e
 |some k=>rw[q]at e;cases e;exact h k⟩
theorem three{S:Nat->D->Prop}{a b c:D}(ha:S 0 a)(z:S 1 b)(hc:S 2 c):gh S (.tup [a,b,c]):=⟨_,rfl,λi x e=>by
 rcases i with _|_|_|i<;>simp at e
 ·exact e▸ha
 ·exact e▸z
 ·exact e▸hc⟩
theorem K5{c:Int}{t:Tm}(h:t.dep≤7):K4 (Ca c t):=three ⟨_,rfl⟩ (three ⟨_,rfl⟩ (uP λ_=>⟨_,rfl⟩) (uP λ_=>⟨_,rfl⟩)) (tmS 7 t h)
theorem K6{c c':Int}{t z:Tm}{r:Bool}(h:f9 9 (Ca c t) (Ca c' z)=some r):(r=true->c≤c')/\(r=false->c'≤c):=by
 by_cases e:c=c'
 ·subst e;exact⟨λ_=>bq _,λ_=>bq _⟩
 ·unfold Ca at h;rw[v7,cR (by rw[nF,decide_eq_false e]),eU]at h;have:=db h;rw[←this];constructor
  ·intro h;have:=of_decide_eq_true h;exact kU this
  ·intro h;have:=of_decide_eq_false h;exact jh.mp this
theorem Jv:∀{t u:Tm},gX t=gX u->t=u:=λ{t}=>by
 induction t with
 |leaf o=>intro u h;cases u with
  |leaf=>exact congrArg Tm.leaf (D.str.inj (Ix (D.tup.inj h)).1)
  |_=>exact Dt (Ix (D.tup.inj h)).2
 |un o a ih=>intro u h;cases u with
  |leaf=>exact vC (Ix (D.tup.inj h)).2
  |un=>exact congr (congrArg Tm.un (D.str.inj (Ix (D.tup.inj h)).1)) (ih (Ix (Ix (D.tup.inj h)).2).1)
  |bin=>exact Dt (Ix (Ix (D.tup.inj h)).2).2
 |bin o a b j z=>intro u h;cases u with
  |leaf=>exact vC (Ix (D.tup.inj h)).2
  |un=>exact vC (Ix (Ix (D.tup.inj h)).2).2
  |bin=>exact congr (congr (congrArg Tm.bin (D.str.inj (Ix (D.tup.inj h)).1)) (j (Ix (Ix (D.tup.inj h)).2).1)) (z (Ix (Ix (Ix (D.tup.inj h)).2).2).1)
noncomputable def FA:Nat->List Tm
 |0=>ops.map .leaf
 |d+1=>ops.map .leaf++(ops.flatMap (λo=>(FA d).map (.un o))++ops.flatMap λo=>(FA d).flatMap λa=>(FA d).map (.bin o a))
noncomputable def Tm.ok:Tm->Prop
 |.leaf o=>o∈ops
 |.un o a=>o∈ops/\a.ok
 |.bin o a b=>o∈ops/\a.ok/\b.ok
theorem FC(d:Nat)(t:Tm):t.ok->t.dep≤d->t∈FA d:=by
 induction t generalizing d with
 |leaf o=>intro h _;cases d with
  |zero=>exact wS h
  |succ d=>exact xz _ (wS h)
 |un o a ih=>intro h z;cases d with
  |zero=>exact absurd z (iy _)
  |succ d=>exact on _ (xz _ (cI.mpr ⟨o,h.1,wS (ih d h.2 (kQ z))⟩))
 |bin o a b j u=>intro h z;cases d with
  |zero=>exact absurd z (iy _)
  |succ d=>exact on _ (on _ (cI.mpr ⟨o,h.1,cI.mpr ⟨a,j d h.2.1 (X8 z),wS (u d h.2.2 (X9 z))⟩⟩))
end
section
section
variable (pr:lm->Int)(E:Eg)
noncomputable def ay:Tm->Int
 |.leaf o=>pr o
 |.un o a=>pr o+ay a
 |.bin o a b=>pr o+(ay a+ay b)
theorem gk{o:lm}:ay pr (.leaf o)=pr o:=rfl
theorem lD{o:lm}{a:Tm}:ay pr (.un o a)=pr o+ay pr a:=rfl
theorem iW{o:lm}{a b:Tm}:ay pr (.bin o a b)=pr o+(ay pr a+ay pr b):=rfl
noncomputable def Rep:Nat->Tm->Prop
 |c,.leaf o=>(o,[])∈E.fW c
 |c,.un o a=>∃k,(o,[k])∈E.fW c/\Rep k a
 |c,.bin o a b=>∃k l,(o,[k,l])∈E.fW c/\Rep k a/\Rep l b
end
noncomputable def subs:Tm->List Tm
 |.leaf o=>[.leaf o]
 |.un o a=>.un o a::subs a
 |.bin o a b=>.bin o a b::(subs a++subs b)
theorem lY{o:lm}:subs (.leaf o)=[.leaf o]:=rfl
theorem tN{o:lm}{a:Tm}:subs (.un o a)=.un o a::subs a:=rfl
theorem pb{o:lm}{a b:Tm}:subs (.bin o a b)=.bin o a b::(subs a++subs b):=rfl
noncomputable def tO(t:Tm):List Tm:=t.kids.flatMap subs
noncomputable def UI(o:lm):List Tm->Tm
 |[]=>.leaf o
 |[a]=>.un o a
 |a::b::_=>.bin o a b
theorem rT{o:lm}{z:List Tm}(h:z.length≤2):(UI o z).kids=z/\(UI o z).op=o:=by
 rcases z with _|⟨a,_|⟨b,_|⟨c,l⟩⟩⟩<;>first|exact⟨rfl,rfl⟩|(simp at h)
theorem gm(t:Tm):subs t=t::tO t:=by cases t<;>simp[lY,tN,pb,tO,Tm.kids]
theorem cT{s t:Tm}:s∈tO t↔∃k∈t.kids,s∈subs k:=cI
theorem sub_self(t:Tm):t∈subs t:=by rw[gm];exact .head _
section
variable {pr:lm->Int}{E:Eg}
theorem wM(t:Tm):ay pr t=pr t.op+(t.kids.map (ay pr)).sum:=by cases t<;>simp[gk,lD,iW,Tm.op,Tm.kids]
theorem tP(h:∀o,1≤pr o)(t:Tm):1≤ay pr t:=by
 induction t with
 |leaf o=>exact h o
 |un o a ih=>have:=h o;simp only[gk,lD,iW];exact X' this ih
 |bin o a b u z=>have:=h o;simp only[gk,lD,iW];exact Yb this u z
theorem FD(h:∀o,pr o≤4)(t:Tm):ay pr t≤4*t.sz:=by
 induction t with
 |leaf o=>have:=h o;simp only[gk,lD,iW,kh,rM,m9];exact Vi.mpr (h o)
 |un o a ih=>have:=h o;simp only[gk,lD,iW,kh,rM,m9];exact Yc this ih
 |bin o a b u z=>have:=h o;simp only[gk,lD,iW,kh,rM,m9];exact Yd this u z
set_option tactic.hygienic true in
theorem tQ(h:∀o,1≤pr o){t k:Tm}(hk:k∈t.kids):ay pr k<ay pr t:=by
 have hp:=tP h;cases t<;>simp only[Tm.kids,em,bj,or_false]at hk
 ·rename_i o a;subst hk;have:=h o;simp only[gk,lD,iW];exact Int.lt_add_of_pos_left (ay pr k) (h o)
 ·rename_i o a b;have:=h o;have:=hp a;have:=hp b;simp only[gk,lD,iW];rcases hk with rfl|rfl<;>first|exact Ye (by assumption) (by assumption)|exact Yg (by assumption) (by assumption)
theorem Cc(h:∀o,1≤pr o)(t:Tm):∀s∈subs t,ay pr s≤ay pr t:=
 Tm.ind (P:=λt=>∀s∈subs t,ay pr s≤ay pr t) (λt ih s hs=>by
  rw[gm]at hs;rcases em.mp hs with rfl|hs
  ·exact bq _
  ·obtain⟨k,hk,hs⟩:=cT.mp hs;have:=tQ h hk;have:=ih k hk s hs;exact Yh (by assumption) this) t
theorem yO(h:∀o,1≤pr o){t s:Tm}(hs:s∈tO t):ay pr s<ay pr t:=by
 obtain⟨k,hk,hs⟩:=cT.mp hs;have:=tQ h hk;have:=Cc h k s hs;exact Yi (by assumption) this
theorem wN{c:Nat}{t:Tm}(h:Rep E c t):∃x∈E.fW c,x.1=t.op/\x.2.length=t.kids.length/\∀p∈x.2.zip t.kids,Rep E p.1 p.2:=by
 cases t with
 |leaf o=>exact(qI _ h rfl rfl (λp hp=>(nomatch hp)))
 |un o a=>
  refine ah h λk h1 z=>?_;exact(qI _ h1 rfl rfl (λp hp=>by obtain rfl:=bn.mp hp;exact z))
 |bin o a b=>
  refine cut λq u=>?_;refine cK h λk l h1 z j=>?_;refine u ?_;refine(qI _ h1 rfl rfl (λp hp=>?_));rcases em.mp hp with rfl|hp
  ·exact z
  ·obtain rfl:=bn.mp hp;exact j
theorem FE{c:Nat}{x:Nd}{z:List Tm}(hx:x∈E.fW c)(u:x.2.length≤2)(hl:z.length=x.2.length)(h:∀p∈x.2.zip z,Rep E p.1 p.2):Rep E c (UI x.1 z):=by
 obtain⟨o,ks⟩:=x;rcases ks with _|⟨k,_|⟨l,_|⟨m,r⟩⟩⟩<;>simp only[io,Hk]at u hl
 ·rcases z with _|⟨a,z⟩
  ·exact hx
  ·simp at hl
 ·rcases z with _|⟨a,_|⟨b,z⟩⟩
  ·simp at hl
  ·exact(ak k hx (h (k,a) (.head _)))
  ·simp at hl
 ·rcases z with _|⟨a,_|⟨b,_|⟨d,z⟩⟩⟩
  ·simp at hl
  ·simp at hl
  ·exact(jo k l hx (h (k,a) (.head _)) (h (l,b) (.tail _ (.head _))))
  ·simp at hl
 ·exact(Yj u).elim
theorem rU{α β:Type}:∀{l:List α}{m:List β},l.length=m.length->∀b∈m,∃a,(a,b)∈l.zip m
 |[],[],_,b,h=>nomatch h
 |a::l,c::m,hl,b,h=>by
  rcases em.mp h with rfl|h
  ·exact⟨a,.head _⟩
  ·obtain⟨d,z⟩:=rU (by simpa using hl) b h;exact⟨d,.tail _ z⟩
theorem Jw(K:dy E){c:Nat}(hc:c∈E.cls){t k:Tm}(h:Rep E c t)(hk:k∈t.kids):∃c'∈E.cls,Rep E c' k:=by
 refine pP (wN h) λx hx _ hl z=>?_;obtain⟨c',hm⟩:=rU hl k hk;exact(ak c' ((K.kid c hc x hx).2 c' (eF hm).1) (z _ hm))
theorem rV(K:dy E)(t:Tm):∀c∈E.cls,∀c'∈E.cls,Rep E c t->Rep E c' t->c=c':=by
 induction t with
 |leaf o=>intro c hc c' o9 h h';exact K.Nu c hc c' o9 _ h h'
 |un o a ih=>
  intro c hc c' o9 gc;refine ah gc λk h1 j=>?_;rintro⟨k',z,u⟩;obtain rfl:=ih k ((K.kid c hc _ h1).2 k (.head _)) k' ((K.kid c' o9 _ z).2 k' (.head _)) j u;exact K.Nu c hc c' o9 _ h1 z
 |bin o a b Z Y=>
  intro c hc c' o9 O;refine cK O λk l h1 j N=>?_;rintro⟨k',q,z,u,SE⟩;obtain rfl:=Z k ((K.kid c hc _ h1).2 k (.head _)) k' ((K.kid c' o9 _ z).2 k' (.head _)) j u;obtain rfl:=Y l ((K.kid c hc _ h1).2 l (.tail _ (.head _))) q ((K.kid c' o9 _ z).2 q (.tail _ (.head _))) N SE;exact K.Nu c hc c' o9 _ h1 z
theorem Nw(K:dy E)(t:Tm):∀c∈E.cls,Rep E c t->t.ok:=by
 induction t with
 |leaf o=>intro c hc h;exact(K.kid c hc _ h).1.1
 |un o a ih=>
  intro c hc Y;refine ah Y λk h1 z=>?_;exact⟨(K.kid c hc _ h1).1.1,ih k ((K.kid c hc _ h1).2 k (.head _)) z⟩
 |bin o a b j u=>
  intro c hc q;refine cK q λk l h1 z Z=>?_;exact⟨(K.kid c hc _ h1).1.1,j k ((K.kid c hc _ h1).2 k (.head _)) z,u l ((K.kid c hc _ h1).2 l (.tail _ (.head _))) Z⟩
noncomputable def NT(E:Eg)(t:Tm):Prop:=∀s∈subs t,∀s'∈tO s,∀c∈E.cls,Rep E c s->¬Rep E c s'
theorem NT.kid{t k:Tm}(h:NT E t)(hk:k∈t.kids):NT E k:=λs hs=>h s (by rw[gm];exact .tail _ (cT.mpr ⟨k,hk,hs⟩))
theorem wO(t:Tm):t.dep=0∨∃k∈t.kids,t.dep=k.dep+1:=by
 cases t with
 |leaf o=>exact .inl rfl
 |un o a=>exact .inr ⟨a,.head _,rfl⟩
 |bin o a b=>
  simp only[rL,yL,uM,Tm.kids];rcases xC a.dep b.dep with h|h
  ·exact .inr ⟨b,by simp,Yk h⟩
  ·exact .inr ⟨a,by simp,Yl h⟩
theorem NT.path(K:dy E)(t:Tm):NT E t->∀c∈E.cls,Rep E c t->∃l:List Nat,l.Nodup/\l.length=t.dep+1/\∀c'∈l,c'∈E.cls/\∃s∈subs t,Rep E c' s:=
 Tm.ind (P:=λt=>NT E t->∀c∈E.cls,Rep E c t->∃l:List Nat,l.Nodup/\l.length=t.dep+1/\∀c'∈l,c'∈E.cls/\∃s∈subs t,Rep E c' s) (λt ih hn c hc h=>by
  rcases wO t with e|⟨k,hk,e⟩
  ·exact(cY ([c]) (by simp) (by simp[e]) (λc' o9=>by obtain rfl:=bn.mp o9;exact⟨hc,t,sub_self t,h⟩))
  ·refine cut λO z=>?_;refine ah (Jw K hc h hk) λc1 j h1=>?_;refine bt (ih k hk (hn.kid hk) c1 j h1) λl Y l2 q=>?_;refine z ?_;refine(cY (c::l) (Db.mpr ⟨λhm=>?_,Y⟩) (by rw[io,l2,e]) (λc' o9=>?_))
   ·refine cut λO z=>?_;obtain⟨_,s,hs,u⟩:=q c hm;refine z ?_;exact hn t (sub_self t) s (cT.mpr ⟨k,hk,hs⟩) c hc h u
   ·rcases em.mp o9 with rfl|o9
    ·exact⟨hc,t,sub_self t,h⟩
    ·obtain⟨Z,s,hs,u⟩:=q c' o9;exact⟨Z,s,by rw[gm];exact .tail _ (cT.mpr ⟨k,hk,hs⟩),u⟩) t
theorem rW(K:dy E):E.cls.length≤7:=by
 have:=aq K.UG (r:=pc E.n) λc hc=>cL.mpr (K.fx c hc).1;have:=K.nn;rw[zn]at*;exact LL this (by assumption)
theorem NT.dep(K:dy E){t:Tm}{c:Nat}(h:NT E t)(hc:c∈E.cls)(j:Rep E c t):t.dep≤6:=by
 obtain⟨l,u,l2,z⟩:=h.path K t c hc j;have:=aq u λc' o9=>(z c' o9).1;have:=rW K;exact Ym l2 (by assumption) this
end
end
section
noncomputable def wQ(pr:lm->Int):Prop:=∀o,1≤pr o/\pr o≤4
noncomputable abbrev oB:=List (Nat×Tm)
structure sh(pr:lm->Int)(E:Eg)(rk:oB):Prop where
 key:∀c t,ae rk c=some t->c∈E.cls/\Rep E c t/\NT E t
 sub:∀c t,ae rk c=some t->∀s∈subs t,∀c'∈E.cls,Rep E c' s->∃t',ae rk c'=some t'/\ay pr t'≤ay pr s
 nd:(rk.map (·.1)).Nodup
section
variable {pr:lm->Int}{E:Eg}{rk:oB}
theorem sh.nil:sh pr E []:=⟨λ_ _ h=>(by cases h),λ_ _ h=>(by cases h),.nil⟩
theorem sh.len(K:dy E)(I:sh pr E rk):rk.length≤7:=by
 have:=aq I.nd (r:=E.cls) λc hc=>by
  have:=aN.mpr hc;obtain⟨t,ht⟩:=pt.mp this;exact(I.key c t ht).1
 have:=rW K;rw[be]at*;exact LL this (by assumption)
theorem sh.dep(K:dy E)(I:sh pr E rk){c:Nat}{t:Tm}(h:ae rk c=some t):t.dep≤6:=(I.key c t h).2.2.dep K (I.key c t h).1 (I.key c t h).2.1
noncomputable def gn(rk:oB)(ks:List Nat):List Tm:=ks.filterMap (ae rk)
theorem uQ{ks:List Nat}:(gn rk ks).length≤ks.length:=fP _ _
theorem wR{ks:List Nat}:(gn rk ks).length=ks.length->∀p∈ks.zip (gn rk ks),ae rk p.1=some p.2:=by
 induction ks with
 |nil=>intro _ p hp;cases hp
 |cons k ks ih=>
  intro h p hp;unfold gn at*;rw[bF]at h hp;cases e:ae rk k with
  |none=>
   rw[e]at h;have z:(ks.filterMap (ae rk)).length=(k::ks).length:=h;have:=fP (ae rk) ks;rw[io]at z;exact(Yn z this).elim
  |some t=>
   rw[e]at h hp;have z:(t::ks.filterMap (ae rk)).length=(k::ks).length:=h;rw[io,io]at z;rcases em.mp hp with rfl|hp
   ·exact e
   ·exact ih (zg (Be h.symm)) p hp
theorem oi{ks:List Nat}{t:Tm}(h:t∈gn rk ks):∃k∈ks,ae rk k=some t:=ou.mp h
theorem tR{ks:List Nat}(h:∀k∈ks,∃t,ae rk k=some t):(gn rk ks).length=ks.length:=by
 induction ks with
 |nil=>rfl
 |cons k ks ih=>
  refine bR (h k (.head _)) λt ht=>?_;unfold gn at*;rw[bF,ht,io,io,ih λk hk=>h k (.tail _ hk)]
noncomputable def eK(rk:oB)(x:Nd):Tm:=UI x.1 (gn rk x.2)
noncomputable def Jx(pr:lm->Int)(rk:oB)(c:Nat)(x:Nd):Prop:=(gn rk x.2).length=x.2.length/\∀t,ae rk c=some t->f9 9 (Ca (ay pr (eK rk x)) (eK rk x)) (Ca (ay pr t) t)=some true
theorem kj(hx:yI x):(eK rk x).kids=gn rk x.2:=(rT (cr uQ hx.2)).1
theorem wU{t:Tm}{n:Nat}(h:∀k∈t.kids,k.dep≤n):t.dep≤n+1:=by
 rcases wO t with e|⟨k,hk,e⟩
 ·exact Yo e
 ·have:=h k hk;exact PU e this
theorem sh.qt(K:dy E)(I:sh pr E rk)(hx:yI x):(eK rk x).dep≤7:=wU λk hk=>by
 rw[kj hx]at hk;refine ah (oi hk) λc _ h=>?_;exact I.dep K h
set_option tactic.hygienic true in
theorem sh.put(hp:wQ pr)(K:dy E)(I:sh pr E rk){c:Nat}{x:Nd}(hc:c∈E.cls)(hx:x∈E.fW c)(Z:Jx pr rk c x):sh pr E (aK rk c (eK rk x)):=by
 have gJ:=(K.kid c hc x hx).1;have K7:=kj (rk:=rk) gJ;have FF:Rep E c (eK rk x):=FE hx gJ.2 Z.1 λp hp=>(I.key _ _ (wR Z.1 p hp)).2.1;have Y:∀t,ae rk c=some t->ay pr (eK rk x)≤ay pr t:=λt ht=>(K6 (Z.2 t ht)).1 rfl;have SF:∀s∈tO (eK rk x),∀c'∈E.cls,Rep E c' s->∃z,ae rk c'=some z/\ay pr z≤ay pr s:=λs hs c' o9 q=>by
  refine cut λPP kk=>?_;refine ah (cT.mp hs) λk hk hs=>?_;rw[K7]at hk;refine ah (oi hk) λck _ h=>?_;refine kk ?_;exact I.sub ck k h s hs c' o9 q
 have hNT:NT E (eK rk x):=λs hs s' CP d hd h1 j=>by
  rw[gm]at hs;rcases em.mp hs with rfl|hs
  ·obtain rfl:=rV K _ d hd c hc h1 FF;refine ah (SF s' CP d hd j) λz FG hl=>?_;have:=Y z FG;have:=yO (λo=>(hp o).1) CP;exact Yp this (by assumption) hl
  ·refine ah (cT.mp hs) λk hk hs=>?_;rw[K7]at hk;refine ah (oi hk) λck _ h=>?_;exact(I.key ck k h).2.2 s hs s' CP d hd h1 j
 have up:∀c' z,ae rk c'=some z->∃u,ae (aK rk c (eK rk x)) c'=some u/\ay pr u≤ay pr z:=λc' z h=>by
  rw[av];by_cases e:c=c'
  ·subst e;exact(ak _ (if_pos rfl) (Y z h))
  ·exact⟨z,by rw[if_neg e];exact h,bq _⟩
 refine⟨λd t h=>?_,λd t h s hs c' o9 q=>?_,?_⟩
 ·rw[av]at h;split at h
  ·rename_i e;subst e;cases h;exact⟨hc,FF,hNT⟩
  ·exact I.key d t h
 ·have O:∀z,(∃c0,ae rk c0=some z)->s∈subs z->∃u,ae (aK rk c (eK rk x)) c'=some u/\ay pr u≤ay pr s:=λz gc=>bR gc λc0 h0 hs=>by
   refine ah (I.sub c0 z h0 s hs c' o9 q) λt1 h1 N=>?_;refine ah (up c' t1 h1) λu j l2=>?_;exact⟨u,j,SC l2 N⟩
  rw[av]at h;split at h
  ·refine zt h λqe=>?_;subst qe;rw[gm]at hs;rcases em.mp hs with rfl|hs
   ·obtain rfl:=rV K _ c' o9 c hc q FF;exact⟨_,by rw[av,if_pos rfl],bq _⟩
   ·refine ah (SF s hs c' o9 q) λt1 h1 N=>?_;refine ah (up c' t1 h1) λu j l2=>?_;exact⟨u,j,SC l2 N⟩
  ·exact O t ⟨d,h⟩ hs
 ·cases e:ae rk c with
  |some t=>rw[lX e];exact I.nd
  |none=>
   rw[fG e,lf];refine Fk.mpr ⟨I.nd,by simp,λa ha b Z e'=>?_⟩;obtain rfl:=bn.mp Z;subst e';have:=aN.mpr ha;rw[e]at this;cases this
theorem Cd:∃L:List Tm,(∀t:Tm,t.ok->t.dep≤7->t∈L)/\∀t∈L,t.dep≤7:=(ak ((FA 7).filter λt=>decide (t.dep≤7)) (λt h z=>bH.mpr ⟨FC 7 t h z,decide_eq_true z⟩) (λt h=>of_decide_eq_true (bH.mp h).2))
noncomputable def Nx(L:List Tm)(pr:lm->Int)(t:Tm):Nat:=(L.filter λu=>f9 9 (Ca (ay pr u) u) (Ca (ay pr t) t)==some true).length
noncomputable def cnt(L:List Tm)(pr:lm->Int)(rk:oB)(c:Nat):Nat:=match ae rk c with
 |some t=>Nx L pr t
 |none=>L.length+1
noncomputable def FH(L:List Tm)(pr:lm->Int)(E:Eg)(rk:oB):Nat:=(E.cls.map (cnt L pr rk)).sum
theorem AG{α:Type}{l:List α}{p q:α->Bool}(h:∀a∈l,p a=true->q a=true){a:α}(ha:a∈l)(hp:p a=false)(hq:q a=true):(l.filter p).length<(l.filter q).length:=by
 have z:∀l:List α,(∀a∈l,p a=true->q a=true)->(l.filter p).length≤(l.filter q).length:=λl=>by
  induction l with
  |nil=>intro _;exact ii _
  |cons b l ih=>
   intro h;have:=ih λa ha=>h a (.tail _ ha);have u:=h b (.head _);rw[aP,aP];cases e:p b with
   |true=>rw[u e];simp only[if_true,io];exact fu this 1
   |false=>cases q b<;>simp only[if_true,io,a9,if_false]<;>first|exact PZ this|exact LK this
 induction l with
 |nil=>cases ha
 |cons b l ih=>
  rw[aP,aP];rcases em.mp ha with rfl|ha
  ·have:=z l λa ha=>h a (.tail _ ha);rw[hp,hq];simp only[if_true,io,a9,if_false];exact SL this
  ·have:=ih (λa ha=>h a (.tail _ ha)) ha;have u:=h b (.head _);cases e:p b with
   |true=>rw[u e];simp only[if_true,io];exact mQ this 1
   |false=>cases q b<;>simp only[if_true,io,a9,if_false]<;>first|exact Yq this|exact Yr this
theorem yP{l:List Nat}{f g:Nat->Nat}(h:∀c∈l,f c≤g c){c:Nat}(hc:c∈l)(hl:f c<g c):(l.map f).sum<(l.map g).sum:=by
 induction l with
 |nil=>cases hc
 |cons a l ih=>
  have ha:=h a (.head _);rcases em.mp hc with rfl|hc
  ·have:=rS (l:=l) λc hc=>h c (.tail _ hc);exact Nat.add_lt_add_of_lt_of_le hl this
  ·have:=ih (λc hc=>h c (.tail _ hc)) hc;exact Nat.add_lt_add_of_le_of_lt ha this
theorem Jy{L:List Tm}(q:∀t:Tm,t.ok->t.dep≤7->t∈L){t u:Tm}(Y:∀t∈L,t.dep≤7)(ht:t.ok)(z:t.dep≤7)(j:u.dep≤7)(h:f9 9 (Ca (ay pr t) t) (Ca (ay pr u) u)=some true):Nx L pr t<Nx L pr u:=by
 refine AG (a:=t) (λv hv h1=>?_) (q t ht z) ?_ ?_
 ·rw[beq_iff_eq]at h1⊢;exact K4.jF.trans _ _ _ (K5 (Y v hv)) (K5 z) (K5 j) h1 h
 ·rw[K4.jF.OA _ (K5 z)];rfl
 ·rw[h];rfl
theorem sh.less{L:List Tm}(Y:∀t:Tm,t.ok->t.dep≤7->t∈L)(O:∀t∈L,t.dep≤7)(K:dy E)(I:sh pr E rk){c:Nat}{x:Nd}(hc:c∈E.cls)(hx:x∈E.fW c)(u:Jx pr rk c x):FH L pr E (aK rk c (eK rk x))<FH L pr E rk:=by
 have q:=(K.kid c hc x hx).1;have Z:Rep E c (eK rk x):=FE hx q.2 u.1 λp hp=>(I.key _ _ (wR u.1 p hp)).2.1;have j:=I.qt K q;have z:cnt L pr (aK rk c (eK rk x)) c<cnt L pr rk c:=by
  unfold cnt;rw[av,if_pos rfl];cases h:ae rk c with
  |none=>exact SL (Uf _ _)
  |some t=>exact Jy Y O (Nw K _ c hc Z) j (cp (I.dep K h)) (u.2 t h)
 refine yP (λd j=>?_) hc z;by_cases e:c=d
 ·subst e;exact Os z
 ·unfold cnt;rw[av,if_neg e];exact ii _
end
end
section
theorem aI.find{α β:Type}{W:Nm->WE}{T:Nm->WB}{nm:Nm}{ρ:ag}{t elt c:lv}{sc:bB}{K:aa->Prop}{H:aa}{Q:DQ}{u:α->ag}{f:α->D}{l:List α}(hA:∀a∈l,∀P:ag->aa->Prop,P (u a) H->rH sc.names t (bS sc.names ρ) H (f a) P)(j:∀a,(bS sc.names ρ).le (u a))
  (p:α->Option β) (g:β->D) (hz:l.length≤ga) (hK:K H) (step:∀a∈l,∀(Y:DQ)(Z:aa->Prop),(∀b,p a=some b->∀z,H.le z->Y (g b) z)->(p a=none->∀z,H.le z->Z z)->T sc.names c (u a) H λok H2=>if ok then W sc.names elt (u a) H2 Y else Z H2) (q:Q (.fl ((l.filterMap p).map g)) H):aI W T nm ρ t elt [c] sc K (l.map f) H Q:=
 .sf f (λd:List α=>(d.filterMap p).map g) (λ_=>H) (λe d=>l=d++e) l [] rfl (λe d h=>⟨hK,cr (IR (be g)) (cr (fP p d) (uF h hz))⟩) rfl
  (λa e d P N h go O=>hA a (fL h) _ ⟨j a,step a (fL h) P N (λb e z hl=>go (d++[a]) (by rw[xD,jY e,lf];rfl) hl (iU h)) λe z hl=>O (d++[a]) (by rw[xD,List.filterMap_cons_none e,List.filterMap_nil,t3]) hl (iU h)⟩) λd h=>h.trans (t3 d)▸q
noncomputable def aC(cs:List (lm×Int))(o:lm):Int:=(ae cs o).getD 1
noncomputable abbrev AH(cs:List (lm×Int)):ao:=.dS (cs.map λp=>(p.1,.int p.2))
theorem FI{cs:List (lm×Int)}{o:lm}:(eS (cs.map λp=>(p.1,D.int p.2)) o).getD (.int 1)=.int (aC cs o):=by
 have h:eS (cs.map λp=>(p.1,D.int p.2)) o=(ae cs o).map λi=>D.int i:=lA (f:=id) (g:=λi:Int=>D.int i) (λa b e=>e) cs o;refine h▸?_;unfold aC;cases ae cs o<;>rfl
noncomputable def K8(pr:lm->Int)(t:Tm):D:=Ca (ay pr t) t
noncomputable abbrev uR(pr:lm->Int)(rk:oB):List (Int×D):=rk.map λp=>((p.1:Int),K8 pr p.2)
theorem Ny{pr:lm->Int}{rk:oB}{c:Nat}:eS (uR pr rk) (c:Int)=(ae rk c).map (K8 pr):=lA (f:=λi:Nat=>(i:Int)) (λa b e=>Go e) rk c
noncomputable abbrev FJ(a:co)(h:D)(c r:co):D:=.obj a 245 [("heap",h),("costs",.ref c),("ranks",.ref r)]
section
variable {X:Cx U}{m0:Nat}{H:aa}{E:Eg}{rk:oB}{cs:List (lm×Int)}
theorem xm.K9{pr:lm->Int}{r:co}{c:Nat}{Q:BQ}(h:fh H r (.dI (uR pr rk)))(u:∀t,ae rk c=some t->Q true H)(z:ae rk c=none->Q false H):xm (.int (c:Nat)) (.ref r) H Q:=by
 refine .dI r _ _ rfl rfl h ?_;refine Ny▸?_;cases e:ae rk c with
 |some t=>exact u t e
 |none=>exact z e
theorem i9.K9{pr:lm->Int}{r:co}{c:Nat}{Q:BQ}(h:fh H r (.dI (uR pr rk)))(u:∀t,ae rk c=some t->Q false H)(z:ae rk c=none->Q true H):i9 (.int (c:Nat)) (.ref r) H Q:=by
 refine .dI r _ _ rfl rfl h ?_;refine Ny▸?_;cases e:ae rk c with
 |some t=>exact u t e
 |none=>exact z e
theorem cy.K9{pr:lm->Int}{r:co}{c:Nat}{t:Tm}{Q:DQ}(h:fh H r (.dI (uR pr rk)))(e:ae rk c=some t)(q:Q (K8 pr t) H):cy r (.int (c:Nat)) H Q:=.dI _ _ _ rfl h (by rw[Ny,e];rfl) q
theorem wW{t:Tm}{T:D}{c c':Int}{Q:DQ}(j:T=gX t)(u:c=c')(z:t.dep≤7)(q:Q (Ca c' t) H):aY X (m0+10) 202 [.int c,T] H Q:=by
 subst j;subst u;exact yN z q
theorem yQ{a c r:co}{h:D}{x:Nd}{Q:DQ}(hp:wQ (aC cs))(hc:fh H c (AH cs))(O:fh H r (.dI (uR (aC cs) rk)))(K:dy E)(I:sh (aC cs) E rk)(hx:yI x)
  (q1:(gn rk x.2).length=x.2.length->Q (K8 (aC cs) (eK rk x)) H) (q2:(gn rk x.2).length≠x.2.length->Q .none H):aY X (m0+11) 221 [FJ a h c r,d8 x] H Q:=by
 have z:=hx.2;have hk:=uQ (rk:=rk) (ks:=x.2);have hd:=I.qt K hx;have z1:x.2.length≤sizeLine:=sz (t8 z);have Z:(D.str x.1::nats x.2).length≤sizeLine:=sz (by rw[io,ax];exact pO z);have z3:((gn rk x.2).map (K8 (aC cs))).length≤sizeLine:=sz (by rw[be];exact LM z hk);have Y:(gn rk x.2).length≤sizeLine:=sz (LM z hk);have z5:((gn rk x.2).map gX).length≤sizeLine:=sz (by rw[be];exact LM z hk);have z6:1+((gn rk x.2).map gX).length≤sizeLine:=sz (by rw[be];exact Ys z hk);have N:∀t∈gn rk x.2,0≤ay (aC cs) t/\ay (aC cs) t≤2000:=λt ht=>by
  refine ah (oi ht) λk _ e=>?_;have h1:=tP (λo=>(hp o).1) t;have h3:=FD (λo=>(hp o).2) t;have h4:=Tm.wL (show t.dep≤7 by have:=I.dep K e;exact cp this);exact Yt h1 h3 h4
 have hs:=oZ N;have RC:((gn rk x.2).map (ay (aC cs))).sum<2^62:=by
  lia
 have u:∀n∈(gn rk x.2).map (ay (aC cs)),0≤n:=λn hn=>by
  refine ah (lc.mp hn) λt ht j=>?_;subst j;exact(N t ht).1
 have e1:D.fl ((gn rk x.2).map λt=>.int (ay (aC cs) t))=.fl (((gn rk x.2).map (ay (aC cs))).map D.int):=by rw[li];rfl
 have ek:=kj (rk:=rk) hx;have eo:(eK rk x).op=x.1:=(rT (cr hk hx.2)).2;have e2:D.tup ([.str x.1]++(gn rk x.2).map gX)=gX (eK rk x):=by rw[lC,ek,eo];rfl
 have e3:aC cs x.1+((gn rk x.2).map (ay (aC cs))).sum=ay (aC cs) (eK rk x):=by rw[wM,ek,eo]
 have e5:(((D.str x.1::nats x.2).length:Nat):Int)-1=(x.2.length:Nat):=by rw[io,ax];exact mi.mpr rfl
 refine aY.fn rfl rfl (And.intro (FS 1 _) (And.intro Z ?_));refine aG.seq (nats x.2) (.inr rfl) (aI.find (λ_ _ _ h=>h) (λ_=>aH rfl) (ae rk) (K8 (aC cs)) z1 trivial (λk hk Qy Qn hy hn=>xm.K9 O (λt e=>cy.K9 O e (hy t e _ (.refl _))) λe=>hn e _ (.refl _)) ?_);refine g7.fl _ rfl z3 (g7.tup _ rfl Z (sQ (λe=>?_) λe=>?_))
 ·refine .here (q2 λq=>?_);have e:=of_decide_eq_true e;rw[e5,be]at e;have e:((gn rk x.2).length:Int)<(x.2.length:Nat):=e;exact Yu e q
 ·have hq:(gn rk x.2).length=x.2.length:=by
   have e:=of_decide_eq_false e;rw[e5,be]at e;have e:¬((gn rk x.2).length:Int)<(x.2.length:Nat):=e;exact Yv hk e
  refine And.intro ⟨_,hc⟩ (Exists.intro _ (Exists.intro _ (Exists.intro _ (And.intro rfl (And.intro hc (And.intro FI ?_))))));refine aG.seq _ (.inl rfl) (aI.map (λ_ _ _ h=>h) (λ_=>aH rfl) (λt=>.int (ay (aC cs) t)) Y trivial (λt ht Qy hy=>hy _ (.refl _)) ?_);refine Exists.intro _ (And.intro e1 (And.intro u (And.intro RC ?_)));refine aG.seq _ (.inl rfl) (aI.map (λ_ _ _ h=>h) (λ_=>aH rfl) gX Y trivial (λt ht Qy hy=>hy _ (.refl _)) ?_);refine Exists.intro _ (And.intro (.inr rfl) (And.intro z5 (And.intro z6 (wW e2 e3 hd (.here (q1 hq))))))
end
end
section
set_option tactic.hygienic true in
theorem uS{H:aa}{a:co}{c:ao}(h:H a=some c):upd H a c=H:=funext λb=>by
 unfold upd;split
 ·rename_i e;rw[e,h]
 ·rfl
theorem bU{B H:aa}{a:co}{c:ao}(h:B.le H)(ha:B a=none):B.le (upd H a c):=λb d e=>by
 rw[aj λq=>by subst q;rw[ha]at e;cases e];exact h b d e
theorem SG{pr:lm->Int}{rk:oB}{c:Nat}{t:Tm}:dput (uR pr rk) (c:Int) (K8 pr t)=uR pr (aK rk c t):=oc (f:=λi:Nat=>(i:Int)) (g:=K8 pr) (λa b e=>Go e) rk c t
section
variable {X:Cx U}{m0:Nat}{H B:aa}{E:Eg}{rk:oB}{cs:List (lm×Int)}
structure CY(L:List Tm)(pr:lm->Int)(E:Eg)(rk pd:oB)(P:Nat->Nd->Prop)(b:Bool):Prop where
 inv:sh pr E pd
 yes:b=true->FH L pr E pd<FH L pr E rk
 no:b=false->pd=rk/\∀c x,P c x->¬Jx pr rk c x
theorem CY.up{L:List Tm}{pr:lm->Int}{z:oB}{P u:Nat->Nd->Prop}{b:Bool}(h:CY L pr E rk z P b)(j:∀c x,u c x->P c x):CY L pr E rk z u b:=⟨h.inv,h.yes,λe=>⟨(h.no e).1,λc x p=>(h.no e).2 c x (j c x p)⟩⟩
theorem CY.keep{L:List Tm}{pr:lm->Int}{u:oB}{P:Nat->Nd->Prop}{b:Bool}{c:Nat}{x:Nd}(h:CY L pr E rk u P b)(hn:¬Jx pr u c x):CY L pr E rk u (λc' z=>P c' z∨(c'=c/\z=x)) b:=⟨h.inv,h.yes,λe=>⟨(h.no e).1,λc' z p=>p.elim ((h.no e).2 c' z) λq=>dv q λh1 j=>by
 subst h1;subst j;rw[←(h.no e).1];exact hn⟩⟩
theorem CY.put{L:List Tm}(j:∀t:Tm,t.ok->t.dep≤7->t∈L)(Y:∀t∈L,t.dep≤7){pr:lm->Int}(hp:wQ pr)(K:dy E){z:oB}{P q:Nat->Nd->Prop}{b:Bool}{c:Nat}{x:Nd}(h:CY L pr E rk z P b)(hc:c∈E.cls)(hx:x∈E.fW c)(u:Jx pr z c x):CY L pr E rk (aK z c (eK z x)) q true:=
 ⟨h.inv.put hp K hc hx u,λ_=>by
  have h1:=h.inv.less j Y K hc hx u;cases b with
  |true=>exact TW h1 (h.yes rfl)
  |false=>rw[(h.no rfl).1]at h1⊢;exact h1,λe=>by cases e⟩
noncomputable def hbV(self:D)(b:Bool):ag:=[("self",self),("is_better",.bool b)]
noncomputable def hbW(self:D)(b:Bool)(k:Nat):ag:=[("self",self),("is_better",.bool b),("c",.int (k:Nat))]
noncomputable def OO(L:List Tm)(pr:lm->Int)(E:Eg)(rk:oB)(rs:List Nat)(s:Bool×oB):Prop:=∃z,E.cls=z++rs/\CY L pr E rk s.2 (λc x=>c∈z/\x∈E.fW c) s.1
noncomputable def CZ(L:List Tm)(pr:lm->Int)(E:Eg)(rk:oB)(k:Nat)(l:List Nd)(rs:List Nat)(rx:List Nd)(s:Bool×oB):Prop:=∃u z,E.cls=u++k::rs/\l=z++rx/\CY L pr E rk s.2 (λc x=>(c∈u/\x∈E.fW c)∨(c=k/\x∈z)) s.1
section
variable {L:List Tm}{pr:lm->Int}{k:Nat}{l rx:List Nd}{rs:List Nat}{s:Bool×oB}{x:Nd}
theorem OO.mem(h:OO L pr E rk (k::rs) s):k∈E.cls:=ah h λz e _=>e▸on z (.head _)
theorem OO.sub(h:OO L pr E rk (k::rs) s):CZ L pr E rk k l rs l s:=ah h λz e S=>(jo z ([]) e rfl (S.up λc x p=>p.elim id λp=>nomatch p.2))
theorem CZ.back(h:CZ L pr E rk k l rs [] s)(hm:∀x,x∈l↔x∈E.fW k):OO L pr E rk rs s:=by
 refine cut λN Y=>?_;refine cK h λq O e j S=>?_;rw[t3]at j;subst j;refine Y ?_;exact⟨q++[k],e.trans (bO q k rs),S.up λc x Z=>dv Z λz u=>(ca.mp z).elim (λz=>.inl ⟨z,u⟩) λz=>.inr ⟨bn.mp z,by rw[bn.mp z]at u;exact(hm x).mpr u⟩⟩
theorem CZ.facts(K:dy E)(h:CZ L pr E rk k l rs (x::rx) s):x∈l/\sh pr E s.2/\(uR pr s.2).length≤sizeLine:=cK h λu z _ e S=>(Hv (e▸on z (.head _)) S.inv (sz (cr (IR (be _)) (by have:=S.inv.len K;exact qH this))))
theorem CZ.no(h:CZ L pr E rk k l rs (x::rx) s)(hn:¬Jx pr s.2 k x):CZ L pr E rk k l rs rx s:=cK h λZ j Y e S=>⟨Z,j++[x],Y,e.trans (bO j x rx),(S.keep hn).up λc O p=>p.elim (λp=>.inl (.inl p)) λq=>dv q λu z=>(ca.mp z).elim (λz=>.inl (.inr ⟨u,z⟩)) λz=>.inr ⟨u,bn.mp z⟩⟩
theorem CZ.yes(j:∀t:Tm,t.ok->t.dep≤7->t∈L)(Z:∀t∈L,t.dep≤7)(hp:wQ pr)(K:dy E)(h:CZ L pr E rk k l rs (x::rx) s)(hk:k∈E.cls)(hx:x∈E.fW k)(u:Jx pr s.2 k x):CZ L pr E rk k l rs rx (true,aK s.2 k (eK s.2 x)):=cK h λY z q e S=>(jo Y (z++[x]) q (e.trans (bO z x rx)) (S.put j Z hp K hk hx u))
end
theorem sV{a c r:co}{h:D}{Q:DQ}{L:List Tm}(hL:∀t:Tm,t.ok->t.dep≤7->t∈L)(CX:∀t∈L,t.dep≤7)(hp:wQ (aC cs))(hc:H c=some (AH cs))(OP:c≠r)(Z:H r=some (.dI (uR (aC cs) rk)))(K:dy E)(G:Fy X h B E)(hB:B.le H)(UJ:B r=none)(I:sh (aC cs) E rk)
  (q:∀b z,CY L (aC cs) E rk z (λc x=>c∈E.cls/\x∈E.fW c) b->Q (.bool b) (upd H r (.dI (uR (aC cs) z)))):aY X (m0+12) 228 [FJ a h c r] H Q:=by
 have N:∀z,B.le (upd H r (.dI (uR (aC cs) z))):=λz=>bU hB UJ;have Y:∀z,upd H r (.dI (uR (aC cs) z)) r=some (.dI (uR (aC cs) z)):=λz=>af _ _ _;refine bR G.obj λA ab5=>?_;subst ab5;refine aY.fn rfl rfl (G.cls _ _ _ hB ?_);refine aG.seq _ (.inl rfl) ((uS Z)▸iD.st (λn:Nat=>.int n) (λs:Bool×oB=>hbV (FJ a (aA A) c r) s.1) (λs=>upd H r (.dI (uR (aC cs) s.2))) (OO L (aC cs) E rk) E.cls (false,rk) (λ_ _ _=>trivial) ⟨[],rfl,I,λe=>(nomatch e),λ_=>⟨rfl,λ_ _ p=>nomatch p.1⟩⟩ (λk rs s P j go=>G.fW _ _ _ k (N s.2) j.mem λl Jr hm=>?_) λs j=>.here (q s.1 s.2 (ah j λdn e S=>S.up λc x p=>⟨by rw[←t3 dn,←e];exact p.1,p.2⟩)));refine aG.seq _ (.inl rfl) (iD.st d8 (λs:Bool×oB=>hbW (FJ a (aA A) c r) s.1 k) (λs=>upd H r (.dI (uR (aC cs) s.2))) (CZ L (aC cs) E rk k l rs) l s (λ_ _ _=>trivial) j.sub (λx rx s P u O=>?_) λs u=>go s trivial (.nx 2 rfl) (.refl _) (u.back hm));have F:=u.facts K;have hx:=(hm x).mp F.1;have gJ:=(K.kid k j.mem x hx).1;refine yQ hp (.inl ((aj OP).trans hc)) (.inl (Y s.2)) K F.2.1 gJ (λhq=>?_) λhq=>O s trivial (.nx 3 rfl) (.refl _) (u.no λhb=>hq hb.1);refine i9.K9 (.inl (Y s.2)) (λt ht=>?_) λht=>pX.mk _ rfl (eV.dI _ _ rfl (Y s.2) F.2.2 (O (true,_) trivial (.nx 3 rfl) (by rw[d0,SG];exact .refl _) (u.yes hL CX hp K j.mem hx ⟨hq,λt' FG=>fg (FG.symm.trans ht)⟩)));refine cy.K9 (.inl (Y s.2)) ht (Exists.intro 9 (Exists.intro K4 (And.intro K4.jF (And.intro (K5 (F.2.1.qt K gJ)) (And.intro (K5 (cp (F.2.1.dep K ht))) (And.intro (by decide) λr Z=>sQ (λe=>?_) λe=>?_))))))
 ·subst e;exact pX.mk _ rfl (eV.dI _ _ rfl (Y s.2) F.2.2 (O (true,_) trivial (.nx 3 rfl) (by rw[d0,SG];exact .refl _) (u.yes hL CX hp K j.mem hx ⟨hq,λt' FG=>db (ht.symm.trans FG)▸Z⟩)))
 ·subst e;exact O s trivial (.nx 3 rfl) (.refl _) (u.no λhb=>nomatch(hb.2 t ht).symm.trans Z)
end
end
section
section
variable {X:Cx U}{m0:Nat}{H B:aa}{E:Eg}{cs:List (lm×Int)}
set_option tactic.hygienic true in
theorem AI{H:aa}{z r:co}{c c1 c2:ao}(j:H z=none)(u:r≠z):rem (upd (upd (upd H z c1) r c) z c2) z=upd H r c:=funext λb=>by
 unfold rem;split
 ·rename_i e;subst e;rw[aj (cG u),j]
 ·rename_i e;rw[aj e];unfold upd;rw[if_neg e]
noncomputable def cpV(x:co)(h:D)(c r:co):ag:=[("self",FJ x h c r),("heap",h),("costs",.ref c)]
theorem wX{c:co}{h:D}{Q:DQ}(hp:wQ (aC cs))(hc:H c=some (AH cs))(K:dy E)(G:Fy X h B E)(N:B.le H)
  (q:∀a r rk H',c≠r->H r=none->H.le H'->H' r=some (.dI (uR (aC cs) rk))->sh (aC cs) E rk->(∀k∈E.cls,∀x∈E.fW k,¬Jx (aC cs) rk k x)->Q (FJ a h c r) H'):aY X (m0+14) 245 [h,.ref c] H Q:=by
 refine cut λPP kk=>?_;refine ah Cd λL hL CX=>?_;refine kk ?_;refine aY.cls rfl rfl rfl λx dx hd=>?_;refine Exists.intro _ (And.intro (af _ _ _) (And.intro rfl (And.intro (ce rfl) ?_)));refine Exists.intro _ (And.intro (af _ _ _) (And.intro rfl (And.intro (ce rfl) ?_)));rw[d0,d0];refine Exists.intro (.dI []) (And.intro .dI λr O=>?_);have z:dx≠r:=ne_sn (af _ _ _) O;refine Exists.intro _ (And.intro ((aj z).trans (af _ _ _)) (And.intro rfl (And.intro (ce rfl) (Exists.intro _ (And.intro (af _ _ _) ?_)))));have u:H r=none:=(aj z.symm).symm.trans O;have Z:c≠r:=ne_sn hc u;have UJ:=le_none N u;refine(AI hd z.symm)▸?_;exact gM.st (λ_=>cpV x h c r) (λrk=>upd H r (.dI (uR (aC cs) rk))) (λn rk=>sh (aC cs) E rk/\FH L (aC cs) E rk=n) _ [] ⟨sh.nil,rfl⟩ λj rk P Y go=>sV hL CX hp ((aj Z).trans hc) Z (af _ _ _) K G (bU N UJ) UJ Y.1 λb pd S=>d0.symm▸sQ (λe=>go _ pd (Y.2▸S.yes e) trivial (.nx 3 rfl) (.refl _) ⟨S.inv,rfl⟩) λe=>And.intro rfl (Or.inr ⟨_,rfl,.here (q x r rk _ Z u (.upd u) ((S.no e).1▸af _ _ _) Y.1 λk hk y hy=>(S.no e).2 k y ⟨hk,hy⟩)⟩)
theorem Jz{a c r:co}{h:D}{rk:oB}{x:Nat}{t:Tm}{Q:DQ}{pr:lm->Int}(u:fh H r (.dI (uR pr rk)))(G:Fy X h B E)(j:B.le H)(hx:x<E.n)(ht:ae rk (E.pY x)=some t)(q:Q (.int (ay pr t)) H):aY X (m0+3) 235 [FJ a h c r,.int x] H Q:=by
 refine bR G.obj λA z=>?_;subst z;refine aY.fn rfl rfl ?_;refine G.find _ _ _ x j hx ?_;exact cy.K9 u ht (.here q)
theorem JA{a c r:co}{h:D}{rk:oB}{x:Nat}{t:Tm}{Q:DQ}{pr:lm->Int}(z:fh H r (.dI (uR pr rk)))(G:Fy X h B E)(u:B.le H)(hx:x<E.n)(ht:ae rk (E.pY x)=some t)(q:Q (gX t) H):aY X (m0+3) 242 [FJ a h c r,.int x] H Q:=by
 refine bR G.obj λA j=>?_;subst j;refine aY.fn rfl rfl ?_;refine G.find _ _ _ x u hx ?_;exact cy.K9 z ht (.here q)
end
end
section
section
variable {pr:lm->Int}{E:Eg}{rk:oB}
structure Fin(pr:lm->Int)(E:Eg)(rk:oB):Prop where
 inv:sh pr E rk
 all:∀c∈E.cls,∃t,ae rk c=some t
 le:∀c∈E.cls,∀x∈E.fW c,∀t,ae rk c=some t->ay pr t≤pr x.1+((gn rk x.2).map (ay pr)).sum
theorem Fin.of(K:dy E)(I:sh pr E rk)(h:∀c∈E.cls,∀x∈E.fW c,¬Jx pr rk c x):Fin pr E rk:=by
 have z:∀c∈E.cls,∀x∈E.fW c,(∀k∈x.2,∃t,ae rk k=some t)->∃t,ae rk c=some t/\ay pr t≤ay pr (eK rk x):=λc hc x hx hk=>by
  have q:=(K.kid c hc x hx).1;have N:=I.qt K q;cases e:ae rk c with
  |none=>exact absurd ⟨tR hk,λt ht=>by rw[e]at ht;cases ht⟩ (h c hc x hx)
  |some t=>
   have ht:=cp (I.dep K e);obtain⟨r,Z⟩:=K4.jF.Ic _ _ (K5 (c:=ay pr (eK rk x)) N) (K5 (c:=ay pr t) ht);cases r with
   |true=>exact absurd ⟨tR hk,λO j=>by rw[e]at j;cases j;exact Z⟩ (h c hc x hx)
   |false=>exact⟨t,rfl,(K6 Z).2 rfl⟩
 have u:∀c,c∈E.cls->∃t,ae rk c=some t:=λc=>by
  induction c using iL with
  |_ c ih=>
   intro hc;obtain⟨x,hx,hk⟩:=K.base c hc;obtain⟨t,ht,_⟩:=z c hc x hx λk Y=>ih k (hk k Y) ((K.kid c hc x hx).2 k Y);exact⟨t,ht⟩
 refine⟨I,u,λc hc x hx t ht=>?_⟩;obtain⟨O,j,hl⟩:=z c hc x hx λk hk=>u k ((K.kid c hc x hx).2 k hk);rw[ht]at j;cases j;have q:=(K.kid c hc x hx).1;rw[wM (eK rk x),kj q,show(eK rk x).op=x.1 from(rT (cr uQ q.2)).2]at hl;exact hl
end
end
section
noncomputable abbrev fX:=List (Nat×Nd)
noncomputable abbrev jG(ch:fX):List (Int×D):=ch.map λp=>((p.1:Int),d8 p.2)
theorem FK{ch:fX}{c:Nat}:eS (jG ch) (c:Int)=(ae ch c).map d8:=lA (f:=λi:Nat=>(i:Int)) (λa b e=>Go e) ch c
inductive gp(ch:fX):Nat->Nat->Prop
 |refl (a:Nat):gp ch a a
 |step {a b c:Nat} {x:Nd} (h:ae ch a=some x) (hk:b∈x.2) (r:gp ch b c):gp ch a c
theorem gp.trans{ch:fX}{a b c:Nat}(h:gp ch a b)(h':gp ch b c):gp ch a c:=by
 induction h with
 |refl=>exact h'
 |step h hk _ ih=>exact .step h hk (ih h')
theorem gp.closed{ch:fX}{S:Nat->Prop}(z:∀a x,S a->ae ch a=some x->∀k∈x.2,S k){a b:Nat}(h:gp ch a b)(ha:S a):S b:=by
 induction h with
 |refl=>exact ha
 |step h hk _ ih=>exact ih (z _ _ ha h _ hk)
noncomputable def UK(E:Eg)(ch:fX):Prop:=∀c x,ae ch c=some x->c∈E.cls/\x∈E.fW c
noncomputable abbrev FL(s:List Nat):List (Int×D):=s.map λi:Nat=>((i:Int),.bool true)
theorem SI{s:List Nat}{c:Nat}:(eS (FL s) (c:Int)).isSome=true↔c∈s:=by
 rw[vE,li,lc];exact⟨λ⟨i,hi,e⟩=>by rw[←Go e];exact hi,λh=>⟨c,h,rfl⟩⟩
theorem ab7{s:List Nat}{c:Nat}(h:c∉s):dput (FL s) (c:Int) (.bool true)=FL (s++[c]):=by
 have:((FL s).any λp=>decide (p.1=(c:Int)))=false:=by
  rw[List.any_eq_false];intro p hp;obtain⟨i,hi,rfl⟩:=lc.mp hp;have:i≠c:=λe=>h (e▸hi);simp;exact aeF rfl rfl this
 unfold dput;rw[this];simp
noncomputable def bK(E:Eg)(s:List Nat):Nat:=(E.cls.filter λc=>decide (c∉s)).length
theorem tS{E:Eg}{s:List Nat}{c:Nat}(hc:c∈E.cls)(h:c∉s):bK E (s++[c])<bK E s:=
 AG (a:=c) (λa _ h1=>decide_eq_true λz=>of_decide_eq_true h1 (ca.mpr (.inl z))) hc (decide_eq_false λz=>z (by simp)) (decide_eq_true h)
end
section
section
variable {X:Cx U}{m0:Nat}{H:aa}{E:Eg}{ch:fX}
theorem nc{H H':aa}{a:co}{c:ao}(h:fh H a c)(hl:H.le H'):fh H' a c:=h.elim (λh=>.inl (hl _ _ h)) λz=>bR z λo h=>.inr ⟨o,hl _ _ h⟩
theorem i9.sn{a:co}{s:List Nat}{c:Nat}{Q:BQ}(h:fh H a (.dI (FL s)))(u:c∈s->Q false H)(z:c∉s->Q true H):i9 (.int (c:Nat)) (.ref a) H Q:=by
 refine .dI a _ _ rfl rfl h ?_;by_cases e:c∈s
 ·rw[SI.mpr e];exact u e
 ·rw[Sc.mpr λq=>e (SI.mp q)];exact z e
theorem xm.AJ{a:co}{c:Nat}{Q:BQ}(h:fh H a (.dI (jG ch)))(u:∀x,ae ch c=some x->Q true H)(z:ae ch c=none->Q false H):xm (.int (c:Nat)) (.ref a) H Q:=by
 refine .dI a _ _ rfl rfl h ?_;refine FK▸?_;cases e:ae ch c with
 |some x=>exact u x e
 |none=>exact z e
theorem cy.AJ{a:co}{c:Nat}{x:Nd}{Q:DQ}(h:fh H a (.dI (jG ch)))(e:ae ch c=some x)(q:Q (d8 x) H):cy a (.int (c:Nat)) H Q:=.dI _ _ _ rfl h (by rw[FK,e];rfl) q
structure Sk(ch:fX)(E:Eg)(ks:List Nat)(g:Nat)(s w:List Nat):Prop where
 mI:∀c,c∈s∨c∈w->c∈E.cls/\∃k∈ks,gp ch k c
 nd:s.Nodup
 no:g∉s
 cl:∀a∈s,∀x,ae ch a=some x->∀k∈x.2,k∈s∨k∈w
 st:∀k∈ks,k∈s∨k∈w
 wl:w.length≤100
 ul:w.length+3*bK E s≤100
theorem Sk.more{ks s w:List Nat}{g n:Nat}{ys:List Nat}(S:Sk ch E ks g s (w++[n]))(hs:n∉s)(N:n≠g)(O:ys.length≤2)(hy:∀x,ae ch n=some x->ys=x.2)(j:∀k∈ys,k∈E.cls/\gp ch n k):Sk ch E ks g (s++[n]) (w++ys)/\(w++ys).length+3*bK E (s++[n])<(w++[n]).length+3*bK E s:=by
 have hn:=S.mI n (.inr (by simp));have q:=tS hn.1 hs;have hl:(w++ys).length+3*bK E (s++[n])<(w++[n]).length+3*bK E s:=by rw[ci,ci,pp];exact Yw q O
 have z:=S.ul;have u:∀k,k∈s∨k∈w++[n]->k∈s++[n]∨k∈w++ys:=λk h=>h.elim (λh=>.inl (ca.mpr (.inl h))) λh=>(ca.mp h).elim (λh=>.inr (ca.mpr (.inl h))) λh=>.inl (ca.mpr (.inr h));refine⟨⟨λc hc=>?_,Fk.mpr ⟨S.nd,by simp,λa ha b Z e=>hs (by rw[←bn.mp Z,←e];exact ha)⟩,λh=>?_,λa ha x hx k hk=>?_,λk hk=>u k (S.st k hk),Yx hl z,Yy hl z⟩,hl⟩
 ·refine j4 hc (λhc=>?_) λhc=>?_
  ·rcases ca.mp hc with hc|hc
   ·exact S.mI c (.inl hc)
   ·rw[bn.mp hc];exact hn
  ·rcases ca.mp hc with hc|hc
   ·exact S.mI c (.inr (ca.mpr (.inl hc)))
   ·refine ah hn.2 λk hk Y=>?_;exact⟨(j c hc).1,k,hk,Y.trans (j c hc).2⟩
 ·rcases ca.mp h with h|h
  ·exact S.no h
  ·exact N (bn.mp h).symm
 ·rcases ca.mp ha with ha|ha
  ·exact u k (S.cl a ha x hx k hk)
  ·rw[bn.mp ha]at hx;rw[←hy x hx]at hk;exact .inr (ca.mpr (.inr hk))
noncomputable def irV(d:co)(ks:List Nat)(g:Nat)(a b:co):ag:=[("chosen",.ref d),("begin",.tup (nats ks)),("goal",.int g),("seen",.ref a),("waiting",.ref b)]
noncomputable def JB(ch:fX)(E:Eg)(ks:List Nat)(g:Nat)(H:aa)(a b:co)(n:Nat)(s:List Nat×List Nat×aa):Prop:=H.le s.2.2/\s.2.2 a=some (.dI (FL s.1))/\s.2.2 b=some (.list (nats s.2.1))/\Sk ch E ks g s.1 s.2.1/\s.2.1.length+3*bK E s.1=n
section
variable {H1:aa}{a b:co}{ks s w ys:List Nat}{g n k:Nat}
theorem JB.pop(h:JB ch E ks g H a b k (s,w,H1))(hw:0<w.length){P:Prop}(q:∀w' n,w=w'++[n]->H1 b=some (.list (nats w'++[.int n]))->(nats w').length≤1000000->n∈E.cls/\(∃k∈ks,gp ch k n)->P):P:=by
 obtain⟨w',n,e⟩:=AB (l:=w) (GH hw);subst e;have hl:=h.2.2.2.1.wl;rw[ci]at hl;exact q w' n rfl (h.2.2.1.trans (by rw[←fH];rfl)) (by rw[ax];exact cr (TE hl) (by decide)) (h.2.2.2.1.mI n (.inr (by simp)))
theorem JB.skip{c:ao}(h:JB ch E ks g H a b k (s,w++[n],H1))(hs:n∈s)(q:H b=none)(u:a≠b)(hc:c=.list (nats w)):JB ch E ks g H a b (w.length+3*bK E s) (s,w,upd H1 b c)/\w.length+3*bK E s<k:=by
 obtain⟨hl,h1,Y,S,j⟩:=h;have z:w.length+3*bK E s<(w++[n]).length+3*bK E s:=by rw[ci,pp];exact Yz
 refine⟨⟨bU hl q,(aj u).trans h1,hc▸af _ _ _,⟨λc hc=>S.mI c (hc.imp_right λh=>ca.mpr (.inl h)),S.nd,S.no,λx hx y hy k hk=>(S.cl x hx y hy k hk).elim .inl λh=>(ca.mp h).elim .inr λh=>.inl (bn.mp h▸hs),λk hk=>(S.st k hk).elim .inl λh=>(ca.mp h).elim .inr λh=>.inl (bn.mp h▸hs),?_,Os (xL z S.ul)⟩,rfl⟩,KE z j⟩;have:=S.wl;rw[ci]at this;exact TE this
theorem JB.more{c1 c2 c3:ao}(h:JB ch E ks g H a b k (s,w++[n],H1))(hs:n∉s)(u:n≠g)(N:H a=none)(q:H b=none)(Y:a≠b)(z:ys.length≤2)(hy:∀x,ae ch n=some x->ys=x.2)(j:∀k∈ys,k∈E.cls/\gp ch n k)(e2:c2=.dI (FL (s++[n])))(O:c3=.list (nats (w++ys))):
  JB ch E ks g H a b ((w++ys).length+3*bK E (s++[n])) (s++[n],w++ys,upd (upd (upd H1 b c1) a c2) b c3)/\(w++ys).length+3*bK E (s++[n])<k:=by
 obtain⟨hl,h1,h3,S,Z⟩:=h;exact⟨⟨bU (bU (bU hl q) N) q,(aj Y).trans (e2▸af _ _ _),O▸af _ _ _,(S.more hs u z hy j).1,rfl⟩,KE (S.more hs u z hy j).2 Z⟩
end
theorem SJ{w ys:List Nat}(h:(nats w).length≤1000000)(z:ys.length≤2)(hw:w.length≤100):(nats w).length+(nats ys).length≤1000000:=by rw[ax,ax];exact YA hw z
theorem sW{d:co}{ks:List Nat}{g:Nat}{Q:DQ}(hd:fh H d (.dI (jG ch)))(I:UK E ch)(K:dy E)(hk:∀k∈ks,k∈E.cls)(Y:ks.length≤2)(q1:(∃k∈ks,gp ch k g)->Q (.bool true) H)(q2:(¬∃k∈ks,gp ch k g)->Q (.bool false) H):aY X (m0+1) 256 [.ref d,.tup (nats ks),.int g] H Q:=by
 have hu:∀s,bK E s≤7:=λs=>cr (Uf _ _) (rW K);have z1:(nats ks).length≤sizeLine:=sz (by rw[ax];exact t8 Y);refine aY.fn rfl rfl (Exists.intro (.dI []) (And.intro .dI λa ha=>And.intro z1 λb hb=>?_));have u:a≠b:=ne_sn (af _ _ _) hb;have Z:H b=none:=(aj u.symm).symm.trans hb;refine gM.sr (λ_=>irV d ks g a b) (λs=>s.2.2) (JB ch E ks g H a b) (ks.length+3*bK E []) ([],ks,upd (upd H a (.dI [])) b (.list (nats ks))) ⟨(aa.le.upd ha).trans (.upd hb),(aj u).trans (af _ _ _),af _ _ _,⟨λc hc=>hc.elim (λh=>(nomatch h)) λh=>⟨hk c h,c,h,.refl c⟩,.nil,λh=>(nomatch h),λ_ h=>(nomatch h),λk h=>.inr h,cr Y (by decide),by have:=hu [];exact YB Y this⟩,rfl⟩ λj s P z go rt=>?_;obtain⟨s,w,H1⟩:=s;refine g7.ln z.2.2.1 ax (cr z.2.2.2.1.wl (by decide)) (sQ (λe=>z.pop (bW.mp (of_decide_eq_true e)) λw n ew hbw hz hn=>?_) λe=>?_)
 ·subst ew;have hw:w.length≤100:=cr (TE (by have:=z.2.2.2.1.wl;rw[ci]at this;exact this)) (ii _);have tc:upd H1 b (.list (nats w)) a=some (.dI (FL s)):=(aj u).trans z.2.1;refine EU.list _ _ hbw hz (sQ (λe=>rt _ (.less (bU z.1 Z) (.here (q1 (Go (of_decide_eq_true e)▸hn.2))))) λe=>?_);have OQ:n≠g:=λq=>of_decide_eq_false e (congrArg (λn:Nat=>(n:Int)) q);refine i9.sn (.inl tc) (λhs=>go _ (s,w,_) (z.skip hs Z u rfl).2 trivial (.nx 5 rfl) (.refl _) (z.skip hs Z u rfl).1) λhs=>?_;have N:s.length≤1000:=by have:=aq z.2.2.2.1.nd λc hc=>(z.2.2.2.1.mI c (.inl hc)).1;have:=rW K;exact P0 this (by assumption)
  have SE:upd (upd H1 b (.list (nats w))) a (.dI (dput (FL s) (n:Int) (.bool true))) b=some (.list (nats w)):=(aj u.symm).trans (af _ _ _);have SK:H.le (upd (upd H1 b (.list (nats w))) a (.dI (dput (FL s) (n:Int) (.bool true)))):=bU (bU z.1 Z) ha;have gg:∀{ys:List Nat}{ρ:ag},ys.length≤2->(∀x,ae ch n=some x->ys=x.2)->(∀k∈ys,k∈E.cls/\gp ch n k)->(irV d ks g a b).le ρ->P .next ρ (upd (upd (upd H1 b (.list (nats w))) a (.dI (dput (FL s) (n:Int) (.bool true)))) b (.list (nats w++nats ys))):=λy1 y2 y3 QB=>
   let h:=z.more hs OQ ha Z u y1 y2 y3 (congrArg ao.dI (ab7 hs)) (congrArg ao.list fH)
   go _ (s++[n],_,_) h.2 trivial QB (.refl _) h.1
  refine pX.mk _ rfl (eV.dI _ _ rfl tc (sz (by rw[be];exact N)) (Ext.tup ⟨_,SE⟩ (xm.AJ (nc hd SK) (λx e=>cy.AJ (nc hd SK) e ?_) λe=>?_)))
  ·have hx:=I n x e;have O:=K.kid n hx.1 x hx.2;exact And.intro (FS 1 _) (And.intro (sz (by rw[io,ax];have:=O.1.2;exact pO this)) (Exists.intro (nats w) (Exists.intro (nats x.2) (And.intro rfl (And.intro SE (And.intro (SJ hz O.1.2 hw) (gg O.1.2 (λy hy=>db (e.symm.trans hy)▸rfl) (λk hk=>⟨O.2 k hk,.step e hk (.refl k)⟩) (.nx 5 rfl))))))))
  ·exact And.intro (np _) (Exists.intro (nats w) (Exists.intro (nats []) (And.intro rfl (And.intro SE (And.intro (SJ hz (np _) hw) (gg (np _) (λy hy=>fg (hy.symm.trans e)) (λk hk=>(nomatch hk)) (.nx 5 rfl)))))))
 ·have hw:w=[]:=cg.mp (k7 λh=>of_decide_eq_false e (bW.mpr h));subst hw;exact .less z.1 (.here (q2 λ⟨k,jf,hr⟩=>z.2.2.2.1.no (hr.closed (S:=λc=>c∈s) (λa x h1 Y k hk=>(z.2.2.2.1.cl a h1 x Y k hk).elim id λh=>(nomatch h)) ((z.2.2.2.1.st k jf).elim id λh=>(nomatch h)))))
end
end
section
noncomputable abbrev yR(a:co)(h:D)(c:co)(z:Int)(l:co):D:=.obj a 302 [("heap",h),("costs",.ref c),("most",.int z),("least",.ref l)]
noncomputable abbrev mJ(lp:List (Nat×Int)):List (Int×D):=lp.map λp=>((p.1:Int),.int p.2)
theorem FO{lp:List (Nat×Int)}{c:Nat}:eS (mJ lp) (c:Int)=(ae lp c).map λv=>.int v:=lA (f:=λi:Nat=>(i:Int)) (g:=λv:Int=>D.int v) (λa b e=>Go e) lp c
theorem Nz{lp:List (Nat×Int)}{c:Nat}{v:Int}:dput (mJ lp) (c:Int) (.int v)=mJ (aK lp c v):=oc (f:=λi:Nat=>(i:Int)) (g:=λv:Int=>D.int v) (λa b e=>Go e) lp c v
structure qu(pr:lm->Int)(E:Eg)(lp:List (Nat×Int)):Prop where
 key:∀c v,ae lp c=some v->c∈E.cls/\0≤v/\v≤4/\∀x∈E.fW c,v≤pr x.1
 nd:(lp.map (·.1)).Nodup
section
variable {X:Cx U}{m0:Nat}{H B:aa}{E:Eg}{cs:List (lm×Int)}{lp:List (Nat×Int)}
theorem NA{c:co}{h:D}{z:Int}{Q:DQ}(q:∀a l,H l=none->Q (yR a h c z l) (upd H l (.dI []))):aY X (m0+2) 302 [h,.ref c,.int z] H Q:=by
 refine aY.cls rfl rfl rfl λx Y j=>?_;refine Exists.intro _ (And.intro (af _ _ _) (And.intro rfl (And.intro (ce rfl) ?_)));refine Exists.intro _ (And.intro (af _ _ _) (And.intro rfl (And.intro (ce rfl) ?_)));refine Exists.intro _ (And.intro (af _ _ _) (And.intro rfl (And.intro (ce rfl) ?_)));rw[d0,d0,d0];refine Exists.intro (.dI []) (And.intro .dI λl hl=>Exists.intro _ (And.intro ((aj λe=>by subst e;rw[af]at hl;cases hl).trans (af _ _ _)) (And.intro rfl (And.intro (ce rfl) ?_))));have u:l≠Y:=λe=>by subst e;rw[af]at hl;cases hl
 have Z:H l=none:=by rw[aj u]at hl;exact hl
 exact And.intro rfl (Oo ⟨_,af _ _ _,.here (by rw[AI j u];exact q x l Z)⟩)
theorem wY{a c l:co}{h:D}{z:Int}{x:Nd}{Q:DQ}(hc:fh H c (AH cs))(q:Q (.int (aC cs x.1)) H):aY X (m0+1) 277 [yR a h c z l,d8 x] H Q:=
 aY.fn rfl rfl (And.intro ⟨_,hc⟩ (Exists.intro _ (Exists.intro _ (Exists.intro _ (And.intro rfl (And.intro hc (And.intro FI (.here q))))))))
end
end
section
theorem foldl_min(l:List Int):∀m:Int,l.foldl min m≤m/\(∀n∈l,l.foldl min m≤n)/\(l.foldl min m=m∨l.foldl min m∈l):=by
 induction l with
 |nil=>intro m;exact⟨bq _,λ_ h=>(nomatch h),.inl rfl⟩
 |cons a l ih=>
  intro m;refine ml (ih (min m a)) λh1 u z=>?_;rw[kZ];refine⟨YC h1,λn hn=>?_,?_⟩
  ·rcases em.mp hn with rfl|hn
   ·exact YD h1
   ·exact u n hn
  ·refine j4 z (λz=>?_) λz=>?_
   ·refine j4 (Int.le_total m a) (λq=>?_) λq=>?_
    ·left;rw[z];exact Kf q
    ·right;rw[z,show min m a=a by exact YE q];exact .head _
   ·exact .inr (.tail _ z)
theorem Ce{l:List Int}(h:l≠[]):(∀n∈l,pT l≤n)/\pT l∈l:=by
 cases l with
 |nil=>exact absurd rfl h
 |cons a l=>
  refine ml (foldl_min l a) λh1 u z=>?_;refine⟨λn hn=>(em.mp hn).elim (λe=>e▸h1) (u n),?_⟩;exact z.elim (λe=>by show l.foldl min a∈_;rw[e];exact .head _) (.tail _)
section
variable {X:Cx U}{m0:Nat}{H B:aa}{E:Eg}{cs:List (lm×Int)}{lp:List (Nat×Int)}
theorem qu.nil{pr:lm->Int}:qu pr E []:=⟨λ_ _ h=>(by cases h),.nil⟩
theorem qu.len{pr:lm->Int}(K:dy E)(I:qu pr E lp):lp.length≤7:=by
 have:=aq I.nd (r:=E.cls) λc hc=>by
  obtain⟨t,ht⟩:=pt.mp (aN.mpr hc);exact(I.key c t ht).1
 have:=rW K;rw[be]at*;exact LL this (by assumption)
set_option tactic.hygienic true in
theorem qu.put{pr:lm->Int}(I:qu pr E lp){c:Nat}{v:Int}(hn:ae lp c=none)(h:c∈E.cls/\0≤v/\v≤4/\∀x∈E.fW c,v≤pr x.1):qu pr E (aK lp c v):=by
 refine⟨λd w e=>?_,?_⟩
 ·rw[av]at e;split at e
  ·rename_i q;subst q;cases e;exact h
  ·exact I.key d w e
 ·rw[fG hn,lf];refine Fk.mpr ⟨I.nd,by simp,λa ha b z e'=>?_⟩;obtain rfl:=bn.mp z;subst e';have:=aN.mpr ha;rw[hn]at this;cases this
theorem i9.Ex{l:co}{c:Nat}{Q:BQ}(h:fh H l (.dI (mJ lp)))(u:∀v,ae lp c=some v->Q false H)(z:ae lp c=none->Q true H):i9 (.int (c:Nat)) (.ref l) H Q:=by
 refine .dI l _ _ rfl rfl h ?_;refine FO▸?_;cases e:ae lp c with
 |some t=>exact u t e
 |none=>exact z e
end
section
variable {X:Cx U}{m0:Nat}{H B:aa}{E:Eg}{cs:List (lm×Int)}{lp:List (Nat×Int)}
theorem tT{f:Nat->Nat}{k:Nat}:∀{l:List Nat},k∈l->f k≤(l.map f).sum
 |b::l,h=>by
  exact(em.mp h).elim (λe=>e▸br _ _) λh=>cr (tT h) (FS _ _)
theorem NB(K:dy E){k:Nat}(hk:k∈E.cls):(E.fW k).length≤7:=cr (tT (f:=λc=>(E.fW c).length) hk) K.jF
theorem FP{a c l:co}{h:D}{z:Int}{k:Nat}{Q:DQ}(hp:wQ (aC cs))(hc:H c=some (AH cs))(nq:c≠l)(hl:H l=some (.dI (mJ lp)))(K:dy E)(G:Fy X h B E)(hB:B.le H)(yS:B l=none)(I:qu (aC cs) E lp)(hk:k∈E.cls)
  (q:∀v Y,qu (aC cs) E Y->ae Y k=some v->Q (.int v) (upd H l (.dI (mJ Y)))):aY X (m0+5) 282 [yR a h c z l,.int k] H Q:=by
 refine bR G.obj λA gc=>?_;subst gc;have hz:(mJ lp).length≤sizeLine:=sz (by rw[be];have:=I.len K;exact qH this);refine aY.fn rfl rfl (i9.Ex (.inl hl) (λv e=>?_) λe=>?_)
 ·exact cy.dI _ _ _ rfl (.inl hl) (by rw[FO,e];rfl) (.here (by have:=q v lp I e;rwa [uS hl]at this))
 ·refine G.fW _ _ _ k hB hk λns Jr hm=>?_;have j:ns.length≤sizeLine:=by
   have h1:=aq Jr λx hx=>(hm x).mp hx;have:=NB K hk;exact sz (P0 this h1)
  refine cut λPP kk=>?_;have cj:ns≠[]:=λe=>by
   refine ah (K.base k hk) λx hx _=>?_;have:=(hm x).mpr hx;rw[e]at this;cases this
  have e1:D.fl (ns.map λx=>.int (aC cs x.1))=.fl ((ns.map λx=>aC cs x.1).map D.int):=by rw[li];rfl
  have u:(ns.map λx=>aC cs x.1)≠[]:=λe=>cj (cv.mp e);have⟨s1,N⟩:=Ce u;refine ah (lc.mp N) λZ hx0 O=>?_;have hv:k∈E.cls/\0≤pT (ns.map λx=>aC cs x.1)/\pT (ns.map λx=>aC cs x.1)≤4/\∀x∈E.fW k,pT (ns.map λx=>aC cs x.1)≤aC cs x.1:=⟨hk,by rw[←O];have:=(hp Z.1).1;exact kU this,by rw[←O];exact(hp Z.1).2,λx hx=>s1 _ (wS ((hm x).mpr hx))⟩;refine kk ?_;refine aG.seq _ (.inl rfl) (aI.map (λ_ _ _ h=>h) (λ_=>aH rfl) (λx=>.int (aC cs x.1)) j trivial (λx hx Qy hy=>wY (.inl hc) (hy _ (.refl _))) ?_);refine Exists.intro _ (And.intro e1 (And.intro u (pX.mk _ rfl (eV.dI _ _ rfl hl hz ?_))));refine cy.dI (mJ (aK lp k (pT (ns.map λx=>aC cs x.1)))) _ _ rfl (.inl ((af _ _ _).trans (by rw[Nz]))) (by rw[FO,av,if_pos rfl];rfl) (.here ?_);rw[Nz];exact q _ _ (I.put e hv) (by rw[av,if_pos rfl])
end
end
section
section
variable {X:Cx U}{m0:Nat}{H B:aa}{E:Eg}{cs:List (lm×Int)}{lp:List (Nat×Int)}
structure Bd(pr:lm->Int)(E:Eg)(dn:List Nat)(vs:List Int):Prop where
 len:vs.length=dn.length
 bd:∀v∈vs,0≤v/\v≤4
 le:∀γ:Nat->Nd,(∀c∈dn,γ c∈E.fW c)->vs.sum≤(dn.map λc=>pr (γ c).1).sum
theorem Bd.snoc{pr:lm->Int}{u:List Nat}{vs:List Int}(h:Bd pr E u vs){k:Nat}{v:Int}(hv:0≤v/\v≤4/\∀x∈E.fW k,v≤pr x.1):Bd pr E (u++[k]) (vs++[v]):=by
 refine⟨by rw[ci,ci,h.len];rfl,λw hw=>?_,λγ z=>?_⟩
 ·rcases ca.mp hw with hw|hw
  ·exact h.bd w hw
  ·rw[bn.mp hw];exact⟨hv.1,hv.2.1⟩
 ·have h1:=h.le γ λc hc=>z c (ca.mpr (.inl hc));have j:=hv.2.2 _ (z k (by simp));rw[lf,XV,XV];simp only[jp,pj,sK,Oq];exact YF h1 j
noncomputable def GS(pr:lm->Int)(E:Eg)(ws rs:List Nat)(s:List Int×List (Nat×Int)):Prop:=∃z,ws=z++rs/\qu pr E s.2/\Bd pr E z s.1
section
variable {pr:lm->Int}{ws rs:List Nat}{s:List Int×List (Nat×Int)}{k:Nat}
theorem GS.len(h:GS pr E ws rs s):s.1.length≤ws.length:=bt h λz e _ b=>by rw[e,b.len,ci];exact br _ _
theorem GS.mem(h:GS pr E ws (k::rs) s):k∈ws/\qu pr E s.2:=bt h λz e I _=>⟨e▸on z (.head _),I⟩
theorem GS.next(h:GS pr E ws (k::rs) s){v:Int}{lp2:List (Nat×Int)}(u:qu pr E lp2)(e:ae lp2 k=some v):GS pr E ws rs (s.1++[v],lp2):=bt h λz ed _ b=>⟨z++[k],ed.trans (bO z k rs),u,b.snoc (u.key k v e).2⟩
theorem GS.fin(h:GS pr E ws [] s)(z:ws.length≤100):(∀n∈s.1,0≤n)/\s.1.sum<2^62/\qu pr E s.2/\∀γ:Nat->Nd,(∀c∈ws,γ c∈E.fW c)->s.1.sum≤(ws.map λc=>pr (γ c).1).sum:=by
 have hl:=h.len;obtain⟨u,e,I,b⟩:=h;rw[t3]at e;have hs:=oZ (f:=id) (b:=4) (l:=s.1) b.bd;rw[iq]at hs;exact⟨λn hn=>(b.bd n hn).1,by lia,I,e▸b.le⟩
end
theorem FQ{a c l:co}{h:D}{z cost:Int}{ws:List Nat}{Q:DQ}(hp:wQ (aC cs))(hc:H c=some (AH cs))(Z:c≠l)(hl:H l=some (.dI (mJ lp)))(K:dy E)(G:Fy X h B E)(O:B.le H)(j:B l=none)(I:qu (aC cs) E lp)(hw:∀k∈ws,k∈E.cls)(u:ws.length≤100)
  (q:∀s Y,qu (aC cs) E Y->(∀γ:Nat->Nd,(∀c∈ws,γ c∈E.fW c)->s≤(ws.map λc=>aC cs (γ c).1).sum)->Q (.int (cost+s)) (upd H l (.dI (mJ Y)))):aY X (m0+6) 287 [yR a h c z l,.int cost,.tup (nats ws)] H Q:=
 aY.fn rfl rfl (aG.seq _ (.inr rfl) ((uS hl)▸aI.st (λn:Nat=>D.int n) (λs:List Int×List (Nat×Int)=>s.1.map D.int) (λs=>upd H l (.dI (mJ s.2))) (GS (aC cs) E ws) ws ([],lp) rfl (λ_ _ h=>⟨trivial,sz (cr (IR (be _)) (cr h.len (cr u (by decide))))⟩) ⟨[],rfl,I,rfl,λ_ h=>(nomatch h),λ_ _=>bq _⟩
  (λk rs s P h N=>And.intro (aH rfl) (FP hp ((aj Z).trans hc) Z (af _ _ _) K G (bU O j) j h.mem.2 (hw k h.mem.1) λv lp2 I2 e=>N (s.1++[v],lp2) lf (d0.symm▸.refl _) (h.next I2 e)))
  λs h=>Exists.intro s.1 (And.intro rfl (And.intro (h.fin u).1 (And.intro (h.fin u).2.1 (.here (q _ s.2 (h.fin u).2.2.1 (h.fin u).2.2.2)))))))
end
end
section
set_option genInjectivity false in
set_option genCtorIdx false in
structure Ent where
 d:co
 ch:fX
 ws:List Nat
 cost:Int
noncomputable abbrev gP(e:Ent):D:=.tup [.ref e.d,.tup (nats e.ws),.int e.cost]
structure FR(pr:lm->Int)(ch:fX)(w:Nat)(ws:List Nat)(cost:Int)(x:Nd)(e:Ent):Prop where
 no:¬∃k∈x.2,gp ch k w
 ch:e.ch=aK ch w x
 nd:e.ws.Nodup
 mem:∀y,y∈e.ws↔(y∈ws∨y∈x.2)/\ae e.ch y=none
 cost:e.cost=cost+pr x.1
structure pZ(pr:lm->Int)(ch:fX)(w:Nat)(ws:List Nat)(cost:Int)(P:Nd->Prop)(H H':aa)(es:List Ent):Prop where
 at_:∀e∈es,H' e.d=some (.dI (jG e.ch))/\H e.d=none/\∃x,P x/\FR pr ch w ws cost x e
 all:∀x,P x->(¬∃k∈x.2,gp ch k w)->∃e∈es,e.ch=aK ch w x
theorem ab8{ch:fX}{w:Nat}{x:Nd}:dput (jG ch) (w:Int) (d8 x)=jG (aK ch w x):=oc (f:=λi:Nat=>(i:Int)) (g:=d8) (λa b e=>Go e) ch w x
section
variable {X:Cx U}{m0:Nat}{H B:aa}{E:Eg}{cs:List (lm×Int)}{ch:fX}
theorem i9.AJ{a:co}{c:Nat}{Q:BQ}(h:fh H a (.dI (jG ch)))(u:∀x,ae ch c=some x->Q false H)(z:ae ch c=none->Q true H):i9 (.int (c:Nat)) (.ref a) H Q:=by
 refine .dI a _ _ rfl rfl h ?_;rw[FK];cases e:ae ch c with
 |some x=>exact u x e
 |none=>exact z e
theorem pZ.skip{pr:lm->Int}{w:Nat}{ws:List Nat}{cost:Int}{z:List Nd}{x:Nd}{H H':aa}{es:List Ent}(h:pZ pr ch w ws cost (·∈z) H H' es)(hx:∃k∈x.2,gp ch k w):pZ pr ch w ws cost (·∈z++[x]) H H' es:=
 ⟨λe u=>let⟨h1,j,y,hy,k⟩:=h.at_ e u;⟨h1,j,y,ca.mpr (.inl hy),k⟩,λy hy hn=>(ca.mp hy).elim (λhy=>h.all y hy hn) λhy=>absurd (bn.mp hy▸hx) hn⟩
theorem pZ.snoc{pr:lm->Int}{w:Nat}{ws:List Nat}{cost:Int}{z:List Nd}{x:Nd}{H H' H2:aa}{es:List Ent}{e:Ent}(h:pZ pr ch w ws cost (·∈z) H H' es)(hl:∀e∈es,H2 e.d=H' e.d)(h1:H2 e.d=some (.dI (jG e.ch)))(u:H e.d=none)(k:FR pr ch w ws cost x e):pZ pr ch w ws cost (·∈z++[x]) H H2 (es++[e]):=by
 refine⟨λf hf=>?_,λy hy hn=>?_⟩
 ·rcases ca.mp hf with hf|hf
  ·obtain⟨a,b,y,hy,k⟩:=h.at_ f hf;exact⟨(hl f hf).trans a,b,y,ca.mpr (.inl hy),k⟩
  ·rw[bn.mp hf];exact⟨h1,u,x,by simp,k⟩
 ·rcases ca.mp hy with hy|hy
  ·obtain⟨f,hf,q⟩:=h.all y hy hn;exact⟨f,ca.mpr (.inl hf),q⟩
  ·rw[bn.mp hy];exact⟨e,by simp,k.ch⟩
section
variable {pr:lm->Int}{w:Nat}{ws:List Nat}{cost:Int}{ns rs:List Nd}{f b:co}{x:Nd}{es:List Ent}{H1 H2:aa}
noncomputable def sX(pr:lm->Int)(ch:fX)(w:Nat)(ws:List Nat)(cost:Int)(H:aa)(f:co)(ns rs:List Nd)(es:List Ent)(H1:aa):Prop:=∃z,ns=z++rs/\H.le H1/\H1 f=some (.list (es.map gP))/\es.length≤z.length/\pZ pr ch w ws cost (·∈z) H H1 es
theorem sX.len(h:sX pr ch w ws cost H f ns rs es H1):es.length≤ns.length:=by
 obtain⟨z,rfl,_,_,h,_⟩:=h;rw[ci];exact cE h
theorem sX.mem(h:sX pr ch w ws cost H f ns (x::rs) es H1):x∈ns:=by
 obtain⟨z,rfl,_⟩:=h;simp
theorem sX.le(h:sX pr ch w ws cost H f ns rs es H1):H.le H1/\H1 f=some (.list (es.map gP)):=vA h λ_ _ h1 z _ _=>⟨h1,z⟩
theorem sX.skip(h:sX pr ch w ws cost H f ns (x::rs) es H1)(u:∃k∈x.2,gp ch k w):sX pr ch w ws cost H f ns rs es H1:=
 vA h λz e h1 q j k=>⟨z++[x],e.trans (bO z x rs),h1,q,by rw[ci];exact cE j,k.skip u⟩
theorem sX.new{c1 c2:ao}(h:sX pr ch w ws cost H f ns rs es H1)(z:H1 b=none)(e:c2=.dI (jG (aK ch w x))):(sX pr ch w ws cost H f ns rs es (upd (upd H1 b c1) b c2)/\H b=none)/\upd (upd H1 b c1) b c2 b=some (.dI (jG (aK ch w x))):=by
 refine vA h λZ Y h1 j q k=>⟨⟨⟨Z,Y,?_,?_,q,λe u=>⟨?_,(k.at_ e u).2⟩,k.all⟩,le_none h1 z⟩,e▸af _ _ _⟩
 ·rw[d0];exact h1.trans (.upd z)
 ·rw[d0,aj (ne_sn j z)];exact j
 ·rw[d0,aj (ne_sn (k.at_ e u).1 z)];exact(k.at_ e u).1
theorem sX.stop{c0 c1:ao}{s:co}{l:List Nat}(h:sX pr ch w ws cost H f ns (x::rs) es H2)(C0:H b=none)(hf:H f=none)(u:H2 b=some (.dI (jG (aK ch w x))))(hs:H2 s=none)(k:FR pr ch w ws cost x ⟨b,aK ch w x,l,cost+pr x.1⟩)(hc:c1=.list ((es++[(⟨b,aK ch w x,l,cost+pr x.1⟩:Ent)]).map gP)):
  sX pr ch w ws cost H f ns rs (es++[(⟨b,aK ch w x,l,cost+pr x.1⟩:Ent)]) (upd (upd H2 s c0) f c1):=by
 obtain⟨N,e1,h1,O,h3,j⟩:=h;have Z:b≠f:=λe=>by rw[e,O]at u;cases u
 have Y:∀e∈es,e.d≠f:=λe z q=>by
  have:=(j.at_ e z).1;rw[q,O]at this;cases this
 refine⟨N++[x],e1.trans (bO N x rs),bU (h1.trans (.upd hs)) hf,hc▸af _ _ _,?_,j.snoc (λe z=>?_) ?_ C0 k⟩
 ·rw[ci,ci];exact dP h3
 ·rw[aj (Y e z),aj (ne_sn (j.at_ e z).1 hs)]
 ·rw[aj Z,aj (ne_sn u hs)];exact u
theorem sX.fin(h:sX pr ch w ws cost H f ns [] es H1)(hf:H f=none)(hm:∀y,y∈ns↔y∈E.fW w):H.le (rem H1 f)/\pZ pr ch w ws cost (·∈E.fW w) H (rem H1 f) es:=by
 obtain⟨Z,e,h1,j,Y,z⟩:=h;rw[t3]at e;subst e;refine⟨λb e q=>(uf (ne_sn q hf)).trans (h1 _ _ q),λe u=>?_,λy hy=>z.all y ((hm y).mpr hy)⟩;obtain⟨a,b,y,hy,k⟩:=z.at_ e u;exact⟨(uf λq=>by rw[q,j]at a;cases a).trans a,b,y,(hm y).mp hy,k⟩
theorem sX.start(h:H.le H1)(z:H1 f=some (.list [])):sX pr ch w ws cost H f ns ns [] H1:=⟨[],rfl,h,z,ii _,λe h=>(nomatch h),λ_ h=>(nomatch h)⟩
end
noncomputable def chV(self:D)(d:co)(z:List Nat)(cost:Int)(w:Nat)(f:co):ag:=[("self",self),("chosen",.ref d),("wanted",.tup (nats z)),("cost",.int cost),("c",.int w),("found",.ref f)]
theorem Cf(es:List Ent)(e:Ent):(es++[e]).map gP=es.map gP++[gP e]:=lf
theorem SM{ws ks:List Nat}(h:ws.length≤7)(z:ks.length≤2):(nats ws).length+(nats ks).length≤sizeLine:=sz (by rw[ax,ax];exact P7 z h)
theorem SN{ws ks:List Nat}(h:ws.length≤7)(z:ks.length≤2):(ws++ks).length≤sizeLine:=sz (by rw[ci];exact P7 z h)
theorem Lc{ws ks:List Nat}{p:Nat->Bool}(h:ws.length≤7)(z:ks.length≤2):((ws++ks).filter p).length≤18:=cr (Uf _ _) (by rw[ci];exact YG z h)
theorem SO{l z:List Nat}(h:z.length≤18)(nd:l.Nodup)(hm:∀x,x∈l↔x∈z):(nats l).length≤sizeLine:=sz (by rw[ax];exact cr (aq nd λx hx=>(hm x).mp hx) (cr h (by decide)))
theorem yT{a c l d:co}{h:D}{Y cost:Int}{w:Nat}{ws UL:List Nat}{Q:DQ}(JC:UL=w::ws)(hc:H c=some (AH cs))(hd:fh H d (.dI (jG ch)))(K:dy E)(G:Fy X h B E)(hB:B.le H)(I:UK E ch)(hw:w∈E.cls)(N:ws.length≤7)(nq:ch.length≤7)
  (q:∀es H',H.le H'->pZ (aC cs) ch w ws cost (·∈E.fW w) H H' es->es.length≤(E.fW w).length->Q (.fl (es.map gP)) H'):aY X (m0+6) 292 [yR a h c Y l,.ref d,.tup (nats UL),.int cost] H Q:=by
 subst JC;have z0:(nats (w::ws)).length≤sizeLine:=sz (by rw[ax,io];exact YH N);have z1:(jG ch).length≤sizeLine:=sz (by rw[be];exact qH nq);have z3:3≤sizeLine:=sz (ce rfl);refine bR G.obj λA hA=>?_;subst hA;refine aY.fn rfl rfl (And.intro (np _) λf hf=>?_);refine G.fW _ _ _ w (hB.trans (.upd hf)) hw λns Jr hm=>?_;have Z:ns.length≤(E.fW w).length:=aq Jr λx hx=>(hm x).mp hx;have h7:=cr Z (NB K hw);refine aG.seq _ (.inl rfl) (iD.st d8 (λ_=>chV (yR a (aA A) c Y l) d (w::ws) cost w f) (λs=>s.2) (λrs(s:List Ent×aa)=>sX (aC cs) ch w ws cost H f ns rs s.1 s.2) ns ([],upd H f (.list [])) (λ_ _ _=>trivial) (.start (.upd hf) (af _ _ _)) (λx rs s P j go=>?_) λs j=>.list j.le.2 (.here (q s.1 _ (j.fin hf hm).1 (j.fin hf hm).2 (cr j.len Z))));have O:=K.kid w hw x ((hm x).mp j.mem);have z2:(D.str x.1::nats x.2).length≤sizeLine:=sz (by rw[io,ax];have:=O.1.2;exact pO this);refine And.intro (FS 1 _) (And.intro z2 (sW (nc hd j.le.1) I K O.2 O.1.2 (λhr=>go _ trivial (.nx 6 rfl) (.refl _) (j.skip hr)) λhr=>rG.copy d _ rfl (nc hd j.le.1) z1 λb hb=>pX.mk _ rfl (eV.dI _ _ rfl (af _ _ _) z1 ?_)));have u:=sX.new (x:=x) (c1:=.dI (jG ch)) (c2:=.dI (dput (jG ch) (w:Int) (d8 x))) j hb (by rw[ab8]);generalize upd (upd s.2 b (.dI (jG ch))) b (.dI (dput (jG ch) (w:Int) (d8 x)))=H2 at u⊢;refine And.intro (FS 1 _) (And.intro z0 (And.intro (FS 1 _) (And.intro z2 (And.intro (SM N O.1.2) ?_))));refine aG.seq (nats (ws++x.2)) (.inr (by rw[←fH];rfl)) (aI.B1 (λ_ _ _ h=>h) (λ_=>aH rfl) (λk=>decide (ae (aK ch w x) k=none)) (λi:Nat=>.int (i:Int)) (SN N O.1.2) trivial (λk hk Qy Qn hy hn=>i9.AJ (.inl u.2) (λx e=>hn (by rw[e];rfl) _ (.refl _)) λe=>hy (decide_eq_true e) _ (.refl _)) (And.intro ⟨_,u.1.1.le.2⟩ (n6.AD (Lc N O.1.2) λl' z c0 hs zU jE=>?_)));have kk:FR (aC cs) ch w ws cost x ⟨b,aK ch w x,l',cost+aC cs x.1⟩:=⟨hr,rfl,zU,λy=>by
  rw[jE y,bH,ca,decide_eq_true_iff],rfl⟩
 have zl:(nats l').length≤sizeLine:=SO (Lc N O.1.2) zU jE;exact Exists.intro (nats l') (And.intro (.inr rfl) (And.intro zl (wY (.inl (u.1.1.le.1.trans (.upd hs) _ _ hc)) (And.intro z3 (Exists.intro _ (And.intro ((aj (ne_sn u.1.1.le.2 hs)).trans u.1.1.le.2) (And.intro (sz (by rw[be];exact cr u.1.1.len (cr h7 (by decide)))) (go (_,_) trivial (.nx 6 rfl) (.refl _) (u.1.1.stop u.1.2 hf u.2 hs kk (congrArg ao.list (Cf s.1 ⟨b,aK ch w x,l',cost+aC cs x.1⟩).symm))))))))))
end
end
section
section
variable {E:Eg}{pr:lm->Int}{r:Nat}{e e':Ent}{ch:fX}{γ:Nat->Nd}{ht:Nat->Nat}{S:List Nat}
theorem gp.more{z:fX}(h:∀a x,ae ch a=some x->ae z a=some x){a b:Nat}(r:gp ch a b):gp z a b:=by
 induction r with
 |refl=>exact .refl _
 |step e hk _ ih=>exact .step (h _ _ e) hk ih
theorem FT{w a:Nat}{x y:Nd}(hw:ae ch w=none)(h:ae ch a=some y):ae (aK ch w x) a=some y:=by
 rw[av,if_neg λe=>by rw[←e,hw]at h;cases h];exact h
theorem Cg{w:Nat}{x:Nd}:ae (aK ch w x) w=some x:=by rw[av,if_pos rfl]
set_option tactic.hygienic true in
theorem gp.first{w a b:Nat}{x:Nd}(h:gp (aK ch w x) a b):gp ch a b∨(gp ch a w/\∃j∈x.2,gp (aK ch w x) j b):=by
 induction h with
 |refl=>exact .inl (.refl _)
 |step e hk h ih=>
  rw[av]at e;split at e
  ·rename_i q;subst q;cases e;exact .inr ⟨.refl _,_,hk,h⟩
  ·exact ih.imp (.step e hk) (And.imp_left (.step e hk))
theorem gp.last{w a b:Nat}{x:Nd}(h:gp (aK ch w x) a b):gp ch a b∨∃j∈x.2,gp ch j b:=by
 induction h with
 |refl=>exact .inl (.refl _)
 |step e hk h ih=>
  refine ih.elim (λh=>?_) .inr;rw[av]at e;split at e
  ·cases e;exact .inr (ak _ hk h)
  ·exact .inl (.step e hk h)
structure Val(E:Eg)(r:Nat)(γ:Nat->Nd)(ht:Nat->Nat)(S:List Nat):Prop where
 root:r∈S
 nd:S.Nodup
 ok:∀a∈S,a∈E.cls/\γ a∈E.fW a/\∀k∈(γ a).2,k∈S/\ht k<ht a
structure jS(pr:lm->Int)(E:Eg)(r:Nat)(e:Ent):Prop where
 yU:UK E e.ch
 knd:(e.ch.map (·.1)).Nodup
 wnd:e.ws.Nodup
 OR:∀k∈e.ws,k∈E.cls/\ae e.ch k=none
 kid:∀a x,ae e.ch a=some x->∀k∈x.2,k∈e.ws∨∃y,ae e.ch k=some y
 root:r∈e.ws∨∃y,ae e.ch r=some y
 OS:∀a,(a∈e.ws∨∃y,ae e.ch a=some y)->gp e.ch r a
 OT:∀a x,ae e.ch a=some x->∀k∈x.2,¬gp e.ch k a
 cost:e.cost=(e.ch.map λp=>pr p.2.1).sum
theorem jS.start(z:r∈E.cls)(d:co):jS pr E r ⟨d,[],[r],0⟩:=
 ⟨λ_ _ h=>(nomatch h),.nil,Db.mpr ⟨λh=>(nomatch h),.nil⟩,λk h=>by rw[bn.mp h];exact⟨z,rfl⟩,λ_ _ h=>(nomatch h),.inl (.head _),λa h=>h.elim (λh=>by rw[bn.mp h];exact .refl _) λu=>bR u λ_ h=>(nomatch h),λ_ _ h=>(nomatch h),rfl⟩
set_option tactic.hygienic true in
theorem jS.step{w:Nat}{ws:List Nat}{x:Nd}(K:dy E)(h:jS pr E r e)(hw:e.ws=w::ws)(hx:x∈E.fW w)(k:FR pr e.ch w ws e.cost x e'):jS pr E r e':=by
 have⟨NC,N⟩:=h.OR w (by rw[hw];exact .head _);have z:∀a y,ae e.ch a=some y->ae e'.ch a=some y:=λa y h=>by rw[k.ch];exact FT N h
 have u:ae e'.ch w=some x:=by rw[k.ch];exact Cg
 have O:∀a y,ae e'.ch a=some y->(a=w/\y=x)∨ae e.ch a=some y:=λa y h=>by
  rw[k.ch,av]at h;split at h
  ·rename_i q;cases h;exact .inl ⟨q.symm,rfl⟩
  ·exact .inr h
 have Y:=K.kid w NC x hx;have kk:∀j,(j∈e.ws∨j∈x.2∨∃y,ae e.ch j=some y)->j∈e'.ws∨∃y,ae e'.ch j=some y:=λj hj=>by
  cases q:ae e'.ch j with
  |some y=>exact .inr ⟨y,rfl⟩
  |none=>
   refine .inl ((k.mem j).mpr ⟨?_,q⟩);rcases hj with hj|hj|⟨y,hj⟩
   ·rw[hw]at hj;rcases em.mp hj with rfl|hj
    ·rw[u]at q;cases q
    ·exact .inl hj
   ·exact .inr hj
   ·rw[z _ _ hj]at q;cases q
 have nw:∀j∈x.2,¬gp e'.ch j w:=λj hj q=>by
  rw[k.ch]at q;exact k.no (q.last.elim (λq=>(ak j hj q)) id)
 refine⟨λa y h'=>(O a y h').elim (λjq=>dv jq λh1 h2=>by subst h1;subst h2;exact⟨NC,hx⟩) (h.yU a y),?_,k.nd,λj hj=>⟨?_,((k.mem j).mp hj).2⟩,λa y h' j hj=>kk j ((O a y h').elim (λjs=>dv js λ_ h2=>.inr (.inl (h2▸hj))) λh'=>(h.kid a y h' j hj).elim .inl λq=>.inr (.inr q)),kk r (h.root.elim .inl λq=>.inr (.inr q)),λa ha=>?_,λa y h' j hj q=>?_,?_⟩
 ·rw[k.ch,fG N,lf];refine Fk.mpr ⟨h.knd,Db.mpr ⟨λh=>(nomatch h),.nil⟩,λa ha b hb q=>?_⟩;obtain rfl:=bn.mp hb;subst q;have:=aN.mpr ha;rw[N]at this;cases this
 ·exact((k.mem j).mp hj).1.elim (λq=>(h.OR j (by rw[hw];exact .tail _ q)).1) (Y.2 j)
 ·have Z:∀{a},(a∈e.ws∨∃y,ae e.ch a=some y)->gp e'.ch r a:=λq=>(h.OS _ q).more z;rcases ha with ha|⟨y,ha⟩
  ·rcases((k.mem a).mp ha).1 with q|q
   ·exact Z (.inl (by rw[hw];exact .tail _ q))
   ·exact(Z (.inl (by rw[hw];exact .head _))).trans (.step u q (.refl _))
  ·rcases O a y ha with⟨rfl,_⟩|ha
   ·exact Z (.inl (by rw[hw];exact .head _))
   ·exact Z (.inr ⟨y,ha⟩)
 ·rcases O a y h' with⟨rfl,rfl⟩|h0
  ·exact nw j hj q
  ·have q':=q;rw[k.ch]at q';rcases q'.first with q'|⟨q1,i,hi,q2⟩
   ·exact h.OT a y h0 j hj q'
   ·exact nw i hi ((k.ch▸q2:gp e'.ch i a).trans (.step h' hj (q1.more z)))
 ·rw[k.cost,h.cost,k.ch,fG N,lf,XV];simp only[jp,pj,sK,Oq,O7]
noncomputable abbrev OU(e:Ent)(γ:Nat->Nd):Prop:=∀a x,ae e.ch a=some x->γ a=x
theorem Val.reach(V:Val E r γ ht S)(x:∀a x,ae ch a=some x->γ a=x){k a:Nat}(h:gp ch k a):k∈S->a∈S/\ht a≤ht k:=by
 induction h with
 |refl=>exactλh=>⟨h,ii _⟩
 |step h hk _ ih=>
  intro hs;rw[←x _ _ h]at hk;have h1:=(V.ok _ hs).2.2 _ hk;have:=ih h1.1;exact⟨this.1,cr this.2 (Os h1.2)⟩
set_option tactic.hygienic true in
theorem Val.next{w:Nat}{ws:List Nat}(V:Val E r γ ht S)(h:jS pr E r e)(x:OU e γ)(hw:e.ws=w::ws):γ w∈E.fW w/\(¬∃k∈(γ w).2,gp e.ch k w)/\(e'.ch=aK e.ch w (γ w)->OU e' γ):=by
 have j:=(V.reach x (h.OS w (.inl (by rw[hw];exact .head _))) V.root).1;have z:=V.ok w j;refine⟨z.2.1,λu=>ah u λk hk q=>?_,λq a y h'=>?_⟩
 ·have h1:=z.2.2 k hk;exact absurd (V.reach x q h1.1).2 (Nat.not_le_of_lt h1.2)
 ·rw[q,av]at h';split at h'
  ·rename_i q;subst q;cases h';rfl
  ·exact x a y h'
theorem rX{l m:List Int}(h:l.Perm m):l.sum=m.sum:=by
 induction h with
 |nil=>rfl
 |cons x _ ih=>rw[sK,sK,ih]
 |swap x y l=>rw[sK,sK,sK,sK,←vy,←vy,Int.add_comm y x]
 |trans _ _ h1 z=>exact h1.trans z
theorem qv{α:Type}[DecidableEq α]{f:α->Int}(hf:∀a,0≤f a):∀{l S:List α},l.Nodup->(∀a∈l,a∈S)->(l.map f).sum≤(S.map f).sum
 |[],S,_,_=>by
  induction S with
  |nil=>exact bq _
  |cons a S ih=>rw[jp,sK];exact Lo (hf a) (ih λ_ h=>(nomatch h))
 |a::l,S,hn,hs=>by
  have⟨h1,u⟩:=Db.mp hn;have:=qv hf u (S:=S.erase a) λb z=>(mA λe=>h1 (by rw[←e];exact z)).mpr (hs b (.tail _ z));have e:=rX ((zp (hs a (.head _))).map f);rw[e,jp,jp,sK,sK];exact nB this _
theorem d3{K V:Type}[DecidableEq K]{l:List (K×V)}(h:(l.map (·.1)).Nodup){p:K×V}(hp:p∈l):ae l p.1=some p.2:=by
 induction l with
 |nil=>cases hp
 |cons q l ih=>
  have⟨h1,z⟩:=Db.mp h;rw[gO];rcases em.mp hp with rfl|hp
  ·exact if_pos rfl
  ·rw[if_neg λe:q.1=p.1=>h1 (by show q.1∈_;rw[e];exact wS hp)];exact ih z hp
theorem Val.bound(hp:wQ pr)(V:Val E r γ ht S)(h:jS pr E r e)(x:OU e γ):e.cost+(e.ws.map λc=>pr (γ c).1).sum≤(S.map λc=>pr (γ c).1).sum:=by
 have j:e.cost=((e.ch.map (·.1)).map λc=>pr (γ c).1).sum:=by
  rw[h.cost,li];refine congrArg _ (wT λp hp=>?_);refine(?_:pr p.2.1=pr (γ p.1).1);rw[x _ _ (d3 h.knd hp)]
 rw[j,←XV,←lf];have z:∀a,(a∈e.ws∨∃y,ae e.ch a=some y)->a∈S:=λa q=>(V.reach x (h.OS a q) V.root).1;refine qv (λa=>SC (by decide) (hp _).1) (Fk.mpr ⟨h.knd,h.wnd,λa ha b u q=>?_⟩) λa ha=>?_
 ·subst q;have:=aN.mpr ha;rw[(h.OR a u).2]at this;cases this
 ·exact(ca.mp ha).elim (λq=>z a (.inr (pt.mp (aN.mpr q)))) λq=>z a (.inl q)
end
end
section
section
variable {E:Eg}{pr:lm->Int}{r:Nat}{e:Ent}{es ks:List Ent}{fd:Option (Int×fX)}{γ:Nat->Nd}{ht:Nat->Nat}{S:List Nat}
noncomputable abbrev cst(pr:lm->Int)(γ:Nat->Nd)(S:List Nat):Int:=(S.map λc=>pr (γ c).1).sum
structure yV(pr:lm->Int)(E:Eg)(r:Nat)(p:Int×fX):Prop where
 ex:∃e,jS pr E r e/\e.ws=[]/\e.ch=p.2/\e.cost=p.1
 srt:p.2.Pairwise λa b=>a.1<b.1
structure Cj(pr:lm->Int)(E:Eg)(r:Nat)(es:List Ent)(fd:Option (Int×fX)):Prop where
 ent:∀e∈es,jS pr E r e
 JD:∀p,fd=some p->yV pr E r p
 all:∀γ ht S,Val E r γ ht S->(∃p,fd=some p/\p.1≤cst pr γ S)∨∃e∈es,OU e γ
theorem Cj.start(z:r∈E.cls)(d:co):Cj pr E r [⟨d,[],[r],0⟩] none:=
 ⟨λe u=>by rw[bn.mp u];exact .start z d,λ_ h=>(nomatch h),λγ ht S V=>.inr (ak _ (.head _) (λ_ _ h=>(nomatch h)))⟩
theorem Cj.drop{p:Int×fX}(h:Cj pr E r (es++[e]) fd)(hp:yV pr E r p)(u:∀q,fd=some q->p.1≤q.1)(hl:∀γ ht S,Val E r γ ht S->OU e γ->p.1≤cst pr γ S):Cj pr E r es (some p):=
 ⟨λf hf=>h.ent f (ca.mpr (.inl hf)),λq hq=>by cases hq;exact hp,λγ ht S V=>(h.all γ ht S V).elim (λY=>ah Y λq h1 j=>.inl ⟨p,rfl,SC (u q h1) j⟩) λz=>ah z λf hf a=>(ca.mp hf).elim (λhf=>.inr ⟨f,hf,a⟩) λhf=>.inl ⟨p,rfl,hl γ ht S V (bn.mp hf▸a)⟩⟩
theorem Cj.choose{w:Nat}{ws:List Nat}{H H':aa}(K:dy E)(h:Cj pr E r (es++[e]) fd)(hw:e.ws=w::ws)(k:pZ pr e.ch w ws e.cost (·∈E.fW w) H H' ks):Cj pr E r (es++ks.reverse) fd:=by
 have z:=h.ent e (by simp);refine⟨λf hf=>(ca.mp hf).elim (λhf=>h.ent f (ca.mpr (.inl hf))) λhf=>?_,h.JD,λγ ht S V=>(h.all γ ht S V).imp_right λu=>ah u λf hf a=>(ca.mp hf).elim (λhf=>(ak f (ca.mpr (.inl hf)) a)) λhf=>?_⟩
 ·obtain⟨_,_,x,hx,k⟩:=k.at_ f (kq.mp hf);exact z.step K hw hx k
 ·rw[bn.mp hf]at a;refine ah (k.all (γ w) (V.next (e':=e) z a hw).1 (V.next (e':=e) z a hw).2.1) λq h1 j=>?_;exact(ak q (ca.mpr (.inr (kq.mpr h1))) ((V.next z a hw).2.2 j))
theorem Val.SP(K:dy E)(z:r∈E.cls):∃γ,Val E r γ id E.cls:=by
 have:∀c,∃x:Nd,c∈E.cls->x∈E.fW c/\∀k∈x.2,k<c:=λc=>by
  by_cases h:c∈E.cls
  ·obtain⟨x,h1,u⟩:=K.base c h;exact⟨x,λ_=>⟨h1,u⟩⟩
  ·exact⟨("",[]),λq=>absurd q h⟩
 refine⟨λc=>aeG (this c),z,K.UG,λa ha=>?_⟩;have:=aeH (this a) ha;exact⟨ha,this.1,λk hk=>⟨(K.kid a ha _ this.1).2 k hk,this.2 k hk⟩⟩
theorem Cj.fin(K:dy E)(j:r∈E.cls)(h:Cj pr E r [] fd):∃p,fd=some p/\yV pr E r p/\∀γ ht S,Val E r γ ht S->p.1≤cst pr γ S:=by
 refine cut λO u=>?_;refine bR (Val.SP K j) λγ V=>?_;refine ah ((h.all γ _ _ V).elim id λ⟨_,q,_⟩=>(nomatch q)) λp z _=>?_;subst z;refine u ?_;refine(cY p rfl (h.JD p rfl) (λγ ht S V=>?_));exact(h.all γ ht S V).elim (λZ=>ah Z λq h1 Y=>by cases h1;exact Y) λ⟨_,q,_⟩=>(nomatch q)
noncomputable def free(E:Eg)(ch:fX)(c:Nat):Nat:=match ae ch c with
 |none=>(E.fW c).length
 |some _=>0
noncomputable def ms(E:Eg)(e:Ent):Nat:=2^(E.cls.map (free E e.ch)).sum
theorem wZ{f g:Nat->Nat}{w:Nat}(h:∀c,c≠w->g c=f c)(hw:g w=0):∀{l:List Nat},l.Nodup->w∈l->(l.map g).sum+f w=(l.map f).sum
 |a::l,hn,hm=>by
  have⟨h1,z⟩:=Db.mp hn;rw[jp,jp,sK,sK];by_cases e:a=w
  ·subst e;rw[hw,kX,fD,wT (g:=f) λc hc=>h c λq=>h1 (q▸hc)]
  ·rw[h a e,om,wZ h hw z ((em.mp hm).elim (λq=>absurd q.symm e) id)]
theorem JE{w:Nat}{ws:List Nat}{cost:Int}{P:Nd->Prop}{H H':aa}(K:dy E)(hw:w∈E.cls)(hn:ae e.ch w=none)(k:pZ pr e.ch w ws cost P H H' ks)(hl:ks.length≤(E.fW w).length):(ks.map (ms E)).sum+1≤ms E e:=by
 have Y:∀f∈ks,ms E f*2^(E.fW w).length=ms E e:=λf hf=>by
  refine cut λO z=>?_;obtain⟨_,_,x,_,k⟩:=k.at_ f hf;have:free E e.ch w=(E.fW w).length:=by unfold free;rw[hn]
  have Z:=wZ (f:=free E e.ch) (g:=free E f.ch) (w:=w) (λc hc=>by unfold free;rw[k.ch,av,if_neg λq=>hc q.symm]) (by unfold free;rw[k.ch,av,if_pos rfl]) K.UG hw;refine z ?_;unfold ms;rw[←Nat.pow_add,←this,Z]
 have j:∀l:List Ent,(∀f∈l,ms E f*2^(E.fW w).length=ms E e)->(l.map (ms E)).sum*2^(E.fW w).length=l.length*ms E e:=λl=>by
  induction l with
  |nil=>intro _;simp
  |cons a l ih=>
   intro h;rw[jp,sK,T4,h a (.head _),ih λf hf=>h f (.tail _ hf),io,T4,Nat.one_mul,fD]
 have u:=j ks Y;have h5:(E.fW w).length<2^(E.fW w).length:=Nat.lt_two_pow_self;have h6:1≤ms E e:=jm;refine Nat.lt_of_mul_lt_mul_right (a:=2^(E.fW w).length) ?_;rw[u,Nat.mul_comm];exact Nat.mul_lt_mul_of_pos_left (FB hl h5) h6
theorem FU(K:dy E)(d:co):ms E ⟨d,[],[r],0⟩≤128:=cr (dk (by decide) K.jF) (ii 128)
end
noncomputable abbrev uU(p:Nat×Nd):D:=.tup [.int (p.1:Nat),d8 p.2]
noncomputable def IS(i:Nat):D->Prop:=if i=0 then qo else gh NS
theorem IS.jF{n:Nat}(i:Nat):aB (n+1) (IS i):=by
 unfold IS;split
 ·exact .int
 ·exact .tups λi=>NS.jF i
noncomputable def Ck(d:D):Prop:=gh IS d/\∃x l,d=.tup (x::l)
theorem two{S:Nat->D->Prop}{a b:D}(ha:S 0 a)(z:S 1 b):gh S (.tup [a,b]):=⟨_,rfl,λi x e=>by
 rcases i with _|_|i<;>simp at e
 ·exact e▸ha
 ·exact e▸z⟩
theorem itS(p:Nat×Nd):Ck (uU p):=⟨two (S:=IS) ⟨_,rfl⟩ (KZ _),_,_,rfl⟩
theorem Ck.jF{n:Nat}:aB (n+2) Ck:=(aB.tups λi=>IS.jF i).mono λ_ h=>h.1
theorem Ck.kd{prog:EQ}{w:KB}{n:Nat}:gK prog w (n+2) Ck (tuples' true):=gK.tups (λi=>IS.jF i) (.inl λx h=>h)
theorem JF:∀a b:Nat×Nd,uU a=uU b->a=b:=λa b h=>by
 injection h with h;injection h with h1 z;injection z with z _;injection h1 with h1;exact zj (Go h1) (lT _ _ z)
theorem FV{α β:Type}{f:α->β}{ds es:List β}(h:ds.Perm es):∀l:List α,es=l.map f->∃q:List α,ds=q.map f/\q.Perm l:=by
 induction h with
 |nil=>intro l e;exact⟨[],rfl,by rw[cv.mp e.symm]⟩
 |cons x _ ih=>
  intro l e;refine cK (b7.mp e.symm) λy l2 Iw h1 j=>?_;subst Iw;refine ah (ih l2 j.symm) λq u z=>?_;exact⟨y::q,by rw[jp,h1,u],z.cons y⟩
 |swap x y l0=>
  intro l e;refine cK (b7.mp e.symm) λa l2 Z h1 j=>?_;subst Z;refine cK (b7.mp j) λb Y DG u z=>?_;subst DG;exact⟨b::a::Y,by rw[jp,jp,h1,u,z],.swap _ _ _⟩
 |trans _ _ N O=>
  intro l e;refine ah (O l e) λl2 h1 j=>?_;refine ah (N l2 h1) λY u z=>?_;exact⟨Y,u,z.trans j⟩
theorem yW{n:Nat}{a b:Int}{l m:List D}{r:Bool}(h:f9 (n+1) (.tup (.int a::l)) (.tup (.int b::m))=some r):(r=true->a≤b)/\(r=false->b≤a):=by
 by_cases e:a=b
 ·exact⟨λ_=>Pf e,λ_=>Pf e.symm⟩
 ·rw[v7,cR (by rw[nF,decide_eq_false e]),eU]at h;obtain rfl:=db h;exact⟨λh=>kU (of_decide_eq_true h),λh=>jh.mp (of_decide_eq_false h)⟩
section
variable {X:Cx U}{H:aa}
theorem dM.items{v a:co}{ch:fX}{Q:DQ}(hv:H v=some (.raw (gS a)))(h:fh H a (.dI (jG ch)))(nd:(ch.map (·.1)).Nodup)(h7:ch.length≤40)(q:∀z:fX,z.Perm ch->z.Pairwise (λp q=>p.1<q.1)->Q (.fl (z.map uU)) H):dM X (.ref v) H Q:=by
 have e:((jG ch).map λe=>D.tup [.int e.1,e.2])=ch.map uU:=li;refine dM.Sb 8 Ck _ Ck.kd Ck.jF (by decide) (Src.items v a _ rfl hv h (sz (by rw[be];exact Qa h7)) ?_);rw[e];refine(oJ (λd u=>?_) (lW JF (lU nd)) (by rw[be];exact Qb h7) (λds hp hs=>?_))
 ·obtain⟨i,_,rfl⟩:=lc.mp u;exact itS _
 refine ah (FV hp ch rfl) λz Z hq=>?_;subst Z;refine q z hq ?_;have Y:=(hq.map (·.1)).nodup_iff.mpr nd;exact(aV.mp hs).imp₂ (λp q(h1:Ik 8 (uU p) (uU q))(j:p.1≠q.1)=>by have:=(yW h1).1 rfl;exact YI this j) (aV.mp Y)
end
end
section
noncomputable abbrev UN(p:Int×fX):D:=.tup [.int p.1,.tup (p.2.map uU)]
noncomputable def UO:Option (Int×fX)->D
 |none=>.none
 |some p=>UN p
noncomputable def SU:D->Prop:=gh λi=>if i=0 then qo else gh λ_=>Ck
theorem SU.jF:aB 8 SU:=aB.tups λi=>by
 split
 ·exact .int
 ·exact .tups λ_=>Ck.jF
theorem fdS(p:Int×fX):SU (UN p):=two ⟨_,rfl⟩ (uP λa=>itS a)
theorem aca{x:Bool}{P F:aa->Prop}{R:aa->Prop}(z:∀H',R H'->F H')(h1:x=true->(∀H',R H'->F H')->∀H',R H'->P H'):∀H',R H'->if x=true then P H' else F H':=λH' h=>by
 cases x with
 |true=>exact h1 rfl z H' h
 |false=>exact z H' h
theorem AK{fd:Option (Int×fX)}(h:(!isNone (UO fd))=true):∃p,fd=some p/\UO fd=UN p:=by
 cases fd with
 |none=>cases h
 |some p=>exact(ak p rfl rfl)
theorem fd_none{fd:Option (Int×fX)}(h:isNone (UO fd)=true):fd=none:=by
 cases fd with
 |none=>rfl
 |some p=>cases h
section
variable {X:Cx U}{m0:Nat}{H B:aa}{E:Eg}{cs:List (lm×Int)}{lp:List (Nat×Int)}
structure lE(pr:lm->Int)(E:Eg)(H:aa)(l wl:co)(es:List Ent)(H':aa):Prop where
 le:∃lp,qu pr E lp/\aa.le (upd H l (.dI (mJ lp))) H'
 wl:H' wl=some (.list (es.map gP))
 at_:∀e∈es,H' e.d=some (.dI (jG e.ch))/\H e.d=none
theorem yX{K V:Type}[DecidableEq K]{l m:List (K×V)}(h:l.Perm m)(nd:(m.map (·.1)).Nodup)(k:K):ae l k=ae m k:=by
 have z:=(h.map (·.1)).nodup_iff.mpr nd;cases e:ae m k with
 |some v=>exact d3 z (h.mem_iff.mpr (lS e))
 |none=>
  cases e':ae l k with
  |none=>rfl
  |some v=>rw[d3 (p:=(k,v)) nd (h.mem_iff.mp (lS e'))]at e;cases e
theorem jS.perm{pr:lm->Int}{r:Nat}{e:Ent}(h:jS pr E r e)(hw:e.ws=[]){z:fX}(hp:z.Perm e.ch):jS pr E r ⟨e.d,z,[],e.cost⟩:=by
 have u:=λk=>yX hp h.knd k;have Y:∀{a b},gp e.ch a b->gp z a b:=λq=>q.more λa x e=>(u a).trans e;have Z:∀{a b},gp z a b->gp e.ch a b:=λq=>q.more λa x e=>(u a).symm.trans e;have hk:=h.kid;have j:=h.root;have hc:=h.OS;rw[hw]at j;simp only[hw]at hk hc;simp only[←u]at hk j hc;refine⟨λc x e=>h.yU c x ((u c).symm.trans e),(hp.map (·.1)).nodup_iff.mpr h.knd,.nil,λ_ h=>(nomatch h),hk,j,λa q=>Y (hc a q),λa x e k hk q=>h.OT a x ((u a).symm.trans e) k hk (Z q),h.cost.trans ?_⟩;exact(rX (hp.map λp=>pr p.2.1)).symm
theorem lE.up{pr:lm->Int}{l wl:co}{es:List Ent}{H1 H2:aa}(h:lE pr E H l wl es H1)(hl:H1.le H2):lE pr E H l wl es H2:=
 ⟨let⟨lp,I,k⟩:=h.le;(ak lp I (k.trans hl)),hl _ _ h.wl,λe z=>⟨hl _ _ (h.at_ e z).1,(h.at_ e z).2⟩⟩
theorem lE.pop{pr:lm->Int}{l wl:co}{es:List Ent}{e:Ent}{H1:aa}(h:lE pr E H l wl (es++[e]) H1)(h0:H wl=none)(z:wl≠l):lE pr E H l wl es (upd H1 wl (.list (es.map gP)))/\upd H1 wl (.list (es.map gP)) e.d=some (.dI (jG e.ch)):=by
 have k:∀f∈es++[e],upd H1 wl (.list (es.map gP)) f.d=some (.dI (jG f.ch)):=λf hf=>by
  rw[aj λq=>by have:=(h.at_ f hf).1;rw[q,h.wl]at this;cases this];exact(h.at_ f hf).1
 exact⟨⟨let⟨lp,I,k⟩:=h.le;(ak lp I (bU k ((aj z).trans h0))),af _ _ _,λf hf=>⟨k f (ca.mpr (.inl hf)),(h.at_ f (ca.mpr (.inl hf))).2⟩⟩,k e (by simp)⟩
theorem lE.note{pr:lm->Int}{l wl:co}{es:List Ent}{H1:aa}{c0:ao}(h:lE pr E H l wl es H1)(hl:H l=some c0)(z:wl≠l)(I:qu pr E lp):lE pr E H l wl es (upd H1 l (.dI (mJ lp))):=by
 refine ah h.le λu _ k=>?_;refine⟨(ak lp I (λb d q=>?_)),(aj z).trans h.wl,λf hf=>⟨(aj λq=>by have:=(h.at_ f hf).2;rw[q,hl]at this;cases this).trans (h.at_ f hf).1,(h.at_ f hf).2⟩⟩;by_cases e:b=l
 ·subst e;rw[af]at q⊢;exact q
 ·rw[aj e]at q⊢;exact k _ _ ((aj e).trans q)
theorem lE.push{pr:lm->Int}{l wl i:co}{es ks:List Ent}{H1 H2:aa}{ch:fX}{w:Nat}{ws:List Nat}{cost:Int}{P:Nd->Prop}{c1:ao}(h:lE pr E H l wl es H1)(h0:H wl=none)(cj:wl≠l)(hl:H1.le H2)(k:pZ pr ch w ws cost P H1 H2 ks)(hi:H2 i=none):
  lE pr E H l wl (es++ks.reverse) (upd (del (upd H2 i c1) i) wl (.list (es.map gP++(ks.map gP).reverse))):=by
 refine cut λPP kk=>?_;have z:=h.up hl;refine ah h.le λJG I Y=>?_;have j:∀b d,H2 b=some d->b≠wl->upd (del (upd H2 i c1) i) wl (.list (es.map gP++(ks.map gP).reverse)) b=some d:=λb d e hb=>by
  rw[aj hb];have N:b≠i:=λq=>by rw[q,hi]at e;cases e
  show(if _ then _ else _)=_;rw[if_neg N,aj N];exact e
 have O:∀f:Ent,H2 f.d=some (.dI (jG f.ch))->f.d≠wl:=λf e q=>by rw[q,z.wl]at e;cases e
 refine kk ?_;refine⟨(ak JG I (λb d e=>j b d (Y.trans hl _ _ e) λq=>?_)),(af _ _ _).trans ?_,λf hf=>?_⟩
 ·rw[q,aj cj,h0]at e;cases e
 ·rw[lf,GI]
 ·rcases ca.mp hf with hf|hf
  ·exact⟨j _ _ (z.at_ f hf).1 (O f (z.at_ f hf).1),(z.at_ f hf).2⟩
  ·refine ml (k.at_ f (kq.mp hf)) λZ e2 _=>?_;refine⟨j _ _ Z (O f Z),?_⟩;have u:=le_none Y e2;unfold upd at u;split at u
   ·exact fg u
   ·exact u
noncomputable def bI(pr:lm->Int)(E:Eg)(H:aa)(l wl:co)(r n:Nat)(s:List Ent×Option (Int×fX)×Nat×aa):Prop:=lE pr E H l wl s.1 s.2.2.2/\Cj pr E r s.1 s.2.1/\s.2.2.1+(s.1.map (ms E)).sum≤128/\(s.1.map (ms E)).sum=n
noncomputable def bV(self:D)(x:Nat)(wl:co)(fd:Option (Int×fX))(z:Nat):ag:=[("self",self),("c",.int x),("waiting",.ref wl),("found",UO fd),("tries",.int z)]
theorem yY:∀l:List Ent,l.length≤(l.map (ms E)).sum
 |[]=>ii _
 |a::l=>by rw[jp,sK,io,fD];exact Lq jm (yY l)
theorem ND{es ks:List Ent}(hz:(es.map gP).length≤1000)(h:ks.length≤7):(es.map gP).length+(ks.map gP).length≤1000000:=cr (Lq hz (cr (IR (be _)) h)) (by decide)
theorem FW{pr:lm->Int}{l wl:co}{r n t:Nat}{es:List Ent}{fd:Option (Int×fX)}{H1:aa}(K:dy E)(h:bI pr E H l wl r n (es,fd,t,H1))(Y:0<es.length)(h0:H wl=none)(O:wl≠l){P:Prop}
  (q:∀z e,H1 wl=some (.list (z.map gP++[gP e]))->(z.map gP).length≤1000->lE pr E H l wl z (upd H1 wl (.list (z.map gP)))/\upd H1 wl (.list (z.map gP)) e.d=some (.dI (jG e.ch))->Cj pr E r (z++[e]) fd->jS pr E r e->(∀{j:List Ent},(j.map (ms E)).sum≤(z.map (ms E)).sum->(j.map (ms E)).sum+1≤n)->(∀{ks:List Ent},(ks.map (ms E)).sum<ms E e->(((z++ks.reverse).map (ms E)).sum+1≤n))->t+n≤128->H e.d=none->e.ws.length≤7->e.ch.length≤7->P):P:=by
 refine Hw h λS T ht hn=>?_;obtain⟨z,e,rfl⟩:∃z e',es=z++[e']:=(xG es.dropLast _ ((iH (λq=>by rw[q]at Y;cases Y)).symm));have hj:((z++[e]).map (ms E)).sum=(z.map (ms E)).sum+ms E e:=by rw[lf,XV,oA,List.sum_singleton]
 have Z:1≤ms E e:=jm;have u:=T.ent e (by simp);have N:=S.pop h0 O;have:=yY (E:=E) z;refine q z e (S.wl.trans (by rw[lf];rfl)) (by rw[be];exact YJ ht hj this) N T u (λh=>YK Z hn hj h) (λ{ks} h=>?_) (Kp (congrArg (qh t) hn.symm) ht) (S.at_ e (by simp)).2 (cr (aq u.wnd λk hk=>(u.OR k hk).1) (rW K)) ?_
 ·rw[lf,XV,GI,List.sum_reverse];exact YL h hn hj
 ·have:=aq u.knd (r:=E.cls) λk hk=>let⟨y,hy⟩:=pt.mp (aN.mpr hk);(u.yU k y hy).1;rw[be]at this;exact cr this (rW K)
theorem lE.qw{pr:lm->Int}{l wl c:co}{es:List Ent}{z:aa}{u:ao}(Y:B.le H)(j:B l=none)(q:c≠l)(hc:H c=some u)(S:lE pr E H l wl es z):B.le z/\z c=some u:=ah S.le λlp _ k=>⟨(bU Y j).trans k,k _ _ ((aj q).trans hc)⟩
theorem AL{a c l:co}{h:D}{x:Nat}{Q:DQ}(hp:wQ (aC cs))(hc:H c=some (AH cs))(nq:c≠l)(hl:H l=some (.dI (mJ lp)))(K:dy E)(G:Fy X h B E)(hB:B.le H)(yS:B l=none)(I:qu (aC cs) E lp)(hx:x<E.n)
  (q:∀p vj,qu (aC cs) E vj->yV (aC cs) E (E.pY x) p->(∀γ ht S,Val E (E.pY x) γ ht S->p.1≤cst (aC cs) γ S)->Q (UN p) (upd H l (.dI (mJ vj)))):aY X (m0+8) 299 [yR a h c 2000 l,.int x] H Q:=by
 have u:=K.fl x hx;have z2:2≤sizeLine:=sz (ce rfl);have z1:1≤sizeLine:=sz (ce rfl);have z3:3≤sizeLine:=sz (ce rfl);refine bR G.obj λA hA=>?_;subst hA;refine aY.fn rfl rfl (Exists.intro (.dI []) (And.intro .dI λd hd=>G.find _ _ _ x (hB.trans (.upd hd)) hx (And.intro z1 (And.intro z3 (And.intro z1 λwl kK=>?_)))));have hwd:d≠wl:=ne_sn (af _ _ _) kK;have h0:H wl=none:=(aj (cG hwd)).symm.trans kK;have JH:wl≠l:=(ne_sn hl h0).symm;refine gM.st (λs=>bV (yR a (aA A) c 2000 l) x wl s.2.1 s.2.2.1) (λs=>s.2.2.2) (bI (aC cs) E H l wl (E.pY x)) _ ([⟨d,[],[E.pY x],0⟩],none,0,upd (upd H d (.dI [])) wl _) ⟨⟨(ak lp I (((uS hl).symm▸aa.le.refl H:(upd H l (.dI (mJ lp))).le H).trans ((aa.le.upd hd).trans (.upd kK)))),af _ _ _,λe he=>?_⟩,.start u d,?_,rfl⟩ λn s P hI go=>?_
 ·rw[bn.mp he];exact⟨(aj hwd).trans (af _ _ _),hd⟩
 ·have:=FU (r:=E.pY x) K d;simpa using this
 obtain⟨es,fd,O,H1⟩:=s;refine g7.ln hI.1.wl (be _) (cr (yY _) (cr (FS _ _) (cr hI.2.2.1 (by decide)))) (sQ (λhb=>FW K hI (bW.mp (of_decide_eq_true hb)) h0 JH λes e hw hz SS T Z m1 m2 ht he0 N hc7=>EU.list (es.map gP) _ hw (cr hz (by decide)) ?_) λhb=>?_)
 ·have z:∀{fl:Fl}{bb:ag}{H3:aa}{sg:List Ent}{fd2:Option (Int×fX)}{t2:Nat},nx fl->(bV (yR a (aA A) c 2000 l) x wl fd2 t2).le bb->lE (aC cs) E H l wl sg H3->Cj (aC cs) E (E.pY x) sg fd2->t2≤O+1->(sg.map (ms E)).sum+1≤n->P fl bb H3:=λhf QB S T h1 h2=>go _ (_,_,_,_) h2 hf QB (.refl _) (oJ S T (by show _+_≤128;exact YM h2 ht h1) rfl);refine And.intro rfl ?_;generalize upd H1 wl (.list (es.map gP))=H2 at SS⊢;revert H2;refine aca (λH3⟨S3,NF⟩=>?_) λhf Eb H2 jq=>dv jq λS2 Um=>?_
  ·refine xn rfl (xn (decide_eq_false (YN ht)) (And.intro (np _) (OI.tups 1 qo .int (nats e.ws) [] rfl rfl (λd hd=>ah (lc.mp hd) λi _ e=>⟨_,e.symm⟩) (λ_ h=>nomatch h) (by decide) λr u=>sQ (λer=>?_) λer=>?_)))
   ·have JC:e.ws=[]:=cv.mp (u.mp er);refine Exists.intro _ (And.intro (.inl NF) λv hv=>dM.items (af _ _ _) (.inl (aa.le.upd hv _ _ NF)) Z.knd (LN hc7) λj hpm lN=>Exists.intro _ (And.intro (.inr rfl) (And.intro (sz (by rw[be,hpm.length_eq];exact qH hc7)) (And.intro z2 ?_))));have S5:=S3.up (aa.le.upd hv (c:=.raw (gS e.d)));have lo:∀{γ ht S},Val E (E.pY x) γ ht S->OU e γ->e.cost≤cst (aC cs) γ S:=λV a=>by
     have:=V.bound hp Z a;rw[JC]at this;simpa using this
    have JD:yV (aC cs) E (E.pY x) (e.cost,j):=⟨(qI _ (Z.perm JC hpm) rfl rfl rfl),lN⟩;refine sQ (λe1=>z trivial (.nx 5 rfl) S5 (T.drop JD (λq hq=>fg (hq.symm.trans (fd_none e1))) λ_ _ _ V a=>lo V a) (ii _) (m1 (ii _))) λe1=>?_;refine ah (AK (fd:=fd) (by rw[e1];rfl)) λp0 Ld Ng=>?_;refine Exists.intro 8 (Exists.intro SU (And.intro SU.jF (And.intro (fdS (e.cost,j)) (And.intro (Ng▸fdS p0) (And.intro (by decide) λr u=>sQ (λe2=>?_) λe2=>?_)))))
    ·exact z trivial (.nx 5 rfl) S5 (T.drop JD (λq hq=>by
       rw[Ng]at u;rw[Ld]at hq;cases hq;exact(yW u).1 e2) λ_ _ _ V a=>lo V a) (ii _) (m1 (ii _))
    ·exact z trivial (.nx 5 rfl) S5 (Ld▸T.drop (T.JD p0 Ld) (λq hq=>by rw[Ld]at hq;cases hq;exact bq _) λ_ _ _ V a=>SC (by rw[Ng]at u;exact(yW u).2 e2) (lo V a)) (ii _) (m1 (ii _))
   ·refine mm (List.exists_cons_of_ne_nil (l:=e.ws) λq=>absurd (u.mpr (congrArg nats q)) (Sc.mp er)) λw ws JC=>?_;have NC:=Z.OR w (JC▸.head _);refine Ext.rev ⟨_,S3.wl⟩ (yT JC (S3.qw hB yS nq hc).2 (.inl NF) K G (S3.qw hB yS nq hc).1 Z.yU NC.1 (by rw[JC]at N;exact TE N) hc7 λks H4 hl4 kk Y i hi=>?_);have hiw:wl≠i:=ne_sn (hl4 _ _ S3.wl) hi;exact Exists.intro i (Exists.intro (es.map gP) (Exists.intro (ks.map gP) (And.intro rfl (And.intro hiw.symm (And.intro (af _ _ _) (And.intro ((aj hiw).trans (hl4 _ _ S3.wl)) (And.intro (ND hz (cr Y (NB K NC.1))) (z trivial (.nx 5 rfl) (S3.push h0 JH hl4 kk hi) (T.choose K JC kk) (ii _) (m2 (JE K NC.1 NC.2 kk Y))))))))))
  ·refine ah (AK hf) λp0 Ld _=>?_;refine ah S2.le λJG I1 acf=>?_;refine FQ hp (S2.qw hB yS nq hc).2 nq (acf _ _ (af _ _ _)) K G (S2.qw hB yS nq hc).1 yS I1 (λk hk=>(Z.OR k hk).1) (Dj N) λs lp2 I2 hs=>?_;subst Ld;exact sQ (λe1=>z trivial (.nx 5 rfl) (S2.note hl JH I2) (T.drop (T.JD p0 rfl) (λq hq=>by cases hq;exact bq _) λγ _ _ V a=>SC (kU (of_decide_eq_true e1)) (SC (nB (hs γ λk hk=>(V.ok _ (V.reach a (Z.OS k (.inl hk)) V.root).1).2.1) _) (V.bound hp Z a))) (b8 _) (m1 (ii _))) λe1=>Eb _ ⟨S2.note hl JH I2,(aj (ne_sn hl he0).symm).trans Um⟩
 ·have hw:es=[]:=cg.mp (by
   have:¬(0<es.length):=λh=>of_decide_eq_false hb (bW.mpr h);exact k7 this)
  subst hw;exact bt (hI.2.1.fin K u) λp hp h1 h2=>ah hI.1.le λvj I' hle=>hp▸.less hle (.here (q p vj I' h1 h2))
end
end
section
structure Dg(E:Eg)(ch:fX):Prop where
 yU:UK E ch
 knd:(ch.map (·.1)).Nodup
 kid:∀a x,ae ch a=some x->∀k∈x.2,∃y,ae ch k=some y
 OT:∀a x,ae ch a=some x->∀k∈x.2,¬gp ch k a
structure Ord(ch:fX)(c:Nat)(f:List Nat):Prop where
 nd:f.Nodup
 mem:∀a,a∈f↔gp ch c a
 top:∀p a s,f=p++a::s->∀x,ae ch a=some x->∀k∈x.2,k∈p
noncomputable abbrev WL:=List (Nat×Bool)
noncomputable def g9:WL->List Nat
 |[]=>[]
 |p::w=>if p.2 then p.1::g9 w else g9 w
theorem km{v w:WL}:g9 (v++w)=g9 v++g9 w:=by
 induction v with
 |nil=>rfl
 |cons p v ih=>
  rw[fw,g9,g9,ih];split<;>rfl
theorem AM{w:WL}{a:Nat}:a∈g9 w↔(a,true)∈w:=by
 induction w with
 |nil=>exact⟨λh=>(nomatch h),λh=>(nomatch h)⟩
 |cons p w ih=>
  obtain⟨b,q⟩:=p;cases q with
  |true=>exact⟨λh=>(em.mp h).elim (λe=>by rw[e];exact .head _) λh=>.tail _ (ih.mp h),λh=>(em.mp h).elim (λe=>by injection e with e;rw[e];exact .head _) λh=>.tail _ (ih.mpr h)⟩
  |false=>exact ih.trans ⟨.tail _,λh=>(em.mp h).elim (λe=>by cases e) id⟩
noncomputable def Stp(ch:fX)(a b:Nat):Prop:=∃x,ae ch a=some x/\∃y∈x.2,gp ch y b
structure uV(ch:fX)(c:Nat)(f:List Nat)(w:WL):Prop where
 pY:f.Nodup
 UP:(g9 w).Nodup
 dis:∀a∈f,a∉g9 w
 top:∀p a s,f=p++a::s->∀x,ae ch a=some x->∀k∈x.2,k∈p
 kid:∀p a s,w=p++(a,true)::s->∀x,ae ch a=some x->∀k∈x.2,k∈f∨∃b,(k,b)∈s
 UQ:w.Pairwise λp q=>p.2=true->Stp ch p.1 q.1
 rf:∀a∈f,gp ch c a
 OV:∀p∈w,gp ch c p.1
 has:c∈f∨∃b,(c,b)∈w
section
variable {E:Eg}{ch:fX}{c h:Nat}{f:List Nat}{w:WL}
theorem lZ{α:Type}{a b:α}{m s:List α}:∀{l p:List α},l++b::m=p++a::s->(∃s',l=p++a::s'/\s=s'++b::m)∨(p=l/\a=b/\s=m)∨a∈m
 |[],[],h=>by injection h with h1 z;exact .inr (.inl ⟨rfl,h1.symm,z.symm⟩)
 |[],q::p,h=>by injection h with h1 z;exact .inr (.inr (z▸ca.mpr (.inr (.head _))))
 |x::l,[],h=>by injection h with h1 z;exact .inl ⟨l,by rw[h1];rfl,z.symm⟩
 |x::l,q::p,h=>by
  injection h with h1 z;rcases lZ z with⟨s',e,e'⟩|⟨e,e'⟩|e
  ·exact .inl ⟨s',by rw[h1,e];rfl,e'⟩
  ·exact .inr (.inl ⟨by rw[h1,e],e'⟩)
  ·exact .inr (.inr e)
theorem uV.start:uV ch c [] [(c,false)]:=
 ⟨.nil,.nil,λ_ h=>(nomatch h),λp a s h=>(by cases p<;>cases h),λp a s h=>(lZ (l:=[]) h).elim (λz=>ah z λ_ e _=>by cases p<;>cases e) λh=>h.elim (λh=>by cases h.2.1) λh=>(nomatch h),kr _ _,λ_ h=>(nomatch h),λp h=>by rw[bn.mp h];exact .refl _,.inr ⟨_,.head _⟩⟩
theorem uV.back(D:uV ch c f (w++[(h,true)])):uV ch c (f++[h]) w:=by
 have u:g9 (w++[(h,true)])=g9 w++[h]:=km;have z:=D.dis;have hn:=D.UP;rw[u]at z hn;have hf:h∉f:=λq=>z h q (by simp);refine ml (Fk.mp hn) λY _ j=>?_;refine⟨Fk.mpr ⟨D.pY,Db.mpr ⟨λh=>(nomatch h),.nil⟩,λa ha b u e=>hf (by rw[←bn.mp u,←e];exact ha)⟩,Y,λa ha q=>?_,λp a s e x hx k hk=>?_,λp a s e x hx k hk=>?_,(bZ.mp D.UQ).1,λa ha=>?_,λp hp=>D.OV p (ca.mpr (.inl hp)),D.has.elim (λq=>.inl (ca.mpr (.inl q))) λO=>bR O λb q=>(ca.mp q).elim (λq=>.inr ⟨b,q⟩) λq=>.inl ?_⟩
 ·rcases ca.mp ha with ha|ha
  ·exact z a ha (ca.mpr (.inl q))
  ·exact j a q h (.head _) (bn.mp ha)
 ·rcases lZ e with⟨s',e,-⟩|⟨rfl,rfl,-⟩|q
  ·exact D.top p a s' e x hx k hk
  ·exact(D.kid w a [] rfl x hx k hk).elim id λZ=>bR Z λ_ q=>(nomatch q)
  ·exact nomatch q
 ·rcases D.kid p a (s++[(h,true)]) (by rw[e];simp) x hx k hk with q|⟨b,q⟩
  ·exact .inl (ca.mpr (.inl q))
  ·rcases ca.mp q with q|q
   ·exact .inr ⟨b,q⟩
   ·injection bn.mp q with q;exact .inl (by rw[q];simp)
 ·rcases ca.mp ha with ha|ha
  ·exact D.rf a ha
  ·rw[bn.mp ha];exact D.OV (h,true) (by simp)
 ·injection bn.mp q with q;rw[q];simp
theorem uV.skip(D:uV ch c f (w++[(h,false)]))(hf:h∈f):uV ch c f w:=by
 have Y:g9 (w++[(h,false)])=g9 w:=km.trans (t3 _);have u:=D.dis;have hn:=D.UP;rw[Y]at u hn;have z:∀{k:Nat}{s:WL},(∃b,(k,b)∈s++[(h,false)])->k∈f∨∃b,(k,b)∈s:=λj=>bR j λb q=>(ca.mp q).elim (λq=>.inr ⟨b,q⟩) λq=>.inl (by injection bn.mp q with q;rw[q];exact hf);exact⟨D.pY,hn,u,D.top,λp a s e x hx k hk=>(D.kid p a (s++[(h,false)]) (by rw[e];simp) x hx k hk).elim .inl z,(bZ.mp D.UQ).1,D.rf,λp hp=>D.OV p (ca.mpr (.inl hp)),D.has.elim .inl z⟩
theorem uV.off(G:Dg E ch)(D:uV ch c f (w++[(h,false)])):h∉g9 w:=λq=>
 let⟨y,hy,k,hk,r⟩:=(bZ.mp D.UQ).2.2 _ (AM.mp q) (h,false) (.head _) rfl
 G.OT h y hy k hk r
theorem uV.SX(G:Dg E ch)(D:uV ch c f (w++[(h,false)])){x:Nd}(hx:ae ch h=some x)(hf:h∉f):g9 (w++[(h,true)]++(x.2.filter λk=>decide (k∉f)).map λk=>(k,false))=g9 w++[h]/\uV ch c f (w++[(h,true)]++(x.2.filter λk=>decide (k∉f)).map λk=>(k,false)):=by
 refine cut λPP kk=>?_;have u:g9 (w++[(h,false)])=g9 w:=km.trans (t3 _);have N:=D.dis;have hn:=D.UP;rw[u]at N hn;refine ml (bZ.mp D.UQ) λc1 _ c2=>?_;have ho:=D.off G;refine kk ?_;generalize Z:(x.2.filter λk=>decide (k∉f)).map (λk=>(k,false))=ks;have mk:∀q∈ks,q.2=false/\q.1∈x.2:=λq hq=>by
  rw[←Z]at hq;refine ah (lc.mp hq) λk hk qQ=>?_;subst qQ;exact⟨rfl,(bH.mp hk).1⟩
 have j:g9 ks=[]:=List.eq_nil_iff_forall_not_mem.mpr λa q=>by have:=(mk _ (AM.mp q)).1;cases this
 have Y:g9 (w++[(h,true)]++ks)=g9 w++[h]:=by rw[km,km,j,t3];rfl
 have O:=D.OV (h,false) (by simp);refine⟨Y,D.pY,?_,λa ha q=>?_,D.top,λp a s e y hy k hk=>?_,?_,D.rf,λp hp=>?_,D.has.imp_right λE2=>bR E2 λb q=>?_⟩
 ·rw[Y];exact Fk.mpr ⟨hn,Db.mpr ⟨λh=>(nomatch h),.nil⟩,λa ha b u e=>ho (by rw[←bn.mp u,←e];exact ha)⟩
 ·rw[Y]at q;rcases ca.mp q with q|q
  ·exact N a ha q
  ·rw[bn.mp q]at ha;exact hf ha
 ·rw[aU]at e;rcases lZ e with⟨s',z,rfl⟩|⟨-,z,rfl⟩|q
  ·refine(D.kid p a (s'++[(h,false)]) (by rw[z];simp) y hy k hk).imp_right λHN=>bR HN λb q=>?_;rcases ca.mp q with q|q
   ·exact⟨b,ca.mpr (.inl q)⟩
   ·injection bn.mp q with q;exact⟨true,by rw[q];simp⟩
  ·injection z with z;rw[z,hx]at hy;cases hy;by_cases q:k∈f
   ·exact .inl q
   ·exact .inr ⟨false,Z▸wS (bH.mpr ⟨hk,decide_eq_true q⟩)⟩
  ·have:=(mk _ q).1;cases this
 ·have st:∀k∈x.2,gp ch h k:=λk hk=>.step hx hk (.refl _);refine bZ.mpr ⟨bZ.mpr ⟨c1,kr _ _,λp hp q hq ht=>?_⟩,?_,λp hp q hq ht=>?_⟩
  ·rw[bn.mp hq];exact c2 p hp (h,false) (.head _) ht
  ·exact iA (R:=λ_ _=>True) (λhp _ _ ht=>by rw[(mk _ hp).1]at ht;cases ht) (List.pairwise_of_forall λ_ _=>trivial)
  ·rcases ca.mp hp with hp|hp
   ·obtain⟨y,hy,k,hk,r⟩:=c2 p hp (h,false) (.head _) ht;exact⟨y,hy,k,hk,r.trans (st _ (mk q hq).2)⟩
   ·rw[bn.mp hp];exact⟨x,hx,_,(mk q hq).2,.refl _⟩
 ·rcases ca.mp hp with hp|hp
  ·rcases ca.mp hp with hp|hp
   ·exact D.OV p (ca.mpr (.inl hp))
   ·rw[bn.mp hp];exact O
  ·exact O.trans (.step hx (mk p hp).2 (.refl _))
 ·rcases ca.mp q with q|q
  ·exact⟨b,by simp[q]⟩
  ·injection bn.mp q with q;exact⟨true,by rw[q];simp⟩
theorem uV.fin(D:uV ch c f []):Ord ch c f:=by
 refine⟨D.pY,λa=>⟨D.rf a,λr=>?_⟩,D.top⟩;refine r.closed (S:=(·∈f)) (λa x ha hx k hk=>?_) (D.has.elim id λz=>bR z λ_ q=>(nomatch q));refine mm (CL ha) λp s u=>?_;subst u;exact ca.mpr (.inl (D.top p a s rfl x hx k hk))
theorem uW{s s':List Nat}(h:∀a,a∈s↔a∈s'):bK E s=bK E s':=by
 unfold bK;exact congrArg _ (pv λa _=>decide_eq_decide.mpr (not_congr (h a)))
end
end
section
noncomputable abbrev C1(p:Nat×Bool):D:=.tup [.int (p.1:Nat),.bool p.2]
structure UR(H:aa)(fl wl ol:co):Prop where
 f0:H fl=none
 w0:H wl=none
 o0:H ol=none
 wf:wl≠fl
 ow:ol≠wl
 of_:ol≠fl
structure Cm(H:aa)(fl wl ol:co)(f:List Nat)(w:WL)(o:List Nat)(H':aa):Prop where
 le:H.le H'
 hf:H' fl=some (.list (nats f))
 hw:H' wl=some (.list (w.map C1))
 ho:H' ol=some (.list (nats o))
section
variable {X:Cx U}{m0:Nat}{H H1 H2:aa}{E:Eg}{ch:fX}{fl wl ol:co}{f o:List Nat}{w:WL}
theorem Cm.up(h:Cm H fl wl ol f w o H1)(hl:H1.le H2):Cm H fl wl ol f w o H2:=⟨h.le.trans hl,hl _ _ h.hf,hl _ _ h.hw,hl _ _ h.ho⟩
theorem Cm.ach(N:UR H fl wl ol)(h:Cm H fl wl ol f w o H1){z:List Nat}{c:ao}(e:c=.list (nats z)):Cm H fl wl ol z w o (upd H1 fl c):=⟨bU h.le N.f0,e▸af _ _ _,(aj N.wf).trans h.hw,(aj N.of_).trans h.ho⟩
theorem Cm.NG(N:UR H fl wl ol)(h:Cm H fl wl ol f w o H1){w':WL}{c:ao}(e:c=.list (w'.map C1)):Cm H fl wl ol f w' o (upd H1 wl c):=⟨bU h.le N.w0,(aj N.wf.symm).trans h.hf,e▸af _ _ _,(aj N.ow).trans h.ho⟩
theorem Cm.SY(N:UR H fl wl ol)(h:Cm H fl wl ol f w o H1){o':List Nat}{c:ao}(e:c=.list (nats o')):Cm H fl wl ol f w o' (upd H1 ol c):=⟨bU h.le N.o0,(aj N.of_.symm).trans h.hf,(aj N.ow.symm).trans h.hw,e▸af _ _ _⟩
theorem Cn{l:List Nat}:∀d∈nats l,qo d:=λd z=>by
 obtain⟨i,_,rfl⟩:=lc.mp z;exact⟨_,rfl⟩
theorem xm.nats{a:co}{l:List Nat}{k:Nat}{Q:BQ}(h:H a=some (.list (nats l)))(q:∀r:Bool,(r=true↔k∈l)->Q r H):xm (.int (k:Nat)) (.ref a) H Q:=
 .list 1 qo .int (Mine.Tactic.nats l) (.inr ⟨a,rfl,.inl h⟩) Cn ⟨_,rfl⟩ (by decide) λr z=>q r (z.trans oh)
theorem i9.nats{a:co}{l:List Nat}{k:Nat}{Q:BQ}(h:H a=some (.list (nats l)))(q:∀r:Bool,(r=true↔k∉l)->Q r H):i9 (.int (k:Nat)) (.ref a) H Q:=
 .list 1 qo .int (Mine.Tactic.nats l) (.inr ⟨a,rfl,.inl h⟩) Cn ⟨_,rfl⟩ (by decide) λr z=>q r (z.trans (not_congr oh))
theorem JJ:(g9 w).length≤w.length:=by
 induction w with
 |nil=>exact ii _
 |cons p w ih=>rw[g9];split<;>simp<;>first|exact PZ ih|exact LK ih
theorem aci{w:WL}{ks:List D}{h:Nat}(h1:w.length≤28)(z:ks.length≤2):((w++[(h,true)]).map C1).length+ks.length≤1000000:=by
 rw[be,ci];show w.length+1+_≤_;exact YO z h1
noncomputable def wI(E:Eg)(ch:fX)(c:Nat)(H:aa)(fl wl ol:co)(n:Nat)(s:List Nat×WL×aa):Prop:=Cm H fl wl ol s.1 s.2.1 (g9 s.2.1) s.2.2/\uV ch c s.1 s.2.1/\n≤29/\s.2.1.length+4*bK E (s.1++g9 s.2.1)=n
noncomputable def wV(d:co)(c:Nat)(fl wl ol:co):ag:=[("chosen",.ref d),("c",.int c),("found",.ref fl),("waiting",.ref wl),("open_ones",.ref ol)]
section
variable {c h n:Nat}{b:Bool}
theorem gp.at_(G:Dg E ch)(hc:∃x,ae ch c=some x){a:Nat}(r:gp ch c a):∃x,ae ch a=some x:=r.closed (λa x _ hx k hk=>G.kid a x hx k hk) hc
theorem NH(K:dy E)(G:Dg E ch)(hc:∃x,ae ch c=some x)(u:wI E ch c H fl wl ol n (f,w,H1))(hw:w.map C1≠[]){P:Prop}
  (q:∀w' h b,w=w'++[(h,b)]->H1 wl=some (.list (w'.map C1++[C1 (h,b)]))->(w'.map C1).length≤1000000->w'.length≤28->(nats f).length≤ga->(g9 w).length≤29->(nats (g9 w)).length≤ga->P):P:=by
 refine Hw u λL D hn hm=>?_;obtain⟨w',⟨h,b⟩,rfl⟩:∃w' p,w=w'++[p]:=(xG w.dropLast _ ((iH (λq=>hw (by rw[q];rfl))).symm));have hl:(w'++[(h,b)]).length=w'.length+1:=ci;have j:f.length≤7:=cr (aq D.pY λa ha=>let⟨x,hx⟩:=gp.at_ G hc (D.rf a ha);(G.yU a x hx).1) (rW K);have z:=JJ (w:=w'++[(h,b)]);exact q w' h b rfl (L.hw.trans (by rw[lf];rfl)) (by rw[be];exact YQ hm hl hn) (YR hm hl hn) (sz (by rw[ax];exact qH j)) (YS hm hn z) (sz (by rw[ax];exact YT hm hn z))
theorem JK(D:uV ch c f (w++[(h,true)]))(hm:(w++[(h,true)]).length+4*bK E (f++g9 (w++[(h,true)]))=n){P:Prop}
  (q:nats (g9 (w++[(h,true)]))=((g9 (w++[(h,true)])).map λi:Nat=>(i:Int)).map Mine.Tactic.D.int->(h:Int)∈(g9 (w++[(h,true)])).map (λi:Nat=>(i:Int))->(((g9 (w++[(h,true)])).map λi:Nat=>(i:Int)).erase h).map Mine.Tactic.D.int=nats (g9 w)->w.length+4*bK E (f++[h]++g9 w)<n->P):P:=by
 have z:g9 (w++[(h,true)])=g9 w++[h]:=km;have u:h∉g9 w:=λq=>(Fk.mp (z▸D.UP)).2.2 h q h (.head _) rfl;have j:bK E (f++[h]++g9 w)=bK E (f++g9 (w++[(h,true)])):=uW λa=>by rw[z];simp only[ca,bn,or_assoc];exact or_congr xu TV
 refine q (by rw[li];rfl) (wS (by rw[z];simp)) ?_ (by rw[j,←hm,ci];exact mQ (bo _) _);rw[z,lf,List.erase_append_right _ λq=>?_]
 ·simp
 ·refine ah (lc.mp q) λi hi e=>?_;rw[Go e]at hi;exact u hi
theorem NI(K:dy E)(G:Dg E ch)(hc:∃x,ae ch c=some x)(D:uV ch c f (w++[(h,false)]))(hm:(w++[(h,false)]).length+4*bK E (f++g9 (w++[(h,false)]))=n){P:Prop}
  (q:∀x,ae ch h=some x->(Mine.Tactic.D.str x.1::nats x.2).length≤ga->x.2.length≤ga->((x.2.filter λk=>decide (k∉f)).map λk:Nat=>Mine.Tactic.D.tup [.int k,.bool false]).length≤2->g9 (w++[(h,false)])=g9 w->w.length+4*bK E (f++g9 w)<n->
   (h∉f->(g9 (w++[(h,true)]++(x.2.filter λk=>decide (k∉f)).map λk=>(k,false))=g9 w++[h])/\uV ch c f (w++[(h,true)]++(x.2.filter λk=>decide (k∉f)).map λk=>(k,false))/\
    (w++[(h,true)]++(x.2.filter λk=>decide (k∉f)).map λk=>(k,false)).length+4*bK E (f++g9 (w++[(h,true)]++(x.2.filter λk=>decide (k∉f)).map λk=>(k,false)))<n)->P):P:=by
 have Z:g9 (w++[(h,false)])=g9 w:=km.trans (t3 _);obtain⟨x,hx⟩:=gp.at_ G hc (D.OV (h,false) (by simp));have Y:=G.yU h x hx;have u:=(K.kid h Y.1 x Y.2).1.2;have j:((x.2.filter λk=>decide (k∉f)).map λk:Nat=>Mine.Tactic.D.tup [.int k,.bool false]).length≤2:=by rw[be];exact cr (Uf _ _) u
 rw[ci,Z]at hm;refine q x hx (sz (by rw[io,ax];exact pO u)) (sz (t8 u)) j Z (by rw[←hm];exact mQ (bo _) _) λz=>?_;have⟨O,DD⟩:=D.SX G hx z;have N:=tS (E:=E) Y.1 (s:=f++g9 w) λq=>(ca.mp q).elim z (D.off G);refine⟨O,DD,?_⟩;rw[O,ci,ci,be,←aU,←hm];rw[be]at j;show w.length+1+_+_<w.length+1+_;exact YU N j
end
theorem oj{d:co}{c:Nat}{Q:DQ}(O:fh H d (.dI (jG ch)))(K:dy E)(G:Dg E ch)(hc:∃x,ae ch c=some x)(q:∀f,Ord ch c f->Q (.fl (nats f)) H):aY X (m0+1) 531 [.ref d,.int c] H Q:=by
 have z2:2≤sizeLine:=sz (ce rfl);have z1:1≤sizeLine:=sz (ce rfl);refine aY.fn rfl rfl (And.intro (np _) λfl hf=>And.intro z2 (And.intro z1 λwl hw=>And.intro (np _) λol ho=>?_));have h1:fl≠wl:=ne_sn (af _ _ _) hw;have h2:wl≠ol:=ne_sn (af _ _ _) ho;have h3:fl≠ol:=ne_sn ((aj h1).trans (af _ _ _)) ho;have N:UR H fl wl ol:=⟨hf,(aj h1.symm).symm.trans hw,(aj h3.symm).symm.trans ((aj h2.symm).symm.trans ho),h1.symm,h2.symm,h3.symm⟩;refine gM.st (λ_=>wV d c fl wl ol) (λs=>s.2.2) (wI E ch c H fl wl ol) _ ([],[(c,false)],upd (upd (upd H fl (.list [])) wl _) ol (.list [])) (oJ ⟨(aa.le.upd hf).trans ((aa.le.upd hw).trans (.upd ho)),(aj h3).trans ((aj h1).trans (af _ _ _)),(aj h2).trans (af _ _ _),af _ _ _⟩ (.start) (CE (Nat.mul_le_mul_left 4 (cr (Uf _ _) (rW K))) 1) rfl) λn s P z go=>?_;obtain⟨f,w,H1⟩:=s;refine And.intro (np _) λa ha=>IU.lists 1 qo .int (w.map C1) [] (.inr ⟨wl,rfl,.inl (aa.le.upd ha _ _ z.1.hw)⟩) (.inr ⟨a,rfl,.inl (af _ _ _)⟩) (λh d O=>?_) (λ_ h=>nomatch h) (by decide) λr j=>sQ (λe=>?_) λe=>?_
 ·rw[qG h]at O;cases O
 ·refine NH K G hc z (j.mp e) λw' h b ew kK hw9 Z zf o7 zo=>?_;subst ew;have u:=(z.1.up (aa.le.upd ha (c:=.list []))).NG N (w':=w') rfl;refine EU.list (w'.map C1) (C1 (h,b)) (aa.le.upd ha _ _ kK) hw9 (And.intro rfl (sQ (λ(eb:b=true)=>?_) λ(eb:b=false)=>?_))
  ·subst eb;refine JK z.2.1 z.2.2.2 λe2 hm e1 hn=>?_;have Y:=u.SY N (o':=g9 w') (congrArg ao.list e1);exact And.intro ⟨_,u.ho⟩ (Exists.intro _ (Exists.intro (h:Int) (And.intro rfl (And.intro hm (And.intro (e2▸u.ho) (And.intro (by rw[be];exact cr o7 (by decide)) (And.intro ⟨_,Y.hf⟩ (Exists.intro _ (And.intro Y.hf (And.intro zf (go _ (f++[h],w',_) hn trivial (.nx 5 rfl) (.refl _) (oJ (Y.ach N (congrArg ao.list (fH (m:=[h])))) z.2.1.back (cr (Os hn) z.2.2.1) rfl))))))))))))
  ·subst eb;refine NI K G hc z.2.1 z.2.2.2 λx hx zx zk S8 hb hn Ap=>?_;refine xm.nats u.ho λr j=>xn (Sc.mpr λq=>z.2.1.off G (hb▸j.mp q)) (i9.AJ (nc O u.le) (λ_ _=>i9.nats u.hf λr2 Jm=>sQ (λe2=>?_) λe2=>?_) λhn=>fg (hx.symm.trans hn))
   ·have hO:=Ap (Jm.mp e2);have Y:=u.SY N (o':=g9 w'++[h]) (c:=.list (nats (g9 (w'++[(h,false)]))++[.int h])) (by rw[hb,←fH];rfl);have L5:=Y.NG N (w':=w'++[(h,true)]) (c:=.list (w'.map C1++[.tup [.int h,.bool true]])) (by rw[lf];rfl);exact And.intro ⟨_,u.ho⟩ (Exists.intro _ (And.intro u.ho (And.intro zo (And.intro ⟨_,Y.hw⟩ (And.intro z2 (Exists.intro _ (And.intro Y.hw (And.intro (sz (by rw[be];exact YV Z)) (Ext.fl ⟨_,L5.hw⟩ (cy.AJ (nc O L5.le) hx (And.intro (FS 1 _) (And.intro zx (aG.seq (nats x.2) (.inr rfl) (aI.B1 (λ_ _ _ h=>h) (λ_=>aH rfl) (λk=>decide (k∉f)) (λk:Nat=>.tup [.int k,.bool false]) zk trivial (λk hk Qy Qn hy hn=>i9.nats L5.hf λr j=>sQ (λe=>And.intro z2 (hy (decide_eq_true (j.mp e)) _ (.refl _))) λe=>hn (decide_eq_false λq=>Sc.mp e (j.mpr q)) _ (.refl _)) (Exists.intro _ (Exists.intro _ (And.intro rfl (And.intro L5.hw (And.intro (aci Z S8) (go _ (f,w'++[(h,true)]++(x.2.filter λk=>decide (k∉f)).map λk=>(k,false),_) hO.2.2 trivial (.nx 5 rfl) (.refl _) (oJ (hO.1.symm▸L5.NG N (c:=.list ((w'++[(h,true)]).map C1++(x.2.filter λk=>decide (k∉f)).map λk:Nat=>Mine.Tactic.D.tup [.int k,.bool false])) (by rw[lf (l₁:=w'++_),li];rfl)) hO.2.1 (cr (Os hO.2.2) z.2.2.1) rfl)))))))))))))))))))))
   ·exact go _ (f,w',_) hn trivial (.nx 5 rfl) (.refl _) (oJ (hb▸u) (z.2.1.skip (cJ λq=>Sc.mp e2 (Jm.mpr q))) (cr (Os hn) z.2.2.1) rfl)
 ·have hw:w=[]:=cv.mp (cJ λq=>Sc.mp e (j.mpr q));subst hw;exact .list (aa.le.upd ha _ _ z.1.hf) (.less (λb d q=>(uf (ne_sn q N.f0)).trans (aa.le.upd ha _ _ (z.1.le _ _ q))) (.here (q f z.2.1.fin)))
end
end
section
noncomputable abbrev rY(l:List Tm):List (D×D):=l.map λt=>(gX t,.bool true)
theorem AN(l:List Tm)(k:Tm):∃z,jM (rY l) (gX k) (.bool true)=rY z/\(∀s,s∈z↔s∈l∨s=k)/\(l.Nodup->z.Nodup):=by
 letI:=dD
 have hi:((rY l).any λp=>decide (p.1=gX k))=true↔k∈l:=by
  rw[fy];exact⟨λj=>ah j λp h e=>let⟨t,h,q⟩:=lc.mp h;Jv ((congrArg (·.1) q).trans (of_decide_eq_true e))▸h,λh=>⟨_,wS h,decide_eq_true rfl⟩⟩
 unfold jM dput;by_cases h:k∈l
 ·rw[if_pos (hi.mpr h)];refine⟨l,?_,λs=>⟨.inl,λq=>q.elim id λe=>e▸h⟩,id⟩;rw[li];refine wT λt _=>?_;refine(?_:(if gX t=gX k then _ else _)=_);split<;>rfl
 ·rw[if_neg λq=>h (hi.mp q)];refine(cY (l++[k]) ((lf (l₂:=[k])).symm) (λs=>by rw[ca,bn]) (λnd=>Fk.mpr ⟨nd,Db.mpr ⟨λh=>(nomatch h),.nil⟩,λa ha b u e=>h (by rw[←bn.mp u,←e];exact ha)⟩))
theorem w5:∀(m l:List Tm),∃z,mC (rY l) (rY m)=rY z/\(∀s,s∈z↔s∈l∨s∈m)/\(l.Nodup->z.Nodup)
 |[],l=>(cY l rfl (λs=>⟨.inl,λq=>q.elim id λq=>(nomatch q)⟩) id)
 |k::m,l=>by
  refine cut λPP N=>?_;refine bt (AN l k) λO e1 Z j=>?_;refine bt (w5 m O) λl2 e2 Y u=>?_;refine N ?_;refine(cY l2 ?_ (λs=>?_) (λh=>u (j h)))
  ·show mC (jM (rY l) (gX k) (.bool true)) (rY m)=_;rw[e1,e2]
  ·rw[Y,Z,em,or_assoc]
theorem tmP:∀(t:Tm){n:Nat},t.dep<n->iN n (gX t):=λt=>Tm.ind (P:=λt=>∀{n:Nat},t.dep<n->iN n (gX t)) (λt ih n h=>by
 obtain⟨n,rfl⟩:∃m,n=m+1:=⟨n-1,YW h⟩;rw[lC];refine .mk λx hx=>?_;refine ah (lc.mp hx) λk hk z=>?_;subst z;exact ih k hk (by have:=Tm.gY hk;exact YX this h)) t
theorem w6(t:Tm):(subs t).length=t.sz:=by
 induction t with
 |leaf o=>rfl
 |un o a ih=>simp[lY,tN,pb,kh,rM,m9,ih]
 |bin o a b u z=>simp[lY,tN,pb,kh,rM,m9,u,z]
section
variable {X:Cx U}{m0:Nat}
noncomputable def pcV(t:D)(f:co):ag:=[("tree",t),("found",.ref f)]
noncomputable def GU(t:Tm)(H:aa)(f:co)(rs:List Tm)(s:List Tm×aa):Prop:=∃z,t.kids=z++rs/\H.le s.2/\s.2 f=some (.dT false (rY s.1))/\s.1.Nodup/\∀u,u∈s.1↔u=t∨∃k∈z,u∈subs k
section
variable {t k:Tm}{H:aa}{f:co}{rs:List Tm}{s:List Tm×aa}
theorem pc_255{l:List Tm}{u:Tm}(z:u.dep≤7)(h1:l.Nodup)(j:∀s∈l,s∈subs u):l.length≤255:=by
 haveI:=TD Tm
 exact cr (aq h1 j) (by rw[w6];exact Tm.wL z)
theorem GU.mem(h:GU t H f (k::rs) s):k∈t.kids:=vA h λz e _ _ _ _=>e▸on z (.head _)
theorem GU.at_(h:GU t H f rs s):H.le s.2/\s.2 f=some (.dT false (rY s.1)):=vA h λu _ h1 z _ _=>⟨h1,z⟩
theorem GU.next(h:GU t H f (k::rs) s)(hf:H f=none)(Y:t.dep≤7){o:co}{m:List Tm}{H2:aa}(ve:s.2.le H2)(h0:s.2 o=none)(SR:m.Nodup)(N:∀s,s∈m↔s∈subs k){P:Prop}
  (q:o≠f->(rY s.1≠[])->(rY s.1).length+(rY m).length≤1000000->∀l,GU t H f rs (l,upd H2 f (.dT false (mC (rY s.1) (rY m))))->P):P:=by
 have UD:=Tm.gY h.mem;refine vA h λO j h1 z nd hm=>?_;refine bt (w5 m s.1) λl3 e3 m3 n3=>?_;have Z:t∈s.1:=(hm t).mpr (.inl rfl);have b1:=pc_255 Y nd λs hs=>((hm s).mp hs).elim (λe=>e▸sub_self t) λjs=>ah js λk' h1 z=>by rw[gm];exact .tail _ (cT.mpr ⟨k',by rw[j];exact ca.mpr (.inl h1),z⟩)
 have b2:=pc_255 (LJ UD Y) SR λs hs=>(N s).mp hs;refine q (ne_sn z h0).symm (λe=>?_) (by rw[be,be];exact YY b1 b2) l3 (Z' (O++[k]) (j.trans (bO O k rs)) (bU (h1.trans ve) hf) ((af _ _ _).trans (congrArg (λx=>some (ao.dT false x)) e3)) (n3 nd) (λu=>?_))
 ·rw[cv.mp e]at Z;cases Z
 ·rw[m3,hm,N];refine⟨λh=>h.elim (λh=>h.imp_right λ⟨k',h1,z⟩=>(ak k' (ca.mpr (.inl h1)) z)) λh=>.inr ⟨k,by simp,h⟩,λh=>h.elim (λh=>.inl (.inl h)) λqQ=>ah qQ λk' h1 z=>(ca.mp h1).elim (λh1=>.inl (.inr ⟨k',h1,z⟩)) λh1=>.inr (bn.mp h1▸z)⟩
theorem GU.fin(h:GU t H f [] s):s.1.Nodup/\∀u,u∈s.1↔u∈subs t:=by
 refine vA h λj z _ _ nd hm=>?_;rw[t3]at z;exact⟨nd,λu=>by rw[hm,gm,em,cT,z]⟩
end
theorem w7{n:Nat}{t:Tm}{H:aa}{Q:DQ}(Y:t.dep≤7)(ih:∀k∈t.kids,∀(H:aa)(Q:DQ),(∀a l H',H.le H'->H' a=some (.dT false (rY l))->H a=none->l.Nodup->(∀s,s∈l↔s∈subs k)->Q (.ref a) H')->aY X n 543 [gX k] H Q)
  (q:∀a l H',H.le H'->H' a=some (.dT false (rY l))->H a=none->l.Nodup->(∀s,s∈l↔s∈subs t)->Q (.ref a) H'):aY X (n+1) 543 [gX t] H Q:=by
 have z1:(D.str t.op::t.kids.map gX).length≤sizeLine:=sz (by rw[io,be];have:=t.rN;exact pO this);have hP:PN false (.tup (.str t.op::t.kids.map gX)):=by rw[←lC];exact tmP t (SL Y)
 refine bt (AN [] t) λl1 Z m1 N=>?_;rw[lC]at Z;rw[lC];refine aY.fn rfl rfl (Exists.intro (.dT false []) (And.intro (.dT false) λf hf=>iR.dT false [] (af _ _ _) hP (np _) (And.intro (FS 1 _) (And.intro z1 ?_))));refine aG.seq (t.kids.map gX) (.inr rfl) (iD.st gX (λ_=>pcV (.tup (.str t.op::t.kids.map gX)) f) (λs:List Tm×aa=>s.2) (GU t H f) t.kids (l1,upd (upd H f (.dT false [])) f (.dT false (jM [] (.tup (.str t.op::t.kids.map gX)) (.bool true)))) (λ_ _ _=>trivial) ⟨[],rfl,?_,(af _ _ _).trans (congrArg (λx=>some (ao.dT false x)) Z),N .nil,λs=>(m1 s).trans ⟨λq=>.inl (q.elim (λq=>(nomatch q)) id),λq=>.inr (q.elim id λE2=>ah E2 λ_ q _=>(nomatch q))⟩⟩ (λk rs s P z go=>?_) λs z=>.here (q f s.1 s.2 z.at_.1 z.at_.2 hf z.fin.1 z.fin.2))
 ·exact d0.symm▸.upd hf
 ·exact Exists.intro false (Exists.intro _ (And.intro (.inl z.at_.2) (ih k z.mem _ _ λo m H2 j h2 h0 SR KH=>z.next hf Y j h0 SR KH λu cj hz l O=>Exists.intro o (Exists.intro _ (Exists.intro _ (And.intro rfl (And.intro u (And.intro (j _ _ z.at_.2) (And.intro (.inl h2) (And.intro cj (And.intro hz (go _ trivial (.nx 2 rfl) (.refl _) O))))))))))))
theorem yZ(t:Tm):∀(m0:Nat)(H:aa)(Q:DQ),t.dep≤7->(∀a l H',H.le H'->H' a=some (.dT false (rY l))->H a=none->l.Nodup->(∀s,s∈l↔s∈subs t)->Q (.ref a) H')->aY X (m0+t.dep+1) 543 [gX t] H Q:=
 Tm.ind (P:=λt=>∀(m0:Nat)(H:aa)(Q:DQ),t.dep≤7->(∀a l H',H.le H'->H' a=some (.dT false (rY l))->H a=none->l.Nodup->(∀s,s∈l↔s∈subs t)->Q (.ref a) H')->aY X (m0+t.dep+1) 543 [gX t] H Q)
  (λt ih m0 H Q z q=>w7 z (λk hk H Q q=>(ih k hk 0 H Q (by have:=Tm.gY hk;exact LJ this z) q).mono (by have:=Tm.gY hk;exact PX this)) q) t
end
end
section
section
variable {E:Eg}{pr:lm->Int}{ch:fX}{r c:Nat}{f:List Nat}{rk:oB}
noncomputable def uX(ch:fX)(c:Nat):Nd:=(ae ch c).getD ("",[])
theorem uY{x:Nd}(h:ae ch c=some x):uX ch c=x:=by unfold uX;rw[h];rfl
theorem yV.dg{p:Int×fX}(h:yV pr E r p):Dg E p.2/\(∃x,ae p.2 r=some x)/\(∀a,a∈p.2.map (·.1)↔gp p.2 r a)/\p.1=(p.2.map λq=>pr q.2.1).sum:=by
 obtain⟨w,u⟩:=p;refine cut λY j=>?_;obtain⟨⟨e,h,hw,rfl,h1⟩,_⟩:=h;have out:∀{k:Nat}{P:Prop},k∈e.ws∨P->P:=λq=>q.elim (λq=>by rw[hw]at q;cases q) id;have z:=out h.root;have kid:=λa x e k hk=>out (h.kid a x e k hk);refine j ?_;refine(oJ ⟨h.yU,h.knd,kid,h.OT⟩ z (λa=>?_) (h1.symm.trans h.cost));rw[←aN,pt];exact⟨λq=>h.OS a (.inr q),λq=>q.closed (S:=λa=>∃x,ae e.ch a=some x) (λa x _ hx k hk=>kid a x hx k hk) z⟩
theorem Ord.val(O:Ord ch c f)(G:Dg E ch)(hc:∃x,ae ch c=some x):Val E c (uX ch) (λa=>f.idxOf a) f:=by
 refine⟨(O.mem c).mpr (.refl c),O.nd,λa ha=>?_⟩;obtain⟨x,hx⟩:=((O.mem a).mp ha).closed (S:=λa=>∃x,ae ch a=some x) (λa x _ hx k hk=>G.kid a x hx k hk) hc;refine(uY hx)▸?_;refine dv (G.yU a x hx) λh1 u=>?_;refine⟨h1,u,λk hk=>?_⟩;refine mm (CL ha) λp s e=>?_;have hp:=O.top p a s e x hx k hk;have z:a∉p:=λq=>(Fk.mp (e▸O.nd)).2.2 a q a (.head _) rfl;refine⟨e▸ca.mpr (.inl hp),?_⟩;show f.idxOf k<f.idxOf a;rw[e,Dd,Dd,if_pos hp,if_neg z];exact xL (List.idxOf_lt_length_iff.mpr hp) (FS _ _)
structure Wr(pr:lm->Int)(ch:fX)(dn:List Nat)(ws:List (Nat×Int)):Prop where
 keys:ws.map (·.1)=dn
 val:∀c v,ae ws c=some v->0≤v/\v+4≤4*2^dn.length/\∀x,ae ch c=some x->v=pr x.1+(x.2.map λk=>(ae ws k).getD 0).sum
 has:∀c x,(ae ws c).isSome=true->ae ch c=some x->∀k∈x.2,(ae ws k).isSome=true
theorem Wr.nil:Wr pr ch [] []:=⟨rfl,λ_ _ h=>(nomatch h),λ_ _ h=>(nomatch h)⟩
theorem JL{g:Nat->Int}{b:Int}{l:List Nat}(z:0≤b)(h:∀k∈l,0≤g k/\g k≤b)(hl:l.length≤2):0≤(l.map g).sum/\(l.map g).sum≤2*b:=by
 have⟨h1,j⟩:=oZ h;have u:(l.length:Int)*b≤2*b:=qF (zm rfl rfl hl) z;exact⟨h1,SC j u⟩
set_option tactic.hygienic true in
theorem Wr.snoc{z:List Nat}{ws:List (Nat×Int)}{x:Nd}(hp:wQ pr)(h:Wr pr ch z ws)(hc:c∉z)(hx:ae ch c=some x)(hk:∀k∈x.2,k∈z)(h2:x.2.length≤2):
  (∀k∈x.2,0≤(ae ws k).getD 0)/\(x.2.map λk=>(ae ws k).getD 0).sum≤8*2^z.length/\Wr pr ch (z++[c]) (aK ws c (pr x.1+(x.2.map λk=>(ae ws k).getD 0).sum)):=by
 have Y:∀k,k∈z->∃v,ae ws k=some v:=λk hk=>pt.mp (aN.mpr (h.keys▸hk:k∈ws.map (·.1)));have N:ae ws c=none:=by
  cases e:ae ws c with
  |none=>rfl
  |some v=>exact absurd (h.keys▸aN.mp (by rw[e];rfl)) hc
 have u:∀{k:Nat}{w:Int},(ae ws k).isSome=true->ae (aK ws c w) k=ae ws k:=λq=>by
  rw[av,if_neg λe=>by rw[←e,N]at q;cases q]
 have hb:∀k∈x.2,0≤(ae ws k).getD 0/\(ae ws k).getD 0≤4*2^z.length-4:=λk q=>by
  refine bR (Y k (hk k q)) λv hv=>?_;have:=h.val k v hv;refine hv▸?_;show 0≤v/\v≤_;lia
 have Z:(1:Int)≤2^z.length:=by exact_mod_cast (jm:1≤2^z.length)
 have⟨s1,O⟩:=JL (YZ Z) hb h2;have j:=hp x.1;have he:(2:Int)^(z++[c]).length=2*2^z.length:=by rw[ci,pp,Pd,Int.mul_comm]
 refine⟨λk q=>(hb k q).1,Y0 O,by rw[fG N,lf,h.keys];rfl,λd v e=>?_,λd y e hy k q=>?_⟩
 ·rw[av]at e;split at e
  ·rename_i q;subst q;cases e;refine⟨Y1 s1 j,by rw[he];exact Y2 j O,λy hy=>?_⟩;rw[hx]at hy;cases hy;exact congrArg (pr x.1+·) (congrArg _ (wT λk q=>by rw[u (by obtain⟨v,hv⟩:=Y k (hk k q);rw[hv];rfl)]))
  ·refine ml (h.val d v e) λa1 a2 a3=>?_;refine⟨a1,by rw[he];exact Y3 a1 a2,λy hy=>?_⟩;rw[a3 y hy];exact congrArg (pr y.1+·) (congrArg _ (wT λk q=>by rw[u (h.has d y (by rw[e];rfl) hy k q)]))
 ·by_cases hd:c=d
  ·subst hd;rw[hx]at hy;cases hy;obtain⟨v,hv⟩:=Y k (hk k q);rw[u (by rw[hv];rfl),hv];rfl
  ·rw[av,if_neg hd]at e;have:=h.has d y e hy k q;rw[u this];exact this
theorem least_le{ws:List (Nat×Int)}(F:Fin pr E rk)(W:Wr pr ch f ws)(O:Ord ch c f)(G:Dg E ch)(hc:∃x,ae ch c=some x):∀a∈f,∀t,ae rk a=some t->ay pr t≤(ae ws a).getD 0:=by
 have V:=O.val G hc;have:∀n a,a∈f->f.idxOf a=n->∀t,ae rk a=some t->ay pr t≤(ae ws a).getD 0:=λn=>by
  induction n using iL with
  |_ n ih=>
   intro a ha hn t ht;have⟨h1,Z,q⟩:=V.ok a ha;obtain⟨x,hx⟩:=((O.mem a).mp ha).closed (S:=λa=>∃x,ae ch a=some x) (λa x _ hx k hk=>G.kid a x hx k hk) hc;rw[uY hx]at Z q;obtain⟨v,hv⟩:=pt.mp (aN.mpr (W.keys▸ha:a∈ws.map (·.1)));have e:=(W.val a v hv).2.2 x hx;rw[hv,show(some v).getD 0=v from rfl,e];refine SC (F.le a h1 x Z t ht) (nB ?_ _);have N:∀ks:List Nat,(∀k∈ks,k∈x.2)->((gn rk ks).map (ay pr)).sum≤(ks.map λk=>(ae ws k).getD 0).sum:=λks=>by
    induction ks with
    |nil=>intro _;exact bq _
    |cons k ks z=>
     intro h;have hk:=h k (.head _);obtain⟨u,Y⟩:=F.all k ((V.ok k (q k hk).1).1);unfold gn at z⊢;rw[jY Y,jp,jp,sK,sK];exact Int.add_le_add (ih _ (hn▸(q k hk).2) k (q k hk).1 rfl u Y) (z λj hj=>h j (.tail _ hj))
   exact N x.2 λk hk=>hk
 exactλa ha=>this _ a ha rfl
theorem Co{s k:Tm}(t:Tm):s∈subs t->k∈subs s->k∈subs t:=Tm.ind (P:=λt=>s∈subs t->k∈subs s->k∈subs t) (λt ih hs hk=>by
 rw[gm]at hs;rcases em.mp hs with rfl|hs
 ·exact hk
 ·refine ah (cT.mp hs) λj hj hs=>?_;rw[gm];exact .tail _ (cT.mpr (ak j hj (ih j hj hs hk)))) t
theorem y0(t:Tm):ay pr t=((subs t).map λs=>pr s.op).sum:=by
 induction t with
 |leaf o=>simp[gk,lD,iW,lY,tN,pb,Tm.op]
 |un o a ih=>simp only[gk,lD,iW,lY,tN,pb,jp,sK,ih];rfl
 |bin o a b u z=>simp only[gk,lD,iW,lY,tN,pb,jp,sK,lf,XV,u,z,vy];rfl
theorem JM(hp:wQ pr){t:Tm}{l:List Tm}(nd:l.Nodup)(hm:∀s,s∈l↔s∈subs t):(l.map λs=>pr s.op).sum≤ay pr t:=by
 haveI:=TD Tm
 rw[y0];exact qv (λa=>SC (by decide) (hp _).1) nd λs hs=>(hm s).mp hs
theorem pH{α β:Type}:∀{l:List α}{m:List β},l.length=m.length->∀a∈l,∃b,(a,b)∈l.zip m
 |a::l,c::m,hl,b,h=>by
  rcases em.mp h with rfl|h
  ·exact⟨c,.head _⟩
  ·obtain⟨d,z⟩:=pH (jU hl) b h;exact⟨d,.tail _ z⟩
theorem FX(hp:wQ pr)(K:dy E){t:Tm}{l:List Tm}(hr:r∈E.cls)(ht:Rep E r t)(nd:l.Nodup)(hm:∀s,s∈l↔s∈subs t){w:Int}(hw:∀γ ht S,Val E r γ ht S->w≤cst pr γ S):w≤(l.map λs=>pr s.op).sum:=by
 haveI:=TD Tm
 have Z:∀c,∃q:Tm×Nd,(∃s∈subs t,Rep E c s)->(q.1∈subs t/\Rep E c q.1/\∀s∈subs t,Rep E c s->q.1.dep≤s.dep)/\q.2∈E.fW c/\q.2.1=q.1.op/\∀k∈q.2.2,∃u∈q.1.kids,Rep E k u:=λc=>by
  by_cases h:∃s∈subs t,Rep E c s
  ·refine cut λPP kk=>?_;have low:∀n s,s∈subs t->Rep E c s->s.dep≤n->∃s∈subs t,Rep E c s/\∀s'∈subs t,Rep E c s'->s.dep≤s'.dep:=λn=>by
    induction n with
    |zero=>intro s h1 j h3;exact(cY s h1 j (λs' _ _=>cr h3 (np _)))
    |succ n ih=>
     intro s h1 j h3;by_cases q:∃s'∈subs t,Rep E c s'/\s'.dep≤n
     ·obtain⟨s',a,b,d⟩:=q;exact ih s' a b d
     ·exact(cY s h1 j (λs' a b=>fE λd=>q ⟨s',a,b,PY d h3⟩))
   refine ah h λs0 a0 b0=>?_;refine bt (low _ s0 a0 b0 (ii _)) λs a b d=>?_;refine pP (wN b) λx h1 j h3 h4=>?_;refine kk ?_;refine⟨(s,x),λ_=>(oJ ⟨a,b,d⟩ h1 j (λk hk=>?_))⟩;refine bR (pH h3 k hk) λu O=>?_;exact(ak _ ((eF O).2) (h4 _ O))
  ·exact⟨(t,("",[])),λq=>absurd q h⟩
 obtain⟨g,Y⟩:=aeI Z
 let S:=E.cls.filter λc=>@decide (∃s∈subs t,Rep E c s) (a7 _)
 have z:∀{a},a∈S↔a∈E.cls/\∃s∈subs t,Rep E a s:=bH.trans (and_congr_right λ_=>@decide_eq_true_iff _ (a7 _));have V:Val E r (λc=>(g c).2) (λc=>(g c).1.dep) S:=by
  refine⟨z.mpr ⟨hr,t,sub_self t,ht⟩,K.UG.filter _,λa ha=>?_⟩;refine cut λPP kk=>?_;obtain⟨h1,j⟩:=z.mp ha;refine Hw (Y a j) λjq q4 q5 q6=>?_;obtain⟨q1,q2,q3⟩:=jq;refine kk ?_;refine⟨h1,q4,λk hk=>?_⟩;refine ah (q6 k hk) λu O hr=>?_;have NJ:u∈subs t:=Co t q1 (by rw[gm];exact .tail _ (cT.mpr ⟨u,O,sub_self u⟩));have N:=z.mpr ⟨(K.kid a h1 _ q4).2 k hk,u,NJ,hr⟩;exact⟨N,FB ((Y k (z.mp N).2).1.2.2 u NJ hr) (Tm.gY O)⟩
 refine SC (hw _ _ _ V) ?_;have e:cst pr (λc=>(g c).2) S=((S.map λc=>(g c).1).map λs=>pr s.op).sum:=by
  rw[li];exact congrArg _ (wT λc hc=>congrArg pr (Y c (z.mp hc).2).2.2.1)
 rw[e];refine qv (λa=>SC (by decide) (hp _).1) (aV.mpr (iA (λ{a b} ha hb cj q=>cj ?_) V.nd)) λs hs=>?_
 ·refine ah (lc.mp hs) λc hc js=>?_;subst js;exact(hm _).mpr (Y c (z.mp hc).2).1.1
 ·have h1:=Y a (z.mp ha).2;have j:=Y b (z.mp hb).2;exact rV K _ a (z.mp ha).1 b (z.mp hb).1 h1.1.2.1 (by rw[show(g a).1=(g b).1 from q];exact j.1.2.1)
end
end
section
theorem pI{α:Type}[DecidableEq α]:∀{ds z:List α},ds.Nodup->(∀y∈ds,y∈z)->z.length=ds.length->z.Perm ds
 |[],z,_,_,h=>by rw[qG h]
 |a::ds,z,nd,hs,h=>by
  have⟨h1,j⟩:=Db.mp nd;have hm:=hs a (.head _);refine(zp hm).trans (.cons a (pI j (λb u=>(mA λe=>h1 (by rw[←e];exact u)).mpr (hs b (.tail _ u))) ?_));rw[u' hm,h];rfl
theorem tU{K:Type}[DecidableEq K]{ps:List (K×D)}:∀{es:List (K×D)},((es++ps).map (·.1)).Nodup->kC es ps=es++ps:=by
 induction ps with
 |nil=>intro es _;exact(t3 _).symm
 |cons p ps ih=>
  intro es nd;have e:dput es p.1 p.2=es++[p]:=by
   unfold dput;rw[if_neg λq=>?_];refine ah (fy.mp q) λx hx e=>?_;rw[lf,jp]at nd;exact(Fk.mp nd).2.2 _ (wS hx) p.1 (.head _) (of_decide_eq_true e)
  refine(?_:kC (dput es p.1 p.2) ps=_);rw[e,ih (by simpa using nd)];simp
section
variable {E:Eg}{pr:lm->Int}{ch:fX}{r:Nat}{f:List Nat}{ws:List (Nat×Int)}
theorem gp.end_{a b:Nat}(h:gp ch a b):b=a∨∃p∈ch,b∈p.2.2:=by
 induction h with
 |refl=>exact .inl rfl
 |step h hk _ ih=>exact .inr (ih.elim (λe=>(ak _ (lS h) (e▸hk))) id)
theorem FY(O:Ord ch r f)(G:Dg E ch)(hk:∀a,a∈ch.map (·.1)↔gp ch r a):f.Perm (ch.map (·.1)):=(jc O.nd G.knd).mpr λa=>(O.mem a).trans (hk a).symm
theorem JN(G:Dg E ch)(O:∃x,ae ch r=some x)(hk:∀a,a∈ch.map (·.1)↔gp ch r a)(W:Wr pr ch f ws)(hf:f.Perm (ch.map (·.1)))(nd:(ch.flatMap λp=>p.2.2).Nodup):(ch.map λp=>pr p.2.1).sum=(ae ws r).getD 0:=by
 have u:∀p∈ch,(ae ws p.1).getD 0=pr p.2.1+(p.2.2.map λk=>(ae ws k).getD 0).sum:=λp hp=>by
  refine bR (pt.mp (aN.mpr (W.keys▸hf.mem_iff.mpr (wS hp):p.1∈ws.map (·.1)))) λv hv=>?_;refine hv▸?_;exact(W.val _ v hv).2.2 _ (d3 G.knd hp)
 have j:∀l:fX,(∀p∈l,p∈ch)->((l.map (·.1)).map λk=>(ae ws k).getD 0).sum=(l.map λp=>pr p.2.1).sum+((l.flatMap λp=>p.2.2).map λk=>(ae ws k).getD 0).sum:=λl=>by
  induction l with
  |nil=>intro _;rfl
  |cons p l ih=>
   intro h;have h1:=u p (h p (.head _));have z:=ih λq hq=>h q (.tail _ hq);rw[jp,jp,jp,sK,sK,pw,lf,XV,z,h1];exact Y4
 have P:(ch.map (·.1)).Perm (r::ch.flatMap λp=>p.2.2):=by
  refine(jc G.knd (Db.mpr ⟨λq=>?_,nd⟩)).mpr λa=>⟨λq=>?_,λq=>(hk a).mpr ?_⟩
  ·refine cut λN Y=>?_;refine ah (cI.mp q) λp hp q=>?_;refine Y ?_;exact G.OT p.1 p.2 (d3 G.knd hp) r q ((hk _).mp (wS hp))
  ·exact((hk a).mp q).end_.elim (λe=>e▸.head _) λZ=>ah Z λp hp q=>.tail _ (cI.mpr (ak p hp q))
  ·rcases em.mp q with rfl|q
   ·exact .refl _
   ·refine ah (cI.mp q) λp hp q=>?_;exact((hk _).mp (wS hp)).trans (.step (d3 G.knd hp) q (.refl _))
 have h1:=j ch λ_ h=>h;have z:=rX (P.map λk=>(ae ws k).getD 0);rw[jp,sK]at z;exact Y5 h1 z
end
section
variable {X:Cx U}{H:aa}{Q:DQ}
theorem dM.S9{l:List Nat}(hz:l.length<64)(q:∀z:List Nat,z.Perm l->z.Pairwise (·≤·)->Q (.fl (Mine.Tactic.nats z)) H):dM X (.fl (Mine.Tactic.nats l)) H Q:=by
 refine .nums (l.map λi:Nat=>(i:Int)) (by rw[li];rfl) (by simpa using hz) λns hp hs=>?_;refine ah (tI hp) λz j u=>?_;subst j;rw[li];exact q z u ((aV.mp hs).imp λh=>xt.mp h)
theorem dM.Tc{a:co}{ch:fX}(h:fh H a (.dI (jG ch)))(nd:(ch.map (·.1)).Nodup)(h7:ch.length≤40)(q:∀l:List Nat,l.Perm (ch.map (·.1))->l.Pairwise (·≤·)->Q (.fl (Mine.Tactic.nats l)) H):dM X (.ref a) H Q:=by
 refine dM.Sb 8 qo _ gK.int .int (by decide) (Src.keys a _ rfl h (sz (by rw[be];exact Qa h7)) ?_);rw[show((jG ch).map λe=>D.int e.1)=Mine.Tactic.nats (ch.map (·.1)) by rw[li];exact(li (g:=λi:Nat=>D.int (i:Int)) (f:=λp:Nat×Nd=>p.1)).symm];refine(oJ Cn (lW (λa b e=>by injection e with e;exact Go e) nd) (by rw[ax,be];exact Qb h7) (λds hp hs=>?_));refine ah (o6 hp) λl z hl=>?_;subst z;refine q l hl ((aV.mp hs).imp λ{a b} h=>?_);have:(a:Int)<b:=of_decide_eq_true (db (eU.symm.trans h));exact Y6 this
theorem Cp{l m:List Nat}(h:l.Perm m)(hl:l.Pairwise (·≤·))(hm:m.Pairwise (·≤·)):l=m:=h.eq_of_pairwise (λ_ _ _ _=>cZ) hl hm
theorem JO{l m:fX}(h:l.Perm m)(hl:l.Pairwise λp q=>p.1<q.1)(hm:m.Pairwise λp q=>p.1<q.1):l=m:=h.eq_of_pairwise (λ_ _ _ _ h1 z=>absurd h1 (O' z)) hl hm
theorem aI.Td{α:Type}{W:Nm->WE}{T:Nm->WB}{nm:Nm}{ρ:ag}{t elt:lv}{sc:bB}{K:aa->Prop}{u:α->ag}{f:α->D}{l:List α}{ds:List D}(e:ds=l.map f)(Z:∀a∈l,∀P:ag->aa->Prop,P (u a) H->rH sc.names t (bS sc.names ρ) H (f a) P)(z:∀a,(bS sc.names ρ).le (u a))
  (g:α->D) (hz:l.length≤ga) (hK:K H) (step:∀a∈l,∀j:DQ,(∀Y,H.le Y->j (g a) Y)->W sc.names elt (u a) H j) (q:Q (.fl (l.map g)) H):aI W T nm ρ t elt [] sc K ds H Q:=e▸aI.map Z z g hz hK step q
theorem aI.Te{α:Type}{W:Nm->WE}{T:Nm->WB}{nm:Nm}{ρ:ag}{t elt c:lv}{sc:bB}{K:aa->Prop}{u:α->ag}{f:α->D}{l:List α}{ds:List D}(e:ds=l.map f)(O:∀a∈l,∀P:ag->aa->Prop,P (u a) H->rH sc.names t (bS sc.names ρ) H (f a) P)(j:∀a,(bS sc.names ρ).le (u a))
  (p:α->Bool) (g:α->D) (hz:l.length≤ga) (hK:K H) (step:∀a∈l,∀(Y:DQ)(Z:aa->Prop),(p a=true->∀z,H.le z->Y (g a) z)->(p a=false->∀z,H.le z->Z z)->T sc.names c (u a) H λok H2=>if ok then W sc.names elt (u a) H2 Y else Z H2) (q:Q (.fl ((l.filter p).map g)) H):aI W T nm ρ t elt [c] sc K ds H Q:=e▸aI.B1 O j p g hz hK step q
section
variable {α β γ:Type}{m:α->List β}{g:β->γ}{l d e:List α}{a:α}{b:β}{d2 e2:List β}
theorem FZ(h:l=d++a::e)(z:m a=d2++e2)(hz:(l.flatMap m).length≤ga):((d.flatMap m++d2).map g).length≤sizeLine:=by
 refine cr ?_ hz;rw[h,Bg,pw,z,be,←aU,←aU,aU (Ou m d++d2),ci (as:=Ou m d++d2)];exact br _ _
theorem y4:(d.flatMap m++[]).map g=(d.flatMap m).map g:=congrArg _ (t3 _)
theorem Cq:(d.flatMap m++(d2++[b])).map g=(d.flatMap m++d2).map g++[g b]:=by rw[←aU,lf];rfl
theorem F0(h:m a=d2):((d++[a]).flatMap m).map g=(d.flatMap m++d2).map g:=by rw[Bg,List.flatMap_singleton,h]
end
theorem n9.flat{α β:Type}{W:Nm->WE}{nm:Nm}{ρ:ag}{t1 O N elt:lv}{sc:bB}{K:aa->Prop}{u:α->ag}{Z:α->β->ag}{f:α->D}{f2:β->D}{l:List α}{ds:List D}(e:ds=l.map f)(hA:∀a∈l,∀P:ag->aa->Prop,P (u a) H->rH sc.names t1 (bS sc.names ρ) H (f a) P)(hle:∀a,(bS sc.names ρ).le (u a))
  (m:α->List β) (g:β->D) (hz:(l.flatMap m).length≤ga) (hK:K H) (src:∀a∈l,∀Q2:DQ,(∀d,d=.tup ((m a).map f2)->Q2 d H)->W sc.names N (u a) H Q2)
  (hA2:∀a∈l,∀b∈m a,∀P:ag->aa->Prop,P (Z a b) H->rH sc.names O (u a) H (f2 b) P) (Bl:∀a b,(u a).le (Z a b)) (step:∀a∈l,∀b∈m a,∀Qy:DQ,(∀Y,H.le Y->Qy (g b) Y)->W sc.names elt (Z a b) H Qy)
  (q:Q (.fl ((l.flatMap m).map g)) H):n9 W nm ρ t1 O N elt sc K ds H Q:=by
 subst e;refine n9.mk (lx f (λd:List α=>(d.flatMap m).map g) (λ_=>H) (λe d=>l=d++e)) (λ_ _ _=>lx.keep (M:=λ_=>K) λ_ _ _=>hK) (.of (s:=[]) rfl) (λx z A' H'=>lx.cons (M:=λx z A' H'=>rH sc.names t1 (bS sc.names ρ) H' x λu H1=>(bS sc.names ρ).le u/\W sc.names N u H1 λd2 H2=>aG O d2 H2 λK2 MY Y=>M5 W sc.names u O elt K2 MY A' Y (lx f (λd:List α=>(d.flatMap m).map g) (λ_=>H) (λe d=>l=d++e) z)) λa e d h=>hA a (fL h) _ ⟨hle a,src a (fL h) _ λd2 e2=>aG.seq ((m a).map f2) (.inr e2) ?_⟩) (λA' H'=>lx.nil (M:=λA H=>Q (.fl A) H) λd h=>h.trans (t3 d)▸q);exact M5.mk (lx f2 (λd2:List β=>(d.flatMap m++d2).map g) (λ_=>H) (λe2 d2=>m a=d2++e2)) (λ_ _ _=>lx.keep (M:=λ(A:List D) _=>True/\A.length≤ga) λe2 d2 j=>⟨trivial,FZ h j hz⟩) (y4▸.of (s:=[]) rfl)
  (λx z A' H'=>lx.cons (M:=λx z A' H'=>rH sc.names O (u a) H' x λZ H1=>(u a).le Z/\W sc.names elt Z H1 λy Y=>∃H4,H4.le Y/\lx f2 (λd2:List β=>(d.flatMap m++d2).map g) (λ_=>H) (λe2 d2=>m a=d2++e2) z (A'++[y]) H4) λb e2 d2 j=>hA2 a (fL h) b (fL j) _ ⟨Bl a b,step a (fL h) b (fL j) _ λY hl=>⟨_,hl,Cq▸.of (iU j)⟩⟩)
  (λA' H'=>lx.nil (M:=λA H'=>lx f (λd:List α=>(d.flatMap m).map g) (λ_=>H) (λe d=>l=d++e) (e.map f) A H') λd2 j=>F0 (j.trans (t3 d2))▸.of (iU h))
end
end
section
structure Pz(H:aa)(l:co)(lp:List (Nat×Int))(L:List (co×ao))(H':aa):Prop where
 le:aa.le (upd H l (.dI (mJ lp))) H'
 has:∀p∈L,fh H' p.1 p.2
 new:∀p∈L,H p.1=none
section
variable {H H1 H2:aa}{l:co}{lp lp2:List (Nat×Int)}{L:List (co×ao)}
theorem Pz.up(P:Pz H l lp L H1)(h:H1.le H2):Pz H l lp L H2:=⟨P.le.trans h,λp hp=>nc (P.has p hp) h,P.new⟩
theorem Pz.add{a:co}{c:ao}(P:Pz H l lp L H1)(h:H1 a=some c)(h0:H a=none):Pz H l lp ((a,c)::L) H1:=
 ⟨P.le,λp hp=>(em.mp hp).elim (λe=>e▸.inl h) (P.has p),λp hp=>(em.mp hp).elim (λe=>e▸h0) (P.new p)⟩
theorem Pz.note{c0:ao}(P:Pz H l lp L H1)(hl:H l=some c0):Pz H l lp2 L (upd H1 l (.dI (mJ lp2))):=by
 refine⟨λb d q=>?_,λp hp=>?_,P.new⟩
 ·by_cases e:b=l
  ·subst e;rw[af]at q⊢;exact q
  ·rw[aj e]at q⊢;exact P.le _ _ ((aj e).trans q)
 ·have z:p.1≠l:=λe=>by have:=P.new p hp;rw[e,hl]at this;cases this
  exact(P.has p hp).elim (λh=>.inl ((aj z).trans h)) λ⟨o,h⟩=>.inr ⟨o,(aj z).trans h⟩
theorem Pz.lock{a:co}{c:ao}{o:nh}(P:Pz H l lp L H1)(h:H1 a=some c)(hc:∀o c',c≠.ro o c')(h0:H a=none)(z:a≠l):Pz H l lp L (upd H1 a (.ro o c)):=by
 refine⟨bU P.le ((aj z).trans h0),λp hp=>?_,P.new⟩;by_cases e:p.1=a
 ·refine .inr ⟨o,?_⟩;rcases P.has p hp with q|⟨o',q⟩
  ·rw[e,h]at q;rw[e,af];cases q;rfl
  ·rw[e,h]at q;cases q;exact absurd rfl (hc _ _)
 ·exact(P.has p hp).elim (λh=>.inl ((aj e).trans h)) λ⟨o,h⟩=>.inr ⟨o,(aj e).trans h⟩
end
theorem F5{H:aa}{a b:co}{c:ao}(h:upd H a c b=none):b≠a/\H b=none:=
 have k:b≠a:=λe=>by rw[e,af]at h;cases h
 ⟨k,(aj k).symm.trans h⟩
theorem Pz.fresh{H H1:aa}{l a:co}{lp:List (Nat×Int)}{L:List (co×ao)}(P:Pz H l lp L H1)(h:H1 a=none):a≠l/\H a=none:=F5 (le_none P.le h)
theorem NK{α:Type}{g:α->Int}{l:List α}{n:Nat}(h:∀a∈l,1≤g a/\g a≤4)(hl:l.length≤1000):(∀n∈l.map g,0≤n)/\(l.map g).sum<2^62:=by
 have:=oZ (f:=g) (b:=4) (l:=l) λa ha=>⟨SC (by decide) (h a ha).1,(h a ha).2⟩;refine⟨λn hn=>?_,by lia⟩;obtain⟨a,ha,rfl⟩:=lc.mp hn;exact SC (by decide) (h a ha).1
theorem Le:∀{l:fX},(∀q∈l,q.2.2.length≤2)->(l.flatMap λq=>q.2.2).length≤2*l.length
 |[],_=>ii _
 |p::l,h=>by
  have:=Le λq hq=>h q (.tail _ hq);have:=h p (.head _);rw[pw,ci,io];exact Y7 this (by assumption)
theorem Cr{ds z:List D}(nd:ds.Nodup)(h:∀y∈ds,y∈z):ds.length≤z.length:=by
 letI:=dD
 exact aq nd h
theorem uZ{ds z:List D}(nd:ds.Nodup)(h:∀y∈ds,y∈z)(hl:z.length=ds.length):z.Nodup:=by
 letI:=dD
 exact(pI nd h hl).nodup_iff.mpr nd
theorem NL{x:Bool}{P Q:Prop}(h1:x=true->Q->P)(z:Q):if x=true then P else Q:=by
 cases x with
 |true=>exact h1 rfl z
 |false=>exact z
noncomputable def Tf(pr:lm->Int)(z:fX)(f rs:List Nat)(ws:List (Nat×Int)):Prop:=∃u,f=u++rs/\Wr pr z u ws
theorem JP{pr:lm->Int}{E:Eg}{z:fX}{r:Nat}{f rs:List Nat}{ws:List (Nat×Int)}{k:Nat}(hp:wQ pr)(hI:Tf pr z f (k::rs) ws)(O:Ord z r f)(hk:∀a,a∈z.map (·.1)↔gp z r a)(Gd:Dg E z)(K:dy E)(Th:f.length≤7){P:Prop}
  (q:∀y,ae z k=some y->(D.str y.1::nats y.2).length≤ga->y.2.length≤ga->(∀n∈y.2.map λj=>(ae ws j).getD 0,0≤n)->(y.2.map λj=>(ae ws j).getD 0).sum<2^62->(∀j∈y.2,eS (mJ ws) (j:Int)=some (.int ((ae ws j).getD 0)))->ws.length≤ga->
   Tf pr z f rs (aK ws k (pr y.1+(y.2.map λj=>(ae ws j).getD 0).sum))->P):P:=by
 obtain⟨Z,hf,W⟩:=hI;have N:k∈f:=by rw[hf];simp
 have hdn:k∉Z:=λq=>(Fk.mp (hf▸O.nd)).2.2 k q k (.head _) rfl;obtain⟨y,hy⟩:=pt.mp (aN.mpr ((hk k).mpr ((O.mem k).mp N)));have Y:=Gd.yU k y hy;have u:=(K.kid k Y.1 y Y.2).1.2;have Ti:=O.top Z k rs hf y hy;have hl:=congrArg d5 hf;rw[ci]at hl;have kK:=congrArg d5 W.keys;rw[be]at kK;obtain⟨v0,v1,W'⟩:=W.snoc hp hdn hy Ti u;have agC:(2:Int)^Z.length≤2^7:=by exact_mod_cast dk (n:=2) (by decide) (show Z.length≤7 by exact Y8 hl Th)
 refine q y hy (sz (by rw[io,ax];exact pO u)) (sz (t8 u)) (λn hn=>?_) (by lia) (λj hj=>?_) (sz (Y9 kK hl Th)) ⟨Z++[k],by rw[hf];simp,W'⟩
 ·obtain⟨j,hj,rfl⟩:=lc.mp hn;exact v0 j hj
 ·obtain⟨v,hv⟩:=pt.mp (aN.mpr (W.keys▸Ti j hj:j∈ws.map (·.1)));rw[FO,hv];rfl
theorem Tf.fin{pr:lm->Int}{z:fX}{f:List Nat}{ws:List (Nat×Int)}:Tf pr z f [] ws->Wr pr z f ws:=λ⟨u,hf,W⟩=>by rwa [hf,t3]
theorem NM{pr:lm->Int}{E:Eg}{ch:fX}{c:Nat}{f:List Nat}{p:Int×fX}(hp:wQ pr)(K:dy E)(j:Dg E ch)(hy:∃y,ae ch c=some y)(O:Ord ch c f)(hf:E.pY c=c)(Y:∀γ ht S,Val E (E.pY c) γ ht S->p.1≤cst pr γ S){P:Prop}
  (q:f.length≤ga->(∀n∈f.map λk=>pr (uX ch k).1,0≤n)->(f.map λk=>pr (uX ch k).1).sum<2^62->p.1≤(f.map λk=>pr (uX ch k).1).sum->(∀k∈f,ae ch k=some (uX ch k))->P):P:=by
 have V2:=O.val j hy;have u:f.length≤7:=cr (aq O.nd λa ha=>(V2.ok a ha).1) (rW K);obtain⟨v1,v2⟩:=NK (l:=f) (g:=λk=>pr (uX ch k).1) (n:=0) (λq _=>hp _) (qH u);refine q (sz (qH u)) v1 v2 (Y _ _ _ (hf.symm▸V2)) λk hk=>?_;obtain⟨z,hz⟩:∃z,ae ch k=some z:=((O.mem k).mp hk).closed (S:=λa=>∃x,ae ch a=some x) (λa x _ hx k hk=>j.kid a x hx k hk) hy;rw[uY hz,hz]
section
variable {X:Cx U}{m0:Nat}{H B:aa}{E:Eg}{cs:List (lm×Int)}{lp:List (Nat×Int)}
theorem F6{c:co}{x:Nd}{H:aa}(hc:fh H c (AH cs)){Q:DQ}(q:Q (.int (aC cs x.1)) H):∃(k:lm)(es:List (lm×D))(d:D),D.str x.1=.str k/\fh H c (.dS es)/\(eS es k).getD (.int 1)=d/\Q d H:=⟨_,_,_,rfl,hc,FI,q⟩
noncomputable def gA(A:gq)(a c l:co)(x:Nat)(w:Int)(z:fX):ag:=[("heap",aA A),("costs",.ref c),("dags",yR a (aA A) c 2000 l),("n",.int x),("whole",.int w),("rows",.tup (z.map uU))]
noncomputable def gB(A:gq)(a c l:co)(x:Nat)(w:Int)(z:fX)(d j u:co)(f:List Nat):ag:=[("heap",aA A),("costs",.ref c),("dags",yR a (aA A) c 2000 l),("n",.int x),("whole",.int w),("rows",.tup (z.map uU)),("chosen",.ref d),("trees",FJ j (aA A) c u),("order",.fl (nats f))]
noncomputable def gV(A:gq)(a c l:co)(x:Nat)(w:Int)(z:fX)(d j u:co)(f:List Nat)(wr:co):ag:=[("heap",aA A),("costs",.ref c),("dags",yR a (aA A) c 2000 l),("n",.int x),("whole",.int w),("rows",.tup (z.map uU)),("chosen",.ref d),("trees",FJ j (aA A) c u),("order",.fl (nats f)),("written",.ref wr)]
noncomputable def gW(A:gq)(a c l:co)(x:Nat)(w:Int)(z:fX)(d j u:co)(f:List Nat)(wr:co)(t:D)(m o:Int):ag:=[("heap",aA A),("costs",.ref c),("dags",yR a (aA A) c 2000 l),("n",.int x),("whole",.int w),("rows",.tup (z.map uU)),("chosen",.ref d),("trees",FJ j (aA A) c u),("order",.fl (nats f)),("written",.ref wr),("tree",t),("least",.int m),("once",.int o),("used",.fl (nats (z.flatMap λq=>q.2.2)))]
set_option maxHeartbeats 4000000 in
theorem rZ{a c l:co}{h:D}{x:Nat}{Q:DQ}(hp:wQ (aC cs))(hc:H c=some (AH cs))(nq:c≠l)(hl:H l=some (.dI (mJ lp)))(K:dy E)(G:Fy X h B E)(hB:B.le H)(yS:B l=none)(I:qu (aC cs) E lp)(hx:x<E.n)
  (q:∀vj,qu (aC cs) E vj->Q (.bool true) (upd H l (.dI (mJ vj)))):aY X (m0+15) 548 [h,.ref c,yR a h c 2000 l,.int x] H Q:=by
 have hG:=G;obtain⟨A,rfl⟩:=G.obj;have hr:=K.fl x hx;have z2:2≤sizeLine:=sz (ce rfl);refine aY.fn rfl rfl (AL hp hc nq hl K hG hB yS I hx λp JG I1 Fp NN=>And.intro rfl ?_);obtain⟨w,u⟩:=p;refine(?_:wpS _ _ _ _ _ _ (gA A a c l x w u) _ _);obtain⟨Gd,AO,F7,Lf⟩:=Fp.dg;have D':=Fp.srt;have knd:=Gd.knd;have Y:u.length≤7:=by
  have:=aq knd (r:=E.cls) λk hk=>let⟨y,hy⟩:=pt.mp (aN.mpr hk);(Gd.yU k y hy).1;rw[be]at this;exact cr this (rW K)
 have e1:((jG u).map λp=>D.tup [.int p.1,p.2])=u.map uU:=li;have e2:((jG u).map λp=>D.int p.1)=u.map λq:Nat×Nd=>.int (q.1:Nat):=li;have hdp:kC [] (jG u)=jG u:=tU (es:=[]) (by
  rw[kS,li];exact aV.mpr ((aV.mp knd).imp λh e=>h (Go e)))
 have zr:(u.map uU).length≤sizeLine:=sz (by rw[be];exact qH Y);have Tj:∀{m:fX},∀d∈m.map uU,Ck d:=λd hd=>by
  obtain⟨i,_,rfl⟩:=lc.mp hd;exact itS _
 have N:∀{vj:List (Nat×Int)}{L:List (co×ao)}{H':aa},Pz H l vj L H'->B.le H'/\H' c=some (AH cs):=λP=>⟨(bU hB yS).trans P.le,P.le _ _ ((aj nq).trans hc)⟩;have P1:Pz H l JG [] (upd H l (.dI (mJ JG))):=⟨.refl _,λ_ h=>(nomatch h),λ_ h=>(nomatch h)⟩;refine rG.ofI (jG u) (.inr (congrArg D.tup e1.symm)) (by rw[be];exact qH Y) λd hd1=>?_;obtain⟨IE,hd0⟩:=P1.fresh hd1;have hd2:upd (upd H l (.dI (mJ JG))) d (.dI (kC [] (jG u))) d=some (.dI (jG u)):=by rw[hdp];exact af _ _ _
 have P2:=(P1.up (aa.le.upd hd1 (c:=.dI (kC [] (jG u))))).add hd2 hd0;refine wX hp (N P2).2 K hG (N P2).1 λa2 rr rk H3 OP Jm SK hr3 I2 nr=>?_;have F:=Fin.of K I2 nr;have P3:=(P2.up SK).add hr3 (P2.fresh Jm).2;refine hG.find _ _ _ x (N P3).1 hx (oj (P3.has _ (.tail _ (.head _))) K Gd AO λf O=>?_);refine(?_:wpS _ _ _ _ _ _ (gB A a c l x w u d a2 rr f) _ _);have RA:=FY O Gd F7;have Th:f.length≤7:=by rw[RA.length_eq,be];exact Y
 refine dM.S9 (Y' Th) λl1 Ng OF=>dM.Tc (P3.has _ (.tail _ (.head _))) knd (LN Y) λl2 xl MT=>IU.lists 1 qo .int (nats l1) (nats l2) (.inl rfl) (.inl rfl) (λ_=>Cn) Cn (by decide) λr1 hr1=>xn (Sc.mpr λq=>hr1.mp q (congrArg nats (Cp ((Ng.trans RA).trans xl.symm) OF MT))) ?_;refine And.intro zr λa3 ha3=>Exists.intro (jG u) (And.intro ((P3.up (aa.le.upd ha3)).has _ (.tail _ (.head _))) λv hv=>?_);have P4:=(P3.up (aa.le.upd ha3 (c:=.list (u.map uU)))).up (aa.le.upd hv (c:=.raw (gS d)));have hd4:=aa.le.upd hv (c:=.raw (gS d)) _ _ (aa.le.upd ha3 (c:=.list (u.map uU)) _ _ (SK _ _ hd2));refine dM.items (af _ _ _) (P4.has _ (.tail _ (.head _))) knd (LN Y) λTn hp3 hs3=>IU.lists 8 Ck Ck.jF (u.map uU) (Tn.map uU) (.inr ⟨a3,rfl,.inl (aa.le.upd hv _ _ (af _ _ _))⟩) (.inl rfl) (λ_=>Tj) Tj (by decide) λr2 Jm=>xn (Sc.mpr λq=>Jm.mp q (by rw[JO hp3 hs3 D'])) ?_;generalize upd (upd H3 a3 _) v _=H4 at P4 hd4⊢;refine aG.ref d rfl (EZ.KR (jG u) hd4 λo=>?_);have P5:=P4.lock (o:=o) hd4 (λ_ _ e=>by cases e) hd0 IE;have zrw:u.length≤sizeLine:=sz (qH Y);have Z:∀q∈u,ae u q.1=some q.2:=λq hq=>d3 knd hq;refine aI.Te e2 (λ_ _ _ h=>h) (λ_=>aH rfl) (λ_=>false) (λq=>.int (q.1:Nat)) zrw (af _ _ _) (λq hq Qy Qn _ hn=>cy.AJ (P5.has _ (.tail _ (.head _))) (Z q hq) (hG.ab3 _ _ _ q.1 (N P5).1 (Gd.yU _ _ (Z q hq)).1 λll yH hm=>i9.list 9 CV CV.jF (ll.map d8) (.inl rfl) (λd hd=>?_) (UA _) (by decide) λr hr=>xn (Sc.mpr λe=>hr.mp e (wS ((hm _).mpr (Gd.yU _ _ (Z q hq)).2))) (hn rfl _ (.refl _)))) ?_
 ·obtain⟨i,_,rfl⟩:=lc.mp hd;exact UA _
 refine And.intro (np _) λa4 ha4=>IU.lists 1 qo .int ((u.filter λ_=>false).map λq=>.int (q.1:Nat)) [] (.inl rfl) (.inr ⟨a4,rfl,.inl (af _ _ _)⟩) (λ_ d hd=>by simp at hd) (λ_ h=>nomatch h) (by decide) λr3 hr3=>xn (Sc.mpr λq=>hr3.mp q (by simp)) ?_;have P6:=P5.up (aa.le.upd ha4 (c:=.list []));have OX:=aa.le.upd ha4 (c:=.list []) _ _ (af H4 d (.ro o (.dI (jG u))));generalize upd (upd H4 d _) a4 _=H6 at P6 OX⊢;have pr4:=λs:lm=>hp s;obtain⟨s1,s2⟩:=NK (l:=u) (g:=λq=>aC cs q.2.1) (n:=0) (λq _=>hp _) (qH Y);refine aG.ref d rfl (EZ.dI o (jG u) OX (aI.Td e2 (λ_ _ _ h=>h) (λ_=>aH rfl) (λq=>.int (aC cs q.2.1)) zrw OX (λq hq Qy hy=>And.intro ⟨_,.inl (N P6).2⟩ (cy.AJ (P6.has _ (.tail _ (.head _))) (Z q hq) (F6 (.inl (N P6).2) (hy _ (.refl _))))) ?_));refine Exists.intro _ (And.intro (congrArg D.fl li.symm) (And.intro s1 (And.intro s2 (xn ?_ ?_))))
 ·exact(congrArg (λz=>z !=(u.map λq=>aC cs q.2.1).sum) Lf).trans (by simp)
 refine Exists.intro (.dI []) (And.intro .dI λwr hw6=>?_);have⟨kK,hw0⟩:=P6.fresh hw6;have PW:∀ws,Pz H l JG _ (upd H6 wr (.dI (mJ ws))):=λws=>(P6.up (aa.le.upd hw6 (c:=.dI (mJ ws)))).add (af _ _ _) hw0;have SW:d≠wr:=ne_sn OX hw6;refine aG.seq (nats f) (.inl rfl) (iD.st (λn:Nat=>.int n) (λ_=>gV A a c l x w u d a2 rr f wr) (λws=>upd H6 wr (.dI (mJ ws))) (Tf (aC cs) u f) f [] (λ_ _ _=>trivial) ⟨[],rfl,.nil⟩ (λk rs ws P hI go=>?_) λws hI=>?_)
 ·refine JP hp hI O F7 Gd K Th λy hy zy zl v0 v1 hj hw sI=>?_;refine And.intro ⟨_,.inl (N (PW ws)).2⟩ (cy.AJ ((PW ws).has _ (.tail _ (.tail _ (.head _)))) hy (Exists.intro _ (Exists.intro _ (Exists.intro _ (And.intro rfl (And.intro (.inl (N (PW ws)).2) (And.intro FI (cy.AJ ((PW ws).has _ (.tail _ (.tail _ (.head _)))) hy (And.intro (FS 1 _) (And.intro zy ?_))))))))));exact aG.seq (nats y.2) (.inr rfl) (aI.map (λ_ _ _ h=>h) (λ_=>aH rfl) (λj:Nat=>.int ((ae ws j).getD 0)) zl trivial (λj Uq Qy EI=>cy.dI (mJ ws) _ _ rfl (.inl (af _ _ _)) (hj j Uq) (EI _ (.refl _))) (Exists.intro _ (And.intro (congrArg D.fl li.symm) (And.intro v0 (And.intro v1 (pX.mk _ rfl (eV.dI _ _ rfl (af _ _ _) (by rw[be];exact hw) (go _ trivial (.nx 10 rfl) (by rw[d0,Nz];exact .refl _) sI))))))))
 have W:=hI.fin;obtain⟨t,ht⟩:=F.all (E.pY x) hr;have htd:=I2.dep K ht;have hrt:=(I2.key _ t ht).2.1;refine JA ((PW ws).has _ (.tail _ (.head _))) hG (N (PW ws)).1 hx ht (Jz ((PW ws).has _ (.tail _ (.head _))) hG (N (PW ws)).1 hx ht ?_);refine aY.mono (yZ t 0 _ _ (cp htd) λpa pl H8 hl8 h8 h80 nd8 m8=>?_) (Za htd);have⟨OB,Ld⟩:=(PW ws).fresh h80;have P8:=(PW ws).up hl8;have e3:(rY pl).map (·.1)=pl.map Sy:=li.trans (wT λt _=>lC t);have F8:pl.length≤255:=by
  haveI:=TD Tm
  have:=aq nd8 λs hs=>(m8 s).mp hs;rw[w6]at this;exact cr this (Tm.wL (cp htd))
 obtain⟨u1,u2⟩:=NK (l:=pl) (g:=λt=>aC cs t.op) (n:=0) (λq _=>hp _) (Qc F8);refine aG.ref pa rfl (EZ.KS false (rY pl) h8 λo2=>?_);have P9:=P8.lock (o:=o2) h8 (λ_ _ e=>by cases e) Ld OB;have hd9:upd H8 pa (.ro o2 (.dT false (rY pl))) d=some (.ro o (.dI (jG u))):=(aj (ne_sn ((aj SW).trans OX) h80)).trans (hl8 _ _ ((aj SW).trans OX));generalize hH9:upd H8 pa (.ro o2 (.dT false (rY pl)))=H9 at P9 hd9⊢;refine aI.Td e3 (λ_ _ _ h=>h) (λ_=>aH rfl) (λt=>.int (aC cs t.op)) (sz (Qc F8)) (by rw[←hH9];exact af _ _ _) (λs hs Qy hy=>And.intro ⟨_,.inl (N P9).2⟩ (Exists.intro _ (Exists.intro _ (Exists.intro _ (And.intro rfl (And.intro (.inl (N P9).2) (And.intro FI (hy _ (.refl _))))))))) ?_;refine Exists.intro _ (And.intro (congrArg D.fl li.symm) (And.intro u1 (And.intro u2 ?_)));have m1:w≤(pl.map λs=>aC cs s.op).sum:=FX hp K hr hrt nd8 m8 NN;have m2:(pl.map λs=>aC cs s.op).sum≤ay (aC cs) t:=JM hp nd8 m8;have m3:=least_le F W O Gd AO (E.pY x) ((O.mem _).mpr (.refl _)) t ht;obtain⟨v,hv⟩:=pt.mp (aN.mpr (W.keys▸(O.mem _).mpr (.refl _):E.pY x∈ws.map (·.1)));have m4:=JN Gd AO F7 W RA;rw[hv]at m3 m4;have m3:ay (aC cs) t≤v:=m3;have hdg:eS (mJ ws) (E.pY x:Int)=some (.int v):=by rw[FO,hv];rfl
 refine Sm (decide_eq_true m1) (Sm (decide_eq_true m2) (hG.find _ _ _ x (N P9).1 hx (cy.dI (mJ ws) _ _ rfl (P9.has _ (.head _)) hdg (xn (by rw[decide_eq_true m3];rfl) ?_))));have hq2:∀q∈u,q.2.2.length≤2:=λq hq=>let k:=Gd.yU _ _ (Z q hq);(K.kid _ k.1 _ k.2).1.2;have NJ:=Le hq2;refine aG.ref d rfl (EZ.dI o (jG u) hd9 (n9.flat e2 (f2:=λk:Nat=>.int (k:Nat)) (λ_ _ _ h=>h) (λ_=>aH rfl) (λq=>q.2.2) (λk:Nat=>.int (k:Nat)) (sz (LO NJ Y)) hd9 (λq hq Q2 hQ=>cy.AJ (P9.has _ (.tail _ (.tail _ (.head _)))) (Z q hq) (And.intro (FS 1 _) (And.intro (sz (by rw[io,ax];have:=hq2 q hq;exact pO this)) (hQ _ rfl)))) (λ_ _ _ _ _ h=>h) (λ_ _=>aH rfl) (λq hq k hk Qy hy=>hy _ (.refl _)) ?_));refine g7.fl _ rfl (sz (by rw[be];exact LO NJ Y)) (n6.nums (nats (u.flatMap λq=>q.2.2)) rfl (by rw[ax];exact Zb NJ Y) Cn λs ds hs nd hm=>g7.set s ds rfl (af _ _ _) ?_ (NL (λe hq=>?_) ?_))
 ·exact sz (cr (Cr nd λy hy=>(hm y).mp hy) (by rw[ax];exact LO NJ Y))
 ·have Jr:(u.flatMap λq=>q.2.2).Nodup:=lU (uZ nd (λy hy=>(hm y).mp hy) (Go (eq_of_beq e)));have m5:w=v:=Lf.trans (m4 Jr);have m6:w=ay (aC cs) t:=Zc m5 m1 m2 m3;have m7:ay (aC cs) t=v:=Zd m6 m5;exact Sm (beq_iff_eq.mpr m6) (hG.find _ _ _ x (N (P9.up (.upd hs))).1 hx (cy.dI (mJ ws) _ _ rfl ((P9.up (.upd hs)).has _ (.head _)) hdg (xn (by rw[m7,beq_self_eq_true];rfl) hq)))
 have US:=P9.up (aa.le.upd hs (c:=.set ds));generalize upd H9 s _=H10 at US⊢;obtain⟨xr,hxr⟩:=AO;have OW:=Gd.yU _ _ hxr;have Sr:=(K.kid _ OW.1 _ OW.2);refine hG.find _ _ _ x (N US).1 hx (cy.AJ (US.has _ (.tail _ (.tail _ (.head _)))) hxr (And.intro (FS 1 _) (And.intro (sz (by rw[io,ax];have:=Sr.1.2;exact pO this)) ?_)));refine aG.seq (nats xr.2) (.inr rfl) (iD.st (λn:Nat=>.int n) (λ_=>gW A a c l x w u d a2 rr f wr (gX t) (ay (aC cs) t) (pl.map λs=>aC cs s.op).sum) (λs:aa×List (Nat×Int)=>s.1) (λrs s=>(∀k∈rs,k∈xr.2)/\qu (aC cs) E s.2/\Pz H l s.2 _ s.1) xr.2 (_,JG) (λ_ _ _=>trivial) ⟨λ_ h=>h,I1,US⟩ (λk rs s PP hI go=>?_) λs hI=>.less hI.2.2.le (.here (q s.2 hI.2.1)));have hkc:=Sr.2 k (hI.1 k (.head _));refine AL hp (N hI.2.2).2 nq (hI.2.2.le _ _ (af _ _ _)) K hG (N hI.2.2).1 yS hI.2.1 (K.fx k hkc).1 λp2 lp3 I3 Fp2 To=>?_;have P':=hI.2.2.note (lp2:=lp3) hl;have hy:=Gd.kid _ _ hxr k (hI.1 k (.head _));refine oj (P'.has _ (.tail _ (.tail _ (.head _)))) K Gd hy λf2 O2=>?_;refine NM hp K Gd hy O2 (K.fx k hkc).2 To λz v1 v2 hle hz=>?_;exact aG.seq (nats f2) (.inl rfl) (aI.map (λ_ _ _ h=>h) (λ_=>aH rfl) (λk:Nat=>.int (aC cs (uX u k).1)) z trivial (λk hk Qy hQ=>And.intro ⟨_,.inl (N P').2⟩ (cy.AJ (P'.has _ (.tail _ (.tail _ (.head _)))) (hz k hk) (F6 (.inl (N P').2) (hQ _ (.refl _))))) (Exists.intro _ (And.intro (congrArg D.fl li.symm) (And.intro v1 (And.intro v2 (xn (decide_eq_false (jh.mpr hle)) (go (_,lp3) trivial (.nx 14 rfl) (.refl _) ⟨λj hj=>hI.1 j (.tail _ hj),I3,P'⟩)))))))
end
end
section
inductive Lw(H:aa)(ns:List Int)(bx:co)(h:D)(t k n:Nat)(dr:Int)(H':aa):Prop
 |mk (R:aa) (A:gq) (σ:St) (j:Int) (eh:aA A=h) (hR:R bx=some (uL ns j)) (hp:Hp R H' A σ) (I:Ok σ t) (j1:-1≤j) (j2:j≤dr) (hn:σ.p.length=n) (hk:n≤k) (hT:T σ≤15*k) (sU:σ.kn.length≤k) (le:H.le R)
section
variable {X:Cx U}{m0:Nat}{H H':aa}{ns:List Int}{bx:co}{h:D}{t k n:Nat}{dr:Int}{Q:DQ}
theorem Lw.draw{m:Nat}(hb:H bx=none)(z:ns.length≤100)(L:Lw H ns bx h t k n dr H')(hd:dr≤1000)(hm:1≤m)(q:∀v:Nat,v<m->∀H2,Lw H ns bx h t k n (dr+1) H2->Q (.int v) H2):aY X (m0+1) 526 [.ref bx,.int m] H' Q:=by
 obtain⟨R,A,σ,j,eh,Z,hp,I,Y,u,hn,hk,hT,O,N⟩:=L;exact AE (hp.le _ _ Z) Y (SC u hd) hm z λv hv=>q v hv _ ⟨_,A,σ,j+1,eh,af _ _ _,hp.rest _ (.inl ⟨_,Z⟩),I,Int.le_add_one Y,(Int.add_le_add_iff_right 1).mpr u,hn,hk,hT,O,bU N hb⟩
theorem Lw.size(L:Lw H ns bx h t k n dr H')(q:Q (.int n) H'):aY X (m0+2) 409 [h] H' Q:=by
 obtain⟨R,A,σ,j,rfl,N,hp,I,Z,Y,rfl,hk,O,z,u⟩:=L;have:=I.n7;have nl:=I.nl;exact wD (hp.at_ .nodes _ rfl) (Ze nl this) (nl.symm▸q)
theorem Lw.obj(L:Lw H ns bx h t k n dr H'):∃A,h=aA A:=by
 obtain⟨R,A,σ,j,rfl,_⟩:=L;exact⟨A,rfl⟩
theorem Lw.add{op:lm}{ks:List Nat}(L:Lw H ns bx h 0 k n dr H')(Ap:op∈ops)(O:∀v∈ks,v<n)(h2:ks.length≤2)(h6:k≤6)(q:∀u i H2,1≤u->Lw H ns bx h 0 (k+1) u dr H2->Q (.int i) H2):aY X (m0+6) 419 [h,.str op,.fl (nats ks)] H' Q:=by
 obtain⟨R,A,σ,j,rfl,hR,hp,I,j1,j2,rfl,hk,Y,z,le⟩:=L;exact Fs hp I Ap (.inr rfl) O h2 (cr hk h6) (np 100) (Qd Y h6) (Qe h6 z) λA' H2 Z i e N I' a b c d f=>q Z.p.length i H2 b ⟨R,A',Z,j,e,hR,N,I',j1,j2,rfl,Df hk c,Qf Y d,Df z f,le⟩
theorem Lw.put{op:lm}(L:Lw H ns bx h 0 k n dr H')(Ap:op∈ops)(h6:k≤6)(q:∀u i H2,1≤u->Lw H ns bx h 0 (k+1) u dr H2->Q (.int i) H2):aY X (m0+7) 424 [h,.tup [.str op]] H' Q:=by
 obtain⟨R,A,σ,j,rfl,hR,hp,I,j1,j2,rfl,hk,Y,z,N⟩:=L;exact Nq hp I Ap (Zf h6 hk) (by simp) (Qd Y h6) (Qe h6 z) λA' H2 Z i e O I' a b c d f=>q Z.p.length i H2 b ⟨R,A',Z,j,e,hR,O,I',j1,j2,rfl,Df hk c,Qf Y d,Df z f,N⟩
theorem Lw.merge{a b:Nat}{r:D}(L:Lw H ns bx h t k n dr H')(ha:a<n)(hb:b<n)(ht:t≤100)(h7:k≤7)(q:∀d H2,Lw H ns bx h (t+1) k n dr H2->Q d H2):aY X (m0+5) 452 [h,.int a,.int b,r] H' Q:=by
 obtain⟨R,A,σ,j,rfl,hR,hp,I,N,O,rfl,hk,z,u,Z⟩:=L;exact B7 hp I ha hb ht (Zg z h7) λA' H2 fQ d e Y I' a b c f=>q d H2 ⟨R,A',fQ,j,e,hR,Y,I',N,O,b,hk,cr c z,by rw[f];exact u,Z⟩
structure Lb(H B:aa)(ns:List Int)(bx:co)(dr:Int)(H':aa):Prop where
 B:B.le H'
 le:H.le H'
 box:∃j,H' bx=some (uL ns j)/\-1≤j/\j≤dr
theorem Lw.settle(hb:H bx=none)(L:Lw H ns bx h t k n dr H')(ht:t≤100)(h7:k≤7)(q:∀B E H2,Fy X h B E->dy E->E.n=n->B bx=none->Lb H B ns bx dr H2->Q .none H2):aY X (m0+6) 466 [h] H' Q:=by
 obtain⟨R,A,σ,j,rfl,u,hp,I,j1,j2,rfl,hk,hT,O,N⟩:=L;refine B6 hp I ht (Zh hT h7 O) λA' H2 fQ e z Y a b c=>?_;have Z:Hp (λ_=>none) (rem H2 bx) A' fQ:=(z.del u).less (λ_ _ h=>nomatch h) (z.del u).at_ λ_ _ h=>nomatch h;exact q _ _ H2 (e▸SD Z Y) (Sz Y c) b (qX _ _) ⟨λb d h=>by
  unfold rem at h;split at h
  ·exact bE h
  ·exact h,N.trans z.le,j,z.le _ _ u,j1,j2⟩
theorem ok0:Ok So 0:=by
 have z:∀{P:Prop}{i:Nat},i<So.p.length->P:=λh=>absurd h (fZ _);exact⟨λ_ h=>z h,rfl,np _,λ_ _ h=>(nomatch h),rfl,rfl,λ_ h=>(nomatch h),rfl,λ_ _ h=>(nomatch h),rfl,λ_ h=>z h,λ_ h=>(nomatch h),λ_ h=>z h,.nil,ii _,ii _,λ_ _ h=>(nomatch h),λ_ _ h=>(nomatch h),λ_ h=>(nomatch h),λ_ _ h=>(nomatch h),λ_ h=>z h,rfl,rfl,ii _⟩
theorem Lw.start{A:gq}{R:aa}(z:H.le R)(u:R bx=some (uL ns (-1)))(hp:Hp R H' A So):Lw H ns bx (aA A) 0 0 0 (-1) H':=⟨R,A,So,-1,rfl,u,hp,ok0,bq _,bq _,rfl,ii _,ii _,ii _,z⟩
variable {B:aa}
theorem Lb.draw{m:Nat}(N:H bx=none)(hB:B bx=none)(z:ns.length≤100)(L:Lb H B ns bx dr H')(O:dr≤1000)(hm:1≤m)(q:∀v:Nat,v<m->∀c,Lb H B ns bx (dr+1) (upd H' bx c)->Q (.int v) (upd H' bx c)):aY X (m0+1) 526 [.ref bx,.int m] H' Q:=by
 refine cut λPP Z=>?_;refine bt L.box λj h Y u=>?_;refine Z ?_;exact AE h Y (Zi O u) hm z λv hv=>q v hv _ ⟨bU L.B hB,bU L.le N,j+1,af _ _ _,Zj Y,Zk u⟩
theorem Lb.upd{a:co}{c:ao}(L:Lb H B ns bx dr H')(h0:H a=none)(z:B a=none)(u:bx≠a):Lb H B ns bx dr (Mine.Tactic.upd H' a c):=⟨bU L.B z,bU L.le h0,let⟨j,h,k⟩:=L.box;⟨j,(aj u).trans h,k⟩⟩
theorem Lb.new{a:co}{c:ao}(L:Lb H B ns bx dr H')(h0:H' a=none):Lb H B ns bx dr (Mine.Tactic.upd H' a c):=L.upd (le_none L.le h0) (le_none L.B h0) λe=>by
 refine ah L.box λj h _=>?_;rw[e,h0]at h;cases h
end
end
section
theorem acw{x:Bool}{j u:DQ->Prop}{K:DQ}(S:DQ)(z:∀d H',S d H'->K d H')(h1:∀K:DQ,(∀d H',S d H'->K d H')->j K)(q:∀K:DQ,(∀d H',S d H'->K d H')->u K):if x=true then j K else u K:=by
 split
 ·exact h1 K z
 ·exact q K z
noncomputable abbrev GV(ps:List (lm×Nat)):List (lm×Int):=(ps.filter λp=>decide (0<p.2)).map λq=>(q.1,(q.2:Int))
theorem NO{ps:List (lm×Nat)}(h:∀p∈ps,p.2<5):wQ (aC (GV ps)):=λo=>by
 unfold aC;cases e:ae (GV ps) o with
 |none=>exact⟨by decide,by decide⟩
 |some v=>
  obtain⟨q,hq,e'⟩:=lc.mp (lS e);obtain⟨h1,z⟩:=bH.mp hq;have:=h q h1;have:=of_decide_eq_true z;have e2:(q.2:Int)=v:=congrArg (·.2) e';show 1≤v/\v≤4;exact Zl e2 this (by assumption)
theorem Tp{v:Nat}(h:v<2):∃c,("fg":lm).cps[v]?=some c/\(⟨#[c]⟩:lm)∈ops:=by
 rcases v with _|_|v
 ·exact⟨102,rfl,by decide⟩
 ·exact⟨103,rfl,by decide⟩
 ·exact(Zm h).elim
noncomputable def lV(ns:List Int)(bx:co)(A:gq):ag:=[("script",.fl (ns.map .int)),("box",.ref bx),("heap",aA A)]
noncomputable def lI1(H:aa)(ms:List Int)(bx:co)(A:gq)(rs:List lm)(s:Nat×Nat×aa):Prop:=(∀o∈rs,o∈ops)/\s.1+rs.length=2/\(s.1=0∨1≤s.2.1)/\Lw H ms bx (aA A) 0 s.1 s.2.1 (-1) s.2.2
noncomputable def xo(H:aa)(ms:List Int)(bx:co)(A:gq)(rs:List Nat)(s:Nat×Nat×Int×aa):Prop:=s.1+rs.length≤7/\1≤s.2.1/\s.2.2.1+4*rs.length≤50/\Lw H ms bx (aA A) 0 s.1 s.2.1 s.2.2.1 s.2.2.2
noncomputable def vk(H:aa)(ms:List Int)(bx:co)(A:gq)(q:Nat×Nat×Int×aa)(v:Nat)(rs:List Nat)(s:List Nat×Int×aa):Prop:=(∀w∈s.1,w<q.2.1)/\s.1.length+rs.length=1+v/\s.2.1+rs.length≤q.2.2.1+1+(1+v)/\Lw H ms bx (aA A) 0 q.1 q.2.1 s.2.1 s.2.2
noncomputable def w8(H:aa)(ms:List Int)(bx:co)(A:gq)(q:Nat×Nat×Int×aa)(rs:List Nat)(s:Nat×Int×aa):Prop:=s.1+rs.length≤2/\s.2.1+2*rs.length≤60/\Lw H ms bx (aA A) s.1 q.1 q.2.1 s.2.1 s.2.2
noncomputable def AP(H B:aa)(ms:List Int)(bx:co)(rs:List lm)(s:List (lm×Nat)×aa):Prop:=s.1.map (·.1)++rs=ops/\(∀p∈s.1,p.2<5)/\Lb H B ms bx (100+s.1.length) s.2
noncomputable def lV2(ns:List Int)(bx:co)(A:gq)(ps:List (lm×Nat))(c a l:co):ag:=[("script",.fl (ns.map .int)),("box",.ref bx),("heap",aA A),("prices",.fl (ps.map λp=>.tup [.str p.1,.int p.2])),("costs",.ref c),("dags",yR a (aA A) c 2000 l)]
noncomputable def Tq(H B:aa)(E:Eg)(ms:List Int)(bx c l:co)(ps:List (lm×Nat))(rs:List Nat)(s:List (Nat×Int)×Int×aa):Prop:=s.2.1+rs.length≤200/\qu (aC (GV ps)) E s.1/\s.2.2 l=some (.dI (mJ s.1))/\s.2.2 c=some (AH (GV ps))/\Lb H B ms bx s.2.1 s.2.2
theorem Tq.d{a:Int}{b:Nat}(h:a+(b+1:Nat)≤200):a≤1000:=Zn h
theorem Tq.n{a:Int}{b:Nat}(h:a+(b+1:Nat)≤200):a+1+b≤200:=Zo h
theorem JQ{a b:Nat}(h:a+(b+1)=2):a≤6:=Zp h
section
variable {H B H':aa}{ms:List Int}{bx:co}{A:gq}{s:Nat×Nat×Int×aa}{v k n:Nat}{dr:Int}{rs:List Nat}{s':List Nat×Int×aa}{t:Nat×Int×aa}{o:Nat}
theorem xo.start(h:k=2)(hv:v<3)(hn:1≤n)(L:Lw H ms bx (aA A) 0 k n (-1+1) H'):xo H ms bx A (pc (3+v)) (k,n,-1+1,H'):=⟨by rw[zn];show k+_≤7;exact Zq hv h,hn,by rw[zn];show-1+1+_≤(50:Int);exact Zr hv,L⟩
theorem xo.Tr{b:Int}{n:Nat}(h:b+4*n≤50):b≤50:=Zs h
theorem xo.k6{a b:Nat}(h:a+(b+1)≤7):a≤6:=Zt h
theorem vk.keep(hv:v<2)(h:vk H ms bx A s v rs s'):(nats s'.1).length≤sizeLine:=sz (by rw[ax];have:=h.2.1;exact Zu this hv)
theorem vk.start(L:Lw H ms bx (aA A) 0 s.1 s.2.1 (s.2.2.1+1) H'):vk H ms bx A s v (pc (1+v)) ([],s.2.2.1+1,H'):=⟨λ_ h=>(nomatch h),by rw[zn];exact kX _,by rw[zn];exact bq (s.2.2.1+1+↑(1+v)),L⟩
theorem vk.Tr(z:xo H ms bx A (o::rs) s)(hv:v<2){l:List Nat}(h:vk H ms bx A s v l s'):s'.2.1≤1000:=by have:=z.2.2.1;have:=h.2.2.1;exact Zv this (by assumption) hv
theorem vk.next{l:List Nat}(h:vk H ms bx A s v (o::l) s'){w:Nat}(hw:w<s.2.1)(L:Lw H ms bx (aA A) 0 s.1 s.2.1 (s'.2.1+1) H'):vk H ms bx A s v l (s'.1++[w],s'.2.1+1,H'):=by
 have h1:=h.2.1;have j:=h.2.2.1;rw[io]at h1 j;exact⟨λu z=>(ca.mp z).elim (h.1 u) λz=>by rw[bn.mp z];exact hw,by show(s'.1++[w]).length+_=_;rw[ci,pp];exact Zw h1,by show s'.2.1+1+_≤_;exact Zx j,L⟩
theorem vk.two(hv:v<2)(h:vk H ms bx A s v [] s'):s'.1.length≤2:=by have:s'.1.length=1+v:=h.2.1;exact Zy hv this
theorem xo.next(z:xo H ms bx A (o::rs) s)(hv:v<2)(h:vk H ms bx A s v [] s')(q:1≤n)(L:Lw H ms bx (aA A) 0 (s.1+1) n s'.2.1 H'):xo H ms bx A rs (s.1+1,n,s'.2.1,H'):=by
 have h1:=z.1;have u:=z.2.2.1;have j:s'.2.1+(0:Nat)≤s.2.2.1+1+(1+v):=h.2.2.1;rw[io]at h1 u;exact⟨by show s.1+1+_≤_;exact Zz h1,q,by show s'.2.1+_≤_;exact ZA j u hv,L⟩
theorem w8.start(z:xo H ms bx A [] s)(hv:v<3)(L:Lw H ms bx (aA A) 0 s.1 s.2.1 (s.2.2.1+1) H'):w8 H ms bx A s (pc v) (0,s.2.2.1+1,H'):=⟨by rw[zn];show 0+v≤2;exact ZC hv,by have:s.2.2.1≤50:=xo.Tr z.2.2.1;rw[zn];show s.2.2.1+1+_≤_;exact ZD this hv,L⟩
theorem w8.d1(h:w8 H ms bx A s (o::rs) t):t.2.1≤1000:=by have:=h.2.1;exact ZE this
theorem w8.d2(h:w8 H ms bx A s (o::rs) t):t.2.1+1≤1000:=by have:=h.2.1;exact ZF this
theorem w8.tt{a b:Nat}(h:a+(b+1)≤2):a≤100:=ZG h
theorem w8.next(h:w8 H ms bx A s (o::rs) t)(L:Lw H ms bx (aA A) (t.1+1) s.1 s.2.1 (t.2.1+1+1) H'):w8 H ms bx A s rs (t.1+1,t.2.1+1+1,H'):=by
 have h1:=h.1;have z:=h.2.1;rw[io]at h1 z;exact⟨by show t.1+1+_≤_;exact ZH h1,by show t.2.1+1+1+_≤_;exact ZI z,L⟩
theorem AP.len{ps:List (lm×Nat)}{rs:List lm}(h:ps.map (·.1)++rs=ops):ps.length≤4:=by
 have:=congrArg d5 h;rw[ci,be]at this;exact cD (IR this)
theorem AP.start(h:w8 H ms bx A s [] t)(L:Lb H B ms bx t.2.1 H'):AP H B ms bx ops ([],H'):=⟨rfl,λ_ h=>(nomatch h),L.B,L.le,let⟨j,h1,u,z⟩:=L.box;⟨j,h1,u,by have:t.2.1+2*(0:Nat)≤60:=h.2.1;show j≤100+0;exact ZJ this z⟩⟩
variable {p:List (lm×Nat)×aa}{ls:List lm}{c:lm}
theorem AP.d(h:AP H B ms bx ls p):(100+p.1.length:Int)≤1000:=by have:=AP.len h.1;exact ZK this
theorem AP.next(h:AP H B ms bx (c::ls) p)(hv:v<5)(L:Lb H B ms bx (100+p.1.length+1) H'):AP H B ms bx ls (p.1++[(c,v)],H'):=⟨by show(p.1++[(c,v)]).map (·.1)++ls=ops;rw[←h.1];simp,λq hq=>(ca.mp hq).elim (h.2.1 q) λhq=>by rw[bn.mp hq];exact hv,by show Lb H B ms bx (100+(p.1++[(c,v)]).length) H';rw[ci,pp];exact⟨L.B,L.le,let⟨j,h1,u,z⟩:=L.box;⟨j,h1,u,Vi.mpr z⟩⟩⟩
end
section
variable {X:Cx U}{m0:Nat}{H:aa}{ns:List Int}{Q:DQ}
set_option maxHeartbeats 4000000 in
theorem NP(hn:ns.length≤63)(q:Q (.bool true) H):∃ps b sc,U.code 553=some (ps,b,sc)/\1=ps.length/\wpS X (m0+15) 40 60 sc.names b (ps.zip [.fl (ns.map .int)]) H λfl _ H'=>Up Q (vR fl) H':=by
 have z2:2≤sizeLine:=sz (ce rfl);have z4:4≤sizeLine:=sz (ce rfl);have acx:ops.Nodup:=by decide
 refine Exists.intro _ (Exists.intro _ (Exists.intro _ (And.intro rfl (And.intro rfl (Exists.intro (.dS []) (And.intro .dS λbx u=>?_))))));refine And.intro (np _) λa ha=>IU.lists 1 qo .int (ns.map .int) [] (.inl rfl) (.inr ⟨a,rfl,.inl (af _ _ _)⟩) (λ_ d hd=>?_) (λ_ h=>nomatch h) (by decide) λr hr=>?_
 ·obtain⟨i,_,rfl⟩:=lc.mp hd;exact⟨_,rfl⟩
 have i3:bx≠a:=λe=>by rw[←e,af]at ha;cases ha
 refine acw (λd H'=>H'=upd (upd H bx (.dS [])) a (.list [])/\∃is:List Int,is.length≤100/\(d=.fl (is.map .int)∨d=.tup (is.map .int))) ?_ (λK hK=>Exists.intro ns (And.intro rfl (And.intro (sz (ZL hn)) (hK _ _ ⟨rfl,ns.take 40,by rw[qd];exact ZM,.inl rfl⟩)))) (λK hK=>hK _ _ ⟨rfl,qr,by decide,.inr rfl⟩);rintro d _ ⟨rfl,is,xZ,hd⟩;refine aG.seq (is.map .int) hd (aI.map (λ_ _ _ h=>h) (λ_=>aH rfl) (λi:Int=>.int ((i.natAbs:Int).fmod 10007)) (sz (sE xZ)) trivial (λi _ Qy hy=>And.intro (by decide) (hy _ (.refl _))) ?_);refine iR.dS [] "cells" rfl ((aj i3).trans (af _ _ _)) (np _) (iR.dS _ "at" rfl (af _ _ _) (sz (ce rfl)) ?_);have Z:(is.map λi=>(i.natAbs:Int).fmod 10007).length≤100:=by rw[be];exact xZ
 have hm:(is.map λi=>D.int ((i.natAbs:Int).fmod 10007))=(is.map λi=>(i.natAbs:Int).fmod 10007).map .int:=li.symm;rw[hm];generalize (is.map λi=>(i.natAbs:Int).fmod 10007)=ms at Z⊢;have hle:H.le (upd (upd (upd (upd H bx (.dS [])) a (.list [])) bx (.dS (dput [] "cells" (.fl (ms.map .int))))) bx (.dS (dput (dput [] "cells" (.fl (ms.map .int))) "at" (.int (-1))))):=bU (bU ((aa.le.upd u).trans (.upd ha)) u) u;have hR:(upd (upd (upd (upd H bx (.dS [])) a (.list [])) bx (.dS (dput [] "cells" (.fl (ms.map .int))))) bx (.dS (dput (dput [] "cells" (.fl (ms.map .int))) "at" (.int (-1))))) bx=some (uL ms (-1)):=af _ _ _;refine Jk λA H2 hp=>?_;have L0:Lw H ms bx (aA A) 0 0 0 (-1) H2:=.start hle hR hp;refine And.intro z2 (aG.seq [.str "a",.str "b"] (.inr rfl) (iD.st D.str (λ_=>lV ns bx A) (λs:Nat×Nat×aa=>s.2.2) (lI1 H ms bx A) ["a","b"] (0,0,H2) (λ_ _ _=>trivial) ⟨by decide,rfl,.inl rfl,L0⟩ (λo rs s P z Y=>And.intro (sz (ce rfl)) (z.2.2.2.put (z.1 o (.head _)) (JQ z.2.1) λn' i H3 h1 L'=>Y (s.1+1,n',H3) trivial (.nx 3 rfl) (.refl _) ⟨λp hp=>z.1 p (.tail _ hp),(eE _ _ _).trans z.2.1,.inr h1,L'⟩)) λs z=>?_));have hn1:1≤s.2.1:=z.2.2.1.resolve_left λe=>by have:=e.symm.trans z.2.1;cases this
 refine z.2.2.2.draw (m:=3) u Z (Int.neg_ofNat_le_ofNat 1 1000) (ce rfl) λv hv H3 L3=>Exists.intro (3+v) (And.intro (congrArg D.int (Lr.mp rfl)) (And.intro (ZN hv) (iD.st (λn:Nat=>D.int n) (λ_=>lV ns bx A) (λs:Nat×Nat×Int×aa=>s.2.2.2) (xo H ms bx A) (pc (3+v)) (s.1,s.2.1,_,H3) (λ_ _ _=>trivial) (xo.start z.2.1 hv hn1 L3) (λo O s P z Y=>?_) λs z=>?_)))
 ·refine z.2.2.2.draw (m:=2) u Z (SC (xo.Tr z.2.2.1) (by decide)) (ce rfl) λv hv H5 L5=>?_;refine ah (Tp hv) λc hc Ap=>?_;refine Exists.intro v (Exists.intro c (And.intro (congrArg D.int (Int.sub_eq_iff_eq_add'.mpr rfl)) (And.intro hc (And.intro (ZO hv) ?_))));exact Exists.intro (1+v) (And.intro (congrArg D.int (Lr.mp rfl)) (And.intro (ZP hv) (aI.st (λn:Nat=>D.int n) (λs:List Nat×Int×aa=>nats s.1) (λs=>s.2.2) (vk H ms bx A s v) (pc (1+v)) ([],_,H5) rfl (λ_ _ h=>⟨trivial,vk.keep hv h⟩) (vk.start L5) (λo l s' P h Y=>And.intro (aH rfl) (h.2.2.2.size (h.2.2.2.draw u Z (vk.Tr z hv h) z.2.1 λw hw H6 L6=>Y (s'.1++[w],s'.2.1+1,H6) lf (.refl _) (vk.next h hw L6)))) λs' h=>h.2.2.2.add Ap h.1 (vk.two hv h) (xo.k6 z.1) λn' i H7 h3 L7=>Y (s.1+1,n',s'.2.1,H7) trivial (.nx 3 rfl) (.refl _) (xo.next z hv h h3 L7))))
 refine z.2.2.2.draw (m:=3) u Z (SC (xo.Tr z.2.2.1) (by decide)) (kH hv) λv hv H5 L5=>Exists.intro v (And.intro rfl (And.intro (ZQ hv) (iD.st (λn:Nat=>D.int n) (λ_=>lV ns bx A) (λs:Nat×Int×aa=>s.2.2) (w8 H ms bx A s) (pc v) (0,_,H5) (λ_ _ _=>trivial) (w8.start z hv L5) (λo O s' P h Y=>h.2.2.size (h.2.2.draw u Z (w8.d1 h) z.2.1 λa ha H7 L7=>L7.size (L7.draw u Z (w8.d2 h) z.2.1 λb hb' H8 L8=>And.intro z2 (L8.merge ha hb' (w8.tt h.1) z.1 λd H9 L9=>Y (s'.1+1,_,H9) trivial (.nx 3 rfl) (.refl _) (w8.next h L9))))) λs' sI=>?_)));refine sI.2.2.settle u (cr sI.1 (by decide)) z.1 λB E H7 G K hEn hBb Lb0=>?_;have hE:1≤E.n:=hEn▸z.2.1;refine And.intro z4 (aG.seq (ops.map .str) (.inr rfl) (aI.st D.str (λs:List (lm×Nat)×aa=>s.1.map λp=>.tup [.str p.1,.int p.2]) (λs=>s.2) (AP H B ms bx) ops ([],H7) rfl (λ_ _ h=>⟨trivial,sz (by rw[be];exact cr (AP.len h.1) (by decide))⟩) (AP.start sI Lb0) (λo rs s P h Y=>And.intro (aH rfl) (h.2.2.draw (m:=5) u hBb Z (AP.d h) (ce rfl) λv hv c L'=>And.intro z2 (Y (s.1++[(o,v)],_) lf (.refl _) (AP.next h hv L')))) λs h=>?_));obtain⟨ps,H8⟩:=s;obtain⟨h,Mp,L⟩:=h;rw[t3]at h;have hl:ps.length=4:=by rw[←be (f:=(·.1)),h];rfl
 have hp5:=NO Mp;refine aG.seq _ (.inl rfl) (aI.B1 (l:=ps) (f:=λp:lm×Nat=>.tup [.str p.1,.int p.2]) (λq _ P h=>And.intro rfl h) (λq=>rJ (x:="op") (y:="price") rfl rfl (by decide)) (λp=>decide (0<p.2)) (λp=>.tup [.str p.1,.int p.2]) (sz (Qg hl)) trivial (λp hp Qy Qn hy Ud=>sQ (λe=>And.intro z2 (hy (decide_eq_true (bW.mp (of_decide_eq_true e))) _ (.refl _))) λe=>Ud (decide_eq_false λq=>of_decide_eq_false e (bW.mpr q)) _ (.refl _)) ?_);have sH:((ps.filter λp=>decide (0<p.2)).map λp=>D.tup [.str p.1,.int p.2])=((GV ps).map λp=>(p.1,D.int p.2)).map λp=>D.tup [.str p.1,p.2]:=by rw[li,li];rfl
 have nq:((GV ps).map λp=>(p.1,D.int p.2)).length≤1000:=by rw[be,be];exact cr (Uf _ _) (Qg hl)
 have hdp:kC [] ((GV ps).map λp=>(p.1,D.int p.2))=(GV ps).map λp=>(p.1,D.int p.2):=tU (es:=[]) (by
  rw[kS,li,li];exact vb ((Bf (l:=ps)).map λp=>p.1) (h▸acx))
 refine rG.ofS _ (.inl (congrArg D.fl sH)) nq λc hc=>?_;rw[hdp];have L1:=L.new (c:=AH (GV ps)) hc;have hcc:=af H8 c (AH (GV ps));refine NA λa2 l N=>?_;have L2:=L1.new (c:=.dI (mJ [])) N;have NQ:c≠l:=λe=>by rw[←e,af]at N;cases N
 have hlb:bx≠l:=λe=>by obtain⟨j,hj,_⟩:=L1.box;rw[e,N]at hj;cases hj
 have hcb:c≠bx:=λe=>by obtain⟨j,hj,_⟩:=L.box;rw[←e,hc]at hj;cases hj
 have hH0:=le_none L1.le N;have hB0:=le_none L1.B N;exact Exists.intro 2 (And.intro rfl (And.intro (by decide) (iD.st (λn:Nat=>D.int n) (λ_=>lV2 ns bx A ps c a2 l) (λs:List (Nat×Int)×Int×aa=>s.2.2) (Tq H B E ms bx c l ps) (pc 2) ([],_,_) (λ_ _ _=>trivial) ⟨by rw[zn];show(100+ps.length:Int)+_≤_;exact ZR hl,qu.nil,af _ _ _,(aj NQ).trans hcc,L2⟩
  (λo O s P z Y=>G.size _ _ _ z.2.2.2.2.B (z.2.2.2.2.draw u hBb Z (Tq.d z.1) hE λv hv c1 L'=>rZ hp5 ((aj hcb).trans z.2.2.2.1) NQ ((aj hlb.symm).trans z.2.2.1) K G L'.B hB0 z.2.1 hv λvj I'=>Y (vj,_,_) trivial (.nx 6 rfl) (.refl _) ⟨Tq.n z.1,I',af _ _ _,(aj NQ).trans ((aj hcb).trans z.2.2.2.1),L'.upd hH0 hB0 hlb⟩))
  λs z=>.less z.2.2.2.2.le (.here q))))
end
end
section
section
variable {B:Base}{K:Hm}{C f:co}{m:lm}
noncomputable def pe(K:Hm)(C:co)(m:lm)(f:co):Bool:=plainGet K C m&&Ls K (.ref C) m==some (some (.ref f))&&typeIn K (.ref f)==some (.type "function")
noncomputable def tV(K:Hm)(C:co)(m:lm):Bool:=plainGet K C m&&hasDictIn K C&&Ls K (.ref C) m==some none&&Ls K (.ref C) "__setattr__"==some (some (.builtin "object.__setattr__"))&&plainOver K C
noncomputable def Cs(K:Hm)(C f:co):Bool:=makesIn K C&&Ls K (.ref C) "__init__"==some (some (.ref f))&&typeIn K (.ref f)==some (.type "function")&&keepIn K (.ref C)
theorem MethAt.of(X:K.In B.T)(h:pe K C m f=true):MethAt B C m f:=λA Q E s x ox od z o I hs q=>by
 simp only[pe,u8,beq_iff_eq]at h;exact method_fn (X.keeps o) I (Hn h.1.1).1 (Hn h.1.1).2 h.1.2 h.2 hs q
theorem oO.of(X:K.In B.T)(h:Cs K C f=true):oO B C f:=by
 simp only[Cs,u8,beq_iff_eq]at h;refine⟨λA z R s o q=>?_,λg o=>?_⟩
 ·obtain⟨u,g,d,t,os⟩:=s;exact make_core (makes_of (X.keeps o) h.1.1.1) (looks_findIn (X.keeps o) h.1.1.2) (λself=>bind_fn (X.keeps o) self h.1.2) (.inl rfl) q
 ·refine ah (looks_keep (M:=kt B.prog B.w) h.2 (X.keeps o)) λk hk l=>?_;exact(ak k (hk.imp_right .inl) l)
set_option tactic.hygienic true in
theorem Ct{prog:EQ}{w:KB}{A:Da}{s:bv}{x z:co}{es:List KM}{n:Nat}{v:bm}{tk:Tok}{Q:Unit->bv->Prop}(X:K.In s.heap)(Z:hasDictIn K C=true)(Y:Ls K (.ref C) m=some none)(h5:plainOver K C=true)
  (hx:s.heap.get? x=some (fS C z)) (hd:s.heap.get? z=some (b9 es n)) (hl:qC m (b9 es n)=some none) (hz:es.length≤900) (q:∀h' O tk N,h'.get? z=some (b9 (es++[⟨O,.str m tk,v⟩]) (n+1))->Pv z s.heap h'->Q () {s with heap:=h',toks:=N}):
  bC (kt prog w) A (.call (.builtin "object.__setattr__") ⟨[.ref x,.str m tk,v],[]⟩) (λr s'=>r=.ok (.ret .none)/\Q () s') s:=by
 have I:UY s.heap x (fS C z) C (some (b9 es n)):=⟨hx,rfl,rfl,hd⟩;refine osa_open X I h5 (r:=none) (by unfold takerIn;rw[Y];rfl) λb=>?_;refine ah (Ho Z) λcd hc Io=>?_;refine al (am (al (al (Vj hx (al ((looks_clsIn X hc).here ?_))))));rw[Io];refine am (a:=some z) (al (am (al ?_)));refine al (al (cU (am (al (sC (al (Vj hd ?_)))))));have h6:es.find? (·.key.isStr m)=none/\es.any (·.refKey)=false:=by
  unfold qC at hl;dsimp only at hl;split at hl
  ·cases hl
  ·rename_i h;split at hl
   ·exact bE hl
   ·rename_i h';exact⟨h,by simpa using h'⟩
 have h7:∀H:Int,T5 m H (.str m s.toks) v (b9 es n)=b9 (es++[⟨H,.str m s.toks,v⟩]) (n+1):=λH=>by
  rw[Obj.putName_eq];unfold Obj.putNameByArray;dsimp only;rw[show es.toArray.findIdx? (·.key.isStr m)=none by simpa using h6.1];simp
 dsimp only;rw[aRefKeyMayBeTheName_at,show(!es.toArray.any (·.key.isStr m)&&es.toArray.any (·.refKey))=false by simp[h6.2]];refine wpAny_updatePart hd ?_;generalize (if m.cps.isEmpty=true then 0 else _:Int)=H;have u:(s.heap.update z (T5 m H (.str m s.toks) v)).get? z=some (b9 (es++[⟨H,.str m s.toks,v⟩]) (n+1)):=by rw[←h7 H];exact Tl _ hd (by rw[h7 H];rfl)
 exact al (wpAny_lookBehind u (pastItsLine_dict (by rw[UF,cP,ci,pp];exact Vs hz)) (am ⟨rfl,q _ H _ _ u ⟨hV _ _ _,λb j=>KF _ _ (cG j)⟩⟩))
theorem lO.of(X:K.In B.T)(h:tV K C m=true):lO B C m/\DS B C m:=by
 refine cut λPP Y=>?_;simp only[tV,u8,beq_iff_eq]at h;refine dv h λN h5=>?_;obtain⟨⟨⟨h1,j⟩,u⟩,O⟩:=N;refine Y ?_;refine⟨λA Q E s x ox od v o I hl hv q=>get_value (X.keeps o) I (Hn h1).1 (findObj_own j u rfl hl) hv q,λA Q E s x dx es n v o hx z hl hz q=>?_⟩;exact set_plain (od:=some (b9 es n)) (X.keeps o) ⟨hx,rfl,rfl,z⟩ O (ia (Ct (s:={s with toks:=s.toks+1}) (X.keeps o) j u h5 hx z hl hz q) λr s' Z=>dv Z λe q=>by subst e;exact q)
end
end
section
noncomputable abbrev u0:=Option (Bool×List lm×FuncBody×bB)
noncomputable def fnOf(d:Data):Option FuncData:=match d with
 |.func fd=>some fd
 |_=>none
noncomputable def Lg(d:Data):Option (Array bm×Nat):=match d with
 |.seq vs n=>some (vs,n)
 |_=>none
noncomputable def y5(K:Hm)(f:co):u0:=(K.lookup f).bind λo=>(fnOf o.data).map λfd=>(codeIn K fd.code fd.qualname&&(fd.closure.isEmpty&&(fd.globals==aQ&&(fd.builtins==qA&&(fd.defaults==.none&&(fd.params.posonlyargs.isEmpty&&(fd.params.vararg.isNone&&(fd.params.kwonlyargs.isEmpty&&fd.params.kwarg.isNone))))))),fd.params.args.map (·.arg),fd.body,fd.scope)
noncomputable def pf(f:co):u0:=(codeAt f).map λc=>(true,c.1,.stmts c.2.1,c.2.2)
noncomputable def intOf:bm->Option Int
 |.int i _=>some i
 |_=>none
noncomputable def F9(K:Hm):Bool:=nsIn K aQ "_law_plain"==some (some (.ref 519))&&(K.lookup 519).any λo=>o.cls==.type "tuple"&&(o.dict.isNone&&(o.slots.isEmpty&&(Lg o.data).any λp=>p.1.toList.map intOf==qr.map some))
noncomputable def chk(K:Hm):Bool:=(rI.all λp=>nsIn K aQ (t0 p.1)==some (some (.ref p.2)))&&((n5.all λx=>nsIn K aQ (t0 x)==some none)&&
 ((sR.all λe=>Cs K e.1 e.2.1&&((e.2.2.1.all λp=>pe K e.1 (t0 p.1) p.2)&&e.2.2.2.all λx=>tV K e.1 (t0 x)))&&((K.lookup gD).isSome&&F9 K)))
noncomputable def fc:List Addr:=E4.map (·.1)
noncomputable def Ga:List Addr:=[aQ,gD,519]++fc++fc.map (·-1)++sR.map (·.1)++sR.map (·.1-1)
noncomputable def fragOf(h:GM):Frag:=Ga.filterMap λa=>(h.get? a).map λo=>(a,o)
noncomputable def hp:Program:=mh
noncomputable def hq:Program:={hp with main:={hp.main with body:=(KX 26).toList}}
noncomputable def loose:List Str:=["_wall","HeapError","TermFault","LimitFault","is_op","parts","key_of","Bank","rank_of","Cheapest","is_reached","CheapestDag","Unions","Heap","_law_plain","_law_draw","_law_below","_law_nodes","_law_pieces","_law_graph_right"]
noncomputable abbrev tW(K:Hm):Bool×List u0:=(chk K,fc.map (y5 K))
noncomputable def JR(st:sD->Lu->Option (sD×Lu))(ok:Lu->Bool):Nat->sD->Lu->Option sD
 |0,_,_=>none
 |n+1,s,t=>match through t with
  |true=>some s
  |false=>match ok t with
   |false=>none
   |true=>match st s t with
    |some (s',z)=>JR st ok n s' z
    |none=>none
theorem AQ{j:String->Option Builtin}{p:EQ}{w:KB}{u:Nat}{z:Option bm}:∀{n:Nat}{s s':sD}{t:Lu},JR (Vk (Lv j) p w) (Lx u z) n s t=some s'->topRun j p w u z n s.abs t=some s'.abs
 |0,_,_,_,h=>by cases h
 |n+1,s,s',t,h=>by
  have h:(match through t with|true=>some s|false=>match Lx u z t with|false=>none|true=>match Vk (Lv j) p w s t with|some (a,b)=>JR (Vk (Lv j) p w) (Lx u z) n a b|none=>none)=some s':=h;unfold topRun;cases ht:through t with
  |true=>rw[ht]at h;cases h;rfl
  |false=>
   rw[ht]at h;cases hk:Lx u z t with
   |false=>rw[hk]at h;cases h
   |true=>
    rw[hk]at h;cases hs:Vk (Lv j) p w s t with
    |none=>rw[hs]at h;cases h
    |some r=>obtain⟨Y,q⟩:=r;rw[hs]at h;rw[stepT_spec hs];exact AQ h
noncomputable def T0(P:Vl):BT:=((fT P).objs.toList.foldl (λ(a:BT×Nat) o=>(a.1.ins a.2 o,a.2+1)) (.nil,0)).1
noncomputable def s0T(w:KB)(os:kL):SharedT:=⟨T0 w.params,11,(fT w.params).life,⟨[]⟩,xE,CM,os⟩
noncomputable def NR(t:BT)(n:Nat)(a:co):Option Obj:=match Pg a n with
 |true=>alive ((t.get a).getD default)
 |false=>none
noncomputable def Ge(s:sD):Frag:=Ga.filterMap λa=>(NR s.tree s.n a).map λo=>(a,o)
theorem JS(t:BT)(n:Nat)(z:Life)(a:co):(absHeap t n z).get? a=NR t n a:=by
 unfold GG NR;rw[absHeap_at];by_cases h:a<n
 ·rw[if_pos h,show Pg a n=true from Vm.mpr h];obtain⟨c,d,u,j⟩:=(t.get a).getD default;cases u<;>rfl
 ·rw[if_neg h,show Pg a n=false from Sc.mpr λe=>h (Vm.mp e)]
theorem Gf(s:sD):fragOf s.abs.heap=Ge s:=by
 unfold fragOf Ge;exact congrFun (congrArg Kl (funext λa=>by rw[show s.abs.heap=absHeap s.tree s.n s.life from rfl,JS])) _
theorem NU(w:KB)(os:kL):(s0T w os).abs=⟨fT w.params,⟨[]⟩,xE,CM,os⟩:=by
 have:absHeap (T0 w.params) 11 (fT w.params).life=fT w.params:=by kernel_rfl
 exact congrArg (λh=>Shared.mk h ⟨[]⟩ xE CM os) this
end
section
set_option maxHeartbeats 0 in
theorem Gh(w:KB)(os:kL):(JR (Vk (Lv treeTable) hp w) (Lx 11 (some (.ref 6))) 7628 (s0T w os) (topStub hp)).map (λs=>(openSeen hq loose (nk hp.main.body) (λ_=>true) true s.abs,Ph (nk hp.main.body) (fT w.params) s.abs.heap&&Ly hp s.abs.heap&&Vo s.abs&&Vp (fT w.params) s.abs.heap&&s.abs.heap.isNs 92,tW (Ge s)))=some (openGood hq loose,true,true,fc.map pf):=by
 rw[T6,T7,T9,Ua]
 kernel_rfl
end
section
theorem r0{α β:Type}{f g:α->Option β}{l:List α}(h:∀a∈l,f a=g a):l.filterMap f=l.filterMap g:=by
 induction l with
 |nil=>rfl
 |cons a l ih=>rw[bF,bF,h a (.head _),ih λb z=>h b (.tail _ z)]
theorem Gi{ps:List lm}:∀{z:List bm},ps.Nodup->z.length=ps.length->ps.filterMap (λn=>((ps.zip z).lookup n).map (n,·))=ps.zip z/\∀n∈ps,((ps.zip z).lookup n).isNone=false:=by
 induction ps with
 |nil=>exactλ_ _=>⟨rfl,λ_ h=>nomatch h⟩
 |cons p ps ih=>
  intro z nd hl;cases z with
  |nil=>exact nomatch hl
  |cons v z=>
   have i:=ih (Db.mp nd).2 (jU hl);have e:∀n∈ps,(((p,v)::ps.zip z).lookup n)=(ps.zip z).lookup n:=λn hn=>by
    rw[wE,show(n==p)=false from beq_eq_false_iff_ne.mpr λe=>(Db.mp nd).1 (e▸hn)]
   have u:(((p,v)::ps.zip z).lookup p)=some v:=by rw[wE,beq_self_eq_true]
   refine fY▸?_;exact⟨(jY (b:=(p,v)) (by rw[u];rfl)).trans (congrArg _ ((r0 λn hn=>by rw[e n hn]).trans i.1)),FM.mpr ⟨by rw[u];rfl,λn hn=>by rw[e n hn];exact i.2 n hn⟩⟩
theorem Ts{fd:Vq}{a b c d e:_}(h1:fd.params.posonlyargs=a)(u:fd.params.vararg=b)(z:fd.params.kwonlyargs=c)(h5:fd.params.kwarg=d)(h6:fd.defaults=e):fd={fd with params:={fd.params with posonlyargs:=a,vararg:=b,kwonlyargs:=c,kwarg:=d},defaults:=e}:=by
 obtain⟨nm,q,⟨Y,ar,j,N,kd,ka,df⟩,bd,sc,gl,cl,de,O,dc,Z,an,cd,ct,bl⟩:=fd;subst h1 u z h5 h6;rfl
theorem Gj{fd:Vq}{ps:List lm}(h1:fd.params.posonlyargs=[])(O:fd.params.args.map (·.arg)=ps)(Z:fd.params.vararg=none)(Y:fd.params.kwonlyargs=[])(h5:fd.params.kwarg=none)(h6:fd.defaults=.none)(nd:ps.Nodup)(u:List bm)(hl:u.length=ps.length):bindArgs fd ⟨u,[]⟩=pure (ps.zip u):=by
 have z:=Gi nd hl;have j:∀k,(!((ps.take k).filter λn=>((ps.zip u).lookup n).isNone).isEmpty)=false:=λk=>by
  rw[List.filter_eq_nil_iff.mpr λn hn=>by rw[z.2 n (zc hn)];exact wP];rfl
 have q:(decide (u.length>ps.length)&&true)=false:=by rw[hl,decide_eq_false (ZB _)];rfl
 rw[←O]at z j q⊢;clear O nd hl;rw[Ts h1 Z Y h5 h6];clear h1 Z Y h5 h6;refine(if_neg λh=>eR (q.symm.trans h)).trans ?_;refine(if_neg λh=>eR ((j _).symm.trans h)).trans ?_;show(forIn (List.zip _ (Vc _ [])) _ _>>=_)=_;rw[u6,List.zip_nil_right];show(pure (Kl _ (_++[])):sY _)=_;rw[t3];exact congrArg pure z.1
section
variable {B:Base}{K:Hm}{mg mb:lm->Option bm}
theorem fR{a b:Bool}{P:Prop}(h:(a&&b)=true)(k:a=true->b=true->P):P:=k (sB.mp h).1 (sB.mp h).2
theorem JU{d:Data}{fd:Vq}(h:fnOf d=some fd):d=.func fd:=by
 cases d<;>first|exact bE h|exact congrArg _ (db h)
theorem Gk{d:Data}{p:Array bm×Nat}(h:Lg d=some p):d=.seq p.1 p.2:=by
 cases d<;>first|exact bE h|exact db h▸rfl
theorem bOf{a b:Bool×List lm×FuncBody×bB}(e:a=b){P:Prop}(k:a.1=b.1->a.2.1=b.2.1->a.2.2.1=b.2.2.1->a.2.2.2=b.2.2.2->P):P:=k (e▸rfl) (e▸rfl) (e▸rfl) (e▸rfl)
theorem NV{o:nh}{vs:Array bm}{n:Nat}(h1:o.cls=.type "tuple")(j:o.dict=none)(u:o.data=.seq vs n)(z:o.slots=#[]):o=aE vs.toList n:=by
 obtain⟨c,d,Y,q⟩:=o;cases h1;cases j;cases u;cases z;rfl
theorem FnAt.of(X:K.In B.T){f:co}{ps:List lm}{b:List eX}{sc:bB}(e:y5 K f=some (true,ps,.stmts b,sc))(nd:ps.Nodup):FnAt B f ps b sc:=
 ah (jZ.mp e) λo u e=>ah (At.mp e) λfd j e=>bOf e λc e2 Y q=>
  fR c λc1 c=>fR c λc2 c=>fR c λc3 c=>fR c λc4 c=>fR c λc5 c=>fR c λc6 c=>fR c λc7 c=>fR c λO Z=>
   ⟨o,fd,X _ _ u,JU j,codeRec_of X c1,Y,qi.mp c2,q,beq_iff_eq.mp c3,beq_iff_eq.mp c4,λz hl=>Gj (qi.mp c6) e2 (jd.mp c7) (qi.mp O) (jd.mp Z) (beq_iff_eq.mp c5) nd z hl⟩
theorem qy{l:List (String×co)}{x:lm}{f:co}(h:seek l x=some f):∃p∈l,t0 p.1=x/\p.2=f:=by
 refine ah (At.mp h) λp hp e=>?_;exact(cY p (jD hp) (beq_iff_eq.mp (sd (p:=λp:String×co=>t0 p.1==x) hp)) e)
theorem pg{C:co}{e:co×co×List (String×co)×List String}(h:clsAt C=some e):e∈sR/\e.1=C:=⟨jD h,beq_iff_eq.mp (sd (p:=λe:co×co×List (String×co)×List String=>e.1==C) h)⟩
theorem xa{f:co}{c:List lm×List eX×bB}(h:codeAt f=some c):f∈fc:=by
 refine ah (jZ.mp h) λe z _=>?_;have:=beq_iff_eq.mp (sd (p:=λe:co×Nat×Option Nat=>e.1==f) z);exact lc.mpr (ak e (jD z) this)
theorem Tt:(fc.all λf=>match codeAt f with|some c=>vQ c.1 c.2.2|none=>false)=true:=by kernel_rfl
theorem JV:(rI.all λp=>(codeAt p.2).isSome||(clsAt p.2).isSome)=true:=by kernel_rfl
theorem JW:(sR.all λe=>e.2.2.1.all λp=>(codeAt p.2).isSome)=true:=by kernel_rfl
theorem xb:∀{vs:List bm}{is:List Int},vs.map intOf=is.map some->∀F,Rs F vs (is.map .int)
 |[],[],_,F=>.nil
 |v::vs,i::is,h,F=>by
  injection h with h1 z;refine .cons ?_ (xb z F);cases v<;>cases h1;exact .int _ _
theorem NW(Y:Kb B mg mb)(X:K.In B.T)(h:(rI.all λp=>nsIn K aQ (t0 p.1)==some (some (.ref p.2)))=true)(x:lm)(f:co)(e:seek rI x=some f):mg x=some (.ref f):=
 bt (qy e) λp hp z e2=>z▸e2▸mg_of X Y.g (beq_iff_eq.mp (ut.mp h p hp))
theorem Gl(x:lm)(f:co)(e:seek rI x=some f):(∃c,U.code f=some c)∨∃c,U.init f=some c:=
 bt (qy e) λp hp _ e2=>e2▸(Bool.or_eq_true_iff.mp (ut.mp JV p hp)).imp pt.mp λh=>(pt.mp h).imp' _ λc(h:clsAt p.2=some c)=>show(clsAt p.2).map (λe=>e.2.1)=some c.2.1 from h▸rfl
theorem Gm{C:co}{α:Type}{g:co×co×List (String×co)×List String->Option α}{r:α}{P:Prop}(h:(clsAt C).bind g=some r)(k:∀e,e∈sR->e.1=C->g e=some r->P):P:=
 ah (jZ.mp h) λe z h=>k e (pg z).1 (pg z).2 h
theorem Cu(C:co)(m:lm)(f:co)(h:U.meth C m=some f):∃c,U.code f=some c:=
 Gm h λe z _ h=>bt (qy h) λp hp _ e2=>e2▸pt.mp (ut.mp (ut.mp JW e z) p hp)
theorem NX{f:co}{c:List lm×List eX×bB}(h:codeAt f=some c)(hf:f∈fc):vQ c.1 c.2.2=true:=by
 have z:=ut.mp Tt f hf;rw[h]at z;exact z
theorem Gn(X:K.In B.T)(e:fc.map (y5 K)=fc.map pf)(f:co)(ps:List lm)(b:List eX)(sc:bB)(h:codeAt f=some (ps,b,sc)):FnAt B f ps b sc/\vQ ps sc=true:=
 have z:=NX h (xa h)
 ⟨FnAt.of X ((List.map_inj_left.mp e f (xa h)).trans (congrArg (bL _) h)) (fR z λz _=>fR z λ_ z=>of_decide_eq_true z),z⟩
theorem JX(X:K.In B.T)(Y:Kb B mg mb)(h:F9 K=true)(x:lm)(ds:List D)(e:U.tups x=some ds):∃a vs m,mg x=some (.ref a)/\B.T.get? a=some (aE vs m)/\∀F,Rs F vs ds:=by
 have e:(if x==("_law_plain":lm)then some (qr.map D.int)else none)=some ds:=e;cases q:x==("_law_plain":lm)with
 |false=>rw[q]at e;exact bE e
 |true=>
  rw[q]at e;rw[beq_iff_eq.mp q,←db e];refine fR h λh1 h=>ah (Ho h) λo z h=>fR h λc h=>fR h λd h=>fR h λs h=>ah (Ho h) λp hp h=>⟨519,p.1.toList,p.2,mg_of X Y.g (beq_iff_eq.mp h1),(X _ _ z).trans (congrArg some ?_),xb (beq_iff_eq.mp h)⟩;exact NV (beq_iff_eq.mp c) (jd.mp d) (Gk hp) (CF.mp s)
theorem u4{C:co}(h:(sR.all λe=>Cs K e.1 e.2.1&&((e.2.2.1.all λp=>pe K e.1 (t0 p.1) p.2)&&e.2.2.2.all λx=>tV K e.1 (t0 x)))=true){e:co×co×List (String×co)×List String}(z:e∈sR)(c:e.1=C):Cs K C e.2.1=true/\(e.2.2.1.all λp=>pe K C (t0 p.1) p.2)=true/\(e.2.2.2.all λx=>tV K C (t0 x))=true:=
 c▸fR (ut.mp h e z) λa b=>fR b λb c=>⟨a,b,c⟩
theorem nf(h:chk K=true):(rI.all λp=>nsIn K aQ (t0 p.1)==some (some (.ref p.2)))=true/\(n5.all λx=>nsIn K aQ (t0 x)==some none)=true/\(sR.all λe=>Cs K e.1 e.2.1&&((e.2.2.1.all λp=>pe K e.1 (t0 p.1) p.2)&&e.2.2.2.all λx=>tV K e.1 (t0 x)))=true/\(K.lookup gD).isSome=true/\F9 K=true:=fR h λa h=>fR h λb h=>fR h λc h=>fR h λd h=>⟨a,b,c,d,h⟩
noncomputable def acz(X:K.In B.T)(e:tW K=(true,fc.map pf))(Y:Kb B mg mb):Cx U:=
 {B:=B,mg:=mg,mb:=mb,K:=Y
  fns:=NW Y X (nf (congrArg (·.1) e)).1
  kind:=Gl
  methc:=Cu
  nob:=λx hx=>mg_none_of X Y.g (beq_iff_eq.mp (ut.mp (nf (congrArg (·.1) e)).2.1 x hx))
  code:=Gn X (congrArg (·.2) e)
  meth:=λC m f h=>Gm h λe' z c h=>bt (qy h) λp hp u e2=>u▸e2▸MethAt.of X (ut.mp (u4 (nf (congrArg (·.1) e)).2.2.1 z c).2.1 p hp)
  fld:=λC m h=>ah (Ho h) λe' z h=>ah (fy.mp h) λx hx h=>beq_iff_eq.mp h▸lO.of X (ut.mp (u4 (nf (congrArg (·.1) e)).2.2.1 (pg z).1 (pg z).2).2.2 x hx)
  make:=λC f h=>ah (At.mp h) λe' z h=>h▸oO.of X (u4 (nf (congrArg (·.1) e)).2.2.1 (pg z).1 (pg z).2).1
  tups:=JX X Y (nf (congrArg (·.1) e)).2.2.2.2}
end
end
section
theorem l4{h:GM}{a:co}{o:nh}:∀{l:List co},(l.filterMap λa=>(h.get? a).map λo=>(a,o)).lookup a=some o->a∈l/\h.get? a=some o
 |b::l,e=>by
  rw[bF]at e;cases q:h.get? b with
  |none=>
   rw[q]at e;exact⟨.tail _ (l4 e).1,(l4 e).2⟩
  |some o'=>
   rw[q]at e;dsimp only[Option.map_some]at e;rw[wE]at e;by_cases z:a=b
   ·subst z;simp at e;subst e;exact⟨.head _,q⟩
   ·rw[show(a==b)=false by rw[beq_eq_false_iff_ne];exact z]at e;exact⟨.tail _ (l4 e).1,(l4 e).2⟩
noncomputable abbrev Yf(s:bv):=(tW (fragOf s.heap),s.heap.isNs 92)
noncomputable abbrev Ya(_:KB):(Bool×List u0)×Bool:=((true,fc.map pf),true)
noncomputable def Gp(_:KB)(h:GM):Prop:=∃K,Frag.In K h/\tW K=(true,fc.map pf)/\(∀o,K.lookup 92≠some o)/\∃m,h.Ns 92 m
theorem JY(w:KB)(s:bv)(e:Yf s=Ya w):Gp w s.heap:=⟨fragOf s.heap,λa o h=>(l4 h).2,congrArg (·.1) e,λo h=>absurd (l4 h).1 (by decide),_,.of_isNs (congrArg (·.2) e)⟩
theorem y6(w:KB)(h h':GM)(y:Gp w h)(k:∀b o,h.get? b=some o->h'.get? b=some o):Gp w h':=
 let⟨K,a,b,c,m,d⟩:=y;⟨K,a.keeps k,b,c,m,d.keeps k⟩
theorem Cv(P:Vl):(fT P).isNs aQ=true/\(fT P).objs.size=11/\(fT P).nsMap aQ "__annotations__"=some (.ref 6):=⟨by kernel_rfl,by kernel_rfl,by kernel_rfl⟩
theorem JZ:opening hp=plainProg hp.main.scope.names:=by kernel_rfl
theorem y7(s:bv):fenceModules? hp s=some s:=by kernel_rfl
theorem opened{x:Option bv}{H:GM}{g:Array me}{d:oC}{t:Nat}(h:x.map (λs=>(s.heap,s.gens,s.drawn,s.toks))=some (H,g,d,t)):∃os,x=some ⟨H,g,d,t,os⟩:=by
 cases x with
 |none=>cases h
 |some s=>obtain⟨H',u,j,z,os⟩:=s;cases h;exact⟨os,rfl⟩
theorem y8{q:String->Option Builtin}{p:EQ}{w:KB}{N j:Nat}{s₀ z:bv}{u:Option bm}(h1:s₀.heap.isNs aQ=true)(O:(s₀.gens.size==0)=true)(Z:s₀.heap.objs.size=j)(Y:s₀.heap.nsMap aQ "__annotations__"=u)(h5:topRun q p w j u N s₀ (topStub p)=some z)
  (h6:(Ph (nk p.main.body) s₀.heap z.heap&&Ly p z.heap&&Vo z&&Vp s₀.heap z.heap)=true):topFrom q p w N s₀=some z:=by
 subst Z;subst Y;unfold topFrom;rw[h1,O,h5];show(match Ph (nk p.main.body) s₀.heap z.heap&&Ly p z.heap&&Vo z&&Vp s₀.heap z.heap with|true=>some z|false=>none)=some z;rw[h6]
theorem J0{z:String->Option Builtin}{p:EQ}{w:KB}{N:Nat}{s₀ u:bv}(h1:fencedOpening z p w N=some s₀)(j:topFrom z p w N s₀=some u):openEnds z p w N=some u:=by
 unfold openEnds;rw[h1];exact j
theorem left:LeftO hp hq loose (λ_=>true) Yf Ya 7628:=λw=>by
 obtain⟨os,h1⟩:=opened (boot_open (p:=hp) (N:=7628) JZ rfl y7 w);obtain⟨u,h6,h7⟩:=At.mp (Gh w os);have z:=AQ h6;rw[NU]at z;obtain⟨Y,q,j⟩:=Cv w.params;have c:=congrArg (λx=>x.2.1) h7;have c1:=congrArg (λx=>x.1) h7;have c2:=congrArg (λx=>x.2.2) h7;obtain⟨c,c5⟩:=sB.mp c;rw[J0 h1 (y8 (s₀:=⟨fT w.params,⟨[]⟩,xE,CM,os⟩) Y rfl q j z c)];exact congrArg some (zj c1 (zj ((congrArg tW (Gf u)).trans c2) c5))
end
section
abbrev lw:OpenRow:=mj.row
theorem J1{args:List Vr}(h:lw.toRowW.claim.pre args=true):∃ns:List Int,args=[.list (ns.map .int)]/\ns.length≤63:=by
 refine dv (sB.mp h) λh1 z=>?_;have h1:ta [] args [.list .int]=true:=h1;have z:acP [] lw.pre {args:=args}=true:=z;have u:∃d,args=[d]/\Ov [] d (.list .int)=true:=by
  rcases args with _|⟨d,_|⟨O,args⟩⟩
  ·exact eR h1
  ·exact⟨d,rfl,by simpa[ta]using h1⟩
  ·simp[ta]at h1
 obtain⟨d,rfl,u⟩:=u;refine ah (hasW_list u) λxs j Z=>?_;subst j;have h5:∀xs:List Vr,(∀d∈xs,Ov [] d .int=true)->∃ns:List Int,xs=ns.map .int:=λxs=>by
  induction xs with
  |nil=>exactλ_=>⟨[],rfl⟩
  |cons x xs ih=>
   intro h;obtain⟨ns,rfl⟩:=ih λd Y=>h d (.tail _ Y);obtain⟨i,rfl⟩:=hasW_int (h x (.head _));exact⟨i::ns,rfl⟩
 obtain⟨ns,rfl⟩:=h5 xs (hasItemsW_at Z);refine⟨ns,rfl,?_⟩;have e:acP [] lw.pre {args:=[.list (ns.map .int)]}=decide (ns.length≤63):=by
  refine(?_:(match(match(match(some (g0 (decide ((63:Int)<((ns.map WData.int).length:Nat)))))with|some (g0 b)=>some (g0 !b)|_=>none)with|some (g0 false)=>some (g0 false)|some (g0 true)=>some (g0 true)|_=>none)with|some (g0 true)=>true|_=>false)=_);rw[be];by_cases q:ns.length≤63
  ·rw[decide_eq_true q,decide_eq_false (Vt q)];rfl
  ·rw[decide_eq_false q,decide_eq_true (Vu q)];rfl
 rw[e]at z;exact of_decide_eq_true z
end
section
theorem J3{P:Vl}{h:GM}{v:bm}{d:Vr}(w:Well P h v d){n:Int}(e:d=.int n):∃t,v=.int n t:=by
 cases w<;>cases e;exact⟨_,rfl⟩
theorem Gq{P:Vl}{h:GM}{vs:List bm}{ds:List Vr}(w:WellAll P h vs ds)(F:aw):∀ns:List Int,ds=ns.map .int->Rs F vs (ns.map .int):=by
 induction vs generalizing ds with
 |nil=>
  intro ns e;cases w;cases ns with
  |nil=>exact .nil
  |cons n ns=>exact nomatch e
 |cons v vs ih=>
  intro ns e;cases w with
  |cons w1 w2=>
   cases ns with
   |nil=>exact nomatch e
   |cons n ns=>exact zq e λz e2=>(J3 w1 z).elim λt q=>q▸.cons (.int _ _) (ih w2 ns e2)
noncomputable def iX(h:GM)(a:co):Heap:=h.update a λo=>{o with data:=.freed}
theorem iY{h:GM}{a b:co}(e:b≠a):(iX h a).get? b=h.get? b:=KF _ _ (cG e)
theorem u5{h:GM}{a:co}:(iX h a).get? a=none:=by
 unfold iX GG Heap.update;rw[Array.getElem?_modify,if_pos rfl];cases h.objs[a]?<;>rfl
theorem ng{h:GM}{a b:co}{m:lm->Option bm}(N:h.Ns b m)(e:b≠a):(iX h a).Ns b m:=let⟨o,es,ep,h1,r⟩:=N;(Qp o es ep ((iY e).trans h1) r)
theorem J4{d:D}{H:aa}(h:Up (λd _=>d=.bool true) d H):d=.bool true:=by
 induction h with
 |here q=>exact q
 |less _ _ ih=>exact ih
 |list _ _ ih=>cases ih
noncomputable def acA:Env:={scope:={kind:=.function,names:=[],isGenerator:=false,isCoroutine:=false},locals:=92,globals:=aQ,cells:=[]}
section
variable {w:KB}{s:bv}{mg mb:lm->Option bm}{K:Hm}
set_option tactic.hygienic true in
theorem Gr(g:s.heap.Ns aQ mg)(b:s.heap.Ns qA mb)(bi:∀x:lm,x≠"__name__"->mb x=bp x)(j:s.heap.NoLimit)(u:∃o,s.heap.get? gD=some o)(hg:s.gens=#[]) (hK:K.In s.heap) (e:tW K=(true,fc.map pf)) (Z:∀o,K.lookup 92≠some o) {m:lm->Option bm} (hn:s.heap.Ns 92 m)
  {l:co} {vs:List bm} {ns:List Int} (hl:s.heap.get? l=some (bz vs 0)) (hv:∀F,Rs F vs (ns.map .int)) (h63:ns.length≤63):
  mg "law"=some (.ref 553)/\im (kt hp w) callerA (Pj (.ref 553) [.ref l]) (λv s'=>v=.bool true/\(∀b o,s.heap.get? b=some o->s'.heap.get? b=some o)/\s'.os=s.os/\s'.gens=#[]) bot s:=by
 have O:l≠92:=λq=>by
  refine mn hn λo es ep h1 h2 _=>?_;rw[←q,hl]at h1;cases h1;cases h2
 have KT:K.In (iX s.heap 92):=λa o h=>(iY λq=>Z o (by rw[←q];exact h)).trans (hK a o h)
 let B:Base:=⟨hp,w,iX s.heap 92,s.os⟩
 have Y:Kb B mg mb:=⟨ng g (by decide),ng b (by decide),bi,let⟨mc,c1,c2⟩:=j;(ak mc (ng c1 (by decide)) c2),let⟨o,h⟩:=u;⟨o,(iY (by decide)).trans h⟩⟩
 let X:Cx U:=acz (B:=B) KT e Y
 refine⟨X.fns "law" 553 (by rfl),?_⟩
 let G0:Fc B:={Ot:=λ_=>none,own:=[92],env:=acA,A:=callerA,kind:=rfl,glob:=rfl,cells:=λx c h=>(by cases h),apart:=λx y c h=>(by cases h),mine:=.head _}
 have S:G0.az (f6 (λ_=>none) l (bz vs 0)) (λ_=>none) s:=by
  refine⟨λa o h=>?_,λa o h=>?_,λa o h=>(by cases h),λa c h=>(by cases h),λa ha=>?_,λa o o' _ h=>(by cases h),hg,rfl⟩
  ·have h':(iX s.heap 92).get? a=some o:=h;have z:a≠92:=λq=>by rw[q,u5]at h';cases h'
   exact⟨(iY z).symm.trans h',rfl,λq=>z (bn.mp q)⟩
  ·unfold f6 at h;split at h
   ·rename_i q;subst q;cases h;exact⟨hl,rfl,λq=>O (bn.mp q)⟩
   ·exact bE h
  ·refine(bn.mp ha)▸?_;refine Dm hn λo _ _ h _=>?_;exact⟨o,h⟩
 have L:G0.Loc (f6 (λ_=>none) l (bz vs 0)) [] s:=⟨(ak m hn (λx d h=>(by cases h))),λx c h=>(by cases h)⟩;refine cut λPP kk=>?_;refine mn (NP (X:=X) (m0:=0) (H:=λ_=>none) (Q:=λd _=>d=.bool true) h63 rfl) λps b sc hc oQ wp=>?_;obtain⟨fn,JD⟩:=X.code 553 ps b sc hc;have room:iO callerA (15+1):=⟨rfl,by decide,by decide⟩;have:=qV (G:=G0) (ds:=[.fl (ns.map .int)]) (ρ:=[]) (n:=15) (Q:=λd _ H'=>Up (λd _=>d=.bool true) d H') X.K fn JD room oQ (λG' fr=>Jb 60 fr wp) _ [.ref l] (.cons (.fl (aM _ _ _) (hv _)) .nil) s S L;refine kk ?_;refine xq (ia this λr s' p=>?_);rcases r with e|(v|_|_|_)<;>try exact p.elim
 refine Dq p λF' d bb H' k r N L' _ same q=>?_;rw[J4 q]at r;refine R.el r ?_;refine⟨rfl,λb o h=>?_,N.os,N.gens⟩;by_cases z:b=92
 ·exact same b o (by rw[z];exact .head _) h
 ·exact(N.top b o ((iY z).trans h)).1
end
end
section
noncomputable def jz:DefRec×List (lm×lv):=(defOf hq lw.name).get (by kernel_rfl)
theorem J5:defOf hq lw.name=some (jz.1,jz.2):=by kernel_rfl
theorem J6:lw.prog.theDef lw.name=some (jz.1.params,jz.1.body,jz.1.scope):=by kernel_rfl
theorem NY:kwWritten? jz.1.params.kwonlyargs jz.1.params.kw_defaults=some jz.2:=by kernel_rfl
theorem J7:(chainsOk hq&&opensWell lw.prog&&(frees lw.toRowW&&lw.within.isEmpty))=true:=by kernel_rfl
theorem Gs:lw.prog.bare:=⟨rfl,rfl,rfl,rfl,rfl,by kernel_rfl⟩
set_option tactic.hygienic true in
theorem Gu:lw.toRowW.promised:=by w_witness2
theorem Gv:mj.wellSaid=true:=by kernel_rfl
theorem J8(args ds:List Vr):lw.toRowW.claim.post args (.bool true) ds=true:=by kernel_rfl
set_option tactic.hygienic true in
theorem Gw:WalkO hq loose (λ_ _=>True) Gp lw.toRowW jz.1 jz.2 λf vs=>Pj f vs:=by
 intro w s₀ aJ mg mb G Y a o pm cd doc dV kV u hd Q4 hD j hg args vals as acE agU hrd kK IA;obtain⟨K,hK,e,Z,m92,N⟩:=Y;obtain⟨ns,rfl,O⟩:=J1 acE;cases kK with
 |cons h1 h2=>
  cases h2;cases h1 with
  |list hl hv=>
   rename_i l vs;have hs:∃o,aJ.heap.get? gD=some o:=bR (pt.mp (nf (congrArg (·.1) e)).2.2.2.1) λo u=>⟨o,hK _ _ u⟩;obtain⟨h3,h4⟩:=Gr (w:=w) (s:=aJ) G.T.g G.T.b G.T.builtins G.T.nolimit hs hg hK e Z N hl (λF=>Gq hv F _ rfl) O;have ha:some (dC a)=some (.ref 553):=j.symm.trans h3;cases ha;exact f8 h4 (λv s'⟨hv,z,u,q⟩=>⟨.inl ⟨v,.bool true,[],rfl,λ_=>rfl,hv▸.bool true,J8 _ _,λ_=>⟨.nil,λ_ h=>(nomatch h)⟩⟩,⟨λb o h=>.inl (z b o h),λb o h=>⟨o,z b o h⟩⟩,u,λy h=>by rw[q]at h;simp at h⟩) λ_ _ h=>h.elim
theorem UT:PySem.Challenge.rw_pq0077_01.Holds:=
 holds_law Gv λz=>holds_open (r:=lw) (q:=hq) (loose:=loose) (Xt:=λ_=>true) (XP:=λ_ _=>True) (YP:=Gp) left JY y6 (λ_ _=>trivial) (λ_ _ _ _ _=>trivial) J5 J6 NY (λ_ _=>recFacts_nil rfl) rfl z J7 Gs Gu Gw
end
end Mine.Tactic
theorem PySem.Challenge.cw_pq0077_01_holds : PySem.Challenge.rw_pq0077_01.Holds :=
  Mine.Tactic.UT
